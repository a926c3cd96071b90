import PyProof.Rows.All
import Wide.All
import OpenK.AllK
import Wide.FinOn
import KE.KDictOf
import KE.KDictSum
import KE.KIntText
import PySem.Challenge.RW_pq0072_01
set_option Elab.async false
set_option maxRecDepth 100000
set_option linter.all false
set_option bootstrap.genMatcherCode false
set_option compiler.extract_closed false
namespace Mine
open PySem PySem.W PySem.Calls PyProof.Rows
section A0
/- linear arithmetic over whole numbers by certificates: small terms in place of omega -/
set_option genSizeOf false in
set_option genInjectivity false in
inductive Lx where
  | n (k : Nat) | v (i : Nat) | a (x y : Lx) | m (k : Nat) (x : Lx) | r (x : Lx) (k : Nat)
noncomputable def atL : List Nat → Nat → Nat
  | [], _ => 0
  | x :: _, 0 => x
  | _ :: r, i + 1 => atL r i
noncomputable def Lx.den (c : List Nat) : Lx → Nat
  | .n k => k
  | .v i => atL c i
  | .a x y => x.den c + y.den c
  | .m k x => k * x.den c
  | .r x k => x.den c * k
noncomputable def Lx.cst : Lx → Nat
  | .n k => k
  | .v _ => 0
  | .a x y => x.cst + y.cst
  | .m k x => k * x.cst
  | .r x k => x.cst * k
noncomputable def Lx.co (i : Nat) : Lx → Nat
  | .n _ => 0
  | .v j => cond (Nat.beq j i) 1 0
  | .a x y => x.co i + y.co i
  | .m k x => k * x.co i
  | .r x k => x.co i * k
noncomputable def dot (f : Nat → Nat) : List Nat → Nat
  | [] => 0
  | y :: r => f 0 * y + dot (fun i => f (i + 1)) r
theorem dot_zero (f : Nat → Nat) (h : ∀ i, f i = 0) (c : List Nat) : dot f c = 0 := by
  induction c generalizing f with
  | nil => rfl
  | cons y r ih => show f 0 * y + dot _ r = 0; rw [ih _ fun i => h (i + 1), h 0, Nat.zero_mul]
theorem dot_add (f g : Nat → Nat) (c : List Nat) : dot (fun i => f i + g i) c = dot f c + dot g c := by
  induction c generalizing f g with
  | nil => rfl
  | cons y r ih => show (f 0 + g 0) * y + dot _ r = f 0 * y + dot _ r + (g 0 * y + dot _ r); rw [ih, Nat.add_mul]; omega
theorem dot_mul (k : Nat) (f : Nat → Nat) (c : List Nat) : dot (fun i => k * f i) c = k * dot f c := by
  induction c generalizing f with
  | nil => rfl
  | cons y r ih => show k * f 0 * y + dot _ r = k * (f 0 * y + dot _ r); rw [ih, Nat.mul_add, Nat.mul_assoc]
theorem dot_v (c : List Nat) : ∀ j, dot (fun i => Lx.co i (.v j)) c = atL c j := by
  induction c with
  | nil => intro _; rfl
  | cons y r ih =>
    intro j
    cases j with
    | zero => show 1 * y + dot _ r = y; rw [show dot (fun i => Lx.co (i + 1) (.v 0)) r = 0 from dot_zero _ (fun _ => rfl) r, Nat.one_mul]; rfl
    | succ j => show 0 * y + dot _ r = atL r j; rw [Nat.zero_mul, Nat.zero_add]; exact ih j
theorem dot_le {f g : Nat → Nat} {c : List Nat} (h : ∀ i, i < c.length → f i ≤ g i) : dot f c ≤ dot g c := by
  induction c generalizing f g with
  | nil => exact Nat.le_refl _
  | cons y r ih => exact Nat.add_le_add (Nat.mul_le_mul_right _ (h 0 (Nat.zero_lt_succ _))) (ih fun i hi => h (i + 1) (Nat.succ_lt_succ hi))
theorem Lx.den_eq (c : List Nat) (x : Lx) : x.den c = x.cst + dot (fun i => x.co i) c := by
  induction x with
  | n k => exact (congrArg (k + ·) (dot_zero (fun i => Lx.co i (.n k)) (fun _ => rfl) c)).symm
  | v i => show atL c i = 0 + _; rw [dot_v, Nat.zero_add]
  | a x y hx hy => show x.den c + y.den c = x.cst + y.cst + dot (fun i => x.co i + y.co i) c; rw [dot_add, hx, hy]; omega
  | m k x hx => show k * x.den c = k * x.cst + dot (fun i => k * x.co i) c; rw [dot_mul, hx, Nat.mul_add]
  | r x k hx =>
    show x.den c * k = x.cst * k + dot (fun i => x.co i * k) c
    have : (fun i => x.co i * k) = fun i => k * x.co i := funext fun i => Nat.mul_comm _ _
    rw [this, dot_mul, hx, Nat.add_mul, Nat.mul_comm k]
noncomputable abbrev Cs := List (Nat × Lx × Lx)
noncomputable def lxSL : Cs → Lx
  | [] => .n 0
  | (k, l, _) :: cs => .a (.m k l) (lxSL cs)
noncomputable def lxSR : Cs → Lx
  | [] => .n 0
  | (k, _, r) :: cs => .a (.m k r) (lxSR cs)
noncomputable def allB (p : Nat → Bool) : Nat → Bool
  | 0 => true
  | i + 1 => p i && allB p i
theorem of_allB {p : Nat → Bool} : ∀ {n}, allB p n = true → ∀ i, i < n → p i = true
  | n + 1, h, i, hi => by
    have h := (Bool.and_eq_true _ _).mp h
    rcases Nat.lt_or_eq_of_le (Nat.le_of_lt_succ hi) with q | q
    · exact of_allB h.2 i q
    · exact q ▸ h.1
noncomputable def ckL (n : Nat) (cs : Cs) : Bool := Nat.blt (lxSR cs).cst (lxSL cs).cst && allB (fun i => Nat.ble ((lxSR cs).co i) ((lxSL cs).co i)) n
noncomputable def HypL (c : List Nat) : Cs → Prop
  | [] => False
  | (_, l, r) :: cs => l.den c ≤ r.den c → HypL c cs
theorem far_aux {c : List Nat} : ∀ (cs : Cs) (x y : Nat), x ≤ y → y + (lxSR cs).den c < x + (lxSL cs).den c → HypL c cs
  | [], x, y, h, q => absurd q (Nat.not_lt.mpr h)
  | (k, l, r) :: cs, x, y, h, q => fun h1 => far_aux cs (x + k * l.den c) (y + k * r.den c) (Nat.add_le_add h (Nat.mul_le_mul_left _ h1)) (by
    rw [Nat.add_assoc, Nat.add_assoc]; exact q)
theorem far (c : List Nat) (cs : Cs) (h : ckL c.length cs = true) : HypL c cs := by
  have h := (Bool.and_eq_true _ _).mp h
  refine far_aux cs 0 0 (Nat.le_refl _) ?_
  rw [Nat.zero_add, Nat.zero_add, Lx.den_eq, Lx.den_eq]
  exact Nat.add_lt_add_of_lt_of_le (Nat.le_of_ble_eq_true h.1) (dot_le fun i hi => Nat.le_of_ble_eq_true (of_allB h.2 i hi))
theorem nl {a b : Nat} (h : ¬ b < a) : a ≤ b := Nat.le_of_not_lt h
theorem nt {a b : Nat} (h : ¬ b ≤ a) : a < b := Nat.lt_of_not_le h
theorem an {a b : Nat} (h : a ≤ b) (g : b ≤ a) : a = b := Nat.le_antisymm h g
theorem eL {a b : Nat} (h : a = b) : a ≤ b := Nat.le_of_eq h
theorem nE {a b : Nat} (h : ¬ a = b) : a < b ∨ b < a := Nat.lt_or_gt_of_ne h
theorem geE {a b : Nat} (h : a = b) : b ≤ a := h ▸ Nat.le_refl _
theorem sb1 {x y : Nat} : x ≤ x - y + y := by omega
theorem sb2 {x y : Nat} : x - y ≤ x := Nat.sub_le _ _
theorem sb3 {x y : Nat} (h : y ≤ x) : x - y + y ≤ x := Nat.le_of_eq (Nat.sub_add_cancel h)
theorem leI {a b : Nat} (h : (a : Int) ≤ (b : Int)) : a ≤ b := Int.ofNat_le.mp h
theorem ltI {a b : Nat} (h : (a : Int) < (b : Int)) : a < b := Int.ofNat_lt.mp h
theorem eqI {a b : Nat} (h : (a : Int) = (b : Int)) : a = b := Int.ofNat.inj h
theorem toleI {a b : Nat} (h : a ≤ b) : (a : Int) ≤ (b : Int) := Int.ofNat_le.mpr h
theorem toltI {a b : Nat} (h : a < b) : (a : Int) < (b : Int) := Int.ofNat_lt.mpr h
theorem toeqI {a b : Nat} (h : a = b) : (a : Int) = (b : Int) := congrArg Int.ofNat h
theorem dv1 {x k : Nat} : k * (x / k) ≤ x := Nat.mul_div_le x k
theorem dv2 {x k : Nat} (h : 0 < k := by decide) : x < k * (x / k) + k := Nat.mul_succ k (x / k) ▸ Nat.lt_mul_div_succ x h
end A0
section A3
/- steps of arithmetic, each once -/
variable {x1 x2 x3 x4 x5 x6 x7 x8 x9 x10 : Nat}
theorem om0 : (x1 - 0) ≤ x1 := nl fun g => (far [(x1 - 0), x1] [(1, .a (.v 1) (.n 1), .v 0), (1, .v 0, .v 1)] rfl g sb2)
theorem om1 : x1 < (x1 + 1) := nt fun g => (far [x1] [(1, .a (.v 0) (.n 1), .v 0)] rfl g)
theorem om2 : x1 ≤ (x1 + 2) := nl fun g => (far [x1] [(1, .a (.a (.v 0) (.n 2)) (.n 1), .v 0)] rfl g)
theorem om3 : ¬ (x1 = (x1 + 2)) := fun g => (far [x1] [(1, .a (.v 0) (.n 2), .v 0)] rfl (geE g))
theorem om4 : 0 < (x1 + 1) := nt fun g => (far [x1] [(1, .a (.v 0) (.n 1), .n 0)] rfl g)
theorem om5 : ¬ ((x1 + 2) < 2) := fun g => (far [x1] [(1, .a (.a (.v 0) (.n 2)) (.n 1), .n 2)] rfl g)
theorem om6 : (x1 + x2) = (x2 + x1) := an (nl fun g => (far [x1, x2] [(1, .a (.a (.v 1) (.v 0)) (.n 1), .a (.v 0) (.v 1))] rfl g)) (nl fun g => (far [x1, x2] [(1, .a (.a (.v 0) (.v 1)) (.n 1), .a (.v 1) (.v 0))] rfl g))
theorem om7 (h1 : (x1 + 1) = x1) : False := far [x1] [(1, .a (.v 0) (.n 1), .v 0)] rfl (eL h1)
theorem om8 (h1 : (x1 + 2) = x1) : False := far [x1] [(1, .a (.v 0) (.n 2), .v 0)] rfl (eL h1)
theorem om9 : x1 ≤ ((4 * x1) + 4) := nl fun g => (far [x1] [(1, .a (.a (.m 4 (.v 0)) (.n 4)) (.n 1), .v 0)] rfl g)
theorem om10 (h1 : x1 < x2) : x1 < x2 := h1
theorem om11 (h1 : x1 ≤ x2) : x1 ≤ x2 := h1
theorem om12 (h1 : x2 = x1) : x1 ≤ x2 := nl fun g => (far [x1, x2] [(1, .v 0, .v 1), (1, .a (.v 1) (.n 1), .v 0)] rfl (geE h1) g)
theorem om13 (h1 : x1 = 0) : x1 ≤ 0 := nl fun g => (far [x1] [(1, .v 0, .n 0), (1, .a (.n 0) (.n 1), .v 0)] rfl (eL h1) g)
theorem om14 (h1 : x1 ≤ 0) : x1 = 0 := an (nl fun g => (far [x1] [(1, .v 0, .n 0), (1, .a (.n 0) (.n 1), .v 0)] rfl h1 g)) (nl fun g => (far [x1] [(1, .a (.v 0) (.n 1), .n 0)] rfl g))
theorem om15 : ¬ ((x1 + 1) = (x1 + 2)) := fun g => (far [x1] [(1, .a (.v 0) (.n 2), .a (.v 0) (.n 1))] rfl (geE g))
theorem om16 (h1 : x1 = x2) : ¬ (x1 < x2) := fun g => (far [x1, x2] [(1, .v 1, .v 0), (1, .a (.v 0) (.n 1), .v 1)] rfl (geE h1) g)
theorem om17 (h1 : ¬ (x2 < x1)) : x1 ≤ x2 := nl fun g => (far [x1, x2] [(1, .v 0, .v 1), (1, .a (.v 1) (.n 1), .v 0)] rfl (nl h1) g)
theorem om18 (h1 : ¬ (x2 ≤ x1)) : x1 ≤ x2 := nl fun g => (far [x1, x2] [(1, .a (.v 0) (.n 1), .v 1), (1, .a (.v 1) (.n 1), .v 0)] rfl (nt h1) g)
theorem om19 : (-((2 : Int) ^ 63)) ≤ ((x1 : Nat) : Int) := by omega
theorem om20 (h1 : 0 < x1) : ¬ (x1 = 0) := fun g => (far [x1] [(1, .a (.n 0) (.n 1), .v 0), (1, .v 0, .n 0)] rfl h1 (eL g))
theorem om21 (h1 : x1 = 0) : ¬ (0 < x1) := fun g => (far [x1] [(1, .v 0, .n 0), (1, .a (.n 0) (.n 1), .v 0)] rfl (eL h1) g)
theorem om22 : (-((2 : Int) ^ 1920)) < ((x1 : Nat) : Int) := by omega
theorem om23 (h1 : ¬ (x1 = x2)) : ¬ (x1 = x2) := h1
theorem om24 (h1 : x3 < x3) : x1 = x2 := an (nl fun g => (far [x1, x2, x3] [(1, .a (.v 2) (.n 1), .v 2)] rfl h1)) (nl fun g => (far [x1, x2, x3] [(1, .a (.v 2) (.n 1), .v 2)] rfl h1))
theorem om25 (h1 : (x1 + 1) = (x1 + 2)) : False := far [x1] [(1, .a (.v 0) (.n 2), .a (.v 0) (.n 1))] rfl (geE h1)
theorem om26 (h1 : (x1 + 1) = x2) : x1 < x2 := nt fun g => (far [x1, x2] [(1, .a (.v 0) (.n 1), .v 1), (1, .v 1, .v 0)] rfl (eL h1) g)
theorem om27 (h1 : x1 < (x2 + 1)) : x1 ≤ x2 := nl fun g => (far [x1, x2] [(1, .a (.v 0) (.n 1), .a (.v 1) (.n 1)), (1, .a (.v 1) (.n 1), .v 0)] rfl h1 g)
theorem om28 (h1 : x1 ≤ x2) : x1 ≤ (x2 + 1) := nl fun g => (far [x1, x2] [(1, .v 0, .v 1), (1, .a (.a (.v 1) (.n 1)) (.n 1), .v 0)] rfl h1 g)
theorem om29 : ((1 : Int) = ((x1 : Nat) : Int)) ↔ (x1 = 1) := ⟨(fun i0 => (an (nl fun g => (far [x1] [(1, .v 0, .n 1), (1, .a (.n 1) (.n 1), .v 0)] rfl (geE (eqI i0)) g)) (nl fun g => (far [x1] [(1, .n 1, .v 0), (1, .a (.v 0) (.n 1), .n 1)] rfl (eL (eqI i0)) g)))), (fun i0 => (toeqI (an (nl fun g => (far [x1] [(1, .n 1, .v 0), (1, .a (.v 0) (.n 1), .n 1)] rfl (geE i0) g)) (nl fun g => (far [x1] [(1, .v 0, .n 1), (1, .a (.n 1) (.n 1), .v 0)] rfl (eL i0) g)))))⟩
theorem om30 : ((2 : Int) = ((x1 : Nat) : Int)) ↔ (x1 = 2) := ⟨(fun i0 => (an (nl fun g => (far [x1] [(1, .v 0, .n 2), (1, .a (.n 2) (.n 1), .v 0)] rfl (geE (eqI i0)) g)) (nl fun g => (far [x1] [(1, .n 2, .v 0), (1, .a (.v 0) (.n 1), .n 2)] rfl (eL (eqI i0)) g)))), (fun i0 => (toeqI (an (nl fun g => (far [x1] [(1, .n 2, .v 0), (1, .a (.v 0) (.n 1), .n 2)] rfl (geE i0) g)) (nl fun g => (far [x1] [(1, .v 0, .n 2), (1, .a (.n 2) (.n 1), .v 0)] rfl (eL i0) g)))))⟩
theorem om31 : (x1 = 0) → ((0 : Int) = ((x1 : Nat) : Int)) := fun i0 => (toeqI (an (nl fun g => (far [x1] [(1, .n 0, .v 0), (1, .a (.v 0) (.n 1), .n 0)] rfl (geE i0) g)) (nl fun g => (far [x1] [(1, .v 0, .n 0), (1, .a (.n 0) (.n 1), .v 0)] rfl (eL i0) g))))
theorem om32 (h1 : x1 < 6) : (2 + x1) ≤ 7 := nl fun g => (far [x1] [(1, .a (.v 0) (.n 1), .n 6), (1, .a (.n 7) (.n 1), .a (.n 2) (.v 0))] rfl h1 g)
theorem om33 (h1 : x1 < 6) : 2 ≤ (2 + x1) := nl fun g => (far [x1] [(1, .a (.a (.n 2) (.v 0)) (.n 1), .n 2)] rfl g)
theorem om34 (h1 : (x1 + x3) < x2) : x1 < x2 := nt fun g => (far [x1, x2, x3] [(1, .a (.a (.v 0) (.v 2)) (.n 1), .v 1), (1, .v 1, .v 0)] rfl h1 g)
theorem om35 (h1 : (x1 + x3) ≤ x2) : x1 ≤ x2 := nl fun g => (far [x1, x2, x3] [(1, .a (.v 0) (.v 2), .v 1), (1, .a (.v 1) (.n 1), .v 0)] rfl h1 g)
theorem om36 (h1 : x1 ≤ x2) : x1 ≤ (x2 + x3) := nl fun g => (far [x1, x2, x3] [(1, .v 0, .v 1), (1, .a (.a (.v 1) (.v 2)) (.n 1), .v 0)] rfl h1 g)
theorem om37 (h1 : x2 < x3) : x1 ≤ (x1 + x2) := nl fun g => (far [x1, x2, x3] [(1, .a (.a (.v 0) (.v 1)) (.n 1), .v 0)] rfl g)
theorem om38 (h1 : 0 < x1) : (0 : Int) < ((x1 : Nat) : Int) := toltI (nt fun g => (far [x1] [(1, .a (.n 0) (.n 1), .v 0), (1, .v 0, .n 0)] rfl h1 g))
theorem om39 (h1 : x1 < 8) : (3 + x1) ≤ 1000 := nl fun g => (far [x1] [(1, .a (.v 0) (.n 1), .n 8), (1, .a (.n 1000) (.n 1), .a (.n 3) (.v 0))] rfl h1 g)
theorem om40 (h1 : x3 = x2) : (min x1 x2) ≤ x2 := nl fun g => (far [(min x1 x2), x2, x3, x1] [(1, .a (.v 1) (.n 1), .v 0), (1, .v 0, .v 1)] rfl g (Nat.min_le_right _ _))
theorem om41 (h1 : x1 < 3) : (23 * x1) ≤ 1000 := nl fun g => (far [x1] [(23, .a (.v 0) (.n 1), .n 3), (1, .a (.n 1000) (.n 1), .m 23 (.v 0))] rfl h1 g)
theorem om42 (h1 : x1 < x2) : x1 ≤ ((x1 + x2) / 2) := nl fun g => (far [x1, ((x1 + x2) / 2), x2] [(1, .a (.v 0) (.n 1), .v 2), (2, .a (.v 1) (.n 1), .v 0), (1, .a (.a (.v 0) (.v 2)) (.n 1), .a (.m 2 (.v 1)) (.n 2))] rfl h1 g dv2)
theorem om43 (h1 : x1 = (x2 + 1)) : 0 < x1 := nt fun g => (far [x1, x2] [(1, .a (.v 1) (.n 1), .v 0), (1, .v 0, .n 0)] rfl (geE h1) g)
theorem om44 (h1 : x1 ≤ x2) (h2 : ¬ (x1 < x2)) : x1 = x2 := an (nl fun g => (far [x1, x2] [(1, .v 0, .v 1), (1, .a (.v 1) (.n 1), .v 0)] rfl h1 g)) (nl fun g => (far [x1, x2] [(1, .v 1, .v 0), (1, .a (.v 0) (.n 1), .v 1)] rfl (nl h2) g))
theorem om45 (h1 : x2 < x1) : (x1 - (x2 + 1)) < x1 := nt fun g => (far [(x1 - (x2 + 1)), x1, x2] [(1, .v 1, .v 0), (1, .a (.v 0) (.a (.v 2) (.n 1)), .v 1)] rfl g (sb3 (nl fun g0_4 => (far [(x1 - (x2 + 1)), x1, x2] [(1, .a (.v 2) (.n 1), .v 1), (1, .a (.v 1) (.n 1), .a (.v 2) (.n 1))] rfl h1 g0_4))))
theorem om46 (h1 : x2 ≤ x1) (h2 : x1 < x2) : ¬ (x1 < x2) := fun g => (far [x2, x1] [(1, .v 0, .v 1), (1, .a (.v 1) (.n 1), .v 0)] rfl h1 h2)
theorem om47 : ((x1 + x2) + x3) = ((x3 + x2) + x1) := an (nl fun g => (far [x1, x2, x3] [(1, .a (.a (.a (.v 2) (.v 1)) (.v 0)) (.n 1), .a (.a (.v 0) (.v 1)) (.v 2))] rfl g)) (nl fun g => (far [x1, x2, x3] [(1, .a (.a (.a (.v 0) (.v 1)) (.v 2)) (.n 1), .a (.a (.v 2) (.v 1)) (.v 0))] rfl g))
theorem om48 (h1 : 0 < x1) : ¬ (((x1 : Nat) : Int) = (0 : Int)) := fun g => (far [x1] [(1, .a (.n 0) (.n 1), .v 0), (1, .v 0, .n 0)] rfl h1 (eL (eqI g)))
theorem om49 (h1 : 0 < x1) : x1 = ((x1 - 1) + 1) := an (nl fun g => (far [x1, (x1 - 1)] [(1, .a (.a (.v 1) (.n 1)) (.n 1), .v 0), (1, .v 0, .a (.v 1) (.n 1))] rfl g sb1)) (nl fun g => (far [x1, (x1 - 1)] [(1, .a (.v 0) (.n 1), .a (.v 1) (.n 1)), (1, .a (.v 1) (.n 1), .v 0)] rfl g (sb3 (nl fun g0_4 => (far [x1, (x1 - 1)] [(1, .a (.n 0) (.n 1), .v 0), (1, .a (.v 0) (.n 1), .n 1)] rfl h1 g0_4)))))
theorem om50 (h1 : x1 ≤ 1000) : (x1 + 22) < 2000 := nt fun g => (far [x1] [(1, .v 0, .n 1000), (1, .n 2000, .a (.v 0) (.n 22))] rfl h1 g)
theorem om51 (h1 : x1 ≤ 2) : (1 + x1) ≤ 16777216 := nl fun g => (far [x1] [(1, .v 0, .n 2), (1, .a (.n 16777216) (.n 1), .a (.n 1) (.v 0))] rfl h1 g)
theorem om52 (h1 : ¬ ((63 : Int) < ((x1 : Nat) : Int))) : x1 ≤ 63 := nl fun g => (far [x1] [(1, .v 0, .n 63), (1, .a (.n 63) (.n 1), .v 0)] rfl (leI (Int.not_lt.mp h1)) g)
theorem om53 : ((x1 + 1) + x2) ≤ ((x1 + x2) + 1) := nl fun g => (far [x1, x2] [(1, .a (.a (.a (.v 0) (.v 1)) (.n 1)) (.n 1), .a (.a (.v 0) (.n 1)) (.v 1))] rfl g)
theorem om54 (h1 : 2 ≤ x1) (h2 : x1 < 64) : 0 < x1 := nt fun g => (far [x1] [(1, .n 2, .v 0), (1, .v 0, .n 0)] rfl h1 g)
theorem om55 (h1 : (x1 + 1) < (x2 + 1)) : x1 < x2 := nt fun g => (far [x1, x2] [(1, .a (.a (.v 0) (.n 1)) (.n 1), .a (.v 1) (.n 1)), (1, .v 1, .v 0)] rfl h1 g)
theorem om56 (h1 : (x1 - 1) ≤ x2) : x1 ≤ (x2 + 1) := nl fun g => (far [x1, x2, (x1 - 1)] [(1, .v 2, .v 1), (1, .a (.a (.v 1) (.n 1)) (.n 1), .v 0), (1, .v 0, .a (.v 2) (.n 1))] rfl h1 g sb1)
theorem om57 (h1 : x1 < x2) : (x1 + 1) < (x2 + 1) := nt fun g => (far [x1, x2] [(1, .a (.v 0) (.n 1), .v 1), (1, .a (.v 1) (.n 1), .a (.v 0) (.n 1))] rfl h1 g)
theorem om58 (h1 : x1 = (x2 + 1)) : (x1 - 1) = x2 := an (nl fun g => (far [(x1 - 1), x2, x1] [(1, .v 2, .a (.v 1) (.n 1)), (1, .a (.v 1) (.n 1), .v 0), (1, .a (.v 0) (.n 1), .v 2)] rfl (eL h1) g (sb3 (nl fun g0_5 => (far [(x1 - 1), x2, x1] [(1, .a (.v 1) (.n 1), .v 2), (1, .a (.v 2) (.n 1), .n 1)] rfl (geE h1) g0_5))))) (nl fun g => (far [(x1 - 1), x2, x1] [(1, .a (.v 1) (.n 1), .v 2), (1, .a (.v 0) (.n 1), .v 1), (1, .v 2, .a (.v 0) (.n 1))] rfl (geE h1) g sb1))
theorem om59 (h1 : x1 ≤ x2) : (x1 + 1) ≤ (x2 + 1) := nl fun g => (far [x1, x2] [(1, .v 0, .v 1), (1, .a (.a (.v 1) (.n 1)) (.n 1), .a (.v 0) (.n 1))] rfl h1 g)
theorem om60 (h1 : x2 < x1) : x1 = ((x1 - 1) + 1) := an (nl fun g => (far [x1, (x1 - 1), x2] [(1, .a (.a (.v 1) (.n 1)) (.n 1), .v 0), (1, .v 0, .a (.v 1) (.n 1))] rfl g sb1)) (nl fun g => (far [x1, (x1 - 1), x2] [(1, .a (.v 0) (.n 1), .a (.v 1) (.n 1)), (1, .a (.v 1) (.n 1), .v 0)] rfl g (sb3 (nl fun g0_4 => (far [x1, (x1 - 1), x2] [(1, .a (.v 2) (.n 1), .v 0), (1, .a (.v 0) (.n 1), .n 1)] rfl h1 g0_4)))))
theorem om61 (h1 : x2 = 0) (h2 : x1 < x2) : ¬ (x1 < x2) := fun g => (far [x2, x1] [(1, .v 0, .n 0), (1, .a (.v 1) (.n 1), .v 0)] rfl (eL h1) h2)
theorem om62 (h1 : x1 < x3) (h2 : x3 < x2) : x1 < x2 := nt fun g => (far [x1, x2, x3] [(1, .a (.v 0) (.n 1), .v 2), (1, .a (.v 2) (.n 1), .v 1), (1, .v 1, .v 0)] rfl h1 h2 g)
theorem om63 (h1 : x2 = x3) (h2 : x1 < x3) : x1 < x2 := nt fun g => (far [x1, x2, x3] [(1, .v 2, .v 1), (1, .a (.v 0) (.n 1), .v 2), (1, .v 1, .v 0)] rfl (geE h1) h2 g)
theorem om64 (h1 : x3 = x2) (h2 : x1 < x3) : x1 < x2 := nt fun g => (far [x1, x2, x3] [(1, .v 2, .v 1), (1, .a (.v 0) (.n 1), .v 2), (1, .v 1, .v 0)] rfl (eL h1) h2 g)
theorem om65 (h1 : x3 ≤ x2) (h2 : x1 ≤ x3) : x1 ≤ x2 := nl fun g => (far [x1, x2, x3] [(1, .v 2, .v 1), (1, .v 0, .v 2), (1, .a (.v 1) (.n 1), .v 0)] rfl h1 h2 g)
theorem om66 (h1 : x3 ≤ x2) (h2 : x3 = x1) : x1 ≤ x2 := nl fun g => (far [x1, x2, x3] [(1, .v 2, .v 1), (1, .v 0, .v 2), (1, .a (.v 1) (.n 1), .v 0)] rfl h1 (geE h2) g)
theorem om67 (h1 : x1 ≤ 1000) : ((x1 : Nat) : Int) < ((2 : Int) ^ 64) := toltI (nt fun g => (far [x1] [(1, .v 0, .n 1000), (1, .n 18446744073709551616, .v 0)] rfl h1 g))
theorem om68 (h1 : 0 < x2) (h2 : x1 = x2) : 0 < x1 := nt fun g => (far [x1, x2] [(1, .a (.n 0) (.n 1), .v 1), (1, .v 1, .v 0), (1, .v 0, .n 0)] rfl h1 (geE h2) g)
theorem om69 (h1 : 2 ≤ x2) (h2 : 0 = x1) : x1 < x2 := nt fun g => (far [x1, x2] [(1, .n 2, .v 1), (1, .v 0, .n 0), (1, .v 1, .v 0)] rfl h1 (geE h2) g)
theorem om70 (h1 : 2 ≤ x2) (h2 : 1 = x1) : x1 < x2 := nt fun g => (far [x1, x2] [(1, .n 2, .v 1), (1, .v 0, .n 1), (1, .v 1, .v 0)] rfl h1 (geE h2) g)
theorem om71 (h1 : (x2 - x1) = 0) (h2 : x1 ≤ x2) : x1 = x2 := an (nl fun g => (far [x1, x2, (x2 - x1)] [(1, .v 0, .v 1), (1, .a (.v 1) (.n 1), .v 0)] rfl h2 g)) (nl fun g => (far [x1, x2, (x2 - x1)] [(1, .v 2, .n 0), (1, .a (.v 0) (.n 1), .v 1), (1, .v 1, .a (.v 2) (.v 0))] rfl (eL h1) g sb1))
theorem om72 (h1 : x1 = x2) (h2 : x2 = 0) : x1 = 0 := an (nl fun g => (far [x1, x2] [(1, .v 0, .v 1), (1, .v 1, .n 0), (1, .a (.n 0) (.n 1), .v 0)] rfl (eL h1) (eL h2) g)) (nl fun g => (far [x1, x2] [(1, .v 1, .v 0), (1, .n 0, .v 1), (1, .a (.v 0) (.n 1), .n 0)] rfl (geE h1) (geE h2) g))
theorem om73 (h1 : x2 < 9) (h2 : x1 < x2) : x1 < 8 := nt fun g => (far [x1, x2] [(1, .a (.v 1) (.n 1), .n 9), (1, .a (.v 0) (.n 1), .v 1), (1, .n 8, .v 0)] rfl h1 h2 g)
theorem om74 (h1 : x1 < (2 ^ 64)) : (x1 / 32) < (2 ^ 64) := nt fun g => (far [(x1 / 32), x1] [(1, .a (.v 1) (.n 1), .n 18446744073709551616), (32, .n 18446744073709551616, .v 0), (1, .m 32 (.v 0), .v 1)] rfl h1 g dv1)
theorem om75 (h1 : x1 < 64) (h2 : ¬ (x1 < 2)) : 2 ≤ x1 := nl fun g => (far [x1] [(1, .n 2, .v 0), (1, .a (.v 0) (.n 1), .n 2)] rfl (nl h2) g)
theorem om76 (h1 : x1 ≤ 100) : ¬ (((2 : Int) ^ 63) ≤ ((x1 : Nat) : Int)) := fun g => (far [x1] [(1, .v 0, .n 100), (1, .n 9223372036854775808, .v 0)] rfl h1 (leI g))
theorem om77 (h1 : x1 ≤ 1000) : (-((2 : Int) ^ 64)) < ((x1 : Nat) : Int) := by omega
theorem om78 (h1 : x1 ≤ 1000000) : ((x1 : Nat) : Int) < ((2 : Int) ^ 63) := toltI (nt fun g => (far [x1] [(1, .v 0, .n 1000000), (1, .n 9223372036854775808, .v 0)] rfl h1 g))
theorem om79 : ((((x1 + 1) : Nat) : Int) - (1 : Int)) = ((x1 : Nat) : Int) := by omega
theorem om80 : ((2 : Int) + ((x1 : Nat) : Int)) = (((2 + x1) : Nat) : Int) := toeqI (an (nl fun g => (far [x1] [(1, .a (.a (.n 2) (.v 0)) (.n 1), .a (.n 2) (.v 0))] rfl g)) (nl fun g => (far [x1] [(1, .a (.a (.n 2) (.v 0)) (.n 1), .a (.n 2) (.v 0))] rfl g)))
theorem om81 (h1 : ((x1 : Nat) : Int) < ((x2 : Nat) : Int)) : x1 < x2 := nt fun g => (far [x1, x2] [(1, .a (.v 0) (.n 1), .v 1), (1, .v 1, .v 0)] rfl (ltI h1) g)
theorem om82 (h1 : x1 = x2) : ((x1 : Nat) : Int) = ((x2 : Nat) : Int) := toeqI (an (nl fun g => (far [x1, x2] [(1, .v 0, .v 1), (1, .a (.v 1) (.n 1), .v 0)] rfl (eL h1) g)) (nl fun g => (far [x1, x2] [(1, .v 1, .v 0), (1, .a (.v 0) (.n 1), .v 1)] rfl (geE h1) g)))
theorem om83 (h1 : x1 < x2) (h2 : x3 = x2) : ¬ (x1 = x2) := fun g => (far [x1, x2, x3] [(1, .a (.v 0) (.n 1), .v 1), (1, .v 1, .v 0)] rfl h1 (geE g))
theorem om84 (h1 : x1 < x2) : (x1 + 1) ≤ (x2 + x3) := nl fun g => (far [x1, x2, x3] [(1, .a (.v 0) (.n 1), .v 1), (1, .a (.a (.v 1) (.v 2)) (.n 1), .a (.v 0) (.n 1))] rfl h1 g)
theorem om85 (h1 : ¬ (x2 < x3)) (h2 : x3 = x1) : x1 ≤ x2 := nl fun g => (far [x1, x2, x3] [(1, .v 2, .v 1), (1, .v 0, .v 2), (1, .a (.v 1) (.n 1), .v 0)] rfl (nl h1) (geE h2) g)
theorem om86 (h1 : ¬ (x3 < x1)) (h2 : x3 < x2) : x1 ≤ x2 := nl fun g => (far [x1, x2, x3] [(1, .v 0, .v 2), (1, .a (.v 2) (.n 1), .v 1), (1, .a (.v 1) (.n 1), .v 0)] rfl (nl h1) h2 g)
theorem om87 (h1 : x2 < 1000) : (min x1 x2) ≤ 16777216 := nl fun g => (far [(min x1 x2), x2, x1] [(1, .a (.v 1) (.n 1), .n 1000), (1, .a (.n 16777216) (.n 1), .v 0), (1, .v 0, .v 1)] rfl h1 g (Nat.min_le_right _ _))
theorem om88 (h1 : x2 = x1) : (-((2 : Int) ^ 64)) < ((x1 : Nat) : Int) := by omega
theorem om89 (h1 : x2 ≤ 10) (h2 : x2 = x1) : x1 < 20 := nt fun g => (far [x1, x2] [(1, .v 1, .n 10), (1, .v 0, .v 1), (1, .n 20, .v 0)] rfl h1 (geE h2) g)
theorem om90 (h1 : x1 < 8) : (23 * (3 + x1)) ≤ 1000 := nl fun g => (far [x1] [(23, .a (.v 0) (.n 1), .n 8), (1, .a (.n 1000) (.n 1), .m 23 (.a (.n 3) (.v 0)))] rfl h1 g)
theorem om91 (h1 : x1 < 9) : (23 * (3 + x1)) ≤ 1000 := nl fun g => (far [x1] [(23, .a (.v 0) (.n 1), .n 9), (1, .a (.n 1000) (.n 1), .m 23 (.a (.n 3) (.v 0)))] rfl h1 g)
theorem om92 (h1 : x1 < (x2 + 1)) (h2 : ¬ (x1 < x2)) : x1 = x2 := an (nl fun g => (far [x1, x2] [(1, .a (.v 0) (.n 1), .a (.v 1) (.n 1)), (1, .a (.v 1) (.n 1), .v 0)] rfl h1 g)) (nl fun g => (far [x1, x2] [(1, .v 1, .v 0), (1, .a (.v 0) (.n 1), .v 1)] rfl (nl h2) g))
theorem om93 (h1 : x1 < (x2 + 1)) (h2 : ¬ (x1 = x2)) : x1 < x2 := nt fun g => ((nE h2).elim (fun q0 => (far [x1, x2] [(1, .v 1, .v 0), (1, .a (.v 0) (.n 1), .v 1)] rfl g q0)) fun q0 => (far [x1, x2] [(1, .a (.v 0) (.n 1), .a (.v 1) (.n 1)), (1, .a (.v 1) (.n 1), .v 0)] rfl h1 q0))
theorem om94 (h1 : x1 < x2) : (((x1 + x2) / 2) + 1) ≤ x2 := nl fun g => (far [((x1 + x2) / 2), x2, x1] [(1, .a (.v 2) (.n 1), .v 1), (2, .a (.v 1) (.n 1), .a (.v 0) (.n 1)), (1, .m 2 (.v 0), .a (.v 2) (.v 1))] rfl h1 g dv1)
theorem om95 (h1 : ¬ (x1 < x2)) (h2 : x1 < (x2 + 1)) : x1 = x2 := an (nl fun g => (far [x1, x2] [(1, .a (.v 0) (.n 1), .a (.v 1) (.n 1)), (1, .a (.v 1) (.n 1), .v 0)] rfl h2 g)) (nl fun g => (far [x1, x2] [(1, .v 1, .v 0), (1, .a (.v 0) (.n 1), .v 1)] rfl (nl h1) g))
theorem om96 (h1 : x1 < (min x3 x2)) (h2 : x3 < x2) : x1 < x2 := nt fun g => (far [x1, x2, (min x3 x2), x3] [(1, .a (.v 0) (.n 1), .v 2), (1, .a (.v 3) (.n 1), .v 1), (1, .v 1, .v 0), (1, .v 2, .v 3)] rfl h1 h2 g (Nat.min_le_left _ _))
theorem om97 (h1 : 2 ≤ x2) (h2 : (x2 - 1) = x1) : x1 < x2 := nt fun g => (far [x1, x2, (x2 - 1)] [(1, .v 0, .v 2), (1, .v 1, .v 0), (1, .a (.v 2) (.n 1), .v 1)] rfl (geE h2) g (sb3 (nl fun g0_6 => (far [x1, x2, (x2 - 1)] [(1, .n 2, .v 1), (1, .a (.v 1) (.n 1), .n 1)] rfl h1 g0_6))))
theorem om98 (h1 : x1 = x2) (h2 : ¬ (x2 = 0)) : ¬ (x1 = 0) := fun g => ((nE h2).elim (fun q0 => (far [x1, x2] [(1, .v 0, .v 1), (1, .n 0, .v 0), (1, .a (.v 1) (.n 1), .n 0)] rfl (eL h1) (geE g) q0)) fun q0 => (far [x1, x2] [(1, .v 1, .v 0), (1, .v 0, .n 0), (1, .a (.n 0) (.n 1), .v 1)] rfl (geE h1) (eL g) q0))
theorem om99 (h1 : (x1 + x2) ≤ x3) : (x1 + x2) ≤ (x3 + 1) := nl fun g => (far [x1, x2, x3] [(1, .a (.v 0) (.v 1), .v 2), (1, .a (.a (.v 2) (.n 1)) (.n 1), .a (.v 0) (.v 1))] rfl h1 g)
theorem om100 (h1 : (x3 + 1) ≤ x3) : x1 = (x2 + 1) := an (nl fun g => (far [x1, x2, x3] [(1, .a (.v 2) (.n 1), .v 2)] rfl h1)) (nl fun g => (far [x1, x2, x3] [(1, .a (.v 2) (.n 1), .v 2)] rfl h1))
theorem om101 (h1 : x3 ≤ x4) (h2 : x4 < x3) : x1 = x2 := an (nl fun g => (far [x1, x2, x3, x4] [(1, .v 2, .v 3), (1, .a (.v 3) (.n 1), .v 2)] rfl h1 h2)) (nl fun g => (far [x1, x2, x3, x4] [(1, .v 2, .v 3), (1, .a (.v 3) (.n 1), .v 2)] rfl h1 h2))
theorem om102 (h1 : ¬ (x1 = x2)) : ¬ (((x1 : Nat) : Int) = ((x2 : Nat) : Int)) := fun g => ((nE h1).elim (fun q0 => (far [x1, x2] [(1, .v 1, .v 0), (1, .a (.v 0) (.n 1), .v 1)] rfl (geE (eqI g)) q0)) fun q0 => (far [x1, x2] [(1, .v 0, .v 1), (1, .a (.v 1) (.n 1), .v 0)] rfl (eL (eqI g)) q0))
theorem om103 (h1 : x2 < 1000) (h2 : x1 = x2) : (x1 - 0) = x1 := an (nl fun g => (far [(x1 - 0), x1, x2] [(1, .a (.v 1) (.n 1), .v 0), (1, .v 0, .v 1)] rfl g sb2)) (nl fun g => (far [(x1 - 0), x1, x2] [(1, .a (.v 0) (.n 1), .v 1), (1, .v 1, .a (.v 0) (.n 0))] rfl g sb1))
theorem om104 (h1 : (x2 + 1) < x1) : x1 = ((x1 - 1) + 1) := an (nl fun g => (far [x1, (x1 - 1), x2] [(1, .a (.a (.v 1) (.n 1)) (.n 1), .v 0), (1, .v 0, .a (.v 1) (.n 1))] rfl g sb1)) (nl fun g => (far [x1, (x1 - 1), x2] [(1, .a (.v 0) (.n 1), .a (.v 1) (.n 1)), (1, .a (.v 1) (.n 1), .v 0)] rfl g (sb3 (nl fun g0_4 => (far [x1, (x1 - 1), x2] [(1, .a (.a (.v 2) (.n 1)) (.n 1), .v 0), (1, .a (.v 0) (.n 1), .n 1)] rfl h1 g0_4)))))
theorem om105 (h1 : x1 < x2) : ((x1 + 1) + (x2 - (x1 + 1))) = x2 := an (nl fun g => (far [x1, (x2 - (x1 + 1)), x2] [(1, .a (.v 2) (.n 1), .a (.a (.v 0) (.n 1)) (.v 1)), (1, .a (.v 1) (.a (.v 0) (.n 1)), .v 2)] rfl g (sb3 (nl fun g0_4 => (far [x1, (x2 - (x1 + 1)), x2] [(1, .a (.v 0) (.n 1), .v 2), (1, .a (.v 2) (.n 1), .a (.v 0) (.n 1))] rfl h1 g0_4))))) (nl fun g => (far [x1, (x2 - (x1 + 1)), x2] [(1, .a (.a (.a (.v 0) (.n 1)) (.v 1)) (.n 1), .v 2), (1, .v 2, .a (.v 1) (.a (.v 0) (.n 1)))] rfl g sb1))
theorem om106 (h1 : x3 = (x2 + 1)) (h2 : x1 < x3) : x1 ≤ x2 := nl fun g => (far [x1, x2, x3] [(1, .v 2, .a (.v 1) (.n 1)), (1, .a (.v 0) (.n 1), .v 2), (1, .a (.v 1) (.n 1), .v 0)] rfl (eL h1) h2 g)
theorem om107 (h1 : x3 < x2) (h2 : x1 ≤ x2) (h3 : x1 < x3) : x1 < x2 := nt fun g => (far [x1, x2, x3] [(1, .a (.v 2) (.n 1), .v 1), (1, .a (.v 0) (.n 1), .v 2), (1, .v 1, .v 0)] rfl h1 h3 g)
theorem om108 (h1 : x1 < 9) : (3 + x1) ≤ (20 + (4 * 0)) := nl fun g => (far [x1] [(1, .a (.v 0) (.n 1), .n 9), (1, .a (.a (.n 20) (.m 4 (.n 0))) (.n 1), .a (.n 3) (.v 0))] rfl h1 g)
theorem om109 (h1 : x1 ≤ (3 + x2)) (h2 : x2 < 8) : x1 ≤ 10 := nl fun g => (far [x1, x2] [(1, .v 0, .a (.n 3) (.v 1)), (1, .a (.v 1) (.n 1), .n 8), (1, .a (.n 10) (.n 1), .v 0)] rfl h1 h2 g)
theorem om110 (h1 : 0 < x1) (h2 : x1 ≤ 100) : ¬ (((x1 : Nat) : Int) = (0 : Int)) := fun g => (far [x1] [(1, .a (.n 0) (.n 1), .v 0), (1, .v 0, .n 0)] rfl h1 (eL (eqI g)))
theorem om111 (h1 : (x2 - x1) = (x3 + 1)) (h2 : x1 ≤ x2) : x1 < x2 := nt fun g => (far [x1, x2, (x2 - x1), x3] [(1, .a (.v 3) (.n 1), .v 2), (1, .v 1, .v 0), (1, .a (.v 2) (.v 0), .v 1)] rfl (geE h1) g (sb3 (nl fun g0_6 => (far [x1, x2, (x2 - x1), x3] [(1, .v 0, .v 1), (1, .a (.v 1) (.n 1), .v 0)] rfl h2 g0_6))))
theorem om112 (h1 : x2 ≤ x3) (h2 : x1 < x2) : ((x1 + x2) / 2) < x3 := nt fun g => (far [((x1 + x2) / 2), x3, x2, x1] [(2, .v 2, .v 1), (1, .a (.v 3) (.n 1), .v 2), (2, .v 1, .v 0), (1, .m 2 (.v 0), .a (.v 3) (.v 2))] rfl h1 h2 g dv1)
theorem om113 (h1 : x3 ≤ x1) (h2 : ¬ (x3 < x1)) (h3 : x3 ≤ x2) : x1 ≤ x2 := nl fun g => (far [x1, x2, x3] [(1, .v 0, .v 2), (1, .v 2, .v 1), (1, .a (.v 1) (.n 1), .v 0)] rfl (nl h2) h3 g)
theorem om114 (h1 : x3 ≤ x2) (h2 : x1 ≤ x3) (h3 : ¬ (x1 < x3)) : x1 ≤ x2 := nl fun g => (far [x1, x2, x3] [(1, .v 2, .v 1), (1, .v 0, .v 2), (1, .a (.v 1) (.n 1), .v 0)] rfl h1 h2 g)
theorem om115 (h1 : x1 < (min x2 x3)) (h2 : x1 < x3) (h3 : x1 = x2) : False := far [x1, (min x2 x3), x3, x2] [(1, .a (.v 0) (.n 1), .v 1), (1, .v 3, .v 0), (1, .v 1, .v 3)] rfl h1 (geE h3) (Nat.min_le_left _ _)
theorem om116 (h1 : (x2 + x3) = x4) : ((x1 + x2) + x3) = (x1 + x4) := an (nl fun g => (far [x1, x2, x3, x4] [(1, .a (.v 1) (.v 2), .v 3), (1, .a (.a (.v 0) (.v 3)) (.n 1), .a (.a (.v 0) (.v 1)) (.v 2))] rfl (eL h1) g)) (nl fun g => (far [x1, x2, x3, x4] [(1, .v 3, .a (.v 1) (.v 2)), (1, .a (.a (.a (.v 0) (.v 1)) (.v 2)) (.n 1), .a (.v 0) (.v 3))] rfl (geE h1) g))
theorem om117 (h1 : x2 ≤ 10) (h2 : x1 ≤ 1000) : (x1 + x2) ≤ 2000 := nl fun g => (far [x1, x2] [(1, .v 1, .n 10), (1, .v 0, .n 1000), (1, .a (.n 2000) (.n 1), .a (.v 0) (.v 1))] rfl h1 h2 g)
theorem om118 (h1 : x1 ≤ x2) (h2 : ¬ (((x1 : Nat) : Int) = ((x2 : Nat) : Int))) : x1 < x2 := by omega
theorem om119 (h1 : x2 < 18) (h2 : x1 = (x2 + 1)) : x1 ≤ 16777216 := nl fun g => (far [x1, x2] [(1, .a (.v 1) (.n 1), .n 18), (1, .v 0, .a (.v 1) (.n 1)), (1, .a (.n 16777216) (.n 1), .v 0)] rfl h1 (eL h2) g)
theorem om120 (h1 : ((x1 + x2) / 2) < x3) : ((x1 + x2) / 2) ≤ x3 := nl fun g => (far [((x1 + x2) / 2), x3, x1, x2] [(1, .a (.v 0) (.n 1), .v 1), (1, .a (.v 1) (.n 1), .v 0)] rfl h1 g)
theorem om121 (h1 : (x1 + x2) ≤ x3) : ((x1 + 1) + x2) ≤ (x3 + 1) := nl fun g => (far [x1, x2, x3] [(1, .a (.v 0) (.v 1), .v 2), (1, .a (.a (.v 2) (.n 1)) (.n 1), .a (.a (.v 0) (.n 1)) (.v 1))] rfl h1 g)
theorem om122 (h1 : x2 ≤ (x3 + 1)) : (x1 + x2) ≤ ((x1 + x3) + 1) := nl fun g => (far [x1, x2, x3] [(1, .v 1, .a (.v 2) (.n 1)), (1, .a (.a (.a (.v 0) (.v 2)) (.n 1)) (.n 1), .a (.v 0) (.v 1))] rfl h1 g)
theorem om123 (h1 : (x1 + x4) < x3) (h2 : x2 ≤ x4) : (x1 + x2) < x3 := nt fun g => (far [x1, x2, x3, x4] [(1, .a (.a (.v 0) (.v 3)) (.n 1), .v 2), (1, .v 1, .v 3), (1, .v 2, .a (.v 0) (.v 1))] rfl h1 h2 g)
theorem om124 (h1 : x1 = x2) (h2 : x2 ≤ x3) (h3 : (x3 + 1) ≤ x1) : False := far [x1, x2, x3] [(1, .v 0, .v 1), (1, .v 1, .v 2), (1, .a (.v 2) (.n 1), .v 0)] rfl (eL h1) h2 h3
theorem om125 (h1 : x2 < x1) : ((x1 + 1) - (x2 + 1)) < ((x1 + 1) - x2) := nt fun g => (far [((x1 + 1) - (x2 + 1)), ((x1 + 1) - x2), x2, x1] [(1, .v 1, .v 0), (1, .a (.v 3) (.n 1), .a (.v 1) (.v 2)), (1, .a (.v 0) (.a (.v 2) (.n 1)), .a (.v 3) (.n 1))] rfl g sb1 (sb3 (nl fun g0_6 => (far [((x1 + 1) - (x2 + 1)), ((x1 + 1) - x2), x2, x1] [(1, .a (.v 2) (.n 1), .v 3), (1, .a (.a (.v 3) (.n 1)) (.n 1), .a (.v 2) (.n 1))] rfl h1 g0_6))))
theorem om126 (h1 : x3 ≤ x2) (h2 : x1 ≤ (x3 + 1)) : x1 ≤ (x2 + 1) := nl fun g => (far [x1, x2, x3] [(1, .v 2, .v 1), (1, .v 0, .a (.v 2) (.n 1)), (1, .a (.a (.v 1) (.n 1)) (.n 1), .v 0)] rfl h1 h2 g)
theorem om127 (h1 : x1 = x3) (h2 : x4 = x2) (h3 : x3 = x2) : x1 = x2 := an (nl fun g => (far [x1, x2, x3, x4] [(1, .v 0, .v 2), (1, .v 2, .v 1), (1, .a (.v 1) (.n 1), .v 0)] rfl (eL h1) (eL h3) g)) (nl fun g => (far [x1, x2, x3, x4] [(1, .v 2, .v 0), (1, .v 1, .v 2), (1, .a (.v 0) (.n 1), .v 1)] rfl (geE h1) (geE h3) g))
theorem om128 (h1 : x2 = x3) (h2 : x1 < x3) (h3 : x4 = x1) : x1 < x2 := nt fun g => (far [x1, x2, x3, x4] [(1, .v 2, .v 1), (1, .a (.v 0) (.n 1), .v 2), (1, .v 1, .v 0)] rfl (geE h1) h2 g)
theorem om129 (h1 : x2 = x3) (h2 : x3 = x4) (h3 : x1 < x4) : x1 < x2 := nt fun g => (far [x1, x2, x3, x4] [(1, .v 2, .v 1), (1, .v 3, .v 2), (1, .a (.v 0) (.n 1), .v 3), (1, .v 1, .v 0)] rfl (geE h1) (geE h2) h3 g)
theorem om130 (h1 : x2 = x3) (h2 : x4 = x1) (h3 : x1 < x3) : x1 < x2 := nt fun g => (far [x1, x2, x3, x4] [(1, .v 2, .v 1), (1, .a (.v 0) (.n 1), .v 2), (1, .v 1, .v 0)] rfl (geE h1) h3 g)
theorem om131 (h1 : x3 < x2) (h2 : x1 < x3) (h3 : x4 = x3) : x1 < x2 := nt fun g => (far [x1, x2, x3, x4] [(1, .a (.v 2) (.n 1), .v 1), (1, .a (.v 0) (.n 1), .v 2), (1, .v 1, .v 0)] rfl h1 h2 g)
theorem om132 (h1 : x2 ≤ 10) (h2 : x1 < x2) : ((x1 : Nat) : Int) < ((2 : Int) ^ 1920) := by omega
theorem om133 (h1 : (x3 + 100) < x2) (h2 : x1 ≤ (x3 + 10)) : x1 < x2 := nt fun g => (far [x1, x2, x3] [(1, .a (.a (.v 2) (.n 100)) (.n 1), .v 1), (1, .v 0, .a (.v 2) (.n 10)), (1, .v 1, .v 0)] rfl h1 h2 g)
theorem om134 (h1 : x2 ≤ 2000) (h2 : (x1 + x3) ≤ x2) : x1 ≤ 16777216 := nl fun g => (far [x1, x2, x3] [(1, .v 1, .n 2000), (1, .a (.v 0) (.v 2), .v 1), (1, .a (.n 16777216) (.n 1), .v 0)] rfl h1 h2 g)
theorem om135 (h1 : x3 ≤ x1) (h2 : (x1 - x3) ≤ 0) (h3 : x3 ≤ x2) : x1 ≤ x2 := nl fun g => (far [x1, x2, x3, (x1 - x3)] [(1, .v 3, .n 0), (1, .v 2, .v 1), (1, .a (.v 1) (.n 1), .v 0), (1, .v 0, .a (.v 3) (.v 2))] rfl h2 h3 g sb1)
theorem om136 (h1 : x1 < x2) (h2 : x2 ≤ 1000000) : ((x1 : Nat) : Int) < ((2 : Int) ^ 63) := toltI (nt fun g => (far [x1, x2] [(1, .a (.v 0) (.n 1), .v 1), (1, .v 1, .n 1000000), (1, .n 9223372036854775808, .v 0)] rfl h1 h2 g))
theorem om137 (h1 : x1 ≤ (10 * (14 + x2))) : x1 < (10 * (x2 + 15)) := nt fun g => (far [x1, x2] [(1, .v 0, .m 10 (.a (.n 14) (.v 1))), (1, .m 10 (.a (.v 1) (.n 15)), .v 0)] rfl h1 g)
theorem om138 (h1 : x3 = x2) (h2 : ((x1 : Nat) : Int) < ((x3 : Nat) : Int)) : x1 < x2 := nt fun g => (far [x1, x2, x3] [(1, .v 2, .v 1), (1, .a (.v 0) (.n 1), .v 2), (1, .v 1, .v 0)] rfl (eL h1) (ltI h2) g)
theorem om139 (h1 : x1 < x2) (h2 : x3 = (x2 + x4)) : (x1 + 1) ≤ x2 := nl fun g => (far [x1, x2, x3, x4] [(1, .a (.v 0) (.n 1), .v 1), (1, .a (.v 1) (.n 1), .a (.v 0) (.n 1))] rfl h1 g)
theorem om140 (h1 : x2 < 9) (h2 : x1 ≤ (3 + (3 * x2))) : x1 ≤ 1000 := nl fun g => (far [x1, x2] [(3, .a (.v 1) (.n 1), .n 9), (1, .v 0, .a (.n 3) (.m 3 (.v 1))), (1, .a (.n 1000) (.n 1), .v 0)] rfl h1 h2 g)
theorem om141 (h1 : x1 ≤ (20 + (4 * x2))) (h2 : x2 < 2) : x1 ≤ 1000 := nl fun g => (far [x1, x2] [(1, .v 0, .a (.n 20) (.m 4 (.v 1))), (4, .a (.v 1) (.n 1), .n 2), (1, .a (.n 1000) (.n 1), .v 0)] rfl h1 h2 g)
theorem om142 (h1 : x1 ≤ (40 + (10 * x2))) (h2 : x2 < 2) : x1 ≤ 500 := nl fun g => (far [x1, x2] [(1, .v 0, .a (.n 40) (.m 10 (.v 1))), (10, .a (.v 1) (.n 1), .n 2), (1, .a (.n 500) (.n 1), .v 0)] rfl h1 h2 g)
theorem om143 (h1 : x1 ≤ (60 + (4 * x2))) (h2 : x2 < 6) : x1 ≤ 1000 := nl fun g => (far [x1, x2] [(1, .v 0, .a (.n 60) (.m 4 (.v 1))), (4, .a (.v 1) (.n 1), .n 6), (1, .a (.n 1000) (.n 1), .v 0)] rfl h1 h2 g)
theorem om144 (h1 : x1 < (x3 + 1)) (h2 : x2 < x1) : (x1 - (x2 + 1)) < x3 := nt fun g => (far [(x1 - (x2 + 1)), x3, x1, x2] [(1, .a (.v 2) (.n 1), .a (.v 1) (.n 1)), (1, .v 1, .v 0), (1, .a (.v 0) (.a (.v 3) (.n 1)), .v 2)] rfl h1 g (sb3 (nl fun g0_5 => (far [(x1 - (x2 + 1)), x3, x1, x2] [(1, .a (.v 3) (.n 1), .v 2), (1, .a (.v 2) (.n 1), .a (.v 3) (.n 1))] rfl h2 g0_5))))
theorem om145 (h1 : x1 < x3) (h2 : (((x1 + x3) / 2) + 1) ≤ x2) : x1 ≤ x2 := nl fun g => (far [x1, x2, x3, ((x1 + x3) / 2)] [(1, .a (.v 0) (.n 1), .v 2), (2, .a (.v 3) (.n 1), .v 1), (2, .a (.v 1) (.n 1), .v 0), (1, .a (.a (.v 0) (.v 2)) (.n 1), .a (.m 2 (.v 3)) (.n 2))] rfl h1 h2 g dv2)
theorem om146 (h1 : x3 = x1) (h2 : ¬ (((x2 : Nat) : Int) < ((x3 : Nat) : Int))) : x1 ≤ x2 := nl fun g => (far [x1, x2, x3] [(1, .v 0, .v 2), (1, .v 2, .v 1), (1, .a (.v 1) (.n 1), .v 0)] rfl (geE h1) (leI (Int.not_lt.mp h2)) g)
theorem om147 (h1 : x2 = x3) (h2 : (x1 < x3) ∧ (x4 = x5)) : x1 < x2 := nt fun g => (far [x1, x2, x3, x4, x5] [(1, .v 2, .v 1), (1, .a (.v 0) (.n 1), .v 2), (1, .v 1, .v 0)] rfl (geE h1) h2.1 g)
theorem om148 (h1 : x2 ≤ 2) (h2 : x3 = x2) (h3 : x1 ≤ x3) : x1 ≤ 16777215 := nl fun g => (far [x1, x2, x3] [(1, .v 1, .n 2), (1, .v 2, .v 1), (1, .v 0, .v 2), (1, .a (.n 16777215) (.n 1), .v 0)] rfl h1 (eL h2) h3 g)
theorem om149 (h1 : x2 ≤ 20) (h2 : x1 = x3) (h3 : x3 ≤ x2) : x1 ≤ 16777216 := nl fun g => (far [x1, x2, x3] [(1, .v 1, .n 20), (1, .v 0, .v 2), (1, .v 2, .v 1), (1, .a (.n 16777216) (.n 1), .v 0)] rfl h1 (eL h2) h3 g)
theorem om150 (h1 : x2 ≤ x3) (h2 : x3 ≤ 11) (h3 : x1 ≤ x2) : x1 ≤ 16777216 := nl fun g => (far [x1, x2, x3] [(1, .v 1, .v 2), (1, .v 2, .n 11), (1, .v 0, .v 1), (1, .a (.n 16777216) (.n 1), .v 0)] rfl h1 h2 h3 g)
theorem om151 (h1 : x3 < (x4 + 1)) (h2 : x4 < x3) : x1 = (x2 + 1) := an (nl fun g => (far [x1, x2, x3, x4] [(1, .a (.v 2) (.n 1), .a (.v 3) (.n 1)), (1, .a (.v 3) (.n 1), .v 2)] rfl h1 h2)) (nl fun g => (far [x1, x2, x3, x4] [(1, .a (.v 2) (.n 1), .a (.v 3) (.n 1)), (1, .a (.v 3) (.n 1), .v 2)] rfl h1 h2))
theorem om152 (h1 : x2 < 1000) (h2 : x1 ≤ x3) (h3 : x3 < x2) : x1 ≤ 16777216 := nl fun g => (far [x1, x2, x3] [(1, .a (.v 1) (.n 1), .n 1000), (1, .v 0, .v 2), (1, .a (.v 2) (.n 1), .v 1), (1, .a (.n 16777216) (.n 1), .v 0)] rfl h1 h2 h3 g)
theorem om153 (h1 : x1 < x2) (h2 : x3 = x1) (h3 : x4 = x2) (h4 : x2 = x1) : False := far [x1, x2, x3, x4] [(1, .a (.v 0) (.n 1), .v 1), (1, .v 1, .v 0)] rfl h1 (eL h4)
theorem om154 (h1 : x1 < x2) (h2 : x3 = x2) (h3 : x4 = x1) (h4 : x1 = x2) : False := far [x1, x2, x3, x4] [(1, .a (.v 0) (.n 1), .v 1), (1, .v 1, .v 0)] rfl h1 (geE h4)
theorem om155 (h1 : x1 ≤ 11) (h2 : x2 ≤ (2 * x1)) : (x1 + (22 * x2)) ≤ 700 := nl fun g => (far [x1, x2] [(45, .v 0, .n 11), (22, .v 1, .m 2 (.v 0)), (1, .a (.n 700) (.n 1), .a (.v 0) (.m 22 (.v 1)))] rfl h1 h2 g)
theorem om156 (h1 : (x1 - x2) = (x3 + 1)) (h2 : x2 < x1) : (x1 - (x2 + 1)) = x3 := an (nl fun g => (far [(x1 - (x2 + 1)), x3, (x1 - x2), x2, x1] [(1, .v 2, .a (.v 1) (.n 1)), (1, .a (.v 1) (.n 1), .v 0), (1, .v 4, .a (.v 2) (.v 3)), (1, .a (.v 0) (.a (.v 3) (.n 1)), .v 4)] rfl (eL h1) g sb1 (sb3 (nl fun g0_8 => (far [(x1 - (x2 + 1)), x3, (x1 - x2), x2, x1] [(1, .a (.v 3) (.n 1), .v 4), (1, .a (.v 4) (.n 1), .a (.v 3) (.n 1))] rfl h2 g0_8))))) (nl fun g => (far [(x1 - (x2 + 1)), x3, (x1 - x2), x2, x1] [(1, .a (.v 1) (.n 1), .v 2), (1, .a (.v 0) (.n 1), .v 1), (1, .v 4, .a (.v 0) (.a (.v 3) (.n 1))), (1, .a (.v 2) (.v 3), .v 4)] rfl (geE h1) g sb1 (sb3 (nl fun g0_9 => (far [(x1 - (x2 + 1)), x3, (x1 - x2), x2, x1] [(1, .a (.v 3) (.n 1), .v 4), (1, .a (.v 4) (.n 1), .v 3)] rfl h2 g0_9)))))
theorem om157 (h1 : x1 < x2) (h2 : x2 ≤ 9223372036854775808) : ((x1 : Nat) : Int) < ((2 : Int) ^ 63) := toltI (nt fun g => (far [x1, x2] [(1, .a (.v 0) (.n 1), .v 1), (1, .v 1, .n 9223372036854775808), (1, .n 9223372036854775808, .v 0)] rfl h1 h2 g))
theorem om158 (h1 : x1 = x2) (h2 : (x2 + (22 * x3)) ≤ 700) : x1 ≤ 1000000 := nl fun g => (far [x1, x2, x3] [(1, .v 0, .v 1), (1, .a (.v 1) (.m 22 (.v 2)), .n 700), (1, .a (.n 1000000) (.n 1), .v 0)] rfl (eL h1) h2 g)
theorem om159 (h1 : x2 ≤ 2000) (h2 : (x1 + x3) ≤ x2) : (x1 + 1) ≤ 1000000 := nl fun g => (far [x1, x2, x3] [(1, .v 1, .n 2000), (1, .a (.v 0) (.v 2), .v 1), (1, .a (.n 1000000) (.n 1), .a (.v 0) (.n 1))] rfl h1 h2 g)
theorem om160 (h1 : x1 < x2) (h2 : x3 ≤ x2) (h3 : (x1 + 1) < x3) : (x1 + 1) < x2 := nt fun g => (far [x1, x2, x3] [(1, .v 2, .v 1), (1, .a (.a (.v 0) (.n 1)) (.n 1), .v 2), (1, .v 1, .a (.v 0) (.n 1))] rfl h2 h3 g)
theorem om161 (h1 : x2 ≤ (2 * x3)) : ((2 - x1) + x2) ≤ (2 * (x3 + 1)) := nl fun g => (far [(2 - x1), x2, x3, x1] [(1, .v 1, .m 2 (.v 2)), (1, .a (.m 2 (.a (.v 2) (.n 1))) (.n 1), .a (.v 0) (.v 1)), (1, .v 0, .n 2)] rfl h1 g sb2)
theorem om162 (h1 : (x2 + x3) = (x4 + x5)) : ((x1 + x2) + x3) = ((x1 + x4) + x5) := an (nl fun g => (far [x1, x2, x3, x4, x5] [(1, .a (.v 1) (.v 2), .a (.v 3) (.v 4)), (1, .a (.a (.a (.v 0) (.v 3)) (.v 4)) (.n 1), .a (.a (.v 0) (.v 1)) (.v 2))] rfl (eL h1) g)) (nl fun g => (far [x1, x2, x3, x4, x5] [(1, .a (.v 3) (.v 4), .a (.v 1) (.v 2)), (1, .a (.a (.a (.v 0) (.v 1)) (.v 2)) (.n 1), .a (.a (.v 0) (.v 3)) (.v 4))] rfl (geE h1) g))
theorem om163 {x1 : Nat} {x2 : Int} (h1 : x1 < 1000000) (h2 : x2 = ((x1 : Nat) : Int)) : ((x1 : Nat) : Int) < ((2 : Int) ^ 62) := toltI (nt fun g => (far [x1] [(1, .a (.v 0) (.n 1), .n 1000000), (1, .n 4611686018427387904, .v 0)] rfl h1 g))
theorem om164 (h1 : (x2 - x1) ≤ (x3 + 1)) (h2 : x1 < x2) : (((x1 + x2) / 2) - x1) ≤ x3 := nl fun g => (far [(((x1 + x2) / 2) - x1), x3, (x2 - x1), x1, x2, ((x1 + x2) / 2)] [(2, .v 2, .a (.v 1) (.n 1)), (1, .a (.v 3) (.n 1), .v 4), (2, .a (.v 1) (.n 1), .v 0), (2, .v 4, .a (.v 2) (.v 3)), (1, .m 2 (.v 5), .a (.v 3) (.v 4)), (2, .a (.v 0) (.v 3), .v 5)] rfl h1 h2 g sb1 dv1 (sb3 (nl fun g0_9 => (far [(((x1 + x2) / 2) - x1), x3, (x2 - x1), x1, x2, ((x1 + x2) / 2)] [(1, .a (.v 3) (.n 1), .v 4), (1, .a (.a (.v 3) (.v 4)) (.n 1), .a (.m 2 (.v 5)) (.n 2)), (2, .a (.v 5) (.n 1), .v 3)] rfl h2 dv2 g0_9))))
theorem om165 (h1 : x2 < 20) (h2 : x1 = x3) (h3 : x3 ≤ (x2 + 1)) : x1 ≤ 1000 := nl fun g => (far [x1, x2, x3] [(1, .a (.v 1) (.n 1), .n 20), (1, .v 0, .v 2), (1, .v 2, .a (.v 1) (.n 1)), (1, .a (.n 1000) (.n 1), .v 0)] rfl h1 (eL h2) h3 g)
theorem om166 (h1 : (x1 + x5) < x4) (h2 : (x2 + x3) ≤ x5) : ((x1 + x2) + x3) < x4 := nt fun g => (far [x1, x2, x3, x4, x5] [(1, .a (.a (.v 0) (.v 4)) (.n 1), .v 3), (1, .a (.v 1) (.v 2), .v 4), (1, .v 3, .a (.a (.v 0) (.v 1)) (.v 2))] rfl h1 h2 g)
theorem om167 (h1 : (x3 + x4) = x2) (h2 : (x1 + x5) = (x3 + (x5 + x4))) : x1 = x2 := an (nl fun g => (far [x1, x2, x3, x4, x5] [(1, .a (.v 2) (.v 3), .v 1), (1, .a (.v 0) (.v 4), .a (.v 2) (.a (.v 4) (.v 3))), (1, .a (.v 1) (.n 1), .v 0)] rfl (eL h1) (eL h2) g)) (nl fun g => (far [x1, x2, x3, x4, x5] [(1, .v 1, .a (.v 2) (.v 3)), (1, .a (.v 2) (.a (.v 4) (.v 3)), .a (.v 0) (.v 4)), (1, .a (.v 0) (.n 1), .v 1)] rfl (geE h1) (geE h2) g))
theorem om168 {x1 : Nat} {x2 : Int} (h1 : x1 < 1000000) (h2 : x2 = ((x1 : Nat) : Int)) : (-((2 : Int) ^ 62)) ≤ ((x1 : Nat) : Int) := by omega
theorem om169 (h1 : x1 < (10 * x3)) (h2 : x2 < x1) : (x1 - (x2 + 1)) < (10 * x3) := nt fun g => (far [(x1 - (x2 + 1)), x3, x1, x2] [(1, .a (.v 2) (.n 1), .m 10 (.v 1)), (1, .m 10 (.v 1), .v 0), (1, .v 0, .v 2)] rfl h1 g sb2)
theorem om170 (h1 : x2 ≤ 4) (h2 : x3 = x2) (h3 : x1 ≤ x2) : (1 + x1) ≤ 16777216 := nl fun g => (far [x1, x2, x3] [(1, .v 1, .n 4), (1, .v 0, .v 1), (1, .a (.n 16777216) (.n 1), .a (.n 1) (.v 0))] rfl h1 h3 g)
theorem om171 (h1 : x3 ≤ 10) (h2 : x1 ≤ 1000) (h3 : x2 < x3) : (x1 + x2) ≤ 2000 := nl fun g => (far [x1, x2, x3] [(1, .v 2, .n 10), (1, .v 0, .n 1000), (1, .a (.v 1) (.n 1), .v 2), (1, .a (.n 2000) (.n 1), .a (.v 0) (.v 1))] rfl h1 h2 h3 g)
theorem om172 (h1 : (x1 + x4) ≤ x3) (h2 : (x2 + 1) = x4) : ((x1 + 1) + x2) ≤ x3 := nl fun g => (far [x1, x2, x3, x4] [(1, .a (.v 0) (.v 3), .v 2), (1, .a (.v 1) (.n 1), .v 3), (1, .a (.v 2) (.n 1), .a (.a (.v 0) (.n 1)) (.v 1))] rfl h1 (eL h2) g)
theorem om173 (h1 : x2 = (x4 + 1)) (h2 : (x1 + x4) ≤ x3) : (x1 + x2) ≤ (x3 + 1) := nl fun g => (far [x1, x2, x3, x4] [(1, .v 1, .a (.v 3) (.n 1)), (1, .a (.v 0) (.v 3), .v 2), (1, .a (.a (.v 2) (.n 1)) (.n 1), .a (.v 0) (.v 1))] rfl (eL h1) h2 g)
theorem om174 (h1 : x2 ≤ x4) (h2 : x3 ≤ x1) : ((2 - x1) + x2) ≤ ((2 - x3) + x4) := nl fun g => ((Nat.le_total 2 x1).elim (fun c0 => (far [(2 - x1), x2, (2 - x3), x4, x3, x1] [(1, .v 1, .v 3), (1, .a (.a (.v 2) (.v 3)) (.n 1), .a (.v 0) (.v 1)), (1, .v 0, .n 0)] rfl h1 g (eL (Nat.sub_eq_zero_of_le c0)))) fun c0 => (far [(2 - x1), x2, (2 - x3), x4, x3, x1] [(1, .v 1, .v 3), (1, .v 4, .v 5), (1, .a (.a (.v 2) (.v 3)) (.n 1), .a (.v 0) (.v 1)), (1, .n 2, .a (.v 2) (.v 4)), (1, .a (.v 0) (.v 5), .n 2)] rfl h1 h2 g sb1 (sb3 c0)))
theorem om177 (h1 : x3 < x2) : ((23 * x1) + (x2 - (x3 + 1))) < ((23 * x1) + (x2 - x3)) := nt fun g => (far [x1, (x2 - (x3 + 1)), (x2 - x3), x3, x2] [(1, .a (.m 23 (.v 0)) (.v 2), .a (.m 23 (.v 0)) (.v 1)), (1, .v 4, .a (.v 2) (.v 3)), (1, .a (.v 1) (.a (.v 3) (.n 1)), .v 4)] rfl g sb1 (sb3 (nl fun g0_6 => (far [x1, (x2 - (x3 + 1)), (x2 - x3), x3, x2] [(1, .a (.v 3) (.n 1), .v 4), (1, .a (.v 4) (.n 1), .a (.v 3) (.n 1))] rfl h1 g0_6))))
theorem om178 (h1 : x1 ≤ 100) (h2 : ((x2 : Nat) : Int) = ((x1 : Nat) : Int)) : ((x1 : Nat) : Int) ≤ (1000 : Int) := toleI (nl fun g => (far [x1, x2] [(1, .v 0, .n 100), (1, .a (.n 1000) (.n 1), .v 0)] rfl h1 g))
theorem om179 (h1 : x3 ≤ (3 + x2)) (h2 : x1 ≤ (x3 + 1)) : x1 ≤ (3 + (x2 + 1)) := nl fun g => (far [x1, x2, x3] [(1, .v 2, .a (.n 3) (.v 1)), (1, .v 0, .a (.v 2) (.n 1)), (1, .a (.a (.n 3) (.a (.v 1) (.n 1))) (.n 1), .v 0)] rfl h1 h2 g)
theorem om180 (h1 : (x3 + 1) < x2) (h2 : x4 = (x3 + 1)) (h3 : x1 = x4) : x1 < x2 := nt fun g => (far [x1, x2, x3, x4] [(1, .a (.a (.v 2) (.n 1)) (.n 1), .v 1), (1, .v 3, .a (.v 2) (.n 1)), (1, .v 0, .v 3), (1, .v 1, .v 0)] rfl h1 (eL h2) (eL h3) g)
theorem om181 (h1 : x1 = (x2 + 1)) (h2 : (x3 + (x4 + 1)) ≤ x2) (h3 : x1 = x3) : False := far [x1, x2, x3, x4] [(1, .a (.v 1) (.n 1), .v 0), (1, .a (.v 2) (.a (.v 3) (.n 1)), .v 1), (1, .v 0, .v 2)] rfl (geE h1) h2 (eL h3)
theorem om182 (h1 : x2 < 18) (h2 : x1 = (x2 + 1)) (h3 : x3 = (x2 + 1)) : x1 ≤ 18 := nl fun g => (far [x1, x2, x3] [(1, .a (.v 1) (.n 1), .n 18), (1, .v 0, .a (.v 1) (.n 1)), (1, .a (.n 18) (.n 1), .v 0)] rfl h1 (eL h2) g)
theorem om183 (h1 : x2 < x3) (h2 : x3 = x4) (h3 : x3 ≤ 11) (h4 : x1 ≤ x4) : x1 < 18 := nt fun g => (far [x1, x2, x3, x4] [(1, .v 3, .v 2), (1, .v 2, .n 11), (1, .v 0, .v 3), (1, .n 18, .v 0)] rfl (geE h2) h3 h4 g)
theorem om184 (h1 : x2 < x3) (h2 : x3 = x4) (h3 : x3 ≤ 11) (h4 : x1 ≤ x4) : x1 < 64 := nt fun g => (far [x1, x2, x3, x4] [(1, .v 3, .v 2), (1, .v 2, .n 11), (1, .v 0, .v 3), (1, .n 64, .v 0)] rfl (geE h2) h3 h4 g)
theorem om185 (h1 : x2 < 9) (h2 : x1 ≤ (3 + (3 * x3))) (h3 : x3 < x2) : x1 ≤ 1000 := nl fun g => (far [x1, x2, x3] [(3, .a (.v 1) (.n 1), .n 9), (1, .v 0, .a (.n 3) (.m 3 (.v 2))), (3, .a (.v 2) (.n 1), .v 1), (1, .a (.n 1000) (.n 1), .v 0)] rfl h1 h2 h3 g)
theorem om186 (h1 : x2 < x1) (h2 : x3 = x2) : (((x1 : Nat) : Int) - ((x2 : Nat) : Int)) = (((x1 - x2) : Nat) : Int) := by omega
theorem om187 (h1 : x2 ≤ 2) (h2 : 0 < x2) (h3 : x3 = x2) (h4 : x1 = x3) : x1 ≤ 16777216 := nl fun g => (far [x1, x2, x3] [(1, .v 1, .n 2), (1, .v 2, .v 1), (1, .v 0, .v 2), (1, .a (.n 16777216) (.n 1), .v 0)] rfl h1 (eL h3) (eL h4) g)
theorem om188 (h1 : (x1 - x2) ≤ (x3 + 1)) (h2 : x2 < x1) : (x1 - (((x2 + x1) / 2) + 1)) ≤ x3 := nl fun g => (far [(x1 - (((x2 + x1) / 2) + 1)), x3, (x1 - x2), x2, x1, ((x2 + x1) / 2)] [(2, .v 2, .a (.v 1) (.n 1)), (1, .a (.v 3) (.n 1), .v 4), (2, .a (.v 1) (.n 1), .v 0), (2, .v 4, .a (.v 2) (.v 3)), (1, .a (.a (.v 3) (.v 4)) (.n 1), .a (.m 2 (.v 5)) (.n 2)), (2, .a (.v 0) (.a (.v 5) (.n 1)), .v 4)] rfl h1 h2 g sb1 dv2 (sb3 (nl fun g0_9 => (far [(x1 - (((x2 + x1) / 2) + 1)), x3, (x1 - x2), x2, x1, ((x2 + x1) / 2)] [(1, .a (.v 3) (.n 1), .v 4), (1, .m 2 (.v 5), .a (.v 3) (.v 4)), (2, .a (.v 4) (.n 1), .a (.v 5) (.n 1))] rfl h2 dv1 g0_9))))
theorem om189 (h1 : x2 < 2000) (h2 : ((x1 + x3) + (22 * x4)) ≤ x2) : x1 ≤ 16777216 := nl fun g => (far [x1, x2, x3, x4] [(1, .a (.v 1) (.n 1), .n 2000), (1, .a (.a (.v 0) (.v 2)) (.m 22 (.v 3)), .v 1), (1, .a (.n 16777216) (.n 1), .v 0)] rfl h1 h2 g)
theorem om190 (h1 : x4 = x2) (h2 : ((x1 : Nat) : Int) < ((x4 : Nat) : Int)) : (x1 + 1) ≤ (x2 + x3) := nl fun g => (far [x1, x2, x3, x4] [(1, .v 3, .v 1), (1, .a (.v 0) (.n 1), .v 3), (1, .a (.a (.v 1) (.v 2)) (.n 1), .a (.v 0) (.n 1))] rfl (eL h1) (ltI h2) g)
theorem om191 (h1 : x3 ≤ 10) (h2 : x1 ≤ 500) (h3 : x2 < x3) : (x1 + (2 * x2)) ≤ 1000 := nl fun g => (far [x1, x2, x3] [(2, .v 2, .n 10), (1, .v 0, .n 500), (2, .a (.v 1) (.n 1), .v 2), (1, .a (.n 1000) (.n 1), .a (.v 0) (.m 2 (.v 1)))] rfl h1 h2 h3 g)
theorem om192 (h1 : x3 = x4) (h2 : x4 < x2) (h3 : x5 < x4) (h4 : x1 ≤ (min x5 x3)) : x1 < x2 := nt fun g => (far [x1, x2, x3, x4, x5, (min x5 x3)] [(1, .a (.v 3) (.n 1), .v 1), (1, .a (.v 4) (.n 1), .v 3), (1, .v 0, .v 5), (1, .v 1, .v 0), (1, .v 5, .v 4)] rfl h2 h3 h4 g (Nat.min_le_left _ _))
theorem om193 (h1 : x2 ≤ 2000) (h2 : (x3 + x4) ≤ x2) (h3 : (x1 + x4) ≤ x2) : x1 ≤ 16777216 := nl fun g => (far [x1, x2, x3, x4] [(1, .v 1, .n 2000), (1, .a (.v 0) (.v 3), .v 1), (1, .a (.n 16777216) (.n 1), .v 0)] rfl h1 h3 g)
theorem om194 (h1 : ((x1 + x2) / 2) ≤ x3) (h2 : ¬ (x3 = ((x1 + x2) / 2))) : ((x1 + x2) / 2) < x3 := nt fun g => ((nE h2).elim (fun q0 => (far [((x1 + x2) / 2), x3, x1, x2] [(1, .v 0, .v 1), (1, .a (.v 1) (.n 1), .v 0)] rfl h1 q0)) fun q0 => (far [((x1 + x2) / 2), x3, x1, x2] [(1, .v 1, .v 0), (1, .a (.v 0) (.n 1), .v 1)] rfl g q0))
theorem om195 (h1 : x1 = (x2 + 1)) (h2 : x3 = (x2 + 2)) (h3 : x4 < x2) (h4 : x4 = x2) : False := far [x1, x2, x3, x4] [(1, .a (.v 3) (.n 1), .v 1), (1, .v 1, .v 3)] rfl h3 (geE h4)
theorem om196 (h1 : x1 < x2) (h2 : x3 = x1) (h3 : x4 = x2) (h4 : x1 = x5) (h5 : x5 = x2) : False := far [x1, x2, x3, x4, x5] [(1, .a (.v 0) (.n 1), .v 1), (1, .v 4, .v 0), (1, .v 1, .v 4)] rfl h1 (geE h4) (geE h5)
theorem om197 (h1 : x4 = x1) (h2 : (x1 - x2) = (x3 + 1)) (h3 : x2 < x1) : (x1 - (x2 + 1)) = x3 := an (nl fun g => (far [(x1 - (x2 + 1)), x3, x4, x1, (x1 - x2), x2] [(1, .v 4, .a (.v 1) (.n 1)), (1, .a (.v 1) (.n 1), .v 0), (1, .v 3, .a (.v 4) (.v 5)), (1, .a (.v 0) (.a (.v 5) (.n 1)), .v 3)] rfl (eL h2) g sb1 (sb3 (nl fun g0_10 => (far [(x1 - (x2 + 1)), x3, x4, x1, (x1 - x2), x2] [(1, .a (.v 5) (.n 1), .v 3), (1, .a (.v 3) (.n 1), .a (.v 5) (.n 1))] rfl h3 g0_10))))) (nl fun g => (far [(x1 - (x2 + 1)), x3, x4, x1, (x1 - x2), x2] [(1, .a (.v 1) (.n 1), .v 4), (1, .a (.v 0) (.n 1), .v 1), (1, .v 3, .a (.v 0) (.a (.v 5) (.n 1))), (1, .a (.v 4) (.v 5), .v 3)] rfl (geE h2) g sb1 (sb3 (nl fun g0_11 => (far [(x1 - (x2 + 1)), x3, x4, x1, (x1 - x2), x2] [(1, .a (.v 5) (.n 1), .v 3), (1, .a (.v 3) (.n 1), .v 5)] rfl h3 g0_11)))))
theorem om198 (h1 : x1 ≤ 9) (h2 : x2 ≤ (10 * x3)) : ((x1 + 1) + x2) ≤ (10 * (x3 + 1)) := nl fun g => (far [x1, x2, x3] [(1, .v 0, .n 9), (1, .v 1, .m 10 (.v 2)), (1, .a (.m 10 (.a (.v 2) (.n 1))) (.n 1), .a (.a (.v 0) (.n 1)) (.v 1))] rfl h1 h2 g)
theorem om199 (h1 : x1 < x2) (h2 : x3 = (x2 + 1)) (h3 : x4 = (x2 + 2)) : ¬ (x1 = (x2 + 2)) := fun g => (far [x1, x2, x3, x4] [(1, .a (.v 0) (.n 1), .v 1), (1, .a (.v 1) (.n 2), .v 0)] rfl h1 (geE g))
theorem om200 (h1 : x3 = (x1 + 1)) (h2 : x4 = (x1 + 2)) (h3 : x2 < x1) : ¬ ((x1 + 1) = x2) := fun g => (far [x3, x1, x4, x2] [(1, .a (.v 3) (.n 1), .v 1), (1, .a (.v 1) (.n 1), .v 3)] rfl h3 (eL g))
theorem om201 (h1 : x3 = (x2 + 1)) (h2 : x4 = (x2 + 2)) (h3 : x1 < x2) : ¬ (x1 = (x2 + 1)) := fun g => (far [x3, x2, x4, x1] [(1, .a (.v 3) (.n 1), .v 1), (1, .a (.v 1) (.n 1), .v 3)] rfl h3 (geE g))
theorem om202 (h1 : x3 = (x2 + 1)) (h2 : x4 = (x2 + 2)) (h3 : x1 < x2) : ¬ (x1 = (x2 + 2)) := fun g => (far [x3, x2, x4, x1] [(1, .a (.v 3) (.n 1), .v 1), (1, .a (.v 1) (.n 2), .v 3)] rfl h3 (geE g))
theorem om203 (h1 : x2 < 9) (h2 : x1 ≤ (3 + (3 * x2))) : (x1 + 1) ≤ (40 + (10 * 0)) := nl fun g => (far [x1, x2] [(3, .a (.v 1) (.n 1), .n 9), (1, .v 0, .a (.n 3) (.m 3 (.v 1))), (1, .a (.a (.n 40) (.m 10 (.n 0))) (.n 1), .a (.v 0) (.n 1))] rfl h1 h2 g)
theorem om204 (h1 : (x1 + x6) < x5) (h2 : ((x2 + x3) + x4) ≤ x6) : (((x1 + x2) + x3) + x4) < x5 := nt fun g => (far [x1, x2, x3, x4, x5, x6] [(1, .a (.a (.v 0) (.v 5)) (.n 1), .v 4), (1, .a (.a (.v 1) (.v 2)) (.v 3), .v 5), (1, .v 4, .a (.a (.a (.v 0) (.v 1)) (.v 2)) (.v 3))] rfl h1 h2 g)
theorem om205 (h1 : x3 < x4) (h2 : (x5 + x3) < x6) (h3 : ¬ (x1 = x2)) (h4 : x1 ≤ x2) : x1 < x2 := nt fun g => ((nE h3).elim (fun q0 => (far [x1, x2, x3, x4, x5, x6] [(1, .v 1, .v 0), (1, .a (.v 0) (.n 1), .v 1)] rfl g q0)) fun q0 => (far [x1, x2, x3, x4, x5, x6] [(1, .v 0, .v 1), (1, .a (.v 1) (.n 1), .v 0)] rfl h4 q0))
theorem om206 (h1 : x1 ≤ 100) (h2 : ((x2 : Nat) : Int) = ((x1 : Nat) : Int)) (h3 : ¬ (x1 = 0)) : (0 + 1) ≤ x1 := nl fun g => ((nE h3).elim (fun q0 => (far [x1, x2] [(1, .a (.v 0) (.n 1), .n 0)] rfl q0)) fun q0 => (far [x1, x2] [(1, .a (.v 0) (.n 1), .a (.n 0) (.n 1)), (1, .a (.n 0) (.n 1), .v 0)] rfl g q0))
theorem om207 (h1 : x3 ≤ 10) (h2 : x1 ≤ 500) (h3 : x2 < x3) : ((x1 + (2 * x2)) + 1) ≤ 1000 := nl fun g => (far [x1, x2, x3] [(2, .v 2, .n 10), (1, .v 0, .n 500), (2, .a (.v 1) (.n 1), .v 2), (1, .a (.n 1000) (.n 1), .a (.a (.v 0) (.m 2 (.v 1))) (.n 1))] rfl h1 h2 h3 g)
theorem om208 (h1 : 0 < x2) (h2 : x2 ≤ 100) (h3 : x1 < x2) (h4 : x3 = x1) : ((x1 : Nat) : Int) < ((2 : Int) ^ 64) := toltI (nt fun g => (far [x1, x2, x3] [(1, .v 1, .n 100), (1, .a (.v 0) (.n 1), .v 1), (1, .n 18446744073709551616, .v 0)] rfl h2 h3 g))
theorem om209 (h1 : x1 ≤ 100) (h2 : ((x2 : Nat) : Int) = ((x1 : Nat) : Int)) (h3 : ¬ (x1 = 0)) : (0 : Int) < ((x1 : Nat) : Int) := toltI (nt fun g => ((nE h3).elim (fun q0 => (far [x1, x2] [(1, .a (.v 0) (.n 1), .n 0)] rfl q0)) fun q0 => (far [x1, x2] [(1, .v 0, .n 0), (1, .a (.n 0) (.n 1), .v 0)] rfl g q0)))
theorem om210 (h1 : x1 < (((x2 + x3) / 2) + 1)) (h2 : ¬ (x1 = ((x2 + x3) / 2))) : x1 < ((x2 + x3) / 2) := nt fun g => ((nE h2).elim (fun q0 => (far [x1, ((x2 + x3) / 2), x2, x3] [(1, .v 1, .v 0), (1, .a (.v 0) (.n 1), .v 1)] rfl g q0)) fun q0 => (far [x1, ((x2 + x3) / 2), x2, x3] [(1, .a (.v 0) (.n 1), .a (.v 1) (.n 1)), (1, .a (.v 1) (.n 1), .v 0)] rfl h1 q0))
theorem om211 (h1 : (x1 + x4) ≤ x3) (h2 : x5 = x3) (h3 : (x2 + 1) = x4) : ((x1 + 1) + x2) ≤ x3 := nl fun g => (far [x1, x2, x3, x4, x5] [(1, .a (.v 0) (.v 3), .v 2), (1, .a (.v 1) (.n 1), .v 3), (1, .a (.v 2) (.n 1), .a (.a (.v 0) (.n 1)) (.v 1))] rfl h1 (eL h3) g)
theorem om212 (h1 : (x3 = (x1 + 1)) ∧ (x4 ≤ x5)) (h2 : (x3 + x6) ≤ x2) : (x1 + 1) ≤ x2 := nl fun g => (far [x1, x2, x3, x4, x5, x6] [(1, .a (.v 0) (.n 1), .v 2), (1, .a (.v 2) (.v 5), .v 1), (1, .a (.v 1) (.n 1), .a (.v 0) (.n 1))] rfl (geE h1.1) h2 g)
theorem om213 (h1 : x1 < x2) (h2 : x3 = (x2 + 1)) (h3 : x4 = (x2 + 2)) (h4 : (x2 + 1) = x1) : False := far [x1, x2, x3, x4] [(1, .a (.v 0) (.n 1), .v 1), (1, .a (.v 1) (.n 1), .v 0)] rfl h1 (eL h4)
theorem om214 (h1 : x1 < x2) (h2 : x3 = (x2 + 1)) (h3 : x4 = (x2 + 2)) (h4 : (x2 + 2) = x1) : False := far [x1, x2, x3, x4] [(1, .a (.v 0) (.n 1), .v 1), (1, .a (.v 1) (.n 2), .v 0)] rfl h1 (eL h4)
theorem om215 (h1 : x1 = (x2 + 1)) (h2 : x3 = (x2 + 2)) (h3 : x4 < x2) (h4 : x4 = (x2 + 1)) : False := far [x1, x2, x3, x4] [(1, .a (.v 3) (.n 1), .v 1), (1, .a (.v 1) (.n 1), .v 3)] rfl h3 (geE h4)
theorem om216 (h1 : x2 = x3) (h2 : x4 = x5) (h3 : x3 = x5) (h4 : x1 < x5) (h5 : x6 = x1) : x1 < x2 := nt fun g => (far [x1, x2, x3, x4, x5, x6] [(1, .v 2, .v 1), (1, .v 4, .v 2), (1, .a (.v 0) (.n 1), .v 4), (1, .v 1, .v 0)] rfl (geE h1) (geE h3) h4 g)
theorem om217 (h1 : x3 = x4) (h2 : x2 = x4) (h3 : x5 = x4) (h4 : x1 = x6) (h5 : x6 = x4) : x1 = x2 := an (nl fun g => (far [x1, x2, x3, x4, x5, x6] [(1, .v 3, .v 1), (1, .v 0, .v 5), (1, .v 5, .v 3), (1, .a (.v 1) (.n 1), .v 0)] rfl (geE h2) (eL h4) (eL h5) g)) (nl fun g => (far [x1, x2, x3, x4, x5, x6] [(1, .v 1, .v 3), (1, .v 5, .v 0), (1, .v 3, .v 5), (1, .a (.v 0) (.n 1), .v 1)] rfl (eL h2) (geE h4) (geE h5) g))
theorem om218 (h1 : x3 = x4) (h2 : x5 = x4) (h3 : x2 = x4) (h4 : x6 = x4) (h5 : x1 < x4) : x1 < x2 := nt fun g => (far [x1, x2, x3, x4, x5, x6] [(1, .v 3, .v 1), (1, .a (.v 0) (.n 1), .v 3), (1, .v 1, .v 0)] rfl (geE h3) h5 g)
theorem om219 (h1 : x3 = x4) (h2 : x5 = x4) (h3 : x6 = x4) (h4 : x2 = x4) (h5 : x1 < x4) : x1 < x2 := nt fun g => (far [x1, x2, x3, x4, x5, x6] [(1, .v 3, .v 1), (1, .a (.v 0) (.n 1), .v 3), (1, .v 1, .v 0)] rfl (geE h4) h5 g)
theorem om220 (h1 : ((x3 = x1) ∧ (x4 = x2)) ∨ ((x3 = x2) ∧ (x4 = x1))) (h2 : ((x3 : Nat) : Int) = ((x4 : Nat) : Int)) : x1 = x2 := an (nl fun g => (h1.elim (fun q0 => (far [x1, x2, x3, x4] [(1, .v 2, .v 3), (1, .a (.v 1) (.n 1), .v 0), (1, .v 0, .v 2), (1, .v 3, .v 1)] rfl (eL (eqI h2)) g (geE q0.1) (eL q0.2))) fun q0 => (far [x1, x2, x3, x4] [(1, .v 3, .v 2), (1, .a (.v 1) (.n 1), .v 0), (1, .v 2, .v 1), (1, .v 0, .v 3)] rfl (geE (eqI h2)) g (eL q0.1) (geE q0.2)))) (nl fun g => (h1.elim (fun q0 => (far [x1, x2, x3, x4] [(1, .v 3, .v 2), (1, .a (.v 0) (.n 1), .v 1), (1, .v 2, .v 0), (1, .v 1, .v 3)] rfl (geE (eqI h2)) g (eL q0.1) (geE q0.2))) fun q0 => (far [x1, x2, x3, x4] [(1, .v 2, .v 3), (1, .a (.v 0) (.n 1), .v 1), (1, .v 1, .v 2), (1, .v 3, .v 0)] rfl (eL (eqI h2)) g (geE q0.1) (eL q0.2))))
theorem om221 (h1 : x3 ≤ 22) (h2 : x1 < x4) (h3 : x5 ≤ x3) (h4 : x2 = (x4 + x5)) : (x1 + 1) ≤ x2 := nl fun g => (far [x1, x2, x3, x4, x5] [(1, .a (.v 0) (.n 1), .v 3), (1, .a (.v 3) (.v 4), .v 1), (1, .a (.v 1) (.n 1), .a (.v 0) (.n 1))] rfl h2 (geE h4) g)
theorem om222 (h1 : x1 ≤ (20 + (4 * x3))) (h2 : x2 ≤ 4) : (x1 + x2) ≤ (20 + (4 * (x3 + 1))) := nl fun g => (far [x1, x2, x3] [(1, .v 0, .a (.n 20) (.m 4 (.v 2))), (1, .v 1, .n 4), (1, .a (.a (.n 20) (.m 4 (.a (.v 2) (.n 1)))) (.n 1), .a (.v 0) (.v 1))] rfl h1 h2 g)
theorem om223 (h1 : x2 < x3) (h2 : x3 = x4) (h3 : x3 ≤ 11) (h4 : x1 = x5) (h5 : x5 ≤ x4) : x1 < 1000 := nt fun g => (far [x1, x2, x3, x4, x5] [(1, .v 3, .v 2), (1, .v 2, .n 11), (1, .v 0, .v 4), (1, .v 4, .v 3), (1, .n 1000, .v 0)] rfl (geE h2) h3 (eL h4) h5 g)
theorem om224 (h1 : x1 = (x2 + 1)) (h2 : x3 = (x2 + 1)) (h3 : (x4 = 7) ∧ (x2 = 4)) : x1 ≤ 18 := nl fun g => (far [x1, x2, x3, x4] [(1, .v 0, .a (.v 1) (.n 1)), (1, .v 1, .n 4), (1, .a (.n 18) (.n 1), .v 0)] rfl (eL h1) (eL h3.2) g)
theorem om225 (h1 : x1 = (x2 + 1)) (h2 : x3 = (x2 + 1)) (h3 : (x4 = 7) ∧ (x2 = 4)) : x1 ≤ 31 := nl fun g => (far [x1, x2, x3, x4] [(1, .v 0, .a (.v 1) (.n 1)), (1, .v 1, .n 4), (1, .a (.n 31) (.n 1), .v 0)] rfl (eL h1) (eL h3.2) g)
theorem om226 (h1 : x3 = x2) (h2 : x4 = x2) (h3 : x5 = x2) (h4 : x1 = x6) (h5 : ¬ (x6 = x2)) : ¬ (x1 = x2) := fun g => ((nE h5).elim (fun q0 => (far [x3, x2, x4, x5, x1, x6] [(1, .v 4, .v 5), (1, .v 1, .v 4), (1, .a (.v 5) (.n 1), .v 1)] rfl (eL h4) (geE g) q0)) fun q0 => (far [x3, x2, x4, x5, x1, x6] [(1, .v 5, .v 4), (1, .v 4, .v 1), (1, .a (.v 1) (.n 1), .v 5)] rfl (geE h4) (eL g) q0))
theorem om227 (h1 : x1 = (x2 + 1)) (h2 : x3 = (x2 + 1)) (h3 : (x4 = 7) ∧ (x2 = 4)) : x1 ≤ 16777216 := nl fun g => (far [x1, x2, x3, x4] [(1, .v 0, .a (.v 1) (.n 1)), (1, .v 1, .n 4), (1, .a (.n 16777216) (.n 1), .v 0)] rfl (eL h1) (eL h3.2) g)
theorem om228 (h1 : x3 ≤ 2) (h2 : x1 ≤ 2) (h3 : x2 ≤ x4) (h4 : x3 < x1) : ((2 - x1) + x2) < ((2 - x3) + x4) := nt fun g => (far [(2 - x1), x2, (2 - x3), x4, x3, x1] [(1, .v 1, .v 3), (1, .a (.v 4) (.n 1), .v 5), (1, .a (.v 2) (.v 3), .a (.v 0) (.v 1)), (1, .n 2, .a (.v 2) (.v 4)), (1, .a (.v 0) (.v 5), .n 2)] rfl h3 h4 g sb1 (sb3 (nl fun g0_9 => (far [(2 - x1), x2, (2 - x3), x4, x3, x1] [(1, .v 5, .n 2), (1, .a (.n 2) (.n 1), .v 5)] rfl h2 g0_9))))
theorem om229 (h1 : x3 ≤ x1) (h2 : x3 ≤ 2) (h3 : x1 ≤ 2) (h4 : x2 < x4) : ((2 - x1) + x2) < ((2 - x3) + x4) := nt fun g => (far [(2 - x1), x2, (2 - x3), x4, x3, x1] [(1, .v 4, .v 5), (1, .a (.v 1) (.n 1), .v 3), (1, .a (.v 2) (.v 3), .a (.v 0) (.v 1)), (1, .n 2, .a (.v 2) (.v 4)), (1, .a (.v 0) (.v 5), .n 2)] rfl h1 h4 g sb1 (sb3 (nl fun g0_9 => (far [(2 - x1), x2, (2 - x3), x4, x3, x1] [(1, .v 5, .n 2), (1, .a (.n 2) (.n 1), .v 5)] rfl h3 g0_9))))
theorem om230 (h1 : x1 ≤ (40 + (10 * x3))) (h2 : x2 ≤ 4) : (x1 + (2 * x2)) ≤ (40 + (10 * (x3 + 1))) := nl fun g => (far [x1, x2, x3] [(1, .v 0, .a (.n 40) (.m 10 (.v 2))), (2, .v 1, .n 4), (1, .a (.a (.n 40) (.m 10 (.a (.v 2) (.n 1)))) (.n 1), .a (.v 0) (.m 2 (.v 1)))] rfl h1 h2 g)
theorem om231 (h1 : x3 = x4) (h2 : x2 = x4) (h3 : (((x5 : Nat) : Int) - (1 : Int)) = ((x4 : Nat) : Int)) (h4 : x1 < x4) : x1 < x2 := nt fun g => (far [x1, x2, x3, x4] [(1, .v 3, .v 1), (1, .a (.v 0) (.n 1), .v 3), (1, .v 1, .v 0)] rfl (geE h2) h4 g)
theorem om232 (h1 : x2 = x3) (h2 : (x3 + (22 * x4)) ≤ 700) (h3 : ((x1 : Nat) : Int) < ((x2 : Nat) : Int)) : x1 < 1000000 := nt fun g => (far [x1, x2, x3, x4] [(1, .v 1, .v 2), (1, .a (.v 2) (.m 22 (.v 3)), .n 700), (1, .a (.v 0) (.n 1), .v 1), (1, .n 1000000, .v 0)] rfl (eL h1) h2 (ltI h3) g)
theorem om233 (h1 : ((x5 + x2) + (22 * x3)) ≤ x4) (h2 : x1 ≤ (x5 + 1)) : ((x1 + x2) + (22 * x3)) ≤ (x4 + 1) := nl fun g => (far [x1, x2, x3, x4, x5] [(1, .a (.a (.v 4) (.v 1)) (.m 22 (.v 2)), .v 3), (1, .v 0, .a (.v 4) (.n 1)), (1, .a (.a (.v 3) (.n 1)) (.n 1), .a (.a (.v 0) (.v 1)) (.m 22 (.v 2)))] rfl h1 h2 g)
theorem om234 (h1 : x3 = x2) (h2 : (((x4 : Nat) : Int) - (1 : Int)) = ((x2 : Nat) : Int)) (h3 : x1 < (x2 + 1)) (h4 : ¬ (x1 < x2)) : x1 = x2 := an (nl fun g => (far [x1, x2, x3] [(1, .a (.v 0) (.n 1), .a (.v 1) (.n 1)), (1, .a (.v 1) (.n 1), .v 0)] rfl h3 g)) (nl fun g => (far [x1, x2, x3] [(1, .v 1, .v 0), (1, .a (.v 0) (.n 1), .v 1)] rfl (nl h4) g))
theorem om235 (h1 : x3 = (x5 + 1)) (h2 : ((x1 + x2) + (22 * x5)) ≤ x4) : ((x1 + x2) + (22 * x3)) ≤ (x4 + 22) := nl fun g => (far [x1, x2, x3, x4, x5] [(22, .v 2, .a (.v 4) (.n 1)), (1, .a (.a (.v 0) (.v 1)) (.m 22 (.v 4)), .v 3), (1, .a (.a (.v 3) (.n 22)) (.n 1), .a (.a (.v 0) (.v 1)) (.m 22 (.v 2)))] rfl (eL h1) h2 g)
theorem om236 (h1 : x3 ≤ 2) (h2 : x4 = x5) (h3 : x5 ≤ (2 * x2)) (h4 : x1 ≤ (x4 + x3)) : x1 ≤ (2 * (x2 + 1)) := nl fun g => (far [x1, x2, x3, x4, x5] [(1, .v 2, .n 2), (1, .v 3, .v 4), (1, .v 4, .m 2 (.v 1)), (1, .v 0, .a (.v 3) (.v 2)), (1, .a (.m 2 (.a (.v 1) (.n 1))) (.n 1), .v 0)] rfl h1 (eL h2) h3 h4 g)
theorem om237 (h1 : x3 = x4) (h2 : x2 = x4) (h3 : x1 < x5) (h4 : x5 < x4) (h5 : x6 = x5) (h6 : x7 = x1) : x1 < x2 := nt fun g => (far [x1, x2, x3, x4, x5, x6, x7] [(1, .v 3, .v 1), (1, .a (.v 0) (.n 1), .v 4), (1, .a (.v 4) (.n 1), .v 3), (1, .v 1, .v 0)] rfl (geE h2) h3 h4 g)
theorem om238 (h1 : x1 ≤ 9) (h2 : x4 ≤ (13 + x3)) (h3 : x2 ≤ (10 * x4)) : ((x1 + 1) + x2) ≤ (10 * (14 + x3)) := nl fun g => (far [x1, x2, x3, x4] [(1, .v 0, .n 9), (10, .v 3, .a (.n 13) (.v 2)), (1, .v 1, .m 10 (.v 3)), (1, .a (.m 10 (.a (.n 14) (.v 2))) (.n 1), .a (.a (.v 0) (.n 1)) (.v 1))] rfl h1 h2 h3 g)
theorem om239 (h1 : x4 = x1) (h2 : (((x5 : Nat) : Int) - (1 : Int)) = ((x1 : Nat) : Int)) (h3 : x3 < x1) (h4 : x1 = x3) : (x1 < x1) ∧ (x2 = x3) := ⟨(nt fun g => (far [x1, x4, x3, x2] [(1, .a (.v 2) (.n 1), .v 0), (1, .v 0, .v 2)] rfl h3 (eL h4))), (an (nl fun g => (far [x1, x4, x3, x2] [(1, .a (.v 2) (.n 1), .v 0), (1, .v 0, .v 2)] rfl h3 (eL h4))) (nl fun g => (far [x1, x4, x3, x2] [(1, .a (.v 2) (.n 1), .v 0), (1, .v 0, .v 2)] rfl h3 (eL h4))))⟩
theorem om240 (h1 : x2 < x3) (h2 : x3 = x4) (h3 : x3 ≤ 11) (h4 : x5 = x6) (h5 : x6 ≤ x4) (h6 : x1 ≤ x6) : x1 ≤ 11 := nl fun g => (far [x1, x2, x3, x4, x5, x6] [(1, .v 3, .v 2), (1, .v 2, .n 11), (1, .v 5, .v 3), (1, .v 0, .v 5), (1, .a (.n 11) (.n 1), .v 0)] rfl (geE h2) h3 h5 h6 g)
theorem om241 (h1 : x3 = x1) (h2 : (x1 + (22 * x4)) ≤ 700) (h3 : ((x2 : Nat) : Int) < ((x3 : Nat) : Int)) : (x1 - (x2 + 1)) ≤ 700 := nl fun g => (far [(x1 - (x2 + 1)), x3, x1, x4, x2] [(1, .a (.v 2) (.m 22 (.v 3)), .n 700), (1, .a (.n 700) (.n 1), .v 0), (1, .v 0, .v 2)] rfl h2 g sb2)
theorem om242 (h1 : (x1 + x2) ≤ x3) (h2 : x4 = x3) (h3 : (((x5 : Nat) : Int) - (1 : Int)) = ((x3 : Nat) : Int)) : (x1 + (x2 + 1)) ≤ (x3 + 1) := nl fun g => (far [x1, x2, x3, x4] [(1, .a (.v 0) (.v 1), .v 2), (1, .a (.a (.v 2) (.n 1)) (.n 1), .a (.v 0) (.a (.v 1) (.n 1)))] rfl h1 g)
theorem om243 (h1 : x2 < 18) (h2 : x1 = (x2 + 1)) (h3 : x3 = (x2 + 1)) (h4 : ¬ ((7 * 3) ≤ ((x2 + 1) * 5))) : x1 ≤ 4 := nl fun g => (far [x1, x2, x3] [(5, .v 0, .a (.v 1) (.n 1)), (1, .a (.r (.a (.v 1) (.n 1)) 5) (.n 1), .m 7 (.n 3)), (5, .a (.n 4) (.n 1), .v 0)] rfl (eL h2) (nt h4) g)
theorem om244 (h1 : x3 = x2) (h2 : x4 = x2) (h3 : (((x5 : Nat) : Int) - (1 : Int)) = ((x2 : Nat) : Int)) (h4 : ¬ (x1 < x2)) (h5 : x1 < (x4 + 1)) : x1 = x2 := an (nl fun g => (far [x1, x2, x3, x4] [(1, .v 3, .v 1), (1, .a (.v 0) (.n 1), .a (.v 3) (.n 1)), (1, .a (.v 1) (.n 1), .v 0)] rfl (eL h2) h5 g)) (nl fun g => (far [x1, x2, x3, x4] [(1, .v 1, .v 0), (1, .a (.v 0) (.n 1), .v 1)] rfl (nl h4) g))
theorem om245 (h1 : (x1 + (22 * x3)) ≤ 700) (h2 : x4 ≤ 22) (h3 : x5 = x4) (h4 : x2 ≤ x6) (h5 : x6 ≤ x4) : (x1 + x2) ≤ 730 := nl fun g => (far [x1, x2, x3, x4, x5, x6] [(1, .a (.v 0) (.m 22 (.v 2)), .n 700), (1, .v 3, .n 22), (1, .v 1, .v 5), (1, .v 5, .v 3), (1, .a (.n 730) (.n 1), .a (.v 0) (.v 1))] rfl h1 h2 h4 h5 g)
theorem om246 (h1 : x2 = x3) (h2 : x4 = x5) (h3 : x3 = x5) (h4 : x1 < x6) (h5 : x6 < x5) (h6 : x7 = x6) (h7 : x8 = x1) : x1 < x2 := nt fun g => (far [x1, x2, x3, x4, x5, x6, x7, x8] [(1, .v 2, .v 1), (1, .v 4, .v 2), (1, .a (.v 0) (.n 1), .v 5), (1, .a (.v 5) (.n 1), .v 4), (1, .v 1, .v 0)] rfl (geE h1) (geE h3) h4 h5 g)
theorem om247 (h1 : x3 = x4) (h2 : (((x5 : Nat) : Int) - (1 : Int)) = ((x4 : Nat) : Int)) (h3 : x6 = x4) (h4 : x7 = x4) (h5 : x7 < x4) : x1 = x2 := an (nl fun g => (far [x1, x2, x3, x4, x6, x7] [(1, .v 3, .v 5), (1, .a (.v 5) (.n 1), .v 3)] rfl (geE h4) h5)) (nl fun g => (far [x1, x2, x3, x4, x6, x7] [(1, .v 3, .v 5), (1, .a (.v 5) (.n 1), .v 3)] rfl (geE h4) h5))
theorem om248 (h1 : x1 ≤ (60 + (4 * x3))) (h2 : x3 < 6) (h3 : x4 ≤ 2) (h4 : 0 < x4) (h5 : x2 < x4) : ((x1 + 1) + x2) ≤ 1000 := nl fun g => (far [x1, x2, x3, x4] [(1, .v 0, .a (.n 60) (.m 4 (.v 2))), (4, .a (.v 2) (.n 1), .n 6), (1, .v 3, .n 2), (1, .a (.v 1) (.n 1), .v 3), (1, .a (.n 1000) (.n 1), .a (.a (.v 0) (.n 1)) (.v 1))] rfl h1 h2 h3 h5 g)
theorem om249 (h1 : x3 ≤ 11) (h2 : x1 = x4) (h3 : x2 = x5) (h4 : x4 ≤ x6) (h5 : x5 ≤ x6) (h6 : x6 ≤ (2 * x3)) : (x1 + x2) ≤ 16777216 := nl fun g => (far [x1, x2, x3, x4, x5, x6] [(4, .v 2, .n 11), (1, .v 0, .v 3), (1, .v 1, .v 4), (1, .v 3, .v 5), (1, .v 4, .v 5), (2, .v 5, .m 2 (.v 2)), (1, .a (.n 16777216) (.n 1), .a (.v 0) (.v 1))] rfl h1 (eL h2) (eL h3) h4 h5 h6 g)
theorem om250 (h1 : x1 < x2) (h2 : x3 = x1) (h3 : x4 = x2) (h4 : x5 = x1) (h5 : x6 = x2) (h6 : x7 = x1) (h7 : x8 = x2) : ¬ (x1 = x2) := fun g => (far [x1, x2, x3, x4, x5, x6, x7, x8] [(1, .a (.v 0) (.n 1), .v 1), (1, .v 1, .v 0)] rfl h1 (geE g))
theorem om251 (h1 : x3 < x4) (h2 : x5 = x3) (h3 : x6 = x4) (h4 : x1 = x3) (h5 : x2 = x4) (h6 : x7 = x3) (h7 : x8 = x4) : ¬ (x1 = x2) := fun g => (far [x3, x4, x5, x6, x1, x2, x7, x8] [(1, .a (.v 0) (.n 1), .v 1), (1, .v 4, .v 0), (1, .v 1, .v 5), (1, .v 5, .v 4)] rfl h1 (eL h4) (geE h5) (geE g))
theorem om252 (h1 : x1 < 18) (h2 : x2 = (x1 + 1)) (h3 : x3 = (x1 + 1)) (h4 : (7 * 3) ≤ ((x1 + 1) * 5)) (h5 : x1 ≤ 4) : x1 = 4 := an (nl fun g => (far [x1, x2, x3] [(1, .v 0, .n 4), (1, .a (.n 4) (.n 1), .v 0)] rfl h5 g)) (nl fun g => (far [x1, x2, x3] [(1, .m 7 (.n 3), .r (.a (.v 0) (.n 1)) 5), (5, .a (.v 0) (.n 1), .n 4)] rfl h4 g))
theorem om253 (h1 : x1 ≤ (60 + (4 * x3))) (h2 : x2 ≤ 2) (h3 : 0 < x2) (h4 : x4 = x2) : ((x1 + 1) + x2) ≤ (60 + (4 * (x3 + 1))) := nl fun g => (far [x1, x2, x3, x4] [(1, .v 0, .a (.n 60) (.m 4 (.v 2))), (1, .v 1, .n 2), (1, .a (.a (.n 60) (.m 4 (.a (.v 2) (.n 1)))) (.n 1), .a (.a (.v 0) (.n 1)) (.v 1))] rfl h1 h2 g)
theorem om254 (h1 : x5 ≤ 11) (h2 : x2 ≤ x6) (h3 : x6 ≤ (2 * x5)) (h4 : (x3 + 1) = x4) : ((x1 + x2) + (22 * x3)) ≤ (x1 + (22 * x4)) := nl fun g => (far [x1, x2, x3, x4, x5, x6] [(2, .v 4, .n 11), (1, .v 1, .v 5), (1, .v 5, .m 2 (.v 4)), (22, .a (.v 2) (.n 1), .v 3), (1, .a (.a (.v 0) (.m 22 (.v 3))) (.n 1), .a (.a (.v 0) (.v 1)) (.m 22 (.v 2)))] rfl h1 h2 h3 (eL h4) g)
theorem om255 (h1 : x2 < 18) (h2 : x3 = (x2 + 1)) (h3 : x4 = (x2 + 1)) (h4 : (31 * 3) ≤ ((x2 + 1) * 5)) : (x1 = 7) ∧ (x2 = 4) := ⟨(an (nl fun g => (far [x1, x2, x3, x4] [(5, .a (.v 1) (.n 1), .n 18), (1, .m 31 (.n 3), .r (.a (.v 1) (.n 1)) 5)] rfl h1 h4)) (nl fun g => (far [x1, x2, x3, x4] [(5, .a (.v 1) (.n 1), .n 18), (1, .m 31 (.n 3), .r (.a (.v 1) (.n 1)) 5)] rfl h1 h4))), (an (nl fun g => (far [x1, x2, x3, x4] [(5, .a (.v 1) (.n 1), .n 18), (1, .m 31 (.n 3), .r (.a (.v 1) (.n 1)) 5)] rfl h1 h4)) (nl fun g => (far [x1, x2, x3, x4] [(5, .a (.v 1) (.n 1), .n 18), (1, .m 31 (.n 3), .r (.a (.v 1) (.n 1)) 5)] rfl h1 h4)))⟩
theorem om256 (h1 : x3 = x4) (h2 : (x4 + (22 * x5)) ≤ 700) (h3 : ((x2 : Nat) : Int) < ((x3 : Nat) : Int)) (h4 : x1 ≤ 730) : (x1 - (x2 + 1)) ≤ 16777216 := nl fun g => (far [(x1 - (x2 + 1)), x3, x4, x5, x2, x1] [(1, .v 5, .n 730), (1, .a (.n 16777216) (.n 1), .v 0), (1, .v 0, .v 5)] rfl h4 g sb2)
theorem om257 (h1 : x1 ≤ (3 + (3 * x3))) (h2 : x2 ≤ 2) (h3 : 0 < x2) (h4 : x4 = x2) (h5 : x5 = x4) : ((x1 + 1) + x2) ≤ (3 + (3 * (x3 + 1))) := nl fun g => (far [x1, x2, x3, x4, x5] [(1, .v 0, .a (.n 3) (.m 3 (.v 2))), (1, .v 1, .n 2), (1, .a (.a (.n 3) (.m 3 (.a (.v 2) (.n 1)))) (.n 1), .a (.a (.v 0) (.n 1)) (.v 1))] rfl h1 h2 g)
theorem om258 (h1 : x6 ≤ 22) (h2 : x3 < x5) (h3 : x7 ≤ x6) (h4 : x1 < x4) (h5 : x2 = (x5 + x7)) : ((23 * x1) + (x2 - (x3 + 1))) < ((23 * x4) + (x5 - x3)) := nt fun g => (far [x1, (x2 - (x3 + 1)), x4, (x5 - x3), x6, x3, x5, x7, x2] [(1, .v 4, .n 22), (1, .v 7, .v 4), (23, .a (.v 0) (.n 1), .v 2), (1, .v 8, .a (.v 6) (.v 7)), (1, .a (.m 23 (.v 2)) (.v 3), .a (.m 23 (.v 0)) (.v 1)), (1, .v 6, .a (.v 3) (.v 5)), (1, .a (.v 1) (.a (.v 5) (.n 1)), .v 8)] rfl h1 h3 h4 (eL h5) g sb1 (sb3 (nl fun g0_11 => (far [x1, (x2 - (x3 + 1)), x4, (x5 - x3), x6, x3, x5, x7, x2] [(1, .a (.v 5) (.n 1), .v 6), (1, .a (.v 6) (.v 7), .v 8), (1, .a (.v 8) (.n 1), .a (.v 5) (.n 1))] rfl h2 (geE h5) g0_11))))
theorem om259 (h1 : x3 ≤ 22) (h2 : x4 < x5) (h3 : x6 ≤ x3) (h4 : x2 < x7) (h5 : x1 = (x5 + x6)) (h6 : (x5 + (22 * x7)) ≤ 700) : (x1 + (22 * x2)) ≤ 700 := nl fun g => (far [x1, x2, x3, x4, x5, x6, x7] [(1, .v 2, .n 22), (1, .v 5, .v 2), (22, .a (.v 1) (.n 1), .v 6), (1, .v 0, .a (.v 4) (.v 5)), (1, .a (.v 4) (.m 22 (.v 6)), .n 700), (1, .a (.n 700) (.n 1), .a (.v 0) (.m 22 (.v 1)))] rfl h1 h3 h4 (eL h5) h6 g)
theorem om260 (h1 : x3 = x4) (h2 : x2 = x4) (h3 : (((x5 : Nat) : Int) - (1 : Int)) = ((x4 : Nat) : Int)) (h4 : x6 = x4) (h5 : x1 < (x4 + 1)) (h6 : x7 = x4) (h7 : ¬ (x1 < x4)) : x1 = x2 := an (nl fun g => (far [x1, x2, x3, x4, x6, x7] [(1, .v 3, .v 1), (1, .a (.v 0) (.n 1), .a (.v 3) (.n 1)), (1, .a (.v 1) (.n 1), .v 0)] rfl (geE h2) h5 g)) (nl fun g => (far [x1, x2, x3, x4, x6, x7] [(1, .v 1, .v 3), (1, .v 3, .v 0), (1, .a (.v 0) (.n 1), .v 1)] rfl (eL h2) (nl h7) g))
theorem om261 (h1 : x3 < 9) (h2 : x1 ≤ (3 + (3 * x4))) (h3 : x4 < x3) (h4 : x5 ≤ 2) (h5 : 0 < x5) (h6 : x6 = x2) (h7 : x2 < x5) : ((x1 + 1) + x2) ≤ 1000 := nl fun g => (far [x1, x2, x3, x4, x5, x6] [(3, .a (.v 2) (.n 1), .n 9), (1, .v 0, .a (.n 3) (.m 3 (.v 3))), (3, .a (.v 3) (.n 1), .v 2), (1, .v 4, .n 2), (1, .a (.v 1) (.n 1), .v 4), (1, .a (.n 1000) (.n 1), .a (.a (.v 0) (.n 1)) (.v 1))] rfl h1 h2 h3 h4 h7 g)
theorem om262 (h1 : x3 < x2) (h2 : x4 = x3) (h3 : x5 = x2) (h4 : x6 = x3) (h5 : x7 = x2) (h6 : x8 = x3) (h7 : x9 = x2) (h8 : x1 = x10) (h9 : ¬ (x10 = x2)) (h10 : ¬ (x10 = x3)) : ¬ (x1 = x2) := fun g => ((nE h9).elim (fun q0 => (far [x3, x2, x4, x5, x6, x7, x8, x9, x1, x10] [(1, .v 8, .v 9), (1, .v 1, .v 8), (1, .a (.v 9) (.n 1), .v 1)] rfl (eL h8) (geE g) q0)) fun q0 => (far [x3, x2, x4, x5, x6, x7, x8, x9, x1, x10] [(1, .v 9, .v 8), (1, .v 8, .v 1), (1, .a (.v 1) (.n 1), .v 9)] rfl (geE h8) (eL g) q0))
end A3
section A1
/- small steps of arithmetic, each once -/
theorem rm0 {a k r : Nat} (h : a + k < r := by with_reducible assumption) : a < r := by exact om34 h
theorem rm1 {a k r j : Nat} (h : a + k < r := by with_reducible assumption) (e : Nat.ble j k = true := by with_unfolding_all rfl) : a + j < r := by have := Nat.le_of_ble_eq_true e; exact om123 h this
theorem rm2 {a k r i j : Nat} (h : a + k < r := by with_reducible assumption) (e : Nat.ble (i + j) k = true := by with_unfolding_all rfl) : a + i + j < r := by have := Nat.le_of_ble_eq_true e; exact om166 h this
theorem rm3 {a k r i j l : Nat} (h : a + k < r := by with_reducible assumption) (e : Nat.ble (i + j + l) k = true := by with_unfolding_all rfl) : a + i + j + l < r := by have := Nat.le_of_ble_eq_true e; exact om204 h this
theorem ll {a k m : Nat} (h : a ≤ k := by with_reducible assumption) (e : Nat.ble k m = true := by with_unfolding_all rfl) : a ≤ m := Nat.le_trans h (Nat.le_of_ble_eq_true e)
theorem lt_ {a k m : Nat} (h : a ≤ k := by with_reducible assumption) (e : Nat.blt k m = true := by with_unfolding_all rfl) : a < m := Nat.lt_of_le_of_lt h (Nat.le_of_ble_eq_true e)
theorem tt {a k m : Nat} (h : a < k := by with_reducible assumption) (e : Nat.ble k m = true := by with_unfolding_all rfl) : a < m := Nat.lt_of_lt_of_le h (Nat.le_of_ble_eq_true e)
theorem tl {a k m : Nat} (h : a < k := by with_reducible assumption) (e : Nat.ble k (m + 1) = true := by with_unfolding_all rfl) : a ≤ m := Nat.le_of_lt_succ (Nat.lt_of_lt_of_le h (Nat.le_of_ble_eq_true e))
theorem ll1 {a k m : Nat} (h : a ≤ k := by with_reducible assumption) (e : Nat.ble (k + 1) m = true := by with_unfolding_all rfl) : a + 1 ≤ m := Nat.le_trans (Nat.succ_le_succ h) (Nat.le_of_ble_eq_true e)
theorem tl1 {a k m : Nat} (h : a < k := by with_reducible assumption) (e : Nat.ble k m = true := by with_unfolding_all rfl) : a + 1 ≤ m := Nat.le_trans h (Nat.le_of_ble_eq_true e)
theorem tt1 {a k m : Nat} (h : a < k := by with_reducible assumption) (e : Nat.blt k m = true := by with_unfolding_all rfl) : a + 1 < m := Nat.lt_of_le_of_lt h (Nat.le_of_ble_eq_true e)
theorem ell {a b k m : Nat} (q : a = b := by with_reducible assumption) (h : b ≤ k := by with_reducible assumption) (e : Nat.ble k m = true := by with_unfolding_all rfl) : a ≤ m := q ▸ ll h e
theorem elt {a b k m : Nat} (q : a = b := by with_reducible assumption) (h : b ≤ k := by with_reducible assumption) (e : Nat.blt k m = true := by with_unfolding_all rfl) : a < m := q ▸ lt_ h e
theorem ett {a b k m : Nat} (q : a = b := by with_reducible assumption) (h : b < k := by with_reducible assumption) (e : Nat.ble k m = true := by with_unfolding_all rfl) : a < m := q ▸ tt h e
theorem etl {a b k m : Nat} (q : a = b := by with_reducible assumption) (h : b < k := by with_reducible assumption) (e : Nat.ble k (m + 1) = true := by with_unfolding_all rfl) : a ≤ m := q ▸ tl h e
theorem lll {a b k m : Nat} (q : a ≤ b := by with_reducible assumption) (h : b ≤ k := by with_reducible assumption) (e : Nat.ble k m = true := by with_unfolding_all rfl) : a ≤ m := ll (Nat.le_trans q h) e
theorem llt {a b k m : Nat} (q : a ≤ b := by with_reducible assumption) (h : b ≤ k := by with_reducible assumption) (e : Nat.blt k m = true := by with_unfolding_all rfl) : a < m := lt_ (Nat.le_trans q h) e
theorem tlt {a b k m : Nat} (q : a < b := by with_reducible assumption) (h : b ≤ k := by with_reducible assumption) (e : Nat.ble k m = true := by with_unfolding_all rfl) : a < m := tt (Nat.lt_of_lt_of_le q h) e
theorem ltt {a b k m : Nat} (q : a ≤ b := by with_reducible assumption) (h : b < k := by with_reducible assumption) (e : Nat.ble k m = true := by with_unfolding_all rfl) : a < m := tt (Nat.lt_of_le_of_lt q h) e
theorem ltl {a b k m : Nat} (q : a ≤ b := by with_reducible assumption) (h : b < k := by with_reducible assumption) (e : Nat.ble k (m + 1) = true := by with_unfolding_all rfl) : a ≤ m := tl (Nat.lt_of_le_of_lt q h) e
theorem tle {a b c : Nat} (h : a < b := by with_reducible assumption) (q : b = c := by with_reducible assumption) : a < c := q ▸ h
theorem cst {a b : Nat} (h : (a : Int) = (b : Int) := by with_reducible assumption) : a = b := Int.ofNat.inj h
theorem p63p {a m : Nat} (h : a < m := by with_reducible assumption) (e : Nat.ble m 9223372036854775808 = true := by with_unfolding_all rfl) : (a : Int) < 2 ^ 63 := by have := Nat.le_of_ble_eq_true e; exact om157 h this
theorem m63p {a : Nat} : -(2 ^ 63 : Int) ≤ (a : Int) := by exact om19
theorem z_ {a : Nat} : (0 : Int) ≤ (a : Int) := Int.natCast_nonneg a
theorem cl {a b : Nat} (h : a < b := by with_reducible assumption) : (a : Int) < (b : Int) := Int.ofNat_lt.mpr h
theorem pos_ {a b : Nat} (h : a < b := by with_reducible assumption) : 0 < b := Nat.lt_of_le_of_lt (Nat.zero_le a) h
theorem s_ {a b : Nat} (h : a < b := by with_reducible assumption) : a < b + 1 := Nat.lt_succ_of_lt h
theorem ndc {x a b : Nat} {l : List Nat} (k : l.Nodup → a ≠ b) : (x :: l).Nodup → a ≠ b := fun n => k (List.nodup_cons.mp n).2
theorem ndh {a b : Nat} {l : List Nat} (h : b ∈ l) : (a :: l).Nodup → a ≠ b := fun n q => (List.nodup_cons.mp n).1 (q ▸ h)
theorem ndI {l : List Nat} (nd : l.Nodup) {a b : Nat} (k : l.Nodup → a ≠ b) : a ≠ b := k nd
end A1
section A2
/- eliminations in one step -/
theorem elA {p0 : Prop} {p1 : Prop} {c : Prop} (h : p0 ∧ p1) (k : p0 → p1 → c) : c := h.elim fun a0 a1 => k a0 a1
theorem elAA {p0 : Prop} {p1 : Prop} {p2 : Prop} {c : Prop} (h : p0 ∧ p1 ∧ p2) (k : p0 → p1 → p2 → c) : c := h.elim fun a0 a1 => a1.elim fun a1 a2 => k a0 a1 a2
theorem elAAA {p0 : Prop} {p1 : Prop} {p2 : Prop} {p3 : Prop} {c : Prop} (h : p0 ∧ p1 ∧ p2 ∧ p3) (k : p0 → p1 → p2 → p3 → c) : c := h.elim fun a0 a1 => a1.elim fun a1 a2 => a2.elim fun a2 a3 => k a0 a1 a2 a3
theorem elAAAA {p0 : Prop} {p1 : Prop} {p2 : Prop} {p3 : Prop} {p4 : Prop} {c : Prop} (h : p0 ∧ p1 ∧ p2 ∧ p3 ∧ p4) (k : p0 → p1 → p2 → p3 → p4 → c) : c := h.elim fun a0 a1 => a1.elim fun a1 a2 => a2.elim fun a2 a3 => a3.elim fun a3 a4 => k a0 a1 a2 a3 a4
theorem elAAAAAAAAA {p0 : Prop} {p1 : Prop} {p2 : Prop} {p3 : Prop} {p4 : Prop} {p5 : Prop} {p6 : Prop} {p7 : Prop} {p8 : Prop} {p9 : Prop} {c : Prop} (h : p0 ∧ p1 ∧ p2 ∧ p3 ∧ p4 ∧ p5 ∧ p6 ∧ p7 ∧ p8 ∧ p9) (k : p0 → p1 → p2 → p3 → p4 → p5 → p6 → p7 → p8 → p9 → c) : c := h.elim fun a0 a1 => a1.elim fun a1 a2 => a2.elim fun a2 a3 => a3.elim fun a3 a4 => a4.elim fun a4 a5 => a5.elim fun a5 a6 => a6.elim fun a6 a7 => a7.elim fun a7 a8 => a8.elim fun a8 a9 => k a0 a1 a2 a3 a4 a5 a6 a7 a8 a9
theorem elAE {α : Sort _} {p0 : Prop} {p1 : α → Prop} {c : Prop} (h : p0 ∧ ∃ x0 : α, p1 x0) (k : p0 → ∀ x0 : α, p1 x0 → c) : c := h.elim fun a0 a1 => a1.elim fun a1 a2 => k a0 a1 a2
theorem elAEA {α : Sort _} {p0 : Prop} {p1 : α → Prop} {p2 : α → Prop} {c : Prop} (h : p0 ∧ ∃ x0 : α, p1 x0 ∧ p2 x0) (k : p0 → ∀ x0 : α, p1 x0 → p2 x0 → c) : c := h.elim fun a0 a1 => a1.elim fun a1 a2 => a2.elim fun a2 a3 => k a0 a1 a2 a3
theorem elAEAAAA {α : Sort _} {p0 : Prop} {p1 : α → Prop} {p2 : α → Prop} {p3 : α → Prop} {p4 : α → Prop} {p5 : α → Prop} {c : Prop} (h : p0 ∧ ∃ x0 : α, p1 x0 ∧ p2 x0 ∧ p3 x0 ∧ p4 x0 ∧ p5 x0) (k : p0 → ∀ x0 : α, p1 x0 → p2 x0 → p3 x0 → p4 x0 → p5 x0 → c) : c := h.elim fun a0 a1 => a1.elim fun a1 a2 => a2.elim fun a2 a3 => a3.elim fun a3 a4 => a4.elim fun a4 a5 => a5.elim fun a5 a6 => k a0 a1 a2 a3 a4 a5 a6
theorem elAEEEEEAA {α : Sort _} {β : Sort _} {γ : Sort _} {δ : Sort _} {ε : Sort _} {p0 : Prop} {p1 : α → β → γ → δ → ε → Prop} {p2 : α → β → γ → δ → ε → Prop} {p3 : α → β → γ → δ → ε → Prop} {c : Prop} (h : p0 ∧ ∃ x0 : α, ∃ x1 : β, ∃ x2 : γ, ∃ x3 : δ, ∃ x4 : ε, p1 x0 x1 x2 x3 x4 ∧ p2 x0 x1 x2 x3 x4 ∧ p3 x0 x1 x2 x3 x4) (k : p0 → ∀ x0 : α, ∀ x1 : β, ∀ x2 : γ, ∀ x3 : δ, ∀ x4 : ε, p1 x0 x1 x2 x3 x4 → p2 x0 x1 x2 x3 x4 → p3 x0 x1 x2 x3 x4 → c) : c := h.elim fun a0 a1 => a1.elim fun a1 a2 => a2.elim fun a2 a3 => a3.elim fun a3 a4 => a4.elim fun a4 a5 => a5.elim fun a5 a6 => a6.elim fun a6 a7 => a7.elim fun a7 a8 => k a0 a1 a2 a3 a4 a5 a6 a7 a8
theorem elE {α : Sort _} {p0 : α → Prop} {c : Prop} (h : ∃ x0 : α, p0 x0) (k : ∀ x0 : α, p0 x0 → c) : c := h.elim fun a0 a1 => k a0 a1
theorem elEA {α : Sort _} {p0 : α → Prop} {p1 : α → Prop} {c : Prop} (h : ∃ x0 : α, p0 x0 ∧ p1 x0) (k : ∀ x0 : α, p0 x0 → p1 x0 → c) : c := h.elim fun a0 a1 => a1.elim fun a1 a2 => k a0 a1 a2
theorem elEAA {α : Sort _} {p0 : α → Prop} {p1 : α → Prop} {p2 : α → Prop} {c : Prop} (h : ∃ x0 : α, p0 x0 ∧ p1 x0 ∧ p2 x0) (k : ∀ x0 : α, p0 x0 → p1 x0 → p2 x0 → c) : c := h.elim fun a0 a1 => a1.elim fun a1 a2 => a2.elim fun a2 a3 => k a0 a1 a2 a3
theorem elEAAA {α : Sort _} {p0 : α → Prop} {p1 : α → Prop} {p2 : α → Prop} {p3 : α → Prop} {c : Prop} (h : ∃ x0 : α, p0 x0 ∧ p1 x0 ∧ p2 x0 ∧ p3 x0) (k : ∀ x0 : α, p0 x0 → p1 x0 → p2 x0 → p3 x0 → c) : c := h.elim fun a0 a1 => a1.elim fun a1 a2 => a2.elim fun a2 a3 => a3.elim fun a3 a4 => k a0 a1 a2 a3 a4
theorem elEAAE {α : Sort _} {β : Sort _} {p0 : α → Prop} {p1 : α → Prop} {p2 : α → β → Prop} {c : Prop} (h : ∃ x0 : α, p0 x0 ∧ p1 x0 ∧ ∃ x1 : β, p2 x0 x1) (k : ∀ x0 : α, p0 x0 → p1 x0 → ∀ x1 : β, p2 x0 x1 → c) : c := h.elim fun a0 a1 => a1.elim fun a1 a2 => a2.elim fun a2 a3 => a3.elim fun a3 a4 => k a0 a1 a2 a3 a4
theorem elEAE {α : Sort _} {β : Sort _} {p0 : α → Prop} {p1 : α → β → Prop} {c : Prop} (h : ∃ x0 : α, p0 x0 ∧ ∃ x1 : β, p1 x0 x1) (k : ∀ x0 : α, p0 x0 → ∀ x1 : β, p1 x0 x1 → c) : c := h.elim fun a0 a1 => a1.elim fun a1 a2 => a2.elim fun a2 a3 => k a0 a1 a2 a3
theorem elEAEA {α : Sort _} {β : Sort _} {p0 : α → Prop} {p1 : α → β → Prop} {p2 : α → β → Prop} {c : Prop} (h : ∃ x0 : α, p0 x0 ∧ ∃ x1 : β, p1 x0 x1 ∧ p2 x0 x1) (k : ∀ x0 : α, p0 x0 → ∀ x1 : β, p1 x0 x1 → p2 x0 x1 → c) : c := h.elim fun a0 a1 => a1.elim fun a1 a2 => a2.elim fun a2 a3 => a3.elim fun a3 a4 => k a0 a1 a2 a3 a4
theorem elEAEE {α : Sort _} {β : Sort _} {γ : Sort _} {p0 : α → Prop} {p1 : α → β → γ → Prop} {c : Prop} (h : ∃ x0 : α, p0 x0 ∧ ∃ x1 : β, ∃ x2 : γ, p1 x0 x1 x2) (k : ∀ x0 : α, p0 x0 → ∀ x1 : β, ∀ x2 : γ, p1 x0 x1 x2 → c) : c := h.elim fun a0 a1 => a1.elim fun a1 a2 => a2.elim fun a2 a3 => a3.elim fun a3 a4 => k a0 a1 a2 a3 a4
theorem elEAEEA {α : Sort _} {β : Sort _} {γ : Sort _} {p0 : α → Prop} {p1 : α → β → γ → Prop} {p2 : α → β → γ → Prop} {c : Prop} (h : ∃ x0 : α, p0 x0 ∧ ∃ x1 : β, ∃ x2 : γ, p1 x0 x1 x2 ∧ p2 x0 x1 x2) (k : ∀ x0 : α, p0 x0 → ∀ x1 : β, ∀ x2 : γ, p1 x0 x1 x2 → p2 x0 x1 x2 → c) : c := h.elim fun a0 a1 => a1.elim fun a1 a2 => a2.elim fun a2 a3 => a3.elim fun a3 a4 => a4.elim fun a4 a5 => k a0 a1 a2 a3 a4 a5
theorem elEAEEEA {α : Sort _} {β : Sort _} {γ : Sort _} {δ : Sort _} {p0 : α → Prop} {p1 : α → β → γ → δ → Prop} {p2 : α → β → γ → δ → Prop} {c : Prop} (h : ∃ x0 : α, p0 x0 ∧ ∃ x1 : β, ∃ x2 : γ, ∃ x3 : δ, p1 x0 x1 x2 x3 ∧ p2 x0 x1 x2 x3) (k : ∀ x0 : α, p0 x0 → ∀ x1 : β, ∀ x2 : γ, ∀ x3 : δ, p1 x0 x1 x2 x3 → p2 x0 x1 x2 x3 → c) : c := h.elim fun a0 a1 => a1.elim fun a1 a2 => a2.elim fun a2 a3 => a3.elim fun a3 a4 => a4.elim fun a4 a5 => a5.elim fun a5 a6 => k a0 a1 a2 a3 a4 a5 a6
theorem elEE {α : Sort _} {β : Sort _} {p0 : α → β → Prop} {c : Prop} (h : ∃ x0 : α, ∃ x1 : β, p0 x0 x1) (k : ∀ x0 : α, ∀ x1 : β, p0 x0 x1 → c) : c := h.elim fun a0 a1 => a1.elim fun a1 a2 => k a0 a1 a2
theorem elEEA {α : Sort _} {β : Sort _} {p0 : α → β → Prop} {p1 : α → β → Prop} {c : Prop} (h : ∃ x0 : α, ∃ x1 : β, p0 x0 x1 ∧ p1 x0 x1) (k : ∀ x0 : α, ∀ x1 : β, p0 x0 x1 → p1 x0 x1 → c) : c := h.elim fun a0 a1 => a1.elim fun a1 a2 => a2.elim fun a2 a3 => k a0 a1 a2 a3
theorem elEEAA {α : Sort _} {β : Sort _} {p0 : α → β → Prop} {p1 : α → β → Prop} {p2 : α → β → Prop} {c : Prop} (h : ∃ x0 : α, ∃ x1 : β, p0 x0 x1 ∧ p1 x0 x1 ∧ p2 x0 x1) (k : ∀ x0 : α, ∀ x1 : β, p0 x0 x1 → p1 x0 x1 → p2 x0 x1 → c) : c := h.elim fun a0 a1 => a1.elim fun a1 a2 => a2.elim fun a2 a3 => a3.elim fun a3 a4 => k a0 a1 a2 a3 a4
theorem elEEAAA {α : Sort _} {β : Sort _} {p0 : α → β → Prop} {p1 : α → β → Prop} {p2 : α → β → Prop} {p3 : α → β → Prop} {c : Prop} (h : ∃ x0 : α, ∃ x1 : β, p0 x0 x1 ∧ p1 x0 x1 ∧ p2 x0 x1 ∧ p3 x0 x1) (k : ∀ x0 : α, ∀ x1 : β, p0 x0 x1 → p1 x0 x1 → p2 x0 x1 → p3 x0 x1 → c) : c := h.elim fun a0 a1 => a1.elim fun a1 a2 => a2.elim fun a2 a3 => a3.elim fun a3 a4 => a4.elim fun a4 a5 => k a0 a1 a2 a3 a4 a5
theorem elEEAAAAA {α : Sort _} {β : Sort _} {p0 : α → β → Prop} {p1 : α → β → Prop} {p2 : α → β → Prop} {p3 : α → β → Prop} {p4 : α → β → Prop} {p5 : α → β → Prop} {c : Prop} (h : ∃ x0 : α, ∃ x1 : β, p0 x0 x1 ∧ p1 x0 x1 ∧ p2 x0 x1 ∧ p3 x0 x1 ∧ p4 x0 x1 ∧ p5 x0 x1) (k : ∀ x0 : α, ∀ x1 : β, p0 x0 x1 → p1 x0 x1 → p2 x0 x1 → p3 x0 x1 → p4 x0 x1 → p5 x0 x1 → c) : c := h.elim fun a0 a1 => a1.elim fun a1 a2 => a2.elim fun a2 a3 => a3.elim fun a3 a4 => a4.elim fun a4 a5 => a5.elim fun a5 a6 => a6.elim fun a6 a7 => k a0 a1 a2 a3 a4 a5 a6 a7
theorem elEEE {α : Sort _} {β : Sort _} {γ : Sort _} {p0 : α → β → γ → Prop} {c : Prop} (h : ∃ x0 : α, ∃ x1 : β, ∃ x2 : γ, p0 x0 x1 x2) (k : ∀ x0 : α, ∀ x1 : β, ∀ x2 : γ, p0 x0 x1 x2 → c) : c := h.elim fun a0 a1 => a1.elim fun a1 a2 => a2.elim fun a2 a3 => k a0 a1 a2 a3
theorem elEEEA {α : Sort _} {β : Sort _} {γ : Sort _} {p0 : α → β → γ → Prop} {p1 : α → β → γ → Prop} {c : Prop} (h : ∃ x0 : α, ∃ x1 : β, ∃ x2 : γ, p0 x0 x1 x2 ∧ p1 x0 x1 x2) (k : ∀ x0 : α, ∀ x1 : β, ∀ x2 : γ, p0 x0 x1 x2 → p1 x0 x1 x2 → c) : c := h.elim fun a0 a1 => a1.elim fun a1 a2 => a2.elim fun a2 a3 => a3.elim fun a3 a4 => k a0 a1 a2 a3 a4
theorem elEEEAA {α : Sort _} {β : Sort _} {γ : Sort _} {p0 : α → β → γ → Prop} {p1 : α → β → γ → Prop} {p2 : α → β → γ → Prop} {c : Prop} (h : ∃ x0 : α, ∃ x1 : β, ∃ x2 : γ, p0 x0 x1 x2 ∧ p1 x0 x1 x2 ∧ p2 x0 x1 x2) (k : ∀ x0 : α, ∀ x1 : β, ∀ x2 : γ, p0 x0 x1 x2 → p1 x0 x1 x2 → p2 x0 x1 x2 → c) : c := h.elim fun a0 a1 => a1.elim fun a1 a2 => a2.elim fun a2 a3 => a3.elim fun a3 a4 => a4.elim fun a4 a5 => k a0 a1 a2 a3 a4 a5
theorem elEEEAAA {α : Sort _} {β : Sort _} {γ : Sort _} {p0 : α → β → γ → Prop} {p1 : α → β → γ → Prop} {p2 : α → β → γ → Prop} {p3 : α → β → γ → Prop} {c : Prop} (h : ∃ x0 : α, ∃ x1 : β, ∃ x2 : γ, p0 x0 x1 x2 ∧ p1 x0 x1 x2 ∧ p2 x0 x1 x2 ∧ p3 x0 x1 x2) (k : ∀ x0 : α, ∀ x1 : β, ∀ x2 : γ, p0 x0 x1 x2 → p1 x0 x1 x2 → p2 x0 x1 x2 → p3 x0 x1 x2 → c) : c := h.elim fun a0 a1 => a1.elim fun a1 a2 => a2.elim fun a2 a3 => a3.elim fun a3 a4 => a4.elim fun a4 a5 => a5.elim fun a5 a6 => k a0 a1 a2 a3 a4 a5 a6
theorem elEEEAAAAA {α : Sort _} {β : Sort _} {γ : Sort _} {p0 : α → β → γ → Prop} {p1 : α → β → γ → Prop} {p2 : α → β → γ → Prop} {p3 : α → β → γ → Prop} {p4 : α → β → γ → Prop} {p5 : α → β → γ → Prop} {c : Prop} (h : ∃ x0 : α, ∃ x1 : β, ∃ x2 : γ, p0 x0 x1 x2 ∧ p1 x0 x1 x2 ∧ p2 x0 x1 x2 ∧ p3 x0 x1 x2 ∧ p4 x0 x1 x2 ∧ p5 x0 x1 x2) (k : ∀ x0 : α, ∀ x1 : β, ∀ x2 : γ, p0 x0 x1 x2 → p1 x0 x1 x2 → p2 x0 x1 x2 → p3 x0 x1 x2 → p4 x0 x1 x2 → p5 x0 x1 x2 → c) : c := h.elim fun a0 a1 => a1.elim fun a1 a2 => a2.elim fun a2 a3 => a3.elim fun a3 a4 => a4.elim fun a4 a5 => a5.elim fun a5 a6 => a6.elim fun a6 a7 => a7.elim fun a7 a8 => k a0 a1 a2 a3 a4 a5 a6 a7 a8
theorem elEEEEAA {α : Sort _} {β : Sort _} {γ : Sort _} {δ : Sort _} {p0 : α → β → γ → δ → Prop} {p1 : α → β → γ → δ → Prop} {p2 : α → β → γ → δ → Prop} {c : Prop} (h : ∃ x0 : α, ∃ x1 : β, ∃ x2 : γ, ∃ x3 : δ, p0 x0 x1 x2 x3 ∧ p1 x0 x1 x2 x3 ∧ p2 x0 x1 x2 x3) (k : ∀ x0 : α, ∀ x1 : β, ∀ x2 : γ, ∀ x3 : δ, p0 x0 x1 x2 x3 → p1 x0 x1 x2 x3 → p2 x0 x1 x2 x3 → c) : c := h.elim fun a0 a1 => a1.elim fun a1 a2 => a2.elim fun a2 a3 => a3.elim fun a3 a4 => a4.elim fun a4 a5 => a5.elim fun a5 a6 => k a0 a1 a2 a3 a4 a5 a6
theorem elEEEEAAAAA {α : Sort _} {β : Sort _} {γ : Sort _} {δ : Sort _} {p0 : α → β → γ → δ → Prop} {p1 : α → β → γ → δ → Prop} {p2 : α → β → γ → δ → Prop} {p3 : α → β → γ → δ → Prop} {p4 : α → β → γ → δ → Prop} {p5 : α → β → γ → δ → Prop} {c : Prop} (h : ∃ x0 : α, ∃ x1 : β, ∃ x2 : γ, ∃ x3 : δ, p0 x0 x1 x2 x3 ∧ p1 x0 x1 x2 x3 ∧ p2 x0 x1 x2 x3 ∧ p3 x0 x1 x2 x3 ∧ p4 x0 x1 x2 x3 ∧ p5 x0 x1 x2 x3) (k : ∀ x0 : α, ∀ x1 : β, ∀ x2 : γ, ∀ x3 : δ, p0 x0 x1 x2 x3 → p1 x0 x1 x2 x3 → p2 x0 x1 x2 x3 → p3 x0 x1 x2 x3 → p4 x0 x1 x2 x3 → p5 x0 x1 x2 x3 → c) : c := h.elim fun a0 a1 => a1.elim fun a1 a2 => a2.elim fun a2 a3 => a3.elim fun a3 a4 => a4.elim fun a4 a5 => a5.elim fun a5 a6 => a6.elim fun a6 a7 => a7.elim fun a7 a8 => a8.elim fun a8 a9 => k a0 a1 a2 a3 a4 a5 a6 a7 a8 a9
theorem elEEEEEAAAA {α : Sort _} {β : Sort _} {γ : Sort _} {δ : Sort _} {ε : Sort _} {p0 : α → β → γ → δ → ε → Prop} {p1 : α → β → γ → δ → ε → Prop} {p2 : α → β → γ → δ → ε → Prop} {p3 : α → β → γ → δ → ε → Prop} {p4 : α → β → γ → δ → ε → Prop} {c : Prop} (h : ∃ x0 : α, ∃ x1 : β, ∃ x2 : γ, ∃ x3 : δ, ∃ x4 : ε, p0 x0 x1 x2 x3 x4 ∧ p1 x0 x1 x2 x3 x4 ∧ p2 x0 x1 x2 x3 x4 ∧ p3 x0 x1 x2 x3 x4 ∧ p4 x0 x1 x2 x3 x4) (k : ∀ x0 : α, ∀ x1 : β, ∀ x2 : γ, ∀ x3 : δ, ∀ x4 : ε, p0 x0 x1 x2 x3 x4 → p1 x0 x1 x2 x3 x4 → p2 x0 x1 x2 x3 x4 → p3 x0 x1 x2 x3 x4 → p4 x0 x1 x2 x3 x4 → c) : c := h.elim fun a0 a1 => a1.elim fun a1 a2 => a2.elim fun a2 a3 => a3.elim fun a3 a4 => a4.elim fun a4 a5 => a5.elim fun a5 a6 => a6.elim fun a6 a7 => a7.elim fun a7 a8 => a8.elim fun a8 a9 => k a0 a1 a2 a3 a4 a5 a6 a7 a8 a9
theorem elEEEEEAAAAAA {α : Sort _} {β : Sort _} {γ : Sort _} {δ : Sort _} {ε : Sort _} {p0 : α → β → γ → δ → ε → Prop} {p1 : α → β → γ → δ → ε → Prop} {p2 : α → β → γ → δ → ε → Prop} {p3 : α → β → γ → δ → ε → Prop} {p4 : α → β → γ → δ → ε → Prop} {p5 : α → β → γ → δ → ε → Prop} {p6 : α → β → γ → δ → ε → Prop} {c : Prop} (h : ∃ x0 : α, ∃ x1 : β, ∃ x2 : γ, ∃ x3 : δ, ∃ x4 : ε, p0 x0 x1 x2 x3 x4 ∧ p1 x0 x1 x2 x3 x4 ∧ p2 x0 x1 x2 x3 x4 ∧ p3 x0 x1 x2 x3 x4 ∧ p4 x0 x1 x2 x3 x4 ∧ p5 x0 x1 x2 x3 x4 ∧ p6 x0 x1 x2 x3 x4) (k : ∀ x0 : α, ∀ x1 : β, ∀ x2 : γ, ∀ x3 : δ, ∀ x4 : ε, p0 x0 x1 x2 x3 x4 → p1 x0 x1 x2 x3 x4 → p2 x0 x1 x2 x3 x4 → p3 x0 x1 x2 x3 x4 → p4 x0 x1 x2 x3 x4 → p5 x0 x1 x2 x3 x4 → p6 x0 x1 x2 x3 x4 → c) : c := h.elim fun a0 a1 => a1.elim fun a1 a2 => a2.elim fun a2 a3 => a3.elim fun a3 a4 => a4.elim fun a4 a5 => a5.elim fun a5 a6 => a6.elim fun a6 a7 => a7.elim fun a7 a8 => a8.elim fun a8 a9 => a9.elim fun a9 a10 => a10.elim fun a10 a11 => k a0 a1 a2 a3 a4 a5 a6 a7 a8 a9 a10 a11
end A2
section Hk
open PySem PySem.W PyProof.Rows
set_option maxHeartbeats 0
noncomputable def fnParts : Option Stmt → Arguments × List Stmt × Scope
  | some (.FunctionDef _ a b _ _ _ sc _ _ _) => (a, b, sc)
  | _ => default
noncomputable def clsBody : Option Stmt → List Stmt
  | some (.ClassDef _ _ _ b _ _ _ _ _ _ _) => b
  | _ => []
noncomputable def dfn (j : Nat) : Arguments × List Stmt × Scope := fnParts PySem.Challenge.pw_pq0072_01.main.body[j]?
noncomputable def mth (i j : Nat) : Arguments × List Stmt × Scope := fnParts (clsBody PySem.Challenge.pw_pq0072_01.main.body[i]?)[j]?
noncomputable def fo (x : Arguments × List Stmt × Scope) (name qual : Str) (pm cd : Value) : FuncData :=
  { name := name, qualname := qual, params := x.1, body := .stmts x.2.1, scope := x.2.2, globals := 3, closure := [], defaults := .none, kwdefaults := .none, doc := .none, pyModule := pm, annotations := none, code := cd, closureTuple := .none, builtins := 0 }
open PySem.Str (ofString)
noncomputable def o3 (P : Params) : Obj := ⟨(.type "dict"), none, .dict [⟨PyData.keyHash P (ofString "__name__"), (.str (ofString "__name__") 165), (.str (ofString "law_pq0072_01") 791)⟩, ⟨PyData.keyHash P (ofString "__doc__"), (.str (ofString "__doc__") 166), .none⟩, ⟨PyData.keyHash P (ofString "__package__"), (.str (ofString "__package__") 167), .none⟩, ⟨PyData.keyHash P (ofString "__loader__"), (.str (ofString "__loader__") 168), (.builtin "__main__.__loader__#opaque")⟩, ⟨PyData.keyHash P (ofString "__spec__"), (.str (ofString "__spec__") 169), .none⟩, ⟨PyData.keyHash P (ofString "__annotations__"), (.str (ofString "__annotations__") 170), (.ref 6)⟩, ⟨PyData.keyHash P (ofString "__builtins__"), (.str (ofString "__builtins__") 171), (.ref 4)⟩, ⟨PyData.keyHash P (ofString "__file__"), (.str (ofString "__file__") 173), (.str (ofString "/claim/cut.py") 172)⟩, ⟨PyData.keyHash P (ofString "__cached__"), (.str (ofString "__cached__") 174), .none⟩, ⟨PyData.keyHash P (ofString "_wall"), (.str (ofString "_wall") 193), (.ref 21)⟩, ⟨PyData.keyHash P (ofString "whole_of"), (.str (ofString "whole_of") 201), (.ref 26)⟩, ⟨PyData.keyHash P (ofString "Consts"), (.str (ofString "Consts") 249), (.ref 57)⟩, ⟨PyData.keyHash P (ofString "Keeper"), (.str (ofString "Keeper") 325), (.ref 114)⟩, ⟨PyData.keyHash P (ofString "HeapError"), (.str (ofString "HeapError") 365), (.ref 144)⟩, ⟨PyData.keyHash P (ofString "TermFault"), (.str (ofString "TermFault") 381), (.ref 157)⟩, ⟨PyData.keyHash P (ofString "is_op"), (.str (ofString "is_op") 389), (.ref 164)⟩, ⟨PyData.keyHash P (ofString "Bank"), (.str (ofString "Bank") 520), (.ref 268)⟩, ⟨PyData.keyHash P (ofString "Unions"), (.str (ofString "Unions") 622), (.ref 350)⟩, ⟨PyData.keyHash P (ofString "Heap"), (.str (ofString "Heap") 790), (.ref 482)⟩, ⟨PyData.keyHash P (ofString "_law_leaves"), (.str (ofString "_law_leaves") 810), (.ref 497)⟩, ⟨PyData.keyHash P (ofString "_law_ops"), (.str (ofString "_law_ops") 827), (.ref 506)⟩, ⟨PyData.keyHash P (ofString "_law_next"), (.str (ofString "_law_next") 836), (.ref 513)⟩, ⟨PyData.keyHash P (ofString "_law_reckoned"), (.str (ofString "_law_reckoned") 846), (.ref 520)⟩, ⟨PyData.keyHash P (ofString "_law_both"), (.str (ofString "_law_both") 854), (.ref 527)⟩, ⟨PyData.keyHash P (ofString "_law_due"), (.str (ofString "_law_due") 860), (.ref 532)⟩, ⟨PyData.keyHash P (ofString "_law_is_kept"), (.str (ofString "_law_is_kept") 866), (.ref 537)⟩, ⟨PyData.keyHash P (ofString "_law_merged"), (.str (ofString "_law_merged") 878), (.ref 544)⟩, ⟨PyData.keyHash P (ofString "law"), (.str (ofString "law") 884), (.ref 549)⟩].toArray 28, [].toArray⟩
noncomputable def o25 (_ : Params) : Obj := ⟨(.type "code"), none, .fields [(.str (ofString "whole_of") 196), (.str (ofString "whole_of") 197), (.str (ofString "/claim/cut.py") 198), (.int 5 0), (.int 1 0), (.int 0 0), (.int 0 0), (.int 3 0), (.ref 22), (.bool true), (.int 181 0), (.ref 23), .none, .none, .none, (.ref 24), (.int 199 0), (.int 5 0), (.str (ofString "/claim/cut.py") 200)].toArray, [].toArray⟩
noncomputable def o26 (_ : Params) : Obj := ⟨(.type "function"), none, .func (fo (dfn 2) (ofString "whole_of") (ofString "whole_of") (.str (ofString "alikeheap.analyses") 194) (.ref 25)), [].toArray⟩
noncomputable def o39 (_ : Params) : Obj := ⟨(.type "code"), none, .fields [(.str (ofString "__init__") 214), (.str (ofString "Consts.__init__") 215), (.str (ofString "/claim/cut.py") 216), (.int 12 0), (.int 2 0), (.int 0 0), (.int 0 0), (.int 3 0), (.ref 34), (.bool true), (.int 181 0), (.ref 35), .none, (.ref 36), (.ref 37), (.ref 38), (.int 219 0), (.int 12 0), (.str (ofString "/claim/cut.py") 220)].toArray, [].toArray⟩
noncomputable def o40 (_ : Params) : Obj := ⟨(.type "function"), none, .func (fo (mth 3 0) (ofString "__init__") (ofString "Consts.__init__") (.str (ofString "alikeheap.analyses") 194) (.ref 39)), [].toArray⟩
noncomputable def o46 (_ : Params) : Obj := ⟨(.type "code"), none, .fields [(.str (ofString "of_node") 222), (.str (ofString "Consts.of_node") 223), (.str (ofString "/claim/cut.py") 224), (.int 15 0), (.int 3 0), (.int 0 0), (.int 0 0), (.int 3 0), (.ref 41), (.bool true), (.int 181 0), (.ref 42), .none, (.ref 43), (.ref 44), (.ref 45), (.int 229 0), (.int 15 0), (.str (ofString "/claim/cut.py") 230)].toArray, [].toArray⟩
noncomputable def o47 (_ : Params) : Obj := ⟨(.type "function"), none, .func (fo (mth 3 1) (ofString "of_node") (ofString "Consts.of_node") (.str (ofString "alikeheap.analyses") 194) (.ref 46)), [].toArray⟩
noncomputable def o53 (_ : Params) : Obj := ⟨(.type "code"), none, .fields [(.str (ofString "joined") 232), (.str (ofString "Consts.joined") 233), (.str (ofString "/claim/cut.py") 234), (.int 27 0), (.int 3 0), (.int 0 0), (.int 0 0), (.int 3 0), (.ref 48), (.bool true), (.int 181 0), (.ref 49), .none, (.ref 50), (.ref 51), (.ref 52), (.int 238 0), (.int 27 0), (.str (ofString "/claim/cut.py") 239)].toArray, [].toArray⟩
noncomputable def o54 (_ : Params) : Obj := ⟨(.type "function"), none, .func (fo (mth 3 2) (ofString "joined") (ofString "Consts.joined") (.str (ofString "alikeheap.analyses") 194) (.ref 53)), [].toArray⟩
noncomputable def o56 (P : Params) : Obj := ⟨(.type "dict"), none, .dict [⟨PyData.keyHash P (ofString "__module__"), (.str (ofString "__module__") 209), (.str (ofString "alikeheap.analyses") 194)⟩, ⟨PyData.keyHash P (ofString "__firstlineno__"), (.str (ofString "__firstlineno__") 213), (.int 10 212)⟩, ⟨PyData.keyHash P (ofString "__init__"), (.str (ofString "__init__") 221), (.ref 40)⟩, ⟨PyData.keyHash P (ofString "of_node"), (.str (ofString "of_node") 231), (.ref 47)⟩, ⟨PyData.keyHash P (ofString "joined"), (.str (ofString "joined") 240), (.ref 54)⟩, ⟨PyData.keyHash P (ofString "__static_attributes__"), (.str (ofString "__static_attributes__") 242), (.ref 55)⟩, ⟨PyData.keyHash P (ofString "__dict__"), (.str (ofString "__dict__") 244), (.ref 58)⟩, ⟨PyData.keyHash P (ofString "__weakref__"), (.str (ofString "__weakref__") 246), (.ref 59)⟩, ⟨PyData.keyHash P (ofString "__doc__"), (.str (ofString "__doc__") 247), .none⟩].toArray 4, [].toArray⟩
noncomputable def o57 (_ : Params) : Obj := ⟨(.type "type"), none, .cls { name := (ofString "Consts"), bases := [(.type "object")], mro := [(.ref 57), (.type "object")], ns := 56, qualname := (ofString "Consts"), hasDict := true, slotNames := [], subclasses := [], abstract := false, collection := none, hasDel := false }, [none, none, some (.str (ofString "Consts") 202), some (.str (ofString "Consts") 210), some (.builtin "object.__new__"), some (.bool true)].toArray⟩
noncomputable def o74 (_ : Params) : Obj := ⟨(.type "code"), none, .fields [(.str (ofString "__init__") 262), (.str (ofString "Keeper.__init__") 263), (.str (ofString "/claim/cut.py") 264), (.int 33 0), (.int 3 0), (.int 0 0), (.int 0 0), (.int 3 0), (.ref 69), (.bool true), (.int 181 0), (.ref 70), .none, (.ref 71), (.ref 72), (.ref 73), (.int 268 0), (.int 33 0), (.str (ofString "/claim/cut.py") 269)].toArray, [].toArray⟩
noncomputable def o75 (_ : Params) : Obj := ⟨(.type "function"), none, .func (fo (mth 4 0) (ofString "__init__") (ofString "Keeper.__init__") (.str (ofString "alikeheap.analyses") 194) (.ref 74)), [].toArray⟩
noncomputable def o81 (_ : Params) : Obj := ⟨(.type "code"), none, .fields [(.str (ofString "value") 271), (.str (ofString "Keeper.value") 272), (.str (ofString "/claim/cut.py") 273), (.int 39 0), (.int 2 0), (.int 0 0), (.int 0 0), (.int 3 0), (.ref 76), (.bool true), (.int 181 0), (.ref 77), .none, (.ref 78), (.ref 79), (.ref 80), (.int 276 0), (.int 39 0), (.str (ofString "/claim/cut.py") 277)].toArray, [].toArray⟩
noncomputable def o82 (_ : Params) : Obj := ⟨(.type "function"), none, .func (fo (mth 4 1) (ofString "value") (ofString "Keeper.value") (.str (ofString "alikeheap.analyses") 194) (.ref 81)), [].toArray⟩
noncomputable def o88 (_ : Params) : Obj := ⟨(.type "code"), none, .fields [(.str (ofString "begun") 279), (.str (ofString "Keeper.begun") 280), (.str (ofString "/claim/cut.py") 281), (.int 42 0), (.int 1 0), (.int 0 0), (.int 0 0), (.int 3 0), (.ref 83), (.bool true), (.int 181 0), (.ref 84), .none, (.ref 85), (.ref 86), (.ref 87), (.int 286 0), (.int 42 0), (.str (ofString "/claim/cut.py") 287)].toArray, [].toArray⟩
noncomputable def o89 (_ : Params) : Obj := ⟨(.type "function"), none, .func (fo (mth 4 2) (ofString "begun") (ofString "Keeper.begun") (.str (ofString "alikeheap.analyses") 194) (.ref 88)), [].toArray⟩
noncomputable def o93 (_ : Params) : Obj := ⟨(.type "code"), none, .fields [(.str (ofString "reckoned") 289), (.str (ofString "Keeper.reckoned") 290), (.str (ofString "/claim/cut.py") 291), (.int 49 0), (.int 2 0), (.int 0 0), (.int 0 0), (.int 3 0), (.ref 90), (.bool true), (.int 181 0), (.ref 91), .none, .none, .none, (.ref 92), (.int 292 0), (.int 49 0), (.str (ofString "/claim/cut.py") 293)].toArray, [].toArray⟩
noncomputable def o94 (_ : Params) : Obj := ⟨(.type "function"), none, .func (fo (mth 4 3) (ofString "reckoned") (ofString "Keeper.reckoned") (.str (ofString "alikeheap.analyses") 194) (.ref 93)), [].toArray⟩
noncomputable def o98 (_ : Params) : Obj := ⟨(.type "code"), none, .fields [(.str (ofString "settle") 295), (.str (ofString "Keeper.settle") 296), (.str (ofString "/claim/cut.py") 297), (.int 56 0), (.int 1 0), (.int 0 0), (.int 0 0), (.int 3 0), (.ref 95), (.bool true), (.int 181 0), (.ref 96), .none, .none, .none, (.ref 97), (.int 298 0), (.int 56 0), (.str (ofString "/claim/cut.py") 299)].toArray, [].toArray⟩
noncomputable def o99 (_ : Params) : Obj := ⟨(.type "function"), none, .func (fo (mth 4 4) (ofString "settle") (ofString "Keeper.settle") (.str (ofString "alikeheap.analyses") 194) (.ref 98)), [].toArray⟩
noncomputable def o103 (_ : Params) : Obj := ⟨(.type "code"), none, .fields [(.str (ofString "clashes") 301), (.str (ofString "Keeper.clashes") 302), (.str (ofString "/claim/cut.py") 303), (.int 73 0), (.int 1 0), (.int 0 0), (.int 0 0), (.int 3 0), (.ref 100), (.bool true), (.int 181 0), (.ref 101), .none, .none, .none, (.ref 102), (.int 304 0), (.int 73 0), (.str (ofString "/claim/cut.py") 305)].toArray, [].toArray⟩
noncomputable def o104 (_ : Params) : Obj := ⟨(.type "function"), none, .func (fo (mth 4 5) (ofString "clashes") (ofString "Keeper.clashes") (.str (ofString "alikeheap.analyses") 194) (.ref 103)), [].toArray⟩
noncomputable def o113 (P : Params) : Obj := ⟨(.type "dict"), none, .dict [⟨PyData.keyHash P (ofString "__module__"), (.str (ofString "__module__") 257), (.str (ofString "alikeheap.analyses") 194)⟩, ⟨PyData.keyHash P (ofString "__firstlineno__"), (.str (ofString "__firstlineno__") 261), (.int 31 260)⟩, ⟨PyData.keyHash P (ofString "__init__"), (.str (ofString "__init__") 270), (.ref 75)⟩, ⟨PyData.keyHash P (ofString "value"), (.str (ofString "value") 278), (.ref 82)⟩, ⟨PyData.keyHash P (ofString "begun"), (.str (ofString "begun") 288), (.ref 89)⟩, ⟨PyData.keyHash P (ofString "reckoned"), (.str (ofString "reckoned") 294), (.ref 94)⟩, ⟨PyData.keyHash P (ofString "settle"), (.str (ofString "settle") 300), (.ref 99)⟩, ⟨PyData.keyHash P (ofString "clashes"), (.str (ofString "clashes") 306), (.ref 104)⟩, ⟨PyData.keyHash P (ofString "fold"), (.str (ofString "fold") 313), (.ref 111)⟩, ⟨PyData.keyHash P (ofString "__static_attributes__"), (.str (ofString "__static_attributes__") 318), (.ref 112)⟩, ⟨PyData.keyHash P (ofString "__dict__"), (.str (ofString "__dict__") 320), (.ref 115)⟩, ⟨PyData.keyHash P (ofString "__weakref__"), (.str (ofString "__weakref__") 322), (.ref 116)⟩, ⟨PyData.keyHash P (ofString "__doc__"), (.str (ofString "__doc__") 323), .none⟩].toArray 4, [].toArray⟩
noncomputable def o114 (_ : Params) : Obj := ⟨(.type "type"), none, .cls { name := (ofString "Keeper"), bases := [(.type "object")], mro := [(.ref 114), (.type "object")], ns := 113, qualname := (ofString "Keeper"), hasDict := true, slotNames := [], subclasses := [], abstract := false, collection := none, hasDel := false }, [none, none, some (.str (ofString "Keeper") 250), some (.str (ofString "Keeper") 258), some (.builtin "object.__new__"), some (.bool true)].toArray⟩
noncomputable def o163 (_ : Params) : Obj := ⟨(.type "code"), none, .fields [(.str (ofString "is_op") 384), (.str (ofString "is_op") 385), (.str (ofString "/claim/cut.py") 386), (.int 90 0), (.int 1 0), (.int 0 0), (.int 0 0), (.int 3 0), (.ref 160), (.bool true), (.int 181 0), (.ref 161), .none, .none, .none, (.ref 162), (.int 387 0), (.int 90 0), (.str (ofString "/claim/cut.py") 388)].toArray, [].toArray⟩
noncomputable def o164 (_ : Params) : Obj := ⟨(.type "function"), none, .func (fo (dfn 9) (ofString "is_op") (ofString "is_op") (.str (ofString "alikeheap.terms") 382) (.ref 163)), [].toArray⟩
noncomputable def o177 (_ : Params) : Obj := ⟨(.type "code"), none, .fields [(.str (ofString "__init__") 402), (.str (ofString "Bank.__init__") 403), (.str (ofString "/claim/cut.py") 404), (.int 94 0), (.int 1 0), (.int 0 0), (.int 0 0), (.int 3 0), (.ref 172), (.bool true), (.int 181 0), (.ref 173), .none, (.ref 174), (.ref 175), (.ref 176), (.int 406 0), (.int 94 0), (.str (ofString "/claim/cut.py") 407)].toArray, [].toArray⟩
noncomputable def o178 (_ : Params) : Obj := ⟨(.type "function"), none, .func (fo (mth 10 0) (ofString "__init__") (ofString "Bank.__init__") (.str (ofString "alikeheap.terms") 382) (.ref 177)), [].toArray⟩
noncomputable def o184 (_ : Params) : Obj := ⟨(.type "code"), none, .fields [(.str (ofString "size") 409), (.str (ofString "Bank.size") 410), (.str (ofString "/claim/cut.py") 411), (.int 100 0), (.int 1 0), (.int 0 0), (.int 0 0), (.int 3 0), (.ref 179), (.bool true), (.int 181 0), (.ref 180), .none, (.ref 181), (.ref 182), (.ref 183), (.int 413 0), (.int 100 0), (.str (ofString "/claim/cut.py") 414)].toArray, [].toArray⟩
noncomputable def o185 (_ : Params) : Obj := ⟨(.type "function"), none, .func (fo (mth 10 1) (ofString "size") (ofString "Bank.size") (.str (ofString "alikeheap.terms") 382) (.ref 184)), [].toArray⟩
noncomputable def o189 (_ : Params) : Obj := ⟨(.type "code"), none, .fields [(.str (ofString "take") 416), (.str (ofString "Bank.take") 417), (.str (ofString "/claim/cut.py") 418), (.int 103 0), (.int 3 0), (.int 0 0), (.int 0 0), (.int 3 0), (.ref 186), (.bool true), (.int 181 0), (.ref 187), .none, .none, .none, (.ref 188), (.int 419 0), (.int 103 0), (.str (ofString "/claim/cut.py") 420)].toArray, [].toArray⟩
noncomputable def o190 (_ : Params) : Obj := ⟨(.type "function"), none, .func (fo (mth 10 2) (ofString "take") (ofString "Bank.take") (.str (ofString "alikeheap.terms") 382) (.ref 189)), [].toArray⟩
noncomputable def o196 (_ : Params) : Obj := ⟨(.type "code"), none, .fields [(.str (ofString "require") 422), (.str (ofString "Bank.require") 423), (.str (ofString "/claim/cut.py") 424), (.int 117 0), (.int 2 0), (.int 0 0), (.int 0 0), (.int 3 0), (.ref 191), (.bool true), (.int 181 0), (.ref 192), .none, (.ref 193), (.ref 194), (.ref 195), (.int 427 0), (.int 117 0), (.str (ofString "/claim/cut.py") 428)].toArray, [].toArray⟩
noncomputable def o197 (_ : Params) : Obj := ⟨(.type "function"), none, .func (fo (mth 10 3) (ofString "require") (ofString "Bank.require") (.str (ofString "alikeheap.terms") 382) (.ref 196)), [].toArray⟩
noncomputable def o224 (_ : Params) : Obj := ⟨(.type "code"), none, .fields [(.str (ofString "op") 454), (.str (ofString "Bank.op") 455), (.str (ofString "/claim/cut.py") 456), (.int 130 0), (.int 2 0), (.int 0 0), (.int 0 0), (.int 3 0), (.ref 219), (.bool true), (.int 181 0), (.ref 220), .none, (.ref 221), (.ref 222), (.ref 223), (.int 459 0), (.int 130 0), (.str (ofString "/claim/cut.py") 460)].toArray, [].toArray⟩
noncomputable def o225 (_ : Params) : Obj := ⟨(.type "function"), none, .func (fo (mth 10 7) (ofString "op") (ofString "Bank.op") (.str (ofString "alikeheap.terms") 382) (.ref 224)), [].toArray⟩
noncomputable def o231 (_ : Params) : Obj := ⟨(.type "code"), none, .fields [(.str (ofString "kids") 462), (.str (ofString "Bank.kids") 463), (.str (ofString "/claim/cut.py") 464), (.int 133 0), (.int 2 0), (.int 0 0), (.int 0 0), (.int 3 0), (.ref 226), (.bool true), (.int 181 0), (.ref 227), .none, (.ref 228), (.ref 229), (.ref 230), (.int 467 0), (.int 133 0), (.str (ofString "/claim/cut.py") 468)].toArray, [].toArray⟩
noncomputable def o232 (_ : Params) : Obj := ⟨(.type "function"), none, .func (fo (mth 10 8) (ofString "kids") (ofString "Bank.kids") (.str (ofString "alikeheap.terms") 382) (.ref 231)), [].toArray⟩
noncomputable def o267 (P : Params) : Obj := ⟨(.type "dict"), none, .dict [⟨PyData.keyHash P (ofString "__module__"), (.str (ofString "__module__") 397), (.str (ofString "alikeheap.terms") 382)⟩, ⟨PyData.keyHash P (ofString "__firstlineno__"), (.str (ofString "__firstlineno__") 401), (.int 92 400)⟩, ⟨PyData.keyHash P (ofString "__init__"), (.str (ofString "__init__") 408), (.ref 178)⟩, ⟨PyData.keyHash P (ofString "size"), (.str (ofString "size") 415), (.ref 185)⟩, ⟨PyData.keyHash P (ofString "take"), (.str (ofString "take") 421), (.ref 190)⟩, ⟨PyData.keyHash P (ofString "require"), (.str (ofString "require") 429), (.ref 197)⟩, ⟨PyData.keyHash P (ofString "put"), (.str (ofString "put") 437), (.ref 204)⟩, ⟨PyData.keyHash P (ofString "put_all"), (.str (ofString "put_all") 445), (.ref 211)⟩, ⟨PyData.keyHash P (ofString "cut"), (.str (ofString "cut") 453), (.ref 218)⟩, ⟨PyData.keyHash P (ofString "op"), (.str (ofString "op") 461), (.ref 225)⟩, ⟨PyData.keyHash P (ofString "kids"), (.str (ofString "kids") 469), (.ref 232)⟩, ⟨PyData.keyHash P (ofString "node"), (.str (ofString "node") 477), (.ref 239)⟩, ⟨PyData.keyHash P (ofString "term"), (.str (ofString "term") 483), (.ref 244)⟩, ⟨PyData.keyHash P (ofString "weight"), (.str (ofString "weight") 491), (.ref 251)⟩, ⟨PyData.keyHash P (ofString "depth"), (.str (ofString "depth") 499), (.ref 258)⟩, ⟨PyData.keyHash P (ofString "seek"), (.str (ofString "seek") 508), (.ref 265)⟩, ⟨PyData.keyHash P (ofString "__static_attributes__"), (.str (ofString "__static_attributes__") 513), (.ref 266)⟩, ⟨PyData.keyHash P (ofString "__dict__"), (.str (ofString "__dict__") 515), (.ref 269)⟩, ⟨PyData.keyHash P (ofString "__weakref__"), (.str (ofString "__weakref__") 517), (.ref 270)⟩, ⟨PyData.keyHash P (ofString "__doc__"), (.str (ofString "__doc__") 518), .none⟩].toArray 4, [].toArray⟩
noncomputable def o268 (_ : Params) : Obj := ⟨(.type "type"), none, .cls { name := (ofString "Bank"), bases := [(.type "object")], mro := [(.ref 268), (.type "object")], ns := 267, qualname := (ofString "Bank"), hasDict := true, slotNames := [], subclasses := [], abstract := false, collection := none, hasDel := false }, [none, none, some (.str (ofString "Bank") 390), some (.str (ofString "Bank") 398), some (.builtin "object.__new__"), some (.bool true)].toArray⟩
noncomputable def o285 (_ : Params) : Obj := ⟨(.type "code"), none, .fields [(.str (ofString "__init__") 535), (.str (ofString "Unions.__init__") 536), (.str (ofString "/claim/cut.py") 537), (.int 162 0), (.int 1 0), (.int 0 0), (.int 0 0), (.int 3 0), (.ref 280), (.bool true), (.int 181 0), (.ref 281), .none, (.ref 282), (.ref 283), (.ref 284), (.int 539 0), (.int 162 0), (.str (ofString "/claim/cut.py") 540)].toArray, [].toArray⟩
noncomputable def o286 (_ : Params) : Obj := ⟨(.type "function"), none, .func (fo (mth 12 0) (ofString "__init__") (ofString "Unions.__init__") (.str (ofString "alikeheap.unions") 521) (.ref 285)), [].toArray⟩
noncomputable def o292 (_ : Params) : Obj := ⟨(.type "code"), none, .fields [(.str (ofString "make") 542), (.str (ofString "Unions.make") 543), (.str (ofString "/claim/cut.py") 544), (.int 167 0), (.int 1 0), (.int 0 0), (.int 0 0), (.int 3 0), (.ref 287), (.bool true), (.int 181 0), (.ref 288), .none, (.ref 289), (.ref 290), (.ref 291), (.int 546 0), (.int 167 0), (.str (ofString "/claim/cut.py") 547)].toArray, [].toArray⟩
noncomputable def o293 (_ : Params) : Obj := ⟨(.type "function"), none, .func (fo (mth 12 1) (ofString "make") (ofString "Unions.make") (.str (ofString "alikeheap.unions") 521) (.ref 292)), [].toArray⟩
noncomputable def o299 (_ : Params) : Obj := ⟨(.type "code"), none, .fields [(.str (ofString "size") 549), (.str (ofString "Unions.size") 550), (.str (ofString "/claim/cut.py") 551), (.int 172 0), (.int 1 0), (.int 0 0), (.int 0 0), (.int 3 0), (.ref 294), (.bool true), (.int 181 0), (.ref 295), .none, (.ref 296), (.ref 297), (.ref 298), (.int 553 0), (.int 172 0), (.str (ofString "/claim/cut.py") 554)].toArray, [].toArray⟩
noncomputable def o300 (_ : Params) : Obj := ⟨(.type "function"), none, .func (fo (mth 12 2) (ofString "size") (ofString "Unions.size") (.str (ofString "alikeheap.unions") 521) (.ref 299)), [].toArray⟩
noncomputable def o306 (_ : Params) : Obj := ⟨(.type "code"), none, .fields [(.str (ofString "find") 556), (.str (ofString "Unions.find") 557), (.str (ofString "/claim/cut.py") 558), (.int 175 0), (.int 2 0), (.int 0 0), (.int 0 0), (.int 3 0), (.ref 301), (.bool true), (.int 181 0), (.ref 302), .none, (.ref 303), (.ref 304), (.ref 305), (.int 561 0), (.int 175 0), (.str (ofString "/claim/cut.py") 562)].toArray, [].toArray⟩
noncomputable def o307 (_ : Params) : Obj := ⟨(.type "function"), none, .func (fo (mth 12 3) (ofString "find") (ofString "Unions.find") (.str (ofString "alikeheap.unions") 521) (.ref 306)), [].toArray⟩
noncomputable def o313 (_ : Params) : Obj := ⟨(.type "code"), none, .fields [(.str (ofString "merge") 564), (.str (ofString "Unions.merge") 565), (.str (ofString "/claim/cut.py") 566), (.int 180 0), (.int 3 0), (.int 0 0), (.int 0 0), (.int 3 0), (.ref 308), (.bool true), (.int 181 0), (.ref 309), .none, (.ref 310), (.ref 311), (.ref 312), (.int 572 0), (.int 180 0), (.str (ofString "/claim/cut.py") 573)].toArray, [].toArray⟩
noncomputable def o314 (_ : Params) : Obj := ⟨(.type "function"), none, .func (fo (mth 12 4) (ofString "merge") (ofString "Unions.merge") (.str (ofString "alikeheap.unions") 521) (.ref 313)), [].toArray⟩
noncomputable def o320 (_ : Params) : Obj := ⟨(.type "code"), none, .fields [(.str (ofString "members") 575), (.str (ofString "Unions.members") 576), (.str (ofString "/claim/cut.py") 577), (.int 189 0), (.int 2 0), (.int 0 0), (.int 0 0), (.int 3 0), (.ref 315), (.bool true), (.int 181 0), (.ref 316), .none, (.ref 317), (.ref 318), (.ref 319), (.int 580 0), (.int 189 0), (.str (ofString "/claim/cut.py") 581)].toArray, [].toArray⟩
noncomputable def o321 (_ : Params) : Obj := ⟨(.type "function"), none, .func (fo (mth 12 5) (ofString "members") (ofString "Unions.members") (.str (ofString "alikeheap.unions") 521) (.ref 320)), [].toArray⟩
noncomputable def o325 (_ : Params) : Obj := ⟨(.type "code"), none, .fields [(.str (ofString "classes") 583), (.str (ofString "Unions.classes") 584), (.str (ofString "/claim/cut.py") 585), (.int 192 0), (.int 1 0), (.int 0 0), (.int 0 0), (.int 3 0), (.ref 322), (.bool true), (.int 181 0), (.ref 323), .none, .none, .none, (.ref 324), (.int 586 0), (.int 192 0), (.str (ofString "/claim/cut.py") 587)].toArray, [].toArray⟩
noncomputable def o326 (_ : Params) : Obj := ⟨(.type "function"), none, .func (fo (mth 12 6) (ofString "classes") (ofString "Unions.classes") (.str (ofString "alikeheap.unions") 521) (.ref 325)), [].toArray⟩
noncomputable def o349 (P : Params) : Obj := ⟨(.type "dict"), none, .dict [⟨PyData.keyHash P (ofString "__module__"), (.str (ofString "__module__") 530), (.str (ofString "alikeheap.unions") 521)⟩, ⟨PyData.keyHash P (ofString "__firstlineno__"), (.str (ofString "__firstlineno__") 534), (.int 160 533)⟩, ⟨PyData.keyHash P (ofString "__init__"), (.str (ofString "__init__") 541), (.ref 286)⟩, ⟨PyData.keyHash P (ofString "make"), (.str (ofString "make") 548), (.ref 293)⟩, ⟨PyData.keyHash P (ofString "size"), (.str (ofString "size") 555), (.ref 300)⟩, ⟨PyData.keyHash P (ofString "find"), (.str (ofString "find") 563), (.ref 307)⟩, ⟨PyData.keyHash P (ofString "merge"), (.str (ofString "merge") 574), (.ref 314)⟩, ⟨PyData.keyHash P (ofString "members"), (.str (ofString "members") 582), (.ref 321)⟩, ⟨PyData.keyHash P (ofString "classes"), (.str (ofString "classes") 588), (.ref 326)⟩, ⟨PyData.keyHash P (ofString "log"), (.str (ofString "log") 595), (.ref 333)⟩, ⟨PyData.keyHash P (ofString "back"), (.str (ofString "back") 603), (.ref 340)⟩, ⟨PyData.keyHash P (ofString "cut"), (.str (ofString "cut") 611), (.ref 347)⟩, ⟨PyData.keyHash P (ofString "__static_attributes__"), (.str (ofString "__static_attributes__") 615), (.ref 348)⟩, ⟨PyData.keyHash P (ofString "__dict__"), (.str (ofString "__dict__") 617), (.ref 351)⟩, ⟨PyData.keyHash P (ofString "__weakref__"), (.str (ofString "__weakref__") 619), (.ref 352)⟩, ⟨PyData.keyHash P (ofString "__doc__"), (.str (ofString "__doc__") 620), .none⟩].toArray 4, [].toArray⟩
noncomputable def o350 (_ : Params) : Obj := ⟨(.type "type"), none, .cls { name := (ofString "Unions"), bases := [(.type "object")], mro := [(.ref 350), (.type "object")], ns := 349, qualname := (ofString "Unions"), hasDict := true, slotNames := [], subclasses := [], abstract := false, collection := none, hasDel := false }, [none, none, some (.str (ofString "Unions") 523), some (.str (ofString "Unions") 531), some (.builtin "object.__new__"), some (.bool true)].toArray⟩
noncomputable def o367 (_ : Params) : Obj := ⟨(.type "code"), none, .fields [(.str (ofString "__init__") 637), (.str (ofString "Heap.__init__") 638), (.str (ofString "/claim/cut.py") 639), (.int 206 0), (.int 1 0), (.int 0 0), (.int 0 0), (.int 3 0), (.ref 362), (.bool true), (.int 181 0), (.ref 363), .none, (.ref 364), (.ref 365), (.ref 366), (.int 641 0), (.int 206 0), (.str (ofString "/claim/cut.py") 642)].toArray, [].toArray⟩
noncomputable def o368 (_ : Params) : Obj := ⟨(.type "function"), none, .func (fo (mth 14 0) (ofString "__init__") (ofString "Heap.__init__") (.str (ofString "alikeheap.heap") 623) (.ref 367)), [].toArray⟩
noncomputable def o374 (_ : Params) : Obj := ⟨(.type "code"), none, .fields [(.str (ofString "size") 644), (.str (ofString "Heap.size") 645), (.str (ofString "/claim/cut.py") 646), (.int 215 0), (.int 1 0), (.int 0 0), (.int 0 0), (.int 3 0), (.ref 369), (.bool true), (.int 181 0), (.ref 370), .none, (.ref 371), (.ref 372), (.ref 373), (.int 648 0), (.int 215 0), (.str (ofString "/claim/cut.py") 649)].toArray, [].toArray⟩
noncomputable def o375 (_ : Params) : Obj := ⟨(.type "function"), none, .func (fo (mth 14 1) (ofString "size") (ofString "Heap.size") (.str (ofString "alikeheap.heap") 623) (.ref 374)), [].toArray⟩
noncomputable def o379 (_ : Params) : Obj := ⟨(.type "code"), none, .fields [(.str (ofString "node") 651), (.str (ofString "Heap.node") 652), (.str (ofString "/claim/cut.py") 653), (.int 218 0), (.int 2 0), (.int 0 0), (.int 0 0), (.int 3 0), (.ref 376), (.bool true), (.int 181 0), (.ref 377), .none, .none, .none, (.ref 378), (.int 654 0), (.int 218 0), (.str (ofString "/claim/cut.py") 655)].toArray, [].toArray⟩
noncomputable def o380 (_ : Params) : Obj := ⟨(.type "function"), none, .func (fo (mth 14 2) (ofString "node") (ofString "Heap.node") (.str (ofString "alikeheap.heap") 623) (.ref 379)), [].toArray⟩
noncomputable def o384 (_ : Params) : Obj := ⟨(.type "code"), none, .fields [(.str (ofString "add") 657), (.str (ofString "Heap.add") 658), (.str (ofString "/claim/cut.py") 659), (.int 221 0), (.int 3 0), (.int 0 0), (.int 0 0), (.int 3 0), (.ref 381), (.bool true), (.int 181 0), (.ref 382), .none, .none, .none, (.ref 383), (.int 660 0), (.int 221 0), (.str (ofString "/claim/cut.py") 661)].toArray, [].toArray⟩
noncomputable def o385 (_ : Params) : Obj := ⟨(.type "function"), none, .func (fo (mth 14 3) (ofString "add") (ofString "Heap.add") (.str (ofString "alikeheap.heap") 623) (.ref 384)), [].toArray⟩
noncomputable def o398 (_ : Params) : Obj := ⟨(.type "code"), none, .fields [(.str (ofString "look_at") 671), (.str (ofString "Heap.look_at") 672), (.str (ofString "/claim/cut.py") 673), (.int 235 0), (.int 2 0), (.int 0 0), (.int 0 0), (.int 3 0), (.ref 393), (.bool true), (.int 181 0), (.ref 394), .none, (.ref 395), (.ref 396), (.ref 397), (.int 677 0), (.int 235 0), (.str (ofString "/claim/cut.py") 678)].toArray, [].toArray⟩
noncomputable def o399 (_ : Params) : Obj := ⟨(.type "function"), none, .func (fo (mth 14 5) (ofString "look_at") (ofString "Heap.look_at") (.str (ofString "alikeheap.heap") 623) (.ref 398)), [].toArray⟩
noncomputable def o405 (_ : Params) : Obj := ⟨(.type "code"), none, .fields [(.str (ofString "find") 680), (.str (ofString "Heap.find") 681), (.str (ofString "/claim/cut.py") 682), (.int 240 0), (.int 2 0), (.int 0 0), (.int 0 0), (.int 3 0), (.ref 400), (.bool true), (.int 181 0), (.ref 401), .none, (.ref 402), (.ref 403), (.ref 404), (.int 685 0), (.int 240 0), (.str (ofString "/claim/cut.py") 686)].toArray, [].toArray⟩
noncomputable def o406 (_ : Params) : Obj := ⟨(.type "function"), none, .func (fo (mth 14 6) (ofString "find") (ofString "Heap.find") (.str (ofString "alikeheap.heap") 623) (.ref 405)), [].toArray⟩
noncomputable def o419 (_ : Params) : Obj := ⟨(.type "code"), none, .fields [(.str (ofString "merge") 697), (.str (ofString "Heap.merge") 698), (.str (ofString "/claim/cut.py") 699), (.int 246 0), (.int 4 0), (.int 0 0), (.int 0 0), (.int 3 0), (.ref 414), (.bool true), (.int 181 0), (.ref 415), .none, (.ref 416), (.ref 417), (.ref 418), (.int 704 0), (.int 246 0), (.str (ofString "/claim/cut.py") 705)].toArray, [].toArray⟩
noncomputable def o420 (_ : Params) : Obj := ⟨(.type "function"), none, .func (fo (mth 14 8) (ofString "merge") (ofString "Heap.merge") (.str (ofString "alikeheap.heap") 623) (.ref 419)), [].toArray⟩
noncomputable def o426 (_ : Params) : Obj := ⟨(.type "code"), none, .fields [(.str (ofString "join") 707), (.str (ofString "Heap.join") 708), (.str (ofString "/claim/cut.py") 709), (.int 249 0), (.int 4 0), (.int 0 0), (.int 0 0), (.int 3 0), (.ref 421), (.bool true), (.int 181 0), (.ref 422), .none, (.ref 423), (.ref 424), (.ref 425), (.int 717 0), (.int 249 0), (.str (ofString "/claim/cut.py") 718)].toArray, [].toArray⟩
noncomputable def o427 (_ : Params) : Obj := ⟨(.type "function"), none, .func (fo (mth 14 9) (ofString "join") (ofString "Heap.join") (.str (ofString "alikeheap.heap") 623) (.ref 426)), [].toArray⟩
noncomputable def o433 (_ : Params) : Obj := ⟨(.type "code"), none, .fields [(.str (ofString "settle") 720), (.str (ofString "Heap.settle") 721), (.str (ofString "/claim/cut.py") 722), (.int 260 0), (.int 1 0), (.int 0 0), (.int 0 0), (.int 3 0), (.ref 428), (.bool true), (.int 181 0), (.ref 429), .none, (.ref 430), (.ref 431), (.ref 432), (.int 724 0), (.int 260 0), (.str (ofString "/claim/cut.py") 725)].toArray, [].toArray⟩
noncomputable def o434 (_ : Params) : Obj := ⟨(.type "function"), none, .func (fo (mth 14 10) (ofString "settle") (ofString "Heap.settle") (.str (ofString "alikeheap.heap") 623) (.ref 433)), [].toArray⟩
noncomputable def o447 (_ : Params) : Obj := ⟨(.type "code"), none, .fields [(.str (ofString "classes") 734), (.str (ofString "Heap.classes") 735), (.str (ofString "/claim/cut.py") 736), (.int 267 0), (.int 1 0), (.int 0 0), (.int 0 0), (.int 3 0), (.ref 442), (.bool true), (.int 181 0), (.ref 443), .none, (.ref 444), (.ref 445), (.ref 446), (.int 738 0), (.int 267 0), (.str (ofString "/claim/cut.py") 739)].toArray, [].toArray⟩
noncomputable def o448 (_ : Params) : Obj := ⟨(.type "function"), none, .func (fo (mth 14 12) (ofString "classes") (ofString "Heap.classes") (.str (ofString "alikeheap.heap") 623) (.ref 447)), [].toArray⟩
noncomputable def o454 (_ : Params) : Obj := ⟨(.type "code"), none, .fields [(.str (ofString "members") 741), (.str (ofString "Heap.members") 742), (.str (ofString "/claim/cut.py") 743), (.int 270 0), (.int 2 0), (.int 0 0), (.int 0 0), (.int 3 0), (.ref 449), (.bool true), (.int 181 0), (.ref 450), .none, (.ref 451), (.ref 452), (.ref 453), (.int 746 0), (.int 270 0), (.str (ofString "/claim/cut.py") 747)].toArray, [].toArray⟩
noncomputable def o455 (_ : Params) : Obj := ⟨(.type "function"), none, .func (fo (mth 14 13) (ofString "members") (ofString "Heap.members") (.str (ofString "alikeheap.heap") 623) (.ref 454)), [].toArray⟩
noncomputable def o459 (_ : Params) : Obj := ⟨(.type "code"), none, .fields [(.str (ofString "nodes_of") 749), (.str (ofString "Heap.nodes_of") 750), (.str (ofString "/claim/cut.py") 751), (.int 273 0), (.int 2 0), (.int 0 0), (.int 0 0), (.int 3 0), (.ref 456), (.bool true), (.int 181 0), (.ref 457), .none, .none, .none, (.ref 458), (.int 752 0), (.int 273 0), (.str (ofString "/claim/cut.py") 753)].toArray, [].toArray⟩
noncomputable def o460 (_ : Params) : Obj := ⟨(.type "function"), none, .func (fo (mth 14 14) (ofString "nodes_of") (ofString "Heap.nodes_of") (.str (ofString "alikeheap.heap") 623) (.ref 459)), [].toArray⟩
noncomputable def o478 (_ : Params) : Obj := ⟨(.type "code"), none, .fields [(.str (ofString "users") 768), (.str (ofString "Heap.users") 769), (.str (ofString "/claim/cut.py") 770), (.int 283 0), (.int 2 0), (.int 0 0), (.int 0 0), (.int 3 0), (.ref 473), (.bool true), (.int 181 0), (.ref 474), .none, (.ref 475), (.ref 476), (.ref 477), (.int 773 0), (.int 283 0), (.str (ofString "/claim/cut.py") 774)].toArray, [].toArray⟩
noncomputable def o479 (_ : Params) : Obj := ⟨(.type "function"), none, .func (fo (mth 14 17) (ofString "users") (ofString "Heap.users") (.str (ofString "alikeheap.heap") 623) (.ref 478)), [].toArray⟩
noncomputable def o481 (P : Params) : Obj := ⟨(.type "dict"), none, .dict [⟨PyData.keyHash P (ofString "__module__"), (.str (ofString "__module__") 632), (.str (ofString "alikeheap.heap") 623)⟩, ⟨PyData.keyHash P (ofString "__firstlineno__"), (.str (ofString "__firstlineno__") 636), (.int 204 635)⟩, ⟨PyData.keyHash P (ofString "__init__"), (.str (ofString "__init__") 643), (.ref 368)⟩, ⟨PyData.keyHash P (ofString "size"), (.str (ofString "size") 650), (.ref 375)⟩, ⟨PyData.keyHash P (ofString "node"), (.str (ofString "node") 656), (.ref 380)⟩, ⟨PyData.keyHash P (ofString "add"), (.str (ofString "add") 662), (.ref 385)⟩, ⟨PyData.keyHash P (ofString "put"), (.str (ofString "put") 670), (.ref 392)⟩, ⟨PyData.keyHash P (ofString "look_at"), (.str (ofString "look_at") 679), (.ref 399)⟩, ⟨PyData.keyHash P (ofString "find"), (.str (ofString "find") 687), (.ref 406)⟩, ⟨PyData.keyHash P (ofString "are_like"), (.str (ofString "are_like") 696), (.ref 413)⟩, ⟨PyData.keyHash P (ofString "merge"), (.str (ofString "merge") 706), (.ref 420)⟩, ⟨PyData.keyHash P (ofString "join"), (.str (ofString "join") 719), (.ref 427)⟩, ⟨PyData.keyHash P (ofString "settle"), (.str (ofString "settle") 726), (.ref 434)⟩, ⟨PyData.keyHash P (ofString "is_settled"), (.str (ofString "is_settled") 733), (.ref 441)⟩, ⟨PyData.keyHash P (ofString "classes"), (.str (ofString "classes") 740), (.ref 448)⟩, ⟨PyData.keyHash P (ofString "members"), (.str (ofString "members") 748), (.ref 455)⟩, ⟨PyData.keyHash P (ofString "nodes_of"), (.str (ofString "nodes_of") 754), (.ref 460)⟩, ⟨PyData.keyHash P (ofString "many_nodes"), (.str (ofString "many_nodes") 761), (.ref 467)⟩, ⟨PyData.keyHash P (ofString "seek"), (.str (ofString "seek") 767), (.ref 472)⟩, ⟨PyData.keyHash P (ofString "users"), (.str (ofString "users") 775), (.ref 479)⟩, ⟨PyData.keyHash P (ofString "__static_attributes__"), (.str (ofString "__static_attributes__") 783), (.ref 480)⟩, ⟨PyData.keyHash P (ofString "__dict__"), (.str (ofString "__dict__") 785), (.ref 483)⟩, ⟨PyData.keyHash P (ofString "__weakref__"), (.str (ofString "__weakref__") 787), (.ref 484)⟩, ⟨PyData.keyHash P (ofString "__doc__"), (.str (ofString "__doc__") 788), .none⟩].toArray 4, [].toArray⟩
noncomputable def o482 (_ : Params) : Obj := ⟨(.type "type"), none, .cls { name := (ofString "Heap"), bases := [(.type "object")], mro := [(.ref 482), (.type "object")], ns := 481, qualname := (ofString "Heap"), hasDict := true, slotNames := [], subclasses := [], abstract := false, collection := none, hasDel := false }, [none, none, some (.str (ofString "Heap") 625), some (.str (ofString "Heap") 633), some (.builtin "object.__new__"), some (.bool true)].toArray⟩
noncomputable def o487 (_ : Params) : Obj := ⟨(.type "tuple"), none, .seq [(.str (ofString "0") 793), (.int 0 794)].toArray 0, [].toArray⟩
noncomputable def o488 (_ : Params) : Obj := ⟨(.type "tuple"), none, .seq [(.str (ofString "1") 795), (.int 1 796)].toArray 0, [].toArray⟩
noncomputable def o489 (_ : Params) : Obj := ⟨(.type "tuple"), none, .seq [(.str (ofString "x") 797), .none].toArray 0, [].toArray⟩
noncomputable def o490 (_ : Params) : Obj := ⟨(.type "tuple"), none, .seq [(.str (ofString "-1") 798), (.int (-1) 800)].toArray 0, [].toArray⟩
noncomputable def o491 (_ : Params) : Obj := ⟨(.type "tuple"), none, .seq [(.str (ofString "10") 801), (.int 10 802)].toArray 0, [].toArray⟩
noncomputable def o492 (_ : Params) : Obj := ⟨(.type "tuple"), none, .seq [(.str (ofString "007") 803), (.int 7 804)].toArray 0, [].toArray⟩
noncomputable def o493 (_ : Params) : Obj := ⟨(.type "tuple"), none, .seq [(.str (ofString "--1") 805), .none].toArray 0, [].toArray⟩
noncomputable def o494 (_ : Params) : Obj := ⟨(.type "tuple"), none, .seq [(.str (ofString "1x") 806), .none].toArray 0, [].toArray⟩
noncomputable def o495 (_ : Params) : Obj := ⟨(.type "tuple"), none, .seq [(.str (ofString "-0") 807), (.int 0 808)].toArray 0, [].toArray⟩
noncomputable def o496 (_ : Params) : Obj := ⟨(.type "tuple"), none, .seq [(.str (ofString "-") 809), .none].toArray 0, [].toArray⟩
noncomputable def o497 (_ : Params) : Obj := ⟨(.type "tuple"), none, .seq [(.ref 487), (.ref 488), (.ref 489), (.ref 490), (.ref 491), (.ref 492), (.ref 493), (.ref 494), (.ref 495), (.ref 496)].toArray 0, [].toArray⟩
noncomputable def o498 (_ : Params) : Obj := ⟨(.type "tuple"), none, .seq [(.str (ofString "add") 811), (.int 2 812)].toArray 0, [].toArray⟩
noncomputable def o499 (_ : Params) : Obj := ⟨(.type "tuple"), none, .seq [(.str (ofString "mul") 813), (.int 2 814)].toArray 0, [].toArray⟩
noncomputable def o500 (_ : Params) : Obj := ⟨(.type "tuple"), none, .seq [(.str (ofString "neg") 815), (.int 1 816)].toArray 0, [].toArray⟩
noncomputable def o501 (_ : Params) : Obj := ⟨(.type "tuple"), none, .seq [(.str (ofString "add") 817), (.int 2 818)].toArray 0, [].toArray⟩
noncomputable def o502 (_ : Params) : Obj := ⟨(.type "tuple"), none, .seq [(.str (ofString "neg") 819), (.int 2 820)].toArray 0, [].toArray⟩
noncomputable def o503 (_ : Params) : Obj := ⟨(.type "tuple"), none, .seq [(.str (ofString "add") 821), (.int 1 822)].toArray 0, [].toArray⟩
noncomputable def o504 (_ : Params) : Obj := ⟨(.type "tuple"), none, .seq [(.str (ofString "mul") 823), (.int 2 824)].toArray 0, [].toArray⟩
noncomputable def o505 (_ : Params) : Obj := ⟨(.type "tuple"), none, .seq [(.str (ofString "sub") 825), (.int 2 826)].toArray 0, [].toArray⟩
noncomputable def o506 (_ : Params) : Obj := ⟨(.type "tuple"), none, .seq [(.ref 498), (.ref 499), (.ref 500), (.ref 501), (.ref 502), (.ref 503), (.ref 504), (.ref 505)].toArray 0, [].toArray⟩
noncomputable def o512 (_ : Params) : Obj := ⟨(.type "code"), none, .fields [(.str (ofString "_law_next") 828), (.str (ofString "_law_next") 829), (.str (ofString "/claim/cut.py") 830), (.int 288 0), (.int 2 0), (.int 0 0), (.int 0 0), (.int 3 0), (.ref 507), (.bool true), (.int 181 0), (.ref 508), .none, (.ref 509), (.ref 510), (.ref 511), (.int 834 0), (.int 288 0), (.str (ofString "/claim/cut.py") 835)].toArray, [].toArray⟩
noncomputable def o513 (_ : Params) : Obj := ⟨(.type "function"), none, .func (fo (dfn 18) (ofString "_law_next") (ofString "_law_next") (.str (ofString "law_pq0072_01") 791) (.ref 512)), [].toArray⟩
noncomputable def o519 (_ : Params) : Obj := ⟨(.type "code"), none, .fields [(.str (ofString "_law_reckoned") 837), (.str (ofString "_law_reckoned") 838), (.str (ofString "/claim/cut.py") 839), (.int 294 0), (.int 3 0), (.int 0 0), (.int 0 0), (.int 3 0), (.ref 514), (.bool true), (.int 181 0), (.ref 515), .none, (.ref 516), (.ref 517), (.ref 518), (.int 844 0), (.int 294 0), (.str (ofString "/claim/cut.py") 845)].toArray, [].toArray⟩
noncomputable def o520 (_ : Params) : Obj := ⟨(.type "function"), none, .func (fo (dfn 19) (ofString "_law_reckoned") (ofString "_law_reckoned") (.str (ofString "law_pq0072_01") 791) (.ref 519)), [].toArray⟩
noncomputable def o526 (_ : Params) : Obj := ⟨(.type "code"), none, .fields [(.str (ofString "_law_both") 847), (.str (ofString "_law_both") 848), (.str (ofString "/claim/cut.py") 849), (.int 305 0), (.int 2 0), (.int 0 0), (.int 0 0), (.int 3 0), (.ref 521), (.bool true), (.int 181 0), (.ref 522), .none, (.ref 523), (.ref 524), (.ref 525), (.int 852 0), (.int 305 0), (.str (ofString "/claim/cut.py") 853)].toArray, [].toArray⟩
noncomputable def o527 (_ : Params) : Obj := ⟨(.type "function"), none, .func (fo (dfn 20) (ofString "_law_both") (ofString "_law_both") (.str (ofString "law_pq0072_01") 791) (.ref 526)), [].toArray⟩
noncomputable def o531 (_ : Params) : Obj := ⟨(.type "code"), none, .fields [(.str (ofString "_law_due") 855), (.str (ofString "_law_due") 856), (.str (ofString "/claim/cut.py") 857), (.int 309 0), (.int 2 0), (.int 0 0), (.int 0 0), (.int 3 0), (.ref 528), (.bool true), (.int 181 0), (.ref 529), .none, .none, .none, (.ref 530), (.int 858 0), (.int 309 0), (.str (ofString "/claim/cut.py") 859)].toArray, [].toArray⟩
noncomputable def o532 (_ : Params) : Obj := ⟨(.type "function"), none, .func (fo (dfn 21) (ofString "_law_due") (ofString "_law_due") (.str (ofString "law_pq0072_01") 791) (.ref 531)), [].toArray⟩
noncomputable def o536 (_ : Params) : Obj := ⟨(.type "code"), none, .fields [(.str (ofString "_law_is_kept") 861), (.str (ofString "_law_is_kept") 862), (.str (ofString "/claim/cut.py") 863), (.int 320 0), (.int 3 0), (.int 0 0), (.int 0 0), (.int 3 0), (.ref 533), (.bool true), (.int 181 0), (.ref 534), .none, .none, .none, (.ref 535), (.int 864 0), (.int 320 0), (.str (ofString "/claim/cut.py") 865)].toArray, [].toArray⟩
noncomputable def o537 (_ : Params) : Obj := ⟨(.type "function"), none, .func (fo (dfn 22) (ofString "_law_is_kept") (ofString "_law_is_kept") (.str (ofString "law_pq0072_01") 791) (.ref 536)), [].toArray⟩
noncomputable def o543 (_ : Params) : Obj := ⟨(.type "code"), none, .fields [(.str (ofString "_law_merged") 867), (.str (ofString "_law_merged") 868), (.str (ofString "/claim/cut.py") 869), (.int 325 0), (.int 3 0), (.int 0 0), (.int 0 0), (.int 3 0), (.ref 538), (.bool true), (.int 181 0), (.ref 539), .none, (.ref 540), (.ref 541), (.ref 542), (.int 876 0), (.int 325 0), (.str (ofString "/claim/cut.py") 877)].toArray, [].toArray⟩
noncomputable def o544 (_ : Params) : Obj := ⟨(.type "function"), none, .func (fo (dfn 23) (ofString "_law_merged") (ofString "_law_merged") (.str (ofString "law_pq0072_01") 791) (.ref 543)), [].toArray⟩
noncomputable def o548 (_ : Params) : Obj := ⟨(.type "code"), none, .fields [(.str (ofString "law") 879), (.str (ofString "law") 880), (.str (ofString "/claim/cut.py") 881), (.int 330 0), (.int 1 0), (.int 0 0), (.int 0 0), (.int 3 0), (.ref 545), (.bool true), (.int 181 0), (.ref 546), .none, .none, .none, (.ref 547), (.int 882 0), (.int 330 0), (.str (ofString "/claim/cut.py") 883)].toArray, [].toArray⟩
noncomputable def o549 (_ : Params) : Obj := ⟨(.type "function"), none, .func (fo (dfn 24) (ofString "law") (ofString "law") (.str (ofString "law_pq0072_01") 791) (.ref 548)), [].toArray⟩
noncomputable def K (P : Params) : Frag := [(3, o3 P), (25, o25 P), (26, o26 P), (39, o39 P), (40, o40 P), (46, o46 P), (47, o47 P), (53, o53 P), (54, o54 P), (56, o56 P), (57, o57 P), (74, o74 P), (75, o75 P), (81, o81 P), (82, o82 P), (88, o88 P), (89, o89 P), (93, o93 P), (94, o94 P), (98, o98 P), (99, o99 P), (103, o103 P), (104, o104 P), (113, o113 P), (114, o114 P), (163, o163 P), (164, o164 P), (177, o177 P), (178, o178 P), (184, o184 P), (185, o185 P), (189, o189 P), (190, o190 P), (196, o196 P), (197, o197 P), (224, o224 P), (225, o225 P), (231, o231 P), (232, o232 P), (267, o267 P), (268, o268 P), (285, o285 P), (286, o286 P), (292, o292 P), (293, o293 P), (299, o299 P), (300, o300 P), (306, o306 P), (307, o307 P), (313, o313 P), (314, o314 P), (320, o320 P), (321, o321 P), (325, o325 P), (326, o326 P), (349, o349 P), (350, o350 P), (367, o367 P), (368, o368 P), (374, o374 P), (375, o375 P), (379, o379 P), (380, o380 P), (384, o384 P), (385, o385 P), (398, o398 P), (399, o399 P), (405, o405 P), (406, o406 P), (419, o419 P), (420, o420 P), (426, o426 P), (427, o427 P), (433, o433 P), (434, o434 P), (447, o447 P), (448, o448 P), (454, o454 P), (455, o455 P), (459, o459 P), (460, o460 P), (478, o478 P), (479, o479 P), (481, o481 P), (482, o482 P), (487, o487 P), (488, o488 P), (489, o489 P), (490, o490 P), (491, o491 P), (492, o492 P), (493, o493 P), (494, o494 P), (495, o495 P), (496, o496 P), (497, o497 P), (498, o498 P), (499, o499 P), (500, o500 P), (501, o501 P), (502, o502 P), (503, o503 P), (504, o504 P), (505, o505 P), (506, o506 P), (512, o512 P), (513, o513 P), (519, o519 P), (520, o520 P), (526, o526 P), (527, o527 P), (531, o531 P), (532, o532 P), (536, o536 P), (537, o537 P), (543, o543 P), (544, o544 P), (548, o548 P), (549, o549 P)]
noncomputable def kAddrs : List Addr := [3, 25, 26, 39, 40, 46, 47, 53, 54, 56, 57, 74, 75, 81, 82, 88, 89, 93, 94, 98, 99, 103, 104, 113, 114, 163, 164, 177, 178, 184, 185, 189, 190, 196, 197, 224, 225, 231, 232, 267, 268, 285, 286, 292, 293, 299, 300, 306, 307, 313, 314, 320, 321, 325, 326, 349, 350, 367, 368, 374, 375, 379, 380, 384, 385, 398, 399, 405, 406, 419, 420, 426, 427, 433, 434, 447, 448, 454, 455, 459, 460, 478, 479, 481, 482, 487, 488, 489, 490, 491, 492, 493, 494, 495, 496, 497, 498, 499, 500, 501, 502, 503, 504, 505, 506, 512, 513, 519, 520, 526, 527, 531, 532, 536, 537, 543, 544, 548, 549]
theorem kAddrs_eq (P : Params) : kAddrs = (K P).map (·.1) := by kernel_rfl
noncomputable def hook : Hook := kHook K kAddrs kAddrs_eq
noncomputable def vw : Program := view PySem.Challenge.pw_pq0072_01 [24]
noncomputable def loose : List Str := ["_wall", "whole_of", "Consts", "Keeper", "HeapError", "TermFault", "is_op", "Bank", "Unions", "Heap", "_law_leaves", "_law_ops", "_law_next", "_law_reckoned", "_law_both", "_law_due", "_law_is_kept", "_law_merged"]
noncomputable def topRunT (tb : String → Option Builtin) (p : Program) (w : World) (n₀ : Nat) (ann : Option Value) : Nat → SharedT → Thread → Option SharedT
  | 0, _, _ => none
  | n + 1, s, t => match through t with
    | true => some s
    | false => match stepOk n₀ ann t with
      | false => none
      | true => match stepT (denote tb) p w s t with
        | some (s', t') => topRunT tb p w n₀ ann n s' t'
        | none => none
theorem topRunT_spec {tb : String → Option Builtin} {p : Program} {w : World} {n₀ : Nat} {ann : Option Value} : ∀ (n : Nat) (s : SharedT) (t : Thread) (r : SharedT), topRunT tb p w n₀ ann n s t = some r → topRun tb p w n₀ ann n s.abs t = some r.abs
  | 0, _, _, _, h => by simp [topRunT] at h
  | n + 1, s, t, r, h => by
    unfold topRunT at h
    unfold topRun
    cases ht : through t with
    | true => rw [ht] at h; cases h; rfl
    | false =>
      rw [ht] at h
      cases hk : stepOk n₀ ann t with
      | false => rw [hk] at h; cases h
      | true =>
        rw [hk] at h
        cases hs : stepT (denote tb) p w s t with
        | none => rw [hs] at h; cases h
        | some x =>
          obtain ⟨s', t'⟩ := x
          rw [hs] at h
          show (match step (denote tb) p w s.abs t with | .go s' t' => topRun tb p w n₀ ann n s' t' | .halt _ _ => none) = _
          rw [stepT_spec hs]
          exact topRunT_spec n s' t' r h
noncomputable def bootTreeF (b0 : Obj) (P : Params) : BT := (.node b0 (.node (boot_o_1 P) (.node (boot_o_3 P) (.node (boot_o_7 P) .nil .nil) .nil) (.node (boot_o_5 P) (.node (boot_o_9 P) .nil .nil) .nil)) (.node (boot_o_2 P) (.node (boot_o_4 P) (.node (boot_o_8 P) .nil .nil) .nil) (.node (boot_o_6 P) (.node (boot_o_10 P) .nil .nil) .nil)))
noncomputable def bootTF (b0 : Obj) (w : World) (os : OsState) : SharedT := ⟨bootTreeF b0 w.params, 11, {}, Array.mk [], boot_drawn, boot_toks, os⟩
noncomputable def bootHF (b0 : Obj) (P : Params) : Heap := { objs := { toList := [b0, boot_o_1 P, boot_o_2 P, boot_o_3 P, boot_o_4 P, boot_o_5 P, boot_o_6 P, boot_o_7 P, boot_o_8 P, boot_o_9 P, boot_o_10 P] } }
noncomputable def looksF (p q : Program) (lo : List Str) (h₀ : Heap) (s : Shared) :=
  ((staticsOk (importedModules p.main.body) h₀ s.heap && namesBound p s.heap && gensDone s && laidKept h₀ s.heap),
        openSeen q lo (importedModules p.main.body) (fun s => xlAt q [] s && recOk [] s) true s)
theorem boot_abs (w : World) (os : OsState) : (bootTF (boot_o_0 w.params) w os).abs = ⟨boot_heap w.params, Array.mk [], boot_drawn, boot_toks, os⟩ := by kernel_rfl
noncomputable def obs1 (s : SharedT) (a : Addr) : Option Obj := match Nat.blt a s.n with
  | true => match s.tree.get a with
    | some o => alive o
    | none => none
  | false => none
theorem obs1_spec {s : SharedT} {a : Addr} {o : Obj} (h : obs1 s a = some o) : s.abs.heap.get? a = some o := by
  unfold obs1 at h
  cases e : Nat.blt a s.n with
  | false => rw [e] at h; cases h
  | true =>
    rw [e] at h
    cases g : s.tree.get a with
    | none => rw [g] at h; cases h
    | some x =>
      rw [g] at h
      show (absHeap s.tree s.n s.life).get? a = some o
      rw [abs_get (Nat.le_of_ble_eq_true e) g]
      exact h
theorem map_obs {f g : Addr → Option Obj} (h : ∀ a o, f a = some o → g a = some o) : ∀ (l : List Addr) (os : List Obj), l.map f = os.map some → l.map g = os.map some := by
  intro l
  induction l with
  | nil => intro os e; cases os with
    | nil => rfl
    | cons o r => simp at e
  | cons a l ih => intro os e; cases os with
    | nil => simp at e
    | cons o r =>
      simp only [List.map_cons, List.cons.injEq] at e
      simp only [List.map_cons, h a o e.1, ih r e.2]
noncomputable def lhsF (b0 : Obj) (p : Program) (w : World) := fun os => (topRunT treeTable p w 11 (some (.ref 6)) 7156 (bootTF b0 w os) (topStub p)).map (fun s => ([obs1 s 3, obs1 s 25, obs1 s 26, obs1 s 39, obs1 s 40, obs1 s 46, obs1 s 47, obs1 s 53, obs1 s 54, obs1 s 56, obs1 s 57, obs1 s 74, obs1 s 75, obs1 s 81, obs1 s 82, obs1 s 88, obs1 s 89, obs1 s 93, obs1 s 94, obs1 s 98, obs1 s 99, obs1 s 103, obs1 s 104, obs1 s 113, obs1 s 114, obs1 s 163, obs1 s 164, obs1 s 177, obs1 s 178, obs1 s 184, obs1 s 185, obs1 s 189, obs1 s 190, obs1 s 196, obs1 s 197, obs1 s 224, obs1 s 225, obs1 s 231, obs1 s 232, obs1 s 267, obs1 s 268, obs1 s 285, obs1 s 286, obs1 s 292, obs1 s 293, obs1 s 299, obs1 s 300, obs1 s 306, obs1 s 307, obs1 s 313, obs1 s 314, obs1 s 320, obs1 s 321, obs1 s 325, obs1 s 326, obs1 s 349, obs1 s 350, obs1 s 367, obs1 s 368, obs1 s 374, obs1 s 375, obs1 s 379, obs1 s 380, obs1 s 384, obs1 s 385, obs1 s 398, obs1 s 399, obs1 s 405, obs1 s 406, obs1 s 419, obs1 s 420, obs1 s 426, obs1 s 427, obs1 s 433, obs1 s 434, obs1 s 447, obs1 s 448, obs1 s 454, obs1 s 455, obs1 s 459, obs1 s 460, obs1 s 478, obs1 s 479, obs1 s 481, obs1 s 482, obs1 s 487, obs1 s 488, obs1 s 489, obs1 s 490, obs1 s 491, obs1 s 492, obs1 s 493, obs1 s 494, obs1 s 495, obs1 s 496, obs1 s 497, obs1 s 498, obs1 s 499, obs1 s 500, obs1 s 501, obs1 s 502, obs1 s 503, obs1 s 504, obs1 s 505, obs1 s 506, obs1 s 512, obs1 s 513, obs1 s 519, obs1 s 520, obs1 s 526, obs1 s 527, obs1 s 531, obs1 s 532, obs1 s 536, obs1 s 537, obs1 s 543, obs1 s 544, obs1 s 548, obs1 s 549], looksF p (view p [24]) loose (bootHF b0 w.params) s.abs))
noncomputable def rhs (w : World) := fun (_ : OsState) => some ([some (o3 w.params), some (o25 w.params), some (o26 w.params), some (o39 w.params), some (o40 w.params), some (o46 w.params), some (o47 w.params), some (o53 w.params), some (o54 w.params), some (o56 w.params), some (o57 w.params), some (o74 w.params), some (o75 w.params), some (o81 w.params), some (o82 w.params), some (o88 w.params), some (o89 w.params), some (o93 w.params), some (o94 w.params), some (o98 w.params), some (o99 w.params), some (o103 w.params), some (o104 w.params), some (o113 w.params), some (o114 w.params), some (o163 w.params), some (o164 w.params), some (o177 w.params), some (o178 w.params), some (o184 w.params), some (o185 w.params), some (o189 w.params), some (o190 w.params), some (o196 w.params), some (o197 w.params), some (o224 w.params), some (o225 w.params), some (o231 w.params), some (o232 w.params), some (o267 w.params), some (o268 w.params), some (o285 w.params), some (o286 w.params), some (o292 w.params), some (o293 w.params), some (o299 w.params), some (o300 w.params), some (o306 w.params), some (o307 w.params), some (o313 w.params), some (o314 w.params), some (o320 w.params), some (o321 w.params), some (o325 w.params), some (o326 w.params), some (o349 w.params), some (o350 w.params), some (o367 w.params), some (o368 w.params), some (o374 w.params), some (o375 w.params), some (o379 w.params), some (o380 w.params), some (o384 w.params), some (o385 w.params), some (o398 w.params), some (o399 w.params), some (o405 w.params), some (o406 w.params), some (o419 w.params), some (o420 w.params), some (o426 w.params), some (o427 w.params), some (o433 w.params), some (o434 w.params), some (o447 w.params), some (o448 w.params), some (o454 w.params), some (o455 w.params), some (o459 w.params), some (o460 w.params), some (o478 w.params), some (o479 w.params), some (o481 w.params), some (o482 w.params), some (o487 w.params), some (o488 w.params), some (o489 w.params), some (o490 w.params), some (o491 w.params), some (o492 w.params), some (o493 w.params), some (o494 w.params), some (o495 w.params), some (o496 w.params), some (o497 w.params), some (o498 w.params), some (o499 w.params), some (o500 w.params), some (o501 w.params), some (o502 w.params), some (o503 w.params), some (o504 w.params), some (o505 w.params), some (o506 w.params), some (o512 w.params), some (o513 w.params), some (o519 w.params), some (o520 w.params), some (o526 w.params), some (o527 w.params), some (o531 w.params), some (o532 w.params), some (o536 w.params), some (o537 w.params), some (o543 w.params), some (o544 w.params), some (o548 w.params), some (o549 w.params)], (true, openGood vw loose))
lay_quick Mine.lhsF
open PySem.Str (ofString)
theorem check_tw (w : World) : PySem.W.Fast.tw9246333973048606402 (boot_o_0 w.params) PySem.Challenge.pw_pq0072_01 w = rhs w := by kernel_rfl
theorem check (w : World) : lhsF (boot_o_0 w.params) PySem.Challenge.pw_pq0072_01 w = rhs w :=
  (congrFun (congrFun (congrFun PySem.W.Fast.te9246333973048606402 (boot_o_0 w.params)) PySem.Challenge.pw_pq0072_01) w).trans (check_tw w)
theorem sizes (w : World) : ((boot_heap w.params).isNs mainGlobals && (Array.mk ([] : List GenState)).size == 0, (boot_heap w.params).objs.size, (boot_heap w.params).nsMap mainGlobals (ofString "__annotations__")) = (true, 11, some (Value.ref 6)) := by kernel_rfl
theorem bootOpen : ∀ w : World, (fencedOpening treeTable PySem.Challenge.pw_pq0072_01 w 7156).map (fun s => (s.heap, s.gens, s.drawn, s.toks)) = some (boot_heap w.params, Array.mk [], boot_drawn, boot_toks) :=
  boot_open (by kernel_rfl) (by kernel_rfl) (fun s => by kernel_rfl)
theorem left_of {p q : Program} {lo : List Str} {Xt : Shared → Bool} {α : Type} {Yf : Shared → α} {Ya : World → α} {N : Nat} {H₀ : Params → Heap} {gs₀ : Array GenState} {d₀ : Drawn} {k₀ m₀ : Nat} {ann : Option Value}
    (open_ : ∀ w : World, (fencedOpening treeTable p w N).map (fun s => (s.heap, s.gens, s.drawn, s.toks)) = some (H₀ w.params, gs₀, d₀, k₀))
    (size : ∀ w : World, ((H₀ w.params).isNs mainGlobals && gs₀.size == 0, (H₀ w.params).objs.size, (H₀ w.params).nsMap mainGlobals "__annotations__") = (true, m₀, ann))
    (run : ∀ (w : World) (os : OsState), ∃ r : Shared, topRun treeTable p w m₀ ann N ⟨H₀ w.params, gs₀, d₀, k₀, os⟩ (topStub p) = some r ∧
      (staticsOk (importedModules p.main.body) (H₀ w.params) r.heap && namesBound p r.heap && gensDone r && laidKept (H₀ w.params) r.heap) = true ∧
      openSeen q lo (importedModules p.main.body) Xt true r = openGood q lo ∧ Yf r = Ya w) : LeftO p q lo Xt Yf Ya N := fun w => by
  obtain ⟨⟨h, gs, d, k, os⟩, e, e'⟩ := Option.map_eq_some_iff.mp (open_ w)
  obtain ⟨rfl, rfl, rfl, rfl⟩ : h = H₀ w.params ∧ gs = gs₀ ∧ d = d₀ ∧ k = k₀ := by simpa using e'
  obtain ⟨z1, z2, z3⟩ : _ ∧ _ ∧ _ := by simpa only [Prod.mk.injEq] using size w
  obtain ⟨r, t, l1, l2, l3⟩ := run w os
  have tf : topFrom treeTable p w N ⟨H₀ w.params, gs, d, k, os⟩ = some r := by
    unfold topFrom
    dsimp only
    rw [z1, z2, z3, t]
    show (match staticsOk (importedModules p.main.body) (H₀ w.params) r.heap && namesBound p r.heap && gensDone r && laidKept (H₀ w.params) r.heap with | true => _ | false => _) = _
    rw [l1]
  unfold openEnds
  rw [e]
  show (topFrom treeTable p w N _).map _ = _
  rw [tf]
  exact congrArg some (Prod.ext l2 l3)
theorem split4 {α β γ : Type} {F : SharedT → α × β × γ} {x : Option SharedT} {a : α} {b : β} {c : γ} (h : x.map F = some (a, b, c)) : ∃ r, x = some r ∧ (F r).1 = a ∧ (F r).2.1 = b ∧ (F r).2.2 = c := by
  obtain ⟨r, h1, h2⟩ := Option.map_eq_some_iff.mp h
  exact ⟨r, h1, by rw [h2], by rw [h2], by rw [h2]⟩
theorem run_ok (w : World) (os : OsState) : ∃ r : Shared, topRun treeTable PySem.Challenge.pw_pq0072_01 w 11 (some (.ref 6)) 7156 ⟨boot_heap w.params, Array.mk [], boot_drawn, boot_toks, os⟩ (topStub PySem.Challenge.pw_pq0072_01) = some r ∧
      (staticsOk (importedModules PySem.Challenge.pw_pq0072_01.main.body) (boot_heap w.params) r.heap && namesBound PySem.Challenge.pw_pq0072_01 r.heap && gensDone r && laidKept (boot_heap w.params) r.heap) = true ∧
      openSeen vw loose (importedModules PySem.Challenge.pw_pq0072_01.main.body) (fun s => xlAt vw [] s && recOk [] s) true r = openGood vw loose ∧ kAddrs.map r.heap.get? = (K w.params).map (fun p => some p.2) := by
  obtain ⟨r, h1, h2, h3, h4⟩ := split4 (congrFun (check w) os)
  refine ⟨r.abs, ?_, h3, h4, ?_⟩
  · rw [← boot_abs]; exact topRunT_spec _ _ _ _ h1
  · have q' : kAddrs.map (obs1 r) = ((K w.params).map (·.2)).map some := h2
    rw [map_obs (fun _ _ e => obs1_spec e) _ _ q', List.map_map]; rfl
theorem left : LeftO PySem.Challenge.pw_pq0072_01 vw loose (fun s => xlAt vw [] s && recOk [] s) hook.obs hook.val 7156 := left_of bootOpen sizes run_ok
end Hk
section P1
noncomputable def rootF : Nat → List Nat → Nat → Nat
  | 0, _, a => a
  | k + 1, ps, a => if ps.getD a a < a then rootF k ps (ps.getD a a) else a
noncomputable def root (ps : List Nat) (a : Nat) : Nat := rootF a ps a
theorem rootF_eq (k : Nat) : ∀ (j : Nat) (ps : List Nat) (a : Nat), a ≤ k → a ≤ j → rootF k ps a = rootF j ps a := by
  induction k with
  | zero =>
    intro j ps a h _
    obtain rfl := Nat.le_zero.mp h
    cases j with
    | zero => rfl
    | succ j => exact (if_neg (Nat.not_lt_zero _)).symm
  | succ k ih =>
    intro j ps a h h2
    cases j with
    | zero =>
      obtain rfl := Nat.le_zero.mp h2
      exact if_neg (Nat.not_lt_zero _)
    | succ j =>
      show ite _ _ _ = ite _ _ _
      by_cases q : ps.getD a a < a
      · rw [if_pos q, if_pos q]
        exact ih j ps _ (Nat.le_of_lt_succ (Nat.lt_of_lt_of_le q h)) (Nat.le_of_lt_succ (Nat.lt_of_lt_of_le q h2))
      · rw [if_neg q, if_neg q]
theorem root_eq (ps : List Nat) (a : Nat) : root ps a = if ps.getD a a < a then root ps (ps.getD a a) else a := by
  cases a with
  | zero => exact (if_neg (Nat.not_lt_zero _)).symm
  | succ a =>
    show ite _ _ _ = ite _ _ _
    by_cases q : ps.getD (a + 1) (a + 1) < a + 1
    · rw [if_pos q, if_pos q]
      exact rootF_eq _ _ _ _ (Nat.le_of_lt_succ q) (Nat.le_refl _)
    · rw [if_neg q, if_neg q]
noncomputable def roots (ps : List Nat) : List Nat := (List.range ps.length).filter fun a => ps.getD a a == a
noncomputable def Falls (ps : List Nat) : Prop := ∀ i, i < ps.length → ps.getD i i ≤ i
theorem root_le {ps : List Nat} (a : Nat) : root ps a ≤ a := by
  induction a using Nat.strongRecOn with
  | ind a ih =>
    rw [root_eq]
    split
    · rename_i q; exact Nat.le_trans (ih _ q) (Nat.le_of_lt q)
    · exact Nat.le_refl _
theorem root_root {ps : List Nat} (hp : Falls ps) {a : Nat} (ha : a < ps.length) : ps.getD (root ps a) (root ps a) = root ps a := by
  induction a using Nat.strongRecOn with
  | ind a ih =>
    rw [root_eq]
    split
    · rename_i q; exact ih _ q (Nat.lt_trans q ha)
    · rename_i q; exact Nat.le_antisymm (hp a ha) (Nat.le_of_not_lt q)
theorem root_self {ps : List Nat} {a : Nat} (h : ps.getD a a = a) : root ps a = a := by rw [root_eq, if_neg (by exact om16 h)]
theorem mem_roots {ps : List Nat} {a : Nat} : a ∈ roots ps ↔ a < ps.length ∧ ps.getD a a = a := by
  unfold roots; rw [List.mem_filter, List.mem_range, beq_iff_eq]
theorem root_mem {ps : List Nat} (hp : Falls ps) {a : Nat} (ha : a < ps.length) : root ps a ∈ roots ps :=
  mem_roots.mpr ⟨Nat.lt_of_le_of_lt (root_le a) ha, root_root hp ha⟩
theorem getD_app {ps : List Nat} {a x d : Nat} (ha : a < ps.length) : (ps ++ [x]).getD a d = ps.getD a d := by
  simp [List.getD, List.getElem?_append_left ha]
theorem getD_last (ps : List Nat) (x d : Nat) : (ps ++ [x]).getD ps.length d = x := by simp [List.getD]
theorem root_app {ps : List Nat} (hp : Falls ps) {x a : Nat} (ha : a < ps.length) : root (ps ++ [x]) a = root ps a := by
  induction a using Nat.strongRecOn with
  | ind a ih =>
    rw [root_eq (ps ++ [x]) a, root_eq ps a, getD_app ha]
    split
    · rename_i q; exact ih _ q (Nat.lt_trans q ha)
    · rfl
theorem falls_app {ps : List Nat} (hp : Falls ps) : Falls (ps ++ [ps.length]) := fun i hi => by
  by_cases h : i < ps.length
  · rw [getD_app h]; exact hp i h
  · obtain rfl : i = ps.length := by rw [List.length_append, List.length_singleton] at hi; exact om92 hi h
    rw [getD_last]; exact Nat.le_refl _
theorem root_last {ps : List Nat} : root (ps ++ [ps.length]) ps.length = ps.length := root_self (getD_last _ _ _)
theorem roots_app {ps : List Nat} : roots (ps ++ [ps.length]) = roots ps ++ [ps.length] := by
  unfold roots
  rw [List.length_append, List.length_singleton, List.range_succ, List.filter_append]
  congr 1
  · refine List.filter_congr fun a ha => ?_
    rw [getD_app (List.mem_range.mp ha)]
  · rw [List.filter_cons, getD_last, beq_self_eq_true]; rfl
theorem getD_set {ps : List Nat} {g k a d : Nat} (ha : a < ps.length) : (ps.set g k).getD a d = if a = g then k else ps.getD a d := by
  simp only [List.getD, List.getElem?_set]
  by_cases h : g = a
  · subst h; simp [ha]
  · simp [h, Ne.symm h]
theorem falls_set {ps : List Nat} (hp : Falls ps) {k g : Nat} (hk : k < g) : Falls (ps.set g k) := fun i hi => by
  rw [List.length_set] at hi
  rw [getD_set hi]
  split
  · omega
  · exact hp i hi
theorem root_set {ps : List Nat} (hp : Falls ps) {k g : Nat} (hk : k < g) (hg : g < ps.length) (ek : ps.getD k k = k) (eg : ps.getD g g = g) {a : Nat} (ha : a < ps.length) :
    root (ps.set g k) a = if root ps a = g then k else root ps a := by
  induction a using Nat.strongRecOn with
  | ind a ih =>
    rw [root_eq, getD_set ha]
    by_cases h : a = g
    · subst h
      rw [if_pos rfl, if_pos hk, root_self eg, if_pos rfl, ih k hk (by exact om131 ha hk eg), root_self ek, if_neg (by exact om83 hk eg)]
    · rw [if_neg h, root_eq ps a]
      split
      · rename_i q; exact ih _ q (Nat.lt_trans q ha)
      · first | rfl | rw [if_neg h]
theorem roots_set {ps : List Nat} (hp : Falls ps) {k g : Nat} (hk : k < g) (hg : g < ps.length) (eg : ps.getD g g = g) : (roots (ps.set g k)).length + 1 = (roots ps).length ∧ roots (ps.set g k) = (roots ps).filter (· ≠ g) := by
  have e : roots (ps.set g k) = (roots ps).filter (· ≠ g) := by
    unfold roots
    rw [List.length_set, List.filter_filter]
    refine List.filter_congr fun a ha => ?_
    rw [getD_set (List.mem_range.mp ha)]
    by_cases h : a = g
    · subst h; simp; exact om83 hk eg
    · simp [h]
  refine ⟨?_, e⟩
  have nd : (roots ps).Nodup := List.Nodup.sublist List.filter_sublist List.nodup_range
  have hm : g ∈ roots ps := mem_roots.mpr ⟨hg, eg⟩
  have : ∀ (l : List Nat), l.Nodup → g ∈ l → (l.filter (· ≠ g)).length + 1 = l.length := by
    intro l
    induction l with
    | nil => intro _ h; cases h
    | cons b r ih =>
      intro nd h
      rw [List.nodup_cons] at nd
      by_cases hb : b = g
      · subst hb
        rw [List.filter_cons_of_neg (by simp), List.filter_eq_self.mpr (fun a ha => by simpa using fun q : a = b => nd.1 (q ▸ ha))]
        rfl
      · rw [List.filter_cons_of_pos (by simpa using hb), List.length_cons, ih nd.2 (by rcases List.mem_cons.mp h with q | q; exact absurd q.symm hb; exact q), List.length_cons]
  rw [e]; exact this _ nd hm
theorem root_lt {ps : List Nat} {a : Nat} (ha : a < ps.length) : root ps a < ps.length := Nat.lt_of_le_of_lt (root_le a) ha
theorem root_idem {ps : List Nat} (hp : Falls ps) {a : Nat} (ha : a < ps.length) : root ps (root ps a) = root ps a := root_self (root_root hp ha)
theorem nodup_len : ∀ (N : Nat) (xs : List Nat), xs.Nodup → (∀ x ∈ xs, x < N) → xs.length ≤ N
  | 0, [], _, _ => Nat.le_refl _
  | 0, x :: r, _, h => absurd (h x (.head _)) (Nat.not_lt_zero _)
  | N + 1, xs, nd, h => by
    have := nodup_len N (xs.erase N) (nd.erase _) fun x hx => by
      have := (nd.mem_erase_iff).mp hx
      have := h x this.2
      omega
    by_cases hm : N ∈ xs
    · rw [List.length_erase_of_mem hm] at this; exact om56 this
    · rw [List.erase_of_not_mem hm] at this; exact om28 this
theorem lots_set {ps : List Nat} {lots : List (List Nat)} (hp : Falls ps) (hl : lots.length = ps.length)
    (hm : ∀ (r : Nat) xs, lots[r]? = some xs → ps.getD r r = r → xs.Nodup ∧ ∀ x, x ∈ xs ↔ x < ps.length ∧ root ps x = r)
    {k g : Nat} (hk : k < g) (hg : g < ps.length) (ek : ps.getD k k = k) (eg : ps.getD g g = g) :
    ∀ (r : Nat) xs, (lots.set k (lots.getD k [] ++ lots.getD g []))[r]? = some xs → (ps.set g k).getD r r = r → xs.Nodup ∧ ∀ x, x ∈ xs ↔ x < (ps.set g k).length ∧ root (ps.set g k) x = r := by
  intro r xs hr hrr
  have hrl : r < ps.length := by
    have := (List.getElem?_eq_some_iff.mp hr).1
    rw [List.length_set] at this; exact om64 hl this
  rw [getD_set hrl] at hrr
  have hrg : r ≠ g := fun q => by rw [if_pos q] at hrr; exact om196 hk ek eg hrr q
  rw [if_neg hrg] at hrr
  rw [List.getElem?_set] at hr
  have root' : ∀ x, x < ps.length → root (ps.set g k) x = if root ps x = g then k else root ps x := fun x hx => root_set hp hk hg ek eg hx
  by_cases hkr : k = r
  · subst hkr
    rw [if_pos rfl, if_pos (by exact om130 hl ek hrl)] at hr
    obtain rfl := Option.some.inj hr
    have e1 : lots[k]? = some (lots.getD k []) := by simp [List.getD, List.getElem?_eq_getElem (show k < lots.length by exact om130 hl ek hrl)]
    have e2 : lots[g]? = some (lots.getD g []) := by simp [List.getD, List.getElem?_eq_getElem (show g < lots.length by exact om128 hl hg eg)]
    obtain ⟨n1, m1⟩ := hm _ _ e1 ek
    obtain ⟨n2, m2⟩ := hm _ _ e2 eg
    refine ⟨List.nodup_append.mpr ⟨n1, n2, fun a ha b hb q => ?_⟩, fun x => ?_⟩
    · have h1 := ((m1 a).mp ha).2
      have h2 := ((m2 b).mp hb).2
      rw [q, h2] at h1; exact om153 hk ek eg h1
    · rw [List.mem_append, m1, m2, List.length_set]
      constructor
      · rintro (⟨h1, h2⟩ | ⟨h1, h2⟩)
        · exact ⟨h1, by rw [root' x h1, h2, if_neg (by exact om23 hrg)]⟩
        · exact ⟨h1, by rw [root' x h1, h2, if_pos rfl]⟩
      · rintro ⟨h1, h2⟩
        rw [root' x h1] at h2
        by_cases q : root ps x = g
        · exact .inr ⟨h1, q⟩
        · rw [if_neg q] at h2; exact .inl ⟨h1, h2⟩
  · rw [if_neg hkr] at hr
    obtain ⟨n1, m1⟩ := hm _ _ hr hrr
    refine ⟨n1, fun x => ?_⟩
    rw [m1, List.length_set]
    constructor
    · rintro ⟨h1, h2⟩
      exact ⟨h1, by rw [root' x h1, h2, if_neg hrg]⟩
    · rintro ⟨h1, h2⟩
      rw [root' x h1] at h2
      by_cases q : root ps x = g
      · rw [if_pos q] at h2; exact absurd h2 hkr
      · rw [if_neg q] at h2; exact ⟨h1, h2⟩
theorem filter_succ (p : Nat → Bool) (i : Nat) : (List.range (i + 1)).filter p = (List.range i).filter p ++ if p i then [i] else [] := by
  rw [List.range_succ, List.filter_append]
  congr 1
  rw [List.filter_cons]
  rfl
end P1
section P2
open PySem
noncomputable abbrev Ab := List (Nat × Addr × List Nat)
noncomputable def sumlen (l : Ab) : Nat := (l.map fun e => e.2.2.length).sum
noncomputable def abJoin (abv : Ab) (k g : Nat) (D : Addr) (ys : List Nat) : Ab :=
  (abv.filter fun e => decide (e.1 ≠ g)).map fun e => if e.1 = k then (k, D, ys) else e
theorem ab_filter_self {l : Ab} {g : Nat} (h : g ∉ l.map (·.1)) : l.filter (fun e => decide (e.1 ≠ g)) = l := by
  rw [List.filter_eq_self]
  intro e he
  exact decide_eq_true fun q => h (q ▸ List.mem_map_of_mem he)
theorem ab_out : ∀ {l : Ab} {e : Nat × Addr × List Nat}, (l.map (·.1)).Nodup → e ∈ l → sumlen (l.filter fun x => decide (x.1 ≠ e.1)) + e.2.2.length = sumlen l
  | x :: r, e, nd, h => by
    rw [List.map_cons, List.nodup_cons] at nd
    rcases List.mem_cons.mp h with rfl | h
    · rw [List.filter_cons, if_neg (by simp), ab_filter_self nd.1]
      simp [sumlen]; exact om6
    · have hx : x.1 ≠ e.1 := fun q => nd.1 (q ▸ List.mem_map_of_mem h)
      rw [List.filter_cons, if_pos (by simpa using hx)]
      have := ab_out nd.2 h
      simp only [sumlen, List.map_cons, List.sum_cons] at this ⊢
      exact om116 this
theorem ab_map_id {l : Ab} {k : Nat} {D : Addr} {ys : List Nat} (h : k ∉ l.map (·.1)) : (l.map fun e => if e.1 = k then (k, D, ys) else e) = l := by
  have : ∀ e ∈ l, (if e.1 = k then (k, D, ys) else e) = e := fun e he => if_neg fun (q : e.1 = k) => h (q ▸ List.mem_map_of_mem (f := (·.1)) he)
  exact (List.map_congr_left this).trans (List.map_id' l)
theorem ab_in {D : Addr} {ys : List Nat} : ∀ {l : Ab} {e : Nat × Addr × List Nat}, (l.map (·.1)).Nodup → e ∈ l → sumlen (l.map fun x => if x.1 = e.1 then (e.1, D, ys) else x) + e.2.2.length = sumlen l + ys.length
  | x :: r, e, nd, h => by
    rw [List.map_cons, List.nodup_cons] at nd
    rcases List.mem_cons.mp h with rfl | h
    · rw [List.map_cons, if_pos rfl, ab_map_id nd.1]
      simp only [sumlen, List.map_cons, List.sum_cons]; exact om47
    · have hx : x.1 ≠ e.1 := fun q => nd.1 (q ▸ List.mem_map_of_mem h)
      rw [List.map_cons, if_neg hx]
      have := ab_in (D := D) (ys := ys) nd.2 h
      simp only [sumlen, List.map_cons, List.sum_cons] at this ⊢
      exact om162 this
section
variable {l : Ab} {k g : Nat} {D : Addr} {ys : List Nat}
theorem abJoin_keys : (abJoin l k g D ys).map (·.1) = (l.filter fun e => decide (e.1 ≠ g)).map (·.1) := by
  unfold abJoin
  rw [List.map_map]
  refine List.map_congr_left fun e _ => ?_
  show (if e.1 = k then (k, D, ys) else e).1 = e.1
  split
  · rename_i h; exact h.symm
  · rfl
theorem abJoin_mem {e : Nat × Addr × List Nat} (h : e ∈ abJoin l k g D ys) : e = (k, D, ys) ∨ (e ∈ l ∧ e.1 ≠ k ∧ e.1 ≠ g) := by
  unfold abJoin at h
  obtain ⟨x, hx, rfl⟩ := List.mem_map.mp h
  obtain ⟨h1, h2⟩ := List.mem_filter.mp hx
  split
  · exact .inl rfl
  · rename_i q; exact .inr ⟨h1, q, of_decide_eq_true h2⟩
theorem abJoin_old {e : Nat × Addr × List Nat} (h : e ∈ l) (hk : e.1 ≠ k) (hg : e.1 ≠ g) : e ∈ abJoin l k g D ys :=
  List.mem_map.mpr ⟨e, List.mem_filter.mpr ⟨h, decide_eq_true hg⟩, if_neg hk⟩
theorem abJoin_new {e : Nat × Addr × List Nat} (h : e ∈ l) (hk : e.1 = k) (hg : k ≠ g) : (k, D, ys) ∈ abJoin l k g D ys :=
  List.mem_map.mpr ⟨e, List.mem_filter.mpr ⟨h, decide_eq_true (hk ▸ hg)⟩, if_pos hk⟩
theorem abJoin_nodup (nd : (l.map (·.1)).Nodup) : ((abJoin l k g D ys).map (·.1)).Nodup := by
  rw [abJoin_keys]
  exact nd.sublist ((List.filter_sublist).map _)
theorem abJoin_key {r : Nat} : r ∈ (abJoin l k g D ys).map (·.1) ↔ r ∈ l.map (·.1) ∧ r ≠ g := by
  rw [abJoin_keys]
  constructor
  · intro h
    obtain ⟨e, he, rfl⟩ := List.mem_map.mp h
    obtain ⟨h1, h2⟩ := List.mem_filter.mp he
    exact ⟨List.mem_map_of_mem h1, of_decide_eq_true h2⟩
  · rintro ⟨h, hg⟩
    obtain ⟨e, he, rfl⟩ := List.mem_map.mp h
    exact List.mem_map.mpr ⟨e, List.mem_filter.mpr ⟨he, decide_eq_true hg⟩, rfl⟩
theorem abJoin_sum {ek eg : Nat × Addr × List Nat} (nd : (l.map (·.1)).Nodup) (hk : ek ∈ l) (hg : eg ∈ l) (ne : ek.1 ≠ eg.1) : sumlen (abJoin l ek.1 eg.1 D (ek.2.2 ++ eg.2.2)) = sumlen l := by
  have h1 := ab_out nd hg
  have nd' : ((l.filter fun x => decide (x.1 ≠ eg.1)).map (·.1)).Nodup := nd.sublist ((List.filter_sublist).map _)
  have h2 := ab_in (D := D) (ys := ek.2.2 ++ eg.2.2) nd' (e := ek) (List.mem_filter.mpr ⟨hk, decide_eq_true ne⟩)
  rw [List.length_append] at h2
  unfold abJoin
  exact om167 h1 h2
theorem abJoin_addr (nd : (l.map (·.1)).Nodup) (na : (l.map (·.2.1)).Nodup) (hD : D ∉ l.map (·.2.1)) : ((abJoin l k g D ys).map (·.2.1)).Nodup := by
  have key : ∀ l : Ab, (l.map (·.1)).Nodup → (l.map (·.2.1)).Nodup → D ∉ l.map (·.2.1) → ((l.map fun e => if e.1 = k then (k, D, ys) else e).map (·.2.1)).Nodup := by
    intro l
    induction l with
    | nil => intro _ _ _; exact .nil
    | cons x r ih =>
      intro n1 n2 n3
      rw [List.map_cons, List.nodup_cons] at n1 n2
      have n3' : D ≠ x.2.1 ∧ D ∉ r.map (·.2.1) := by simpa using n3
      rw [List.map_cons, List.map_cons, List.nodup_cons]
      refine ⟨?_, ih n1.2 n2.2 n3'.2⟩
      by_cases hx : x.1 = k
      · rw [if_pos hx, ab_map_id (hx ▸ n1.1)]; exact n3'.2
      · rw [if_neg hx]
        intro h
        obtain ⟨y, hy, q⟩ := List.mem_map.mp h
        obtain ⟨z, hz, rfl⟩ := List.mem_map.mp hy
        by_cases hz2 : z.1 = k
        · rw [if_pos hz2] at q; exact n3'.1 q
        · rw [if_neg hz2] at q; exact n2.1 (q ▸ List.mem_map_of_mem (f := (·.2.1)) hz)
  have sub : (l.filter fun e => decide (e.1 ≠ g)).Sublist l := List.filter_sublist
  exact key _ (nd.sublist (sub.map _)) (na.sublist (sub.map _)) fun h => hD ((sub.map _).subset h)
theorem abJoin_dict {ek : Nat × Addr × List Nat} (hk : ek ∈ l) (hkk : ek.1 = k) (hkg : k ≠ g) :
    stored (without (l.map fun e => ((e.1 : Int), Value.ref e.2.1)) (g : Int)) (k : Int) (.ref D) = (abJoin l k g D ys).map fun e => ((e.1 : Int), Value.ref e.2.1) := by
  have h1 : without (l.map fun e => ((e.1 : Int), Value.ref e.2.1)) (g : Int) = (l.filter fun e => decide (e.1 ≠ g)).map fun e => ((e.1 : Int), Value.ref e.2.1) := by
    unfold without
    rw [List.filter_map]
    congr 1
    refine List.filter_congr fun e _ => ?_
    by_cases h : e.1 = g
    · simp [h]
    · have h2 : ¬ ((e.1 : Int) = (g : Int)) := by exact om102 h
      simp [h, h2]
  rw [h1]
  unfold stored
  rw [if_pos]
  · unfold abJoin
    rw [List.map_map, List.map_map]
    refine List.map_congr_left fun e _ => ?_
    show (if ((e.1 : Int)) = (k : Int) then ((e.1 : Int), Value.ref D) else ((e.1 : Int), Value.ref e.2.1)) = (((if e.1 = k then (k, D, ys) else e).1 : Int), Value.ref (if e.1 = k then (k, D, ys) else e).2.1)
    by_cases h : e.1 = k
    · rw [if_pos (by exact om82 h), if_pos h, h]
    · rw [if_neg (by exact om102 h), if_neg h]
  · rw [List.any_eq_true]
    exact ⟨_, List.mem_map.mpr ⟨ek, List.mem_filter.mpr ⟨hk, decide_eq_true (hkk ▸ hkg)⟩, rfl⟩, by simp [hkk]⟩
end
end P2
section P3
open PySem
noncomputable def abPut (l : Ab) (c x : Nat) : Ab := l.map fun e => if e.1 = c then (e.1, e.2.1, e.2.2 ++ [x]) else e
section
variable {l : Ab} {c x : Nat}
theorem abPut_keys : (abPut l c x).map (·.1) = l.map (·.1) := by
  unfold abPut; rw [List.map_map]
  refine List.map_congr_left fun e _ => ?_
  show (if e.1 = c then (e.1, e.2.1, e.2.2 ++ [x]) else e).1 = e.1
  split <;> rfl
theorem abPut_addr : (abPut l c x).map (·.2.1) = l.map (·.2.1) := by
  unfold abPut; rw [List.map_map]
  refine List.map_congr_left fun e _ => ?_
  show (if e.1 = c then (e.1, e.2.1, e.2.2 ++ [x]) else e).2.1 = e.2.1
  split <;> rfl
theorem abPut_dict : (abPut l c x).map (fun e => ((e.1 : Int), Value.ref e.2.1)) = l.map fun e => ((e.1 : Int), Value.ref e.2.1) := by
  unfold abPut; rw [List.map_map]
  refine List.map_congr_left fun e _ => ?_
  show (((if e.1 = c then (e.1, e.2.1, e.2.2 ++ [x]) else e).1 : Int), Value.ref (if e.1 = c then (e.1, e.2.1, e.2.2 ++ [x]) else e).2.1) = _
  split <;> rfl
theorem abPut_mem {e : Nat × Addr × List Nat} (h : e ∈ abPut l c x) : ∃ y ∈ l, e.1 = y.1 ∧ e.2.1 = y.2.1 ∧ ((y.1 = c ∧ e.2.2 = y.2.2 ++ [x]) ∨ (y.1 ≠ c ∧ e = y)) := by
  obtain ⟨y, hy, rfl⟩ := List.mem_map.mp h
  refine ⟨y, hy, ?_⟩
  by_cases q : y.1 = c
  · rw [if_pos q]; exact ⟨rfl, rfl, .inl ⟨q, rfl⟩⟩
  · rw [if_neg q]; exact ⟨rfl, rfl, .inr ⟨q, rfl⟩⟩
theorem abPut_old {y : Nat × Addr × List Nat} (h : y ∈ l) : ∃ e ∈ abPut l c x, e.1 = y.1 ∧ (∀ z ∈ y.2.2, z ∈ e.2.2) ∧ (y.1 = c → x ∈ e.2.2) := by
  refine ⟨_, List.mem_map.mpr ⟨y, h, rfl⟩, ?_⟩
  by_cases q : y.1 = c
  · rw [if_pos q]; exact ⟨rfl, fun z hz => List.mem_append_left _ hz, fun _ => by simp⟩
  · rw [if_neg q]; exact ⟨rfl, fun z hz => hz, fun z => absurd z q⟩
theorem abPut_sum (nd : (l.map (·.1)).Nodup) : sumlen (abPut l c x) ≤ sumlen l + 1 := by
  have id : ∀ l : Ab, c ∉ l.map (·.1) → abPut l c x = l := fun l h => by
    have : ∀ e ∈ l, (if e.1 = c then (e.1, e.2.1, e.2.2 ++ [x]) else e) = e := fun e he => if_neg fun (q : e.1 = c) => h (q ▸ List.mem_map_of_mem (f := (·.1)) he)
    exact (List.map_congr_left this).trans (List.map_id' l)
  induction l with
  | nil => exact Nat.zero_le _
  | cons y r ih =>
    rw [List.map_cons, List.nodup_cons] at nd
    by_cases q : y.1 = c
    · have h1 : abPut (y :: r) c x = (y.1, y.2.1, y.2.2 ++ [x]) :: r := by
        have := id r (q ▸ nd.1)
        unfold abPut at this ⊢
        rw [List.map_cons, if_pos q, this]
      rw [h1]; simp [sumlen]; exact om53
    · have h1 : abPut (y :: r) c x = y :: abPut r c x := by unfold abPut; rw [List.map_cons, if_neg q]
      have := ih nd.2
      rw [h1]; simp only [sumlen, List.map_cons, List.sum_cons] at this ⊢; exact om122 this
end
end P3
set_option bootstrap.genMatcherCode true
set_option compiler.extract_closed false
set_option hygiene false
local macro_rules | `(tactic| walk_at "m id") => `(tactic| repeat (first | exact List.Mem.head _ | refine List.Mem.tail _ ?_))
local macro_rules | `(tactic| walk_at "m nd") => `(tactic| repeat (first | exact ndh (by walk_at "m id") | exact ndg (by walk_at "m id") | refine ndc ?_))
local macro_rules | `(tactic| walk_at "m sm") => `(tactic| first | (with_reducible walk_at "m id"; done) | simp)
set_option bootstrap.genMatcherCode false
section B1
noncomputable abbrev NoE : Value → Shared → Prop := fun _ _ => False
theorem liftE {α : Type} {M : Model} {A : Around} {t : Sem α} {Q : α → Shared → Prop} {E : Value → Shared → Prop} {s : Shared} (h : wpAny M A t Q NoE s) : wpAny M A t Q E s :=
  wpAny_mono h (fun _ _ x => x) (fun _ _ x => x.elim)
noncomputable def attrOk (K : Frag) (C : Addr) (name : Str) : Bool := plainGet K C name && hasDictIn K C && (findIn K (.ref C) name == some none)
noncomputable def methOk (K : Frag) (C : Addr) (name : Str) (f : Addr) : Bool := plainGet K C name && (findIn K (.ref C) name == some (some (.ref f))) && isFn K (.ref f)
end B1
section B2
structure Wd (w : World) (h : Heap) : Prop where
  k : (K w.params).In h
  g : ∃ mg, h.Ns mainGlobals mg
  b : ∃ mb, h.Ns builtinsNs mb ∧ ∀ x : Str, x ≠ "__name__" → mb x = bootBuiltins x
  lim : h.NoLimit
  dig : ∃ mc, h.Ns cStatics mc ∧ mc "sys.int_max_str_digits" = none
theorem Wd.keeps {w : World} {h h' : Heap} (W : Wd w h) (k : ∀ b o, h.get? b = some o → h'.get? b = some o) : Wd w h' :=
  ⟨W.k.keeps k, let ⟨m, a⟩ := W.g; ⟨m, a.keeps k⟩, let ⟨m, a, b⟩ := W.b; ⟨m, a.keeps k, b⟩, W.lim.keeps k, let ⟨m, a, b⟩ := W.dig; ⟨m, a.keeps k, b⟩⟩
section
variable {w : World} {A : Around} {E : Value → Shared → Prop} {s : Shared} {h₀ : Heap} {L a : Addr} {m : Str → Option Value} {cn : Str} {cs : Scope} {ccd : Value}
theorem enter {f c : Addr} {x : Arguments × List Stmt × Scope} {P : Arguments} {B : List Stmt} {S : Scope} {name qual : Str} {pm : Value} {vals : List Value} {binds : List (Str × Value)} {Q : Value → Shared → Prop}
    (W : Wd w s.heap) (hx : x = (P, B, S)) (ho : ∀ p, (K p).lookup f = some ⟨.type "function", none, .func (fo x name qual pm (.ref c)), #[]⟩) (hcd : ∀ p, codeIn (K p) (.ref c) qual = true)
    (hroom : A.depth < recursionLimit) (hbind : bindArgs (fo (P, B, S) name qual pm (.ref c)) ⟨vals, []⟩ = pure binds) (hloc : ∀ y ∈ binds, S.names.lookup y.1 = some .local)
    (hcell : ∀ y ∈ S.names, y.2 ≠ .cell)
    (h : ∀ h₁, Fr s.heap s.heap.objs.size h₁ (fun y => binds.reverse.lookup y) →
      wpAny (model PySem.Challenge.pw_pq0072_01 w) (A.deeper (envOf qual S s.heap.objs.size f (.ref c))) (execs B (envOf qual S s.heap.objs.size f (.ref c)))
        (fun fl s' => Q (match fl with | .ret v => v | _ => .none) s') NoE { s with heap := h₁, toks := s.toks + binds.length })
    (hco : S.isCoroutine = false := by rfl) (hgen : S.isGenerator = false := by rfl) (hk : S.kind = .function := by rfl) :
    wpAny (model PySem.Challenge.pw_pq0072_01 w) A (call (.ref f) vals) Q E s := by
  subst hx
  refine wpAny_call (codeAny_call_def (fd := fo (P, B, S) name qual pm (.ref c)) (body := B) (binds := binds) hroom (W.k _ _ (ho w.params)) rfl W.lim (codeRec_of W.k (hcd w.params)) rfl (BindsTo.of_eq hbind) hcell hloc (fun h₁ hns hk₁ => ?_) hco hgen hk)
  exact wpAny_mono (h h₁ ⟨hns, hk₁, Nat.le_refl _⟩) (fun _ _ q => q) fun _ _ q => q.elim
structure Inst (h : Heap) (x C : Addr) (fs : List (Str × Value)) : Prop where
  ex : ∃ ox od, InstAt h x ox C (some od) ∧ ∀ name, lookIn name od = some (fs.lookup name)
theorem instAt_keeps {h h' : Heap} {x C : Addr} {ox od : Obj} (k : ∀ b o, h.get? b = some o → h'.get? b = some o) (I : InstAt h x ox C (some od)) : InstAt h' x ox C (some od) := by
  obtain ⟨a, b, c, d⟩ := I
  refine ⟨k _ _ a, b, c, ?_⟩
  cases q : ox.dict with
  | none => rw [q] at d; exact d
  | some dx => rw [q] at d; exact k _ _ d
theorem Inst.keeps {h h' : Heap} {x C : Addr} {fs : List (Str × Value)} (k : ∀ b o, h.get? b = some o → h'.get? b = some o) (I : Inst h x C fs) : Inst h' x C fs :=
  let ⟨ox, od, i, l⟩ := I.ex; ⟨ox, od, instAt_keeps k i, l⟩
theorem getF {x C : Addr} {fs : List (Str × Value)} {name : Str} {v : Value} {expr : Bool} {Q : Value → Shared → Prop} (W : Wd w s.heap) (I : Inst s.heap x C fs)
    (ok : attrOk (K w.params) C name = true) (hv : fs.lookup name = some v) (h : Q v { s with toks := s.toks + 1 }) (hh : handedIn v = true := by rfl) :
    wpAny (model PySem.Challenge.pw_pq0072_01 w) A (getAttr (.ref x) name expr) Q E s := by
  refine elEEA I.ex fun ox od i l => ?_
  unfold attrOk at ok
  simp only [Bool.and_eq_true, beq_iff_eq] at ok
  refine elA ok fun Xx1 c => ?_
  refine elA Xx1 fun a b => ?_
  exact get_value W.k i (plainGet_of a).1 (findObj_own b c rfl (by rw [l, hv])) hh h
theorem getM {x C f : Addr} {fs : List (Str × Value)} {name : Str} {pl : Sem Bool} {Q : Value × List Value → Shared → Prop} (W : Wd w s.heap) (I : Inst s.heap x C fs)
    (ok : methOk (K w.params) C name f = true) (hv : fs.lookup name = none) (h : Q (.ref f, [.ref x]) s) :
    wpAny (model PySem.Challenge.pw_pq0072_01 w) A (getMethod (.ref x) name pl) Q E s := by
  refine elEEA I.ex fun ox od i l => ?_
  unfold methOk at ok
  simp only [Bool.and_eq_true, beq_iff_eq] at ok
  refine elA ok fun Xx2 c => ?_
  refine elA Xx2 fun a b => ?_
  exact method_fn W.k i (plainGet_of a).1 (plainGet_of a).2 b (beq_iff_eq.mp c) (by show (lookIn name od).map _ = _; rw [l, hv]; rfl) h
end
end B2
section B2b
noncomputable abbrev Ents := List (Addr × Obj)
noncomputable abbrev Binds := List (Str × Value)
noncomputable abbrev Kp (h h' : Heap) : Prop := ∀ b o, h.get? b = some o → h'.get? b = some o
structure Cx (h₀ : Heap) (L : Addr) (h : Heap) (l : Binds) (n : Ents) : Prop where
  fr : ∃ m, h.Ns L m ∧ ∀ x v, l.lookup x = some v → m x = some v
  keep : Kp h₀ h
  hL : h₀.get? L = none
  nw : ∀ p ∈ n, h.get? p.1 = some p.2 ∧ p.1 ≠ L ∧ h₀.get? p.1 = none
  nd : (n.map (·.1)).Nodup
theorem lookup_subm {m : Str → Option Value} : ∀ {l' : Binds}, (∀ p ∈ l', m p.1 = some p.2) → ∀ x v, l'.lookup x = some v → m x = some v
  | [], _, _, _, e => by cases e
  | p :: r, hs, x, v, e => by
    obtain ⟨y, u⟩ := p
    rw [List.lookup_cons] at e
    cases q : x == y with
    | true =>
      rw [q] at e
      have := eq_of_beq q
      subst this
      obtain rfl : u = v := Option.some.inj e
      exact hs _ (.head _)
    | false =>
      rw [q] at e
      exact lookup_subm (fun p hp => hs p (.tail _ hp)) x v e
section
variable {h₀ h h' g : Heap} {L : Addr} {l l' : Binds} {n n' : Ents}
theorem Cx.get (C : Cx h₀ L h l n) {a : Addr} {o : Obj} (hm : (a, o) ∈ n) : h.get? a = some o := (C.nw _ hm).1
theorem Cx.weaken (C : Cx h₀ L h l n) (hs : ∀ x v, l'.lookup x = some v → l.lookup x = some v) : Cx h₀ L h l' n :=
  let ⟨m, F, k⟩ := C.fr; ⟨⟨m, F, fun x v e => k x v (hs x v e)⟩, C.keep, C.hL, C.nw, C.nd⟩
theorem lookup_sub {l' l : Binds} (hs : ∀ p ∈ l', l.lookup p.1 = some p.2) : ∀ x v, l'.lookup x = some v → l.lookup x = some v := lookup_subm (m := fun x => l.lookup x) hs
theorem Cx.names (C : Cx h₀ L h l n) (hs : ∀ p ∈ l', l.lookup p.1 = some p.2) : Cx h₀ L h l' n := C.weaken (lookup_sub hs)
theorem Cx.sub (C : Cx h₀ L h l n) (p : n'.Sublist n) : Cx h₀ L h l n' :=
  ⟨C.fr, C.keep, C.hL, fun q hq => C.nw q (p.subset hq), C.nd.sublist (p.map _)⟩
theorem Cx.base (C : Cx h₀ L h l n) (k : Kp g h₀) : Cx g L h l n :=
  ⟨C.fr, fun b o e => C.keep b o (k b o e), (by cases q : g.get? L with | none => rfl | some o => have := k _ _ q; rw [C.hL] at this; cases this),
    fun p hp => ⟨(C.nw p hp).1, (C.nw p hp).2.1, by cases q : g.get? p.1 with | none => rfl | some o => have := k _ _ q; rw [(C.nw p hp).2.2] at this; cases this⟩, C.nd⟩
theorem Cx.grow (C : Cx h₀ L h l n) (k : Kp h h') : Cx h₀ L h' l n := by
  refine elEA C.fr fun m F q => ?_
  exact ⟨⟨m, F.keeps k, q⟩, fun b o e => k b o (C.keep b o e), C.hL, fun p hp => ⟨k _ _ (C.nw p hp).1, (C.nw p hp).2⟩, C.nd⟩
theorem Cx.none_of (C : Cx h₀ L h l n) {a : Addr} (ha : h.get? a = none) : h₀.get? a = none := by
  cases q : h₀.get? a with
  | none => rfl
  | some o => have := C.keep _ _ q; rw [ha] at this; cases this
theorem Cx.live (C : Cx h₀ L h l n) : ∃ o, h.get? L = some o := let ⟨_, ⟨o, _, _, e, _⟩, _⟩ := C.fr; ⟨o, e⟩
theorem Cx.new (C : Cx h₀ L h l n) {a : Addr} {o : Obj} (k : Kp h h') (ha : h.get? a = none) (ho : h'.get? a = some o) : Cx h₀ L h' l ((a, o) :: n) := by
  have G := C.grow k
  refine ⟨G.fr, G.keep, G.hL, fun p hp => ?_, ?_⟩
  · rcases List.mem_cons.mp hp with rfl | hp
    · refine ⟨ho, fun e => ?_, C.none_of ha⟩
      refine elE C.live fun o q => ?_
      rw [← (show a = L from e), ha] at q; cases q
    · exact G.nw p hp
  · rw [List.map_cons, List.nodup_cons]
    refine ⟨fun q => ?_, C.nd⟩
    refine elEA (List.mem_map.mp q) fun p hp e => ?_
    have := (C.nw p hp).1
    rw [e, ha] at this; cases this
theorem size_none (h : Heap) : h.get? h.objs.size = none := by
  cases q : h.get? h.objs.size with
  | none => rfl
  | some o => exact absurd (Heap.lt_size q) (Nat.lt_irrefl _)
theorem Cx.push (C : Cx h₀ L h l n) (o : Obj) (hfree : o.isFreed = false := by rfl) : Cx h₀ L (h.push o) l ((h.objs.size, o) :: n) :=
  C.new (fun _ _ e => Heap.get?_push_of_some _ e) (size_none h) (Heap.get?_push_size _ hfree)
theorem Cx.chg {n₁ n₂ : Ents} {a : Addr} {o o' : Obj} (C : Cx h₀ L h l (n₁ ++ (a, o) :: n₂)) (k : ∀ b o, b ≠ a → h.get? b = some o → h'.get? b = some o) (ho : h'.get? a = some o') : Cx h₀ L h' l (n₁ ++ (a, o') :: n₂) := by
  have nd := C.nd
  simp only [List.map_append, List.map_cons] at nd
  have nd1 := List.nodup_append.mp nd
  have nd2 := List.nodup_cons.mp nd1.2.1
  refine elEA C.fr fun m Xx1 q => ?_
  refine elEEEA Xx1 fun oL es ep eL r => ?_
  have ha := C.nw (a, o) (by walk_at "m sm")
  refine ⟨⟨m, ⟨oL, es, ep, k _ _ (Ne.symm ha.2.1) eL, r⟩, q⟩, fun b o e => k b o (fun z => by have := ha.2.2; rw [← z, e] at this; cases this) (C.keep b o e), C.hL, fun p hp => ?_, by simpa only [List.map_append, List.map_cons] using nd⟩
  rcases List.mem_append.mp hp with hp | hp
  · have := C.nw p (List.mem_append_left _ hp)
    exact ⟨k _ _ (nd1.2.2 p.1 (List.mem_map_of_mem hp) a (.head _)) this.1, this.2⟩
  · rcases List.mem_cons.mp hp with rfl | hp
    · exact ⟨ho, ha.2⟩
    · have := C.nw p (List.mem_append_right _ (.tail _ hp))
      exact ⟨k _ _ (fun z => nd2.1 (z ▸ List.mem_map_of_mem hp)) this.1, this.2⟩
noncomputable abbrev bar (h : Heap) (n : Ents) : Heap := hideAll h (n.map (·.1))
structure Own (B h : Heap) (n : Ents) : Prop where
  stay : Kp B h
  at_ : ∀ p ∈ n, h.get? p.1 = some p.2
  off : ∀ p ∈ n, B.get? p.1 = none
  nd : (n.map (·.1)).Nodup
theorem Own.bar {B h : Heap} (O : Own B h n) : Kp B (bar h n) := fun b o e =>
  hideAll_get _ (O.stay b o e) fun q => by
    obtain ⟨p, hp, rfl⟩ := List.mem_map.mp q
    rw [O.off p hp] at e; cases e
theorem Own.nil (h : Heap) : Own h h [] := ⟨fun _ _ e => e, (fun _ h => nomatch h), (fun _ h => nomatch h), .nil⟩
theorem Own.same {B h : Heap} (O : Own B h n) : Own (Mine.bar h n) h n :=
  ⟨fun _ _ e => of_hideAll _ e, O.at_, fun p hp => hideAll_none _ (List.mem_map_of_mem hp), O.nd⟩
theorem Cx.own (C : Cx h₀ L h l n) : Own h₀ h n := ⟨C.keep, fun p hp => (C.nw p hp).1, fun p hp => (C.nw p hp).2.2, C.nd⟩
theorem Cx.back {r n' : Ents} (C : Cx h₀ L h l (r ++ n)) (k : Kp (Mine.bar h n) h') (O : ∀ p ∈ n', h'.get? p.1 = some p.2 ∧ (Mine.bar h n).get? p.1 = none) (nd : (n'.map (·.1)).Nodup) : Cx h₀ L h' l (r ++ n') := by
  refine elEA C.fr fun m F q => ?_
  have nd0 := C.nd
  rw [List.map_append] at nd0
  have nd1 := List.nodup_append.mp nd0
  refine elEEEA F fun oL es ep hL r1 => ?_
  have hLn : (Mine.bar h n).get? L = some oL := hideAll_get _ hL fun z => by
    refine elEA (List.mem_map.mp z) fun p hp e => ?_
    exact (C.nw p (List.mem_append_right _ hp)).2.1 e
  have hb : Kp h₀ (Mine.bar h n) := fun b o e => hideAll_get _ (C.keep b o e) fun z => by
    obtain ⟨p, hp, rfl⟩ := List.mem_map.mp z
    rw [(C.nw p (List.mem_append_right _ hp)).2.2] at e; cases e
  have hr : ∀ p ∈ r, (Mine.bar h n).get? p.1 = some p.2 := fun p hp => hideAll_get _ (C.nw p (List.mem_append_left _ hp)).1 fun z => nd1.2.2 _ (List.mem_map_of_mem hp) _ z rfl
  refine ⟨⟨m, ⟨oL, es, ep, k _ _ hLn, r1⟩, q⟩, fun b o e => k _ _ (hb b o e), C.hL, fun p hp => ?_, ?_⟩
  · rcases List.mem_append.mp hp with hp | hp
    · have := C.nw p (List.mem_append_left _ hp)
      exact ⟨k _ _ (hr p hp), this.2⟩
    · refine ⟨(O p hp).1, fun z => ?_, ?_⟩
      · have := (O p hp).2; rw [z, hLn] at this; cases this
      · cases z : h₀.get? p.1 with
        | none => rfl
        | some o => have := (O p hp).2; rw [hb _ _ z] at this; cases this
  · rw [List.map_append, List.nodup_append]
    refine ⟨nd1.1, nd, fun a ha b hb' e => ?_⟩
    obtain ⟨p, hp, rfl⟩ := List.mem_map.mp ha
    obtain ⟨p', hp', rfl⟩ := List.mem_map.mp hb'
    have := (O p' hp').2
    rw [← e, hr p hp] at this
    cases this
end
section
variable {w : World} {A : Around} {E : Value → Shared → Prop} {s : Shared} {h₀ : Heap} {L : Addr} {l : Binds} {n : Ents} {M : Model} {env : Env}
theorem ldC {x : Str} {pos : Pos} {v : Value} {Q : Value → Shared → Prop} (C : Cx h₀ L s.heap l n) (hv : l.lookup x = some v) (h : Q v s)
    (he : env.locals = L := by rfl) (hk : env.scope.kind = .function := by rfl) (hl : env.kindOf x = some .local := by rfl) (hd : (x == ("__debug__" : Str)) = false := by decide) :
    wpAny M A (eval (.Name x pos) env) Q E s :=
  let ⟨_, F, k⟩ := C.fr; wpAny_Name (wpAny_loadName_local hk hl (he ▸ F) (k x v hv) h) hd
theorem ldK {x : Str} {pos : Pos} {c : Addr} {o : Obj} {v : Value} {Q : Value → Shared → Prop} (ho : s.heap.get? c = some o) (hd' : o.data = .cell (some v)) (h : Q v s)
    (hc : env.cells.lookup x = some c := by rfl) (hk : env.scope.kind = .function := by rfl) (hl : env.kindOf x = some .cell := by rfl) (hd : (x == ("__debug__" : Str)) = false := by decide) :
    wpAny M A (eval (.Name x pos) env) Q E s := wpAny_Name (wpAny_loadName_cell hk hl hc ⟨o, ho, hd'⟩ h) hd
theorem gnC {x : Str} {pos : Pos} {v : Value} {Q : Value → Shared → Prop} (W : Wd w h₀) (C : Cx h₀ L s.heap l n) (e : nsIn (K w.params) mainGlobals x = some (some v)) (h : Q v s)
    (hk : env.scope.kind = .function := by rfl) (hx : env.kindOf x = some .globalImplicit := by rfl) (hg : env.globals = mainGlobals := by rfl) (hd : (x == ("__debug__" : Str)) = false := by decide) :
    wpAny M A (eval (.Name x pos) env) Q E s :=
  let ⟨_, G⟩ := W.g; Calls.Name_function_global hk hx (Calls.loadGlobal_global (hg ▸ G.keeps C.keep) (mg_of W.k G e) h) hd
theorem bnC {x : Str} {pos : Pos} {v : Value} {Q : Value → Shared → Prop} (W : Wd w h₀) (C : Cx h₀ L s.heap l n) (e : nsIn (K w.params) mainGlobals x = some none) (hv : bootBuiltins x = some v) (h : Q v s)
    (hn : x ≠ "__name__" := by decide) (hk : env.scope.kind = .function := by rfl) (hx : env.kindOf x = some .globalImplicit := by rfl) (hg : env.globals = mainGlobals := by rfl) (hb : env.builtins = builtinsNs := by rfl) (hd : (x == ("__debug__" : Str)) = false := by decide) :
    wpAny M A (eval (.Name x pos) env) Q E s :=
  let ⟨_, G⟩ := W.g; let ⟨_, B, hbb⟩ := W.b
  Calls.Name_function_global hk hx (Calls.loadGlobal_builtin (hg ▸ G.keeps C.keep) (mg_none_of W.k G e) (hb ▸ B.keeps C.keep) ((hbb x hn).trans hv) h) hd
theorem stC {x : Str} {v : Value} {Q : Unit → Shared → Prop} (C : Cx h₀ L s.heap l n)
    (h : ∀ h', Cx h₀ L h' ((x, v) :: l) n → Q () { s with heap := h', toks := s.toks + 1 })
    (he : env.locals = L := by rfl) (hk : env.scope.kind = .function := by rfl) (hl : env.kindOf x = some .local := by rfl) :
    wpAny M A (storeName env x v) Q E s := by
  subst he
  refine elEA C.fr fun m F k => ?_
  refine wpAny_storeName_local hl F (fun h' hn hs => h h' ⟨⟨_, hn, fun y u e => ?_⟩, fun b o e => (hs.2 b fun q => ?_).trans (C.keep b o e), C.hL, fun p hp => ⟨(hs.2 _ (C.nw p hp).2.1).trans (C.nw p hp).1, (C.nw p hp).2⟩, C.nd⟩)
    (by rw [hk]; rfl)
  · rw [List.lookup_cons] at e
    cases q : y == x with
    | true => rw [q] at e; rw [if_pos (eq_of_beq q)]; exact e
    | false => rw [q] at e; rw [if_neg (ne_of_beq_false q)]; exact k y u e
  · rw [q, C.hL] at e; cases e
theorem gfC {x C : Addr} {fs : Binds} {name : Str} {v : Value} {expr : Bool} {Q : Value → Shared → Prop} (W : Wd w h₀) (X : Cx h₀ L s.heap l n) (I : Inst h₀ x C fs)
    (ok : attrOk (K w.params) C name = true) (hv : fs.lookup name = some v) (h : Q v { s with toks := s.toks + 1 }) (hh : handedIn v = true := by rfl) :
    wpAny (model PySem.Challenge.pw_pq0072_01 w) A (getAttr (.ref x) name expr) Q E s := getF (W.keeps X.keep) (I.keeps X.keep) ok hv h hh
theorem gmC {x C f : Addr} {fs : Binds} {name : Str} {pl : Sem Bool} {Q : Value × List Value → Shared → Prop} (W : Wd w h₀) (X : Cx h₀ L s.heap l n) (I : Inst h₀ x C fs)
    (ok : methOk (K w.params) C name f = true) (hv : fs.lookup name = none) (h : Q (.ref f, [.ref x]) s) :
    wpAny (model PySem.Challenge.pw_pq0072_01 w) A (getMethod (.ref x) name pl) Q E s := getM (W.keeps X.keep) (I.keeps X.keep) ok hv h
theorem enterC {f c : Addr} {x : Arguments × List Stmt × Scope} {P : Arguments} {B : List Stmt} {S : Scope} {name qual : Str} {pm : Value} {vals : List Value} {binds : Binds} {Q : Value → Shared → Prop} {B₀ : Heap} {n : Ents}
    (W : Wd w B₀) (O : Own B₀ s.heap n) (hx : x = (P, B, S)) (ho : ∀ p, (K p).lookup f = some ⟨.type "function", none, .func (fo x name qual pm (.ref c)), #[]⟩) (hcd : ∀ p, codeIn (K p) (.ref c) qual = true)
    (hroom : A.depth < recursionLimit) (hbind : bindArgs (fo (P, B, S) name qual pm (.ref c)) ⟨vals, []⟩ = pure binds) (hloc : ∀ y ∈ binds, S.names.lookup y.1 = some .local)
    (hcell : ∀ y ∈ S.names, y.2 ≠ .cell)
    (h : ∀ L h₁, Wd w (bar s.heap n) → Cx (bar s.heap n) L h₁ binds.reverse n →
      wpAny (model PySem.Challenge.pw_pq0072_01 w) (A.deeper (envOf qual S L f (.ref c))) (execs B (envOf qual S L f (.ref c)))
        (fun fl s' => Q (match fl with | .ret v => v | _ => .none) s') NoE { s with heap := h₁, toks := s.toks + binds.length })
    (hco : S.isCoroutine = false := by rfl) (hgen : S.isGenerator = false := by rfl) (hk : S.kind = .function := by rfl) :
    wpAny (model PySem.Challenge.pw_pq0072_01 w) A (call (.ref f) vals) Q E s := by
  refine enter (W.keeps O.stay) hx ho hcd hroom hbind hloc hcell (fun h₁ F => h _ h₁ (W.keeps O.bar) ⟨⟨_, F.ns, fun _ _ e => e⟩, fun b o e => F.keep b o (of_hideAll _ e), ?_, fun p hp => ⟨F.keep _ _ (O.at_ p hp), Nat.ne_of_lt (Heap.lt_size (O.at_ p hp)), hideAll_none _ (List.mem_map_of_mem hp)⟩, O.nd⟩) hco hgen hk
  cases q : (bar s.heap n).get? s.heap.objs.size with
  | none => rfl
  | some o => exact absurd (Heap.lt_size (of_hideAll _ q)) (Nat.lt_irrefl _)
theorem enterK {f c : Addr} {x : Arguments × List Stmt × Scope} {P : Arguments} {B : List Stmt} {S : Scope} {name qual : Str} {pm : Value} {vals : List Value} {binds l : Binds} {Q : Value → Shared → Prop} {B₀ : Heap} {n : Ents}
    (W : Wd w B₀) (O : Own B₀ s.heap n) (hx : x = (P, B, S)) (ho : ∀ p, (K p).lookup f = some ⟨.type "function", none, .func (fo x name qual pm (.ref c)), #[]⟩) (hcd : ∀ p, codeIn (K p) (.ref c) qual = true)
    (hroom : A.depth < recursionLimit) (hbind : bindArgs (fo (P, B, S) name qual pm (.ref c)) ⟨vals, []⟩ = pure binds)
    (hkind : KindsOk S (s.heap.objs.size + 1) binds) (hnd : ((cellsFrom 0 S.names []).map (·.1)).Nodup)
    (hl : ∀ p ∈ l, bindL (envOfC qual S s.heap.objs.size f (.ref c)).kindOf binds (fun _ => none) p.1 = some p.2)
    (h : ∀ L h₁ tk cells, Wd w (bar s.heap n) → CellsAre (bindC (envOfC qual S L f (.ref c)).kindOf binds fun _ => none) (cellsFrom (L + 1) S.names []) cells → Cx (bar s.heap n) L h₁ l (cells ++ n) →
      wpAny (model PySem.Challenge.pw_pq0072_01 w) (A.deeper (envOfC qual S L f (.ref c))) (execs B (envOfC qual S L f (.ref c)))
        (fun fl s' => Q (match fl with | .ret v => v | _ => .none) s') NoE { s with heap := h₁, toks := tk })
    (hap : ∀ L, ((cellsFrom (L + 1) S.names []).map (·.2)).Nodup)
    (hco : S.isCoroutine = false := by rfl) (hgen : S.isGenerator = false := by rfl) (hk : S.kind = .function := by rfl) :
    wpAny (model PySem.Challenge.pw_pq0072_01 w) A (call (.ref f) vals) Q E s := by
  subst hx
  have W' := W.keeps O.stay
  refine wpAny_call (codeAny_call_cells (fd := fo (P, B, S) name qual pm (.ref c)) (body := B) hroom (W'.k _ _ (ho w.params)) rfl W'.lim (codeRec_of W'.k (hcd w.params)) rfl hbind rfl (kinds_of hkind) (fun s₁ Y => ?_) hco hgen hk)
  refine elEEA Y.done fun h₁ tk Xx2 _ => ?_
  obtain rfl := Xx2
  have F : Fr s.heap s.heap.objs.size h₁ (bindL (envOfC qual S s.heap.objs.size f (.ref c)).kindOf binds fun _ => none) := ⟨Y.toInCall.ns, Y.toInCall.keep, Y.toInCall.fresh⟩
  have Z : Cl s.heap.objs.size (cellsFrom (s.heap.objs.size + 1) S.names []) h₁ (bindC (envOfC qual S s.heap.objs.size f (.ref c)).kindOf binds fun _ => none) := ⟨Y.cell, Y.apart, Y.above⟩
  refine elEA (Cl.news (h₀ := s.heap) (Nat.le_refl _) fun n c hm => ⟨Z.cell n c (lookup_of_mem_nodup (cellsFrom_names S.names 0 (s.heap.objs.size + 1) [] [] rfl ▸ hnd) hm), Z.above n c hm⟩) fun cells N X => ?_
  refine wpAny_mono (h _ h₁ tk cells (W.keeps O.bar) X ⟨⟨_, F.ns, lookup_subm hl⟩, fun b o e => F.keep b o (of_hideAll _ e), ?_, fun p hp => ?_, ?_⟩) (fun _ _ q => q) fun _ _ q => q.elim
  · cases q : (bar s.heap n).get? s.heap.objs.size with
    | none => rfl
    | some o => exact absurd (Heap.lt_size (of_hideAll _ q)) (Nat.lt_irrefl _)
  · rcases List.mem_append.mp hp with hp | hp
    · refine ⟨(N p hp).1, (N p hp).2.1, ?_⟩
      cases q : (bar s.heap n).get? p.1 with
      | none => rfl
      | some o => have := of_hideAll _ q; rw [(N p hp).2.2] at this; cases this
    · exact ⟨F.keep _ _ (O.at_ p hp), Nat.ne_of_lt (Heap.lt_size (O.at_ p hp)), hideAll_none _ (List.mem_map_of_mem hp)⟩
  · rw [List.map_append, List.nodup_append]
    have key : ∀ {cm : Str → Option Value} {cs : List (Str × Addr)} {cells : Ents}, CellsAre cm cs cells → cells.map (·.1) = cs.map (·.2) := by
      intro cm cs cells X
      induction X with
      | nil => rfl
      | cons _ _ ih => simp only [List.map_cons, ih]
    refine ⟨by rw [key X]; exact hap _, O.nd, fun a ha b hb e => ?_⟩
    obtain ⟨p, hp, rfl⟩ := List.mem_map.mp ha
    obtain ⟨q, hq, rfl⟩ := List.mem_map.mp hb
    have := (N p hp).2.2
    rw [e, O.at_ q hq] at this; cases this
end
section
variable {prog : Program} {w : World} {A : Around} {E : Value → Shared → Prop} {s : Shared} {env : Env}
theorem whileR {test : Expr} {body : List Stmt} {pos : Pos} {Q : Flow → Shared → Prop} (I : Nat → Shared → Prop) (n : Nat) (h : I n s)
    (turn : ∀ n s, I n s → wpAny (model prog w) A (isTrue test env (eval test env)) (fun b s₂ =>
      if b then wpAny (model prog w) A (execs body env) (fun f s₃ => match f with
          | .next | .cont => ∃ m, m < n ∧ I m s₃
          | .brk => Q .next s₃
          | .ret v => Q (.ret v) s₃) NoE s₂
        else Q .next s₂) NoE s) : wpAny (model prog w) A (exec (.While test body [] pos) env) Q E s := by
  refine wpAny_While (codeAny_whileLoop I (fun n s hI => ?_) n h)
  refine liftE (wpAny_mono (turn n s hI) (fun b s₂ hb => ?_) fun _ _ x => x)
  cases b with
  | true =>
    simp only [if_true] at hb ⊢
    exact liftE (wpAny_mono hb (fun f s₃ hf => by cases f <;> exact hf) fun _ _ x => x)
  | false =>
    simp only [Bool.false_eq_true, if_false] at hb ⊢
    exact wpAny_execs_nil hb
end
section
variable {prog : Program} {w : World} {A : Around} {E : Value → Shared → Prop} {s : Shared}
theorem itemR {value slice : PySem.Expr} {l : Addr} {vs : List Value} {k : Nat} {u : Tok} {v : Value} {Q : Value → Shared → Prop}
    (hl : s.heap.IsList l vs.toArray) (hx : vs[k]? = some v) (hhi : k < 1000000) (h : Q v s)
    (hs : subscripted slice false (.ref l) (.int (k : Int) u) = operate [.ref l, .int (k : Int) u] (getItem (.ref l) (.int (k : Int) u)) := by with_unfolding_all rfl) :
    wpAny (model prog w) A (subscriptTail value slice (.ref l) (.int (k : Int) u)) Q E s :=
  tail_any hl.typeIs slot_list_getitem.lookup (wpAny_getItem_list hl (by exact z_) (by exact p63p) (by simpa using hx) h) hs
end
theorem genQ {M : Model} {A : Around} {s : Shared} {α : Type} {c : Sem α} {Q : α → Shared → Prop} {E : Value → Shared → Prop} (h : ∀ Q' : α → Shared → Prop, (∀ v t, Q v t → Q' v t) → wpAny M A c Q' E s) : wpAny M A c Q E s := h Q fun _ _ x => x
end B2b
section B4
inductive Good {α : Type} (n : Nat) (R : α → Prop) : KasT α → Prop
  | ret {a} : R a → Good n R (.ret a)
  | ask {i j k} : i < n → j < n → (∀ b, Good n R (k b)) → Good n R (.ask i j k)
theorem Good.bind {α β : Type} {n : Nat} {R : α → Prop} {S : β → Prop} {t : KasT α} {f : α → KasT β} (h : Good n R t) (hf : ∀ a, R a → Good n S (f a)) : Good n S (t.bind f) := by
  induction h with
  | ret hr => exact hf _ hr
  | ask hi hj _ ih => exact .ask hi hj ih
theorem Good.ite {α : Type} {n : Nat} {R : α → Prop} {c : Prop} [Decidable c] {t u : KasT α} (h1 : c → Good n R t) (h2 : ¬ c → Good n R u) : Good n R (if c then t else u) := by
  split
  · exact h1 (by assumption)
  · exact h2 (by assumption)
noncomputable abbrev IsP (n : Nat) (p : Array Nat) : Prop := p.Perm (List.toArray (List.range n))
theorem IsP.at {n : Nat} {p : Array Nat} (h : IsP n p) (hn : 0 < n) (i : Nat) : p.getD i 0 < n := by
  by_cases hi : i < p.size
  · have hm : p[i] ∈ p.toList := by simp
    have := (Array.perm_iff_toList_perm.mp h).mem_iff.mp hm
    simpa [Array.getD, hi] using this
  · simpa [Array.getD, hi] using hn
theorem IsP.rev {n : Nat} {p : Array Nat} (h : IsP n p) (i j : Nat) : IsP n (kas_rev p i j) := (mirror_perm _ _ _ _).trans h
theorem good_asc {n : Nat} (hn : 0 < n) {p : Array Nat} (hp : IsP n p) : ∀ (f k : Nat), Good n (fun _ => True) (kas_asc p f k)
  | 0, _ => .ret trivial
  | f + 1, k => .ask (hp.at hn _) (hp.at hn _) fun b => .ite (fun _ => .ret trivial) fun _ => good_asc hn hp f _
theorem good_desc {n : Nat} (hn : 0 < n) : ∀ (f : Nat) {p : Array Nat} (k q : Nat), IsP n p → Good n (fun r => IsP n r.1) (kas_desc f p k q)
  | 0, _, _, _, hp => .ret hp
  | f + 1, p, k, q, hp => .ask (hp.at hn _) (hp.at hn _) fun b => .ite (fun _ => .ite (fun _ => good_desc hn f _ _ (hp.rev _ _)) fun _ => good_desc hn f _ _ hp) fun _ =>
      .ask (hp.at hn _) (hp.at hn _) fun d => .ite (fun _ => .ret hp) fun _ => good_desc hn f _ _ hp
theorem good_tail3 {n : Nat} (hn : 0 < n) {p : Array Nat} (hp : IsP n p) (k r : Nat) : Good n (fun x => IsP n x.2) (kas_tail3 k r p) :=
  (good_asc hn (hp.rev _ _) _ _).bind fun _ _ => .ret (hp.rev _ _)
theorem good_descPart {n : Nat} (hn : 0 < n) {p : Array Nat} (hp : IsP n p) (k r : Nat) : Good n (fun x => IsP n x.2) (kas_descPart k r p) :=
  (good_desc hn _ _ _ hp).bind fun _ h => .ite (fun _ => good_tail3 hn (h.rev _ _) _ _) fun _ => good_tail3 hn h _ _
theorem good_count {n : Nat} (hn : 0 < n) {p : Array Nat} (hp : IsP n p) (r : Nat) : Good n (fun x => IsP n x.2) (kas_count r p) :=
  (good_asc hn hp _ _).bind fun _ _ => .ite (fun _ => .ret hp) fun _ => .ite (fun _ => .ask (hp.at hn _) (hp.at hn _) fun _ => .ite (fun _ => .ret hp) fun _ => good_descPart hn (hp.rev _ _) _ _) fun _ => good_descPart hn hp _ _
theorem good_place {n : Nat} (hn : 0 < n) {p : Array Nat} (hp : IsP n p) (k : Nat) : ∀ (f l r : Nat), Good n (fun _ => True) (kas_place p k f l r)
  | 0, _, _ => .ret trivial
  | f + 1, _, _ => .ite (fun _ => .ret trivial) fun _ => .ask (hp.at hn _) (hp.at hn _) fun _ => .ite (fun _ => good_place hn hp k f _ _) fun _ => good_place hn hp k f _ _
theorem good_bin {n : Nat} (hn : 0 < n) : ∀ (f : Nat) {p : Array Nat} (k : Nat), IsP n p → Good n (IsP n) (kas_bin f p k)
  | 0, _, _, hp => .ret hp
  | f + 1, _, k, hp => (good_place hn hp k _ _ _).bind fun _ _ => good_bin hn f _ ((bubble_perm _ _ _).trans hp)
theorem good_sort {n : Nat} (hn : 0 < n) : Good n (IsP n) (kas_sort n) :=
  (good_count hn (Array.Perm.refl _) n).bind fun _ h => .ite (fun _ => good_bin hn _ _ h) fun _ => .ret h
noncomputable abbrev Tk (s s' : Shared) : Prop := ∃ tk, s' = { s with toks := tk }
theorem good_wp {α : Type} {n : Nat} {R : α → Prop} {cmp : Nat → Nat → (Bool → Shared → Prop) → Shared → Prop} {s : Shared}
    (hc : ∀ i j, i < n → j < n → ∀ s', Tk s s' → ∀ C : Bool → Shared → Prop, (∀ b s'', Tk s s'' → C b s'') → cmp i j C s') {t : KasT α} (h : Good n R t) :
    ∀ {Q : α → Shared → Prop} {s'}, Tk s s' → (∀ a s'', R a → Tk s s'' → Q a s'') → t.kasWp cmp Q s' := by
  induction h with
  | ret hr => intro Q s' k hq; exact hq _ _ hr k
  | ask hi hj _ ih => intro Q s' k hq; exact hc _ _ hi hj s' k _ fun b s'' k' => ih b k' hq
section
variable {prog : Program} {w : World} {A : Around} {s : Shared}
noncomputable def Sortable (prog : Program) (w : World) (A : Around) (vs : List Value) (s : Shared) : Prop :=
  ∀ Q : SortKind → Shared → Prop, (∀ κ s', Tk s s' → (∀ i j, i < vs.length → j < vs.length → ∀ s'', Tk s s'' → ∀ C : Bool → Shared → Prop, (∀ b s3, Tk s s3 → C b s3) →
    wpAny (model prog w) A (keyLt' κ (vs.getD i Value.none) (vs.getD j Value.none)) C NoE s'') → Q κ s') → wpAny (model prog w) A (keyKind' vs.toArray) Q NoE s
theorem kas_runs_any {κ : SortKind} {vs : List Value} {Q : SortSt → Shared → Prop} (h2 : 2 ≤ vs.length) (h64 : vs.length < 64)
    (hc : ∀ i j, i < vs.length → j < vs.length → ∀ s', Tk s s' → ∀ C : Bool → Shared → Prop, (∀ b s'', Tk s s'' → C b s'') → wpAny (model prog w) A (keyLt' κ (vs.getD i Value.none) (vs.getD j Value.none)) C NoE s')
    (h : ∀ p st' s', IsP vs.length p → arrOf st' = p.map (kas_item (vs.toArray.zip vs.toArray)) → failedOf st' = none → Tk s s' → Q st' s') {s' : Shared} (k : Tk s s') :
    wpAny (model prog w) A ((sortRuns').run (SortSt.mk' κ (vs.toArray.zip vs.toArray) #[] 7 none)) (fun r s' => Q r.2 s') NoE s' := by
  refine kat_run (ks := vs) (G := fun p s'' => IsP vs.length p ∧ Tk s s'') rfl h2 h64 (fun p st' s3 _ a2 a3 g => h p st' s3 g.1 a2 a3 g.2) ?_
  exact good_wp (s := s) (fun i j hi hj s1 k1 C hC => hc i j hi hj s1 k1 C hC) (good_sort (by exact om54 h2 h64)) k fun a s3 ra k3 => ⟨ra, k3⟩
end
end B4
section B5
noncomputable def Ext (s s' : Shared) : Prop := ∃ h' d tk, s' = { s with heap := h', drawn := d, toks := tk } ∧ Kp s.heap h'
theorem Ext.trans {a b c : Shared} (x : Ext a b) (y : Ext b c) : Ext a c := by
  refine elEEEA x fun h d t Xx1 k => ?_
  obtain rfl := Xx1
  refine elEEEA y fun h' d' t' Xx2 k' => ?_
  obtain rfl := Xx2
  exact ⟨h', d', t', rfl, fun b o e => k' b o (k b o e)⟩
theorem Ext.kp {s s' : Shared} (x : Ext s s') : Kp s.heap s'.heap := by obtain ⟨h, d, t, rfl, k⟩ := x; exact k
theorem Ext.mk {s : Shared} {h' : Heap} {d : Drawn} {tk : Nat} (k : Kp s.heap h') : Ext s { s with heap := h', drawn := d, toks := tk } := ⟨h', d, tk, rfl, k⟩
section
variable {prog : Program} {w : World} {A : Around} {s : Shared}
theorem sort_list {a : Addr} {vs : List Value} {n : Nat} {P : Fin → Shared → Prop} (ho : s.heap.get? a = some (seqObj "list" vs.toArray n)) (h64 : vs.length < 64)
    (hS : 2 ≤ vs.length → ∀ s', (∀ b o, b ≠ a → s.heap.get? b = some o → s'.heap.get? b = some o) → Sortable prog w A vs s')
    (h : ∀ (out : List Value) tk, out.Perm vs → P (.done (.ret .none)) { s with heap := sortedHeap s.heap a vs out.toArray, toks := tk }) :
    wpAny (model prog w) A (Builtin.«list.sort» ⟨[.ref a], []⟩) P NoE s := by
  rw [list_sort_plain]
  have ha : a < s.heap.objs.size := Heap.lt_size ho
  have hL : vs.length ≤ sizeLine := by rw [sizeLine_eq]; exact tl
  refine wpAny_bind (listItems_at ho rfl ?_)
  refine wpAny_bind (listUpdate_at ho rfl ?_ (by rw [List.size_toArray]; exact hL) (Nat.zero_le _))
  obtain ⟨e1, ho1⟩ : ∃ e1, (s.heap.update a (Obj.mapSeq fun _ => (#[] : Array Value))).get? a = some (seqObj "list" #[] e1) := ⟨_, get?_update_seq ho fun _ => #[]⟩
  refine wpAny_bind (seqEpoch_at ho1 rfl ?_)
  refine wpAny_bind (wpAny_newTuple ?_ (by show vs.length ≤ _; exact hL))
  refine wpAny_bind (wpAny_newList ?_ (Nat.zero_le _))
  refine wpAny_holding ?_
  have ho6 : (((s.heap.update a (Obj.mapSeq fun _ => (#[] : Array Value))).push (seqObj "tuple" vs.toArray 0)).push (seqObj "list" #[] 0)).get? a = some (seqObj "list" #[] e1) := Heap.get?_push_of_some _ (Heap.get?_push_of_some _ ho1)
  have keep : ∀ b o, b ≠ a → s.heap.get? b = some o → (((s.heap.update a (Obj.mapSeq fun _ => (#[] : Array Value))).push (seqObj "tuple" vs.toArray 0)).push (seqObj "list" #[] 0)).get? b = some o := fun b o hb e =>
    Heap.get?_push_of_some _ (Heap.get?_push_of_some _ ((Heap.get?_update_ne _ _ _ _ hb).trans e))
  show wpAny (model prog w) A _ P NoE { s with heap := ((s.heap.update a (Obj.mapSeq fun _ => (#[] : Array Value))).push (seqObj "tuple" vs.toArray 0)).push (seqObj "list" #[] 0) }
  dsimp only
  by_cases h2 : vs.length < 2
  · have hn2 : vs.toArray.size < 2 := by rw [List.size_toArray]; exact h2
    rw [if_pos hn2, if_pos hn2]
    refine wpAny_bind (wpAny_pure ?_)
    refine wpAny_bind (wpAny_pure ?_)
    dsimp only
    refine wpAny_bind (seqEpoch_at ho6 rfl ?_)
    have e : (arrOf (SortSt.mk' general' (vs.toArray.zip vs.toArray) #[] 7 none)).map (·.2) = vs.toArray := by
      show (vs.toArray.zip vs.toArray).map (·.2) = vs.toArray
      apply Array.toList_inj.mp
      simp only [Array.toList_map, Array.toList_zip]
      exact List.map_snd_zip (Nat.le_refl _)
    rw [e]
    refine wpAny_bind (listUpdate_at ho6 rfl ?_ (Nat.zero_le _) (by rw [List.size_toArray]; exact tl))
    show wpAny _ _ _ _ _ _
    simp only [bne_self_eq_false, Bool.false_eq_true, if_false]
    exact wpAny_pure (h vs s.toks (List.Perm.refl _))
  · have hn2 : ¬ vs.toArray.size < 2 := by rw [List.size_toArray]; exact h2
    rw [if_neg hn2, if_neg hn2]
    refine wpAny_bind (hS (by exact om75 h64 h2) _ (fun b o hb e => keep b o hb e) _ fun κ s1 k1 hc => ?_)
    refine wpAny_bind (wpAny_mono (kas_runs_any (Q := fun st' s' => ∃ p : Array Nat, IsP vs.length p ∧ arrOf st' = p.map (kas_item (vs.toArray.zip vs.toArray)) ∧ failedOf st' = none ∧ Tk { s with heap := ((s.heap.update a (Obj.mapSeq fun _ => (#[] : Array Value))).push (seqObj "tuple" vs.toArray 0)).push (seqObj "list" #[] 0) } s')
      (by exact om75 h64 h2) h64 hc (fun p st' s' a1 a2 a3 a4 => ⟨p, a1, a2, a3, a4⟩) k1) ?_ fun _ _ e => e)
    rintro ⟨⟨⟩, st'⟩ s' ⟨p, hp, har, hf, tk, rfl⟩
    dsimp only
    refine wpAny_bind (seqEpoch_at ho6 rfl ?_)
    have hout := kat_snds (ks := vs) rfl har
    rw [hout]
    have hpl : p.toList.Perm (List.range vs.length) := by simpa using Array.perm_iff_toList_perm.mp hp
    have hperm : (p.toList.map fun i => vs.getD i Value.none).Perm vs := by
      refine (hpl.map _).trans (List.Perm.of_eq ?_)
      apply List.ext_getElem?
      intro i
      rw [List.getElem?_map]
      by_cases hi : i < vs.length
      · rw [List.getElem?_range hi]; simp [hi]
      · rw [List.getElem?_eq_none (by simpa using hi), List.getElem?_eq_none (by exact om17 hi)]; rfl
    refine wpAny_bind (listUpdate_at ho6 rfl ?_ (Nat.zero_le _) (by rw [List.size_toArray, hperm.length_eq]; exact tl))
    rw [hf]
    simp only [bne_self_eq_false, Bool.false_eq_true, if_false]
    exact wpAny_pure (h _ tk hperm)
theorem sorted_gen {src : Value} {P : List Value → Prop} {Q : Value → Shared → Prop} {E : Value → Shared → Prop}
    (hcol : ∀ Q' : List Value → Shared → Prop, (∀ vs s', P vs → Ext s s' → Q' vs s') → wpAny (model prog w) A.in1 (collect src) Q' NoE s)
    (h64 : ∀ vs, P vs → vs.length < 64) (hS : ∀ vs, P vs → 2 ≤ vs.length → ∀ s', Kp s.heap s'.heap → Sortable prog w A.in1.in1 vs s')
    (post : ∀ (vs out : List Value) (D : Addr) (n : Nat) (s' : Shared), P vs → out.Perm vs → Ext s s' → s'.heap.get? D = some (listOf out.toArray n) → s.heap.get? D = none → Q (.ref D) s') :
    wpAny (model prog w) A (call (.builtin "sorted") [src]) Q E s := by
  refine liftE (Calls.call_function_entry kind_sorted plain_sorted entry_sorted (args_sorted1 _) ?_)
  unfold Builtin.«sorted»
  refine wpAny_bind (m := checkCount "sorted" 1 1 _) (wpAny_pure ?_)
  refine wpAny_bind (hcol _ fun vs s1 hP k1 => ?_)
  obtain ⟨h1, d1, t1, rfl, k1⟩ := k1
  have hL : vs.length ≤ sizeLine := by have := h64 vs hP; rw [sizeLine_eq]; exact tl
  refine wpAny_bind (wpAny_newList ?_ hL)
  have hoL : (h1.push (seqObj "list" vs.toArray 0)).get? h1.objs.size = some (seqObj "list" vs.toArray 0) := Heap.get?_push_size _ rfl
  refine wpAny_bind (wpAny_holding (wpAny_call_entry slot_list_sort ⟨_, hoL, rfl⟩ entry_list_sort ?body (args_list_sort _)))
  case body =>
    refine sort_list hoL (h64 vs hP) (fun h2 s' k => hS vs hP h2 s' fun b o e => k b o (Nat.ne_of_lt (Heap.lt_size (k1 b o e))) (Heap.get?_push_of_some _ (k1 b o e))) fun out tk hp => ⟨_, rfl, wpAny_pure ⟨_, rfl, ?_⟩⟩
    have hg1 : ((h1.push (seqObj "list" vs.toArray 0)).update h1.objs.size (Obj.mapSeq fun _ => (#[] : Array Value))).get? h1.objs.size = some (seqObj "list" #[] _) := get?_update_seq hoL fun _ => #[]
    have hg2 := get?_update_seq (Heap.get?_push_of_some (seqObj "list" #[] 0) (Heap.get?_push_of_some (seqObj "tuple" vs.toArray 0) hg1)) fun _ => out.toArray
    refine post vs out h1.objs.size _ _ hP hp (Ext.mk fun b o e => ?_) hg2 ?_
    · have hlt := Heap.lt_size (k1 b o e)
      have ne : b ≠ h1.objs.size := Nat.ne_of_lt hlt
      exact (Heap.get?_update_ne _ _ _ _ ne).trans (Heap.get?_push_of_some _ (Heap.get?_push_of_some _ ((Heap.get?_update_ne _ _ _ _ ne).trans (Heap.get?_push_of_some _ (k1 b o e)))))
    · cases q : s.heap.get? h1.objs.size with
      | none => rfl
      | some o => exact absurd (Heap.lt_size (k1 _ _ q)) (Nat.lt_irrefl _)
end
end B5
section B6
noncomputable abbrev Up (s s' : Shared) : Prop := ∃ h d tk, s' = { s with heap := h, drawn := d, toks := tk }
theorem Up.mk {s : Shared} {h : Heap} {d : Drawn} {tk : Nat} : Up s { s with heap := h, drawn := d, toks := tk } := ⟨h, d, tk, rfl⟩
theorem Ext.upR {r s' : Shared} {h : Heap} {d : Drawn} {t : Nat} (x : Ext { r with heap := h, drawn := d, toks := t } s') : Up r s' := by obtain ⟨h', d', t', rfl, _⟩ := x; exact Up.mk
@[elab_as_elim] theorem Up.goC {h : Heap} {g : Array GenState} {d : Drawn} {t : Nat} {o : OsState} {s' : Shared} {P : Shared → Prop} {b : Heap} {L : Addr} {l : Binds} {n : Ents} (x : Up ⟨h, g, d, t, o⟩ s') (C : Cx b L s'.heap l n) (k : ∀ h' d' t', Cx b L h' l n → P ⟨h', g, d', t', o⟩) : P s' := by obtain ⟨h', d', t', rfl⟩ := x; exact k h' d' t' C
@[elab_as_elim] theorem Ext.go {h : Heap} {g : Array GenState} {d : Drawn} {t : Nat} {o : OsState} {s' : Shared} {P : Shared → Prop} (x : Ext ⟨h, g, d, t, o⟩ s') (k : ∀ h' d' t', Kp h h' → P ⟨h', g, d', t', o⟩) : P s' := by obtain ⟨h', d', t', rfl, e⟩ := x; exact k h' d' t' e
noncomputable def Iterates (prog : Program) (w : World) (A : Around) (xv : Value) (s : Shared) (S : List Addr) (n : Nat) (P : Nat → Value → Prop) : Prop :=
  ∀ (Q : Value → Shared → Prop), (∀ I fp St h' tk, Kp s.heap h' → s.heap.get? I = none → (∀ b ∈ fp, b = I ∨ (b ∈ S ∧ ∃ o, s.heap.get? b = some o)) → Walks prog w A I fp [I] n P St → St 0 h' →
    (∀ i h, St i h → ∀ b ∈ fp, ∃ o, h.get? b = some o) → Q (.ref I) { s with heap := h', toks := tk }) → wpAny (model prog w) A (pyIter xv) Q NoE s
section
variable {prog : Program} {w : World} {A : Around} {E : Value → Shared → Prop} {s : Shared}
theorem it_list {ax : Addr} {items : Array Value} (hh : A.handled = none) (hl : s.heap.IsList ax items) : Iterates prog w A (.ref ax) s [ax] items.size fun i v => items[i]? = some v := fun Q hQ => by
  refine elEA (id hl) fun o ho r => ?_
  have hlt := Heap.lt_size ho
  refine wpAny_pyIter_list hl (hQ _ [s.heap.objs.size, ax] _ _ _ (fun _ _ e => Heap.get?_push_of_some _ e) (size_none _) ?_ (Walks.list hh _ ax (Nat.ne_of_lt hlt) items) ⟨⟨_, Heap.get?_push_size _ rfl, rfl, rfl⟩, ⟨o, Heap.get?_push_of_some _ ho, r⟩⟩ ?_)
  · intro b hb; simp only [List.mem_cons, List.not_mem_nil, or_false] at hb
    rcases hb with rfl | rfl
    · exact .inl rfl
    · exact .inr ⟨.head _, o, ho⟩
  · intro i h ⟨⟨o1, h1, _⟩, ⟨o2, h2, _⟩⟩ b hb; simp only [List.mem_cons, List.not_mem_nil, or_false] at hb
    rcases hb with rfl | rfl
    · exact ⟨_, h1⟩
    · exact ⟨_, h2⟩
theorem it_tuple {ax : Addr} {items : Array Value} (hh : A.handled = none) (hl : s.heap.IsTuple ax items) : Iterates prog w A (.ref ax) s [ax] items.size fun i v => items[i]? = some v := fun Q hQ => by
  refine elEA (id hl) fun o ho r => ?_
  have hlt := Heap.lt_size ho
  refine wpAny_pyIter_tuple hl (hQ _ [s.heap.objs.size, ax] _ _ _ (fun _ _ e => Heap.get?_push_of_some _ e) (size_none _) ?_ (Walks.tuple hh _ ax (Nat.ne_of_lt hlt) items) ⟨⟨_, Heap.get?_push_size _ rfl, rfl, rfl⟩, ⟨o, Heap.get?_push_of_some _ ho, r⟩⟩ ?_)
  · intro b hb; simp only [List.mem_cons, List.not_mem_nil, or_false] at hb
    rcases hb with rfl | rfl
    · exact .inl rfl
    · exact .inr ⟨.head _, o, ho⟩
  · intro i h ⟨⟨o1, h1, _⟩, ⟨o2, h2, _⟩⟩ b hb; simp only [List.mem_cons, List.not_mem_nil, or_false] at hb
    rcases hb with rfl | rfl
    · exact ⟨_, h1⟩
    · exact ⟨_, h2⟩
theorem it_str {x : Str} {t : Tok} (hh : A.handled = none) : Iterates prog w A (.str x t) s [] x.cps.size (SignAt x) := fun Q hQ => by
  cases ha : x.cps.all (· < 128)
  · refine wpAny_pyIter_wide ha (hQ _ [s.heap.objs.size] _ _ _ (fun _ _ e => Heap.get?_push_of_some _ e) (size_none _) ?_ (Walks.strWide hh _ x t) ⟨_, Heap.get?_push_size _ rfl, rfl, rfl⟩ ?_)
    · intro b hb; exact .inl (List.mem_singleton.mp hb)
    · intro i h ⟨o1, h1, _⟩ b hb; rw [List.mem_singleton.mp hb]; exact ⟨_, h1⟩
  · refine wpAny_pyIter_ascii ha (hQ _ [s.heap.objs.size] _ _ _ (fun _ _ e => Heap.get?_push_of_some _ e) (size_none _) ?_ (Walks.strAscii hh _ x t) ⟨_, Heap.get?_push_size _ rfl, rfl, rfl⟩ ?_)
    · intro b hb; exact .inl (List.mem_singleton.mp hb)
    · intro i h ⟨o1, h1, _⟩ b hb; rw [List.mem_singleton.mp hb]; exact ⟨_, h1⟩
theorem it_range {r : Addr} {n : Nat} {t u v : Tok} (hh : A.handled = none) (hr : IsRange s.heap r 0 n 1 t u v) (hn : n < 1000000) :
    Iterates prog w A (.ref r) s [] n fun i v => ∃ t, v = .int (i : Int) t := fun Q hQ => by
  have hsz : Builtin.Range.rangeSize 0 n 1 = n := by unfold Builtin.Range.rangeSize; simp; exact om31
  refine wpAny_pyIter_range hr (small_one (by decide) (by decide) (by exact om168 hn hsz) (by exact om163 hn hsz)) ?_
  rw [hsz]
  refine hQ _ [s.heap.objs.size] (fun i h => IsRangeIter h s.heap.objs.size (0 + (i : Nat) * 1) ((n : Int) - (i : Nat)) 1) _ _ (fun _ _ e => Heap.get?_push_of_some _ e) (size_none _) (fun b hb => .inl (List.mem_singleton.mp hb)) ?_ ?_ ?_
  · have W := Walks.range (prog := prog) (w := w) hh s.heap.objs.size 0 1 n
    simpa using W
  · exact (Heap.get?_push_size _ rfl).trans (by simp [rawInt])
  · intro i h q b hb; rw [List.mem_singleton.mp hb]; exact ⟨_, q⟩
end
section
variable {h₀ h h' : Heap} {L I : Addr} {l : Binds} {n : Ents}
theorem Cx.off (C : Cx h₀ L h l n) (hI : h₀.get? I = none) (hL : L ≠ I) (hn : ∀ p ∈ n, p.1 ≠ I) (k : ∀ b o, b ≠ I → h.get? b = some o → h'.get? b = some o) : Cx h₀ L h' l n := by
  refine elEA C.fr fun m Xx3 q => ?_
  refine elEEEA Xx3 fun oL es ep eL r => ?_
  exact ⟨⟨m, ⟨oL, es, ep, k _ _ hL eL, r⟩, q⟩, fun b o e => k b o (fun z => by rw [z, hI] at e; cases e) (C.keep b o e), C.hL, fun p hp => ⟨k _ _ (hn p hp) (C.nw p hp).1, (C.nw p hp).2⟩, C.nd⟩
theorem Cx.wide (C : Cx h₀ L h l n) : ∃ g, Kp h₀ g ∧ Cx g L h l n ∧ ∀ b o, b ≠ L → (∀ p ∈ n, p.1 ≠ b) → h.get? b = some o → g.get? b = some o := by
  refine ⟨hideAll h (L :: n.map (·.1)), fun b o e => hideAll_get _ (C.keep b o e) fun q => ?_, ⟨C.fr, fun _ _ e => of_hideAll _ e, hideAll_none _ (.head _), fun p hp => ⟨(C.nw p hp).1, (C.nw p hp).2.1, hideAll_none _ (.tail _ (List.mem_map_of_mem hp))⟩, C.nd⟩, fun b o hb hn e => hideAll_get _ e fun q => ?_⟩
  · rcases List.mem_cons.mp q with q | q
    · rw [q, C.hL] at e; cases e
    · obtain ⟨p, hp, rfl⟩ := List.mem_map.mp q
      rw [(C.nw p hp).2.2] at e; cases e
  · rcases List.mem_cons.mp q with q | q
    · exact hb q
    · refine elEA (List.mem_map.mp q) fun p hp z => ?_
      exact hn p hp z
end
section
variable {prog : Program} {w : World} {A : Around} {E : Value → Shared → Prop} {s : Shared} {env : Env} {h₀ : Heap} {L : Addr}
structure Hold (p : Prop) : Prop where mk :: (out : p)
noncomputable def Apart (S : List Addr) (L : Addr) (n : Ents) : Prop := ∀ b ∈ S, b ≠ L ∧ ∀ p ∈ n, p.1 ≠ b
theorem Apart.nil {L : Addr} {n : Ents} : Apart [] L n := fun _ h => nomatch h
theorem Apart.base {h : Heap} {l : Binds} {n : Ents} {a : Addr} {o : Obj} (C : Cx h₀ L h l n) (e : h₀.get? a = some o) : Apart [a] L n := fun b hb => by
  rw [List.mem_singleton.mp hb]
  exact ⟨fun q => (by rw [q, C.hL] at e; cases e), fun p hp q => (by rw [← q, (C.nw p hp).2.2] at e; cases e)⟩
theorem Apart.fresh {h : Heap} {l : Binds} {n : Ents} {a : Addr} (C : Cx h₀ L h l n) (e : h.get? a = none) : Apart [a] L n := fun b hb => by
  rw [List.mem_singleton.mp hb]
  exact ⟨fun q => (by obtain ⟨o, z⟩ := C.live; rw [← q, e] at z; cases z), fun p hp q => (by have := (C.nw p hp).1; rw [q, e] at this; cases this)⟩
inductive ForSt (h₀ : Heap) (L : Addr) (St : Nat → Heap → Prop) (Inv : Nat → Binds → Ents → Prop) (I : Addr) (fp : List Addr) (nn : Nat) (s : Shared) : Nat → Shared → Prop
  | mk {i : Nat} {l : Binds} {n : Ents} {h : Heap} {d : Drawn} {tk : Nat} : St i h → Cx h₀ L h l n → Inv i l n → (∀ b, b ∈ I :: fp → b ≠ L ∧ ∀ p ∈ n, p.1 ≠ b) → i ≤ nn → ForSt h₀ L St Inv I fp nn s (nn + 1 - i) { s with heap := h, drawn := d, toks := tk }
inductive Turn (g : Heap) (L : Addr) (I : Binds → Ents → Prop) (r : Shared) (f : Flow) (s : Shared) : Prop
  | mk (hf : f = .next ∨ f = .cont) (up : Up r s) (l : Binds) (n : Ents) (C : Cx g L s.heap l n) (inv : I l n)
inductive ForI (prog : Program) (w : World) (A : Around) (env : Env) (L : Addr) (x : Str) (body : List Stmt) (Q : Flow → Shared → Prop) (xv : Value) (s₁ : Shared) : Prop
  | mk (Inv : Nat → Binds → Ents → Prop) (h₀ : Heap) (S : List Addr) (nn : Nat) (P : Nat → Value → Prop) (l : Binds) (n : Ents) {r : Shared} (up : Up r s₁) (C : Cx h₀ L s₁.heap l n) (ap : Apart S L n) (it : Iterates prog w A xv s₁ S nn P) (I₀ : Inv 0 l n)
    (step : ∀ i v g l n, Inv i l n → ∀ h d tk, i < nn → P i v → Kp h₀ g → Cx g L h ((x, v) :: l) n →
      wpAny (model prog w) A (execs body env) (Turn g L (Inv (i + 1)) r) NoE { r with heap := h, drawn := d, toks := tk })
    (done : ∀ l n, Inv nn l n → ∀ h d tk, Cx h₀ L h l n → Q .next { r with heap := h, drawn := d, toks := tk })
inductive WTurn (h₀ : Heap) (L : Addr) (I : Nat → Binds → Ents → Prop) (m : Nat) (r : Shared) (f : Flow) (s : Shared) : Prop
  | mk (hf : f = .next ∨ f = .cont) (up : Up r s) (m' : Nat) (l : Binds) (n : Ents) (lt : m' < m) (C : Cx h₀ L s.heap l n) (inv : I m' l n)
inductive WSt (h₀ : Heap) (L : Addr) (I : Nat → Binds → Ents → Prop) (r : Shared) : Nat → Shared → Prop
  | mk {m : Nat} {l : Binds} {n : Ents} {h : Heap} {d : Drawn} {tk : Nat} : Cx h₀ L h l n → I m l n → WSt h₀ L I r m { r with heap := h, drawn := d, toks := tk }
theorem whileG {test : PySem.Expr} {body : List Stmt} {pos : Pos} {Q : Flow → Shared → Prop} {r : Shared} {l : Binds} {n : Ents} (Inv : Nat → Binds → Ents → Prop) (m : Nat) (up : Up r s) (C : Cx h₀ L s.heap l n) (I₀ : Inv m l n)
    (turn : ∀ m l n, Inv m l n → ∀ h d tk, Cx h₀ L h l n → wpAny (model prog w) A (isTrue test env (eval test env)) (fun b s₂ =>
      if b then wpAny (model prog w) A (execs body env) (WTurn h₀ L Inv m r) NoE s₂ else Q .next s₂) NoE { r with heap := h, drawn := d, toks := tk }) :
    wpAny (model prog w) A (exec (.While test body [] pos) env) Q E s := by
  obtain ⟨h, d, tk, rfl⟩ := up
  refine whileR (WSt h₀ L Inv r) m (.mk C I₀) fun n s' X => ?_
  cases X with
  | mk C I =>
  refine wpAny_mono (turn _ _ _ I _ _ _ C) (fun b s₂ hb => ?_) fun _ _ e => e
  cases b with
  | false => exact hb
  | true =>
    rw [if_pos rfl] at hb ⊢
    refine wpAny_mono hb (fun f s₃ hf => ?_) fun _ _ e => e
    obtain ⟨hf, ⟨h3, d3, t3, rfl⟩, m', l', n', lt, C', I'⟩ := hf
    rcases hf with rfl | rfl
    · exact ⟨m', lt, .mk C' I'⟩
    · exact ⟨m', lt, .mk C' I'⟩
theorem forG {x : Str} {px pos : Pos} {iter : PySem.Expr} {body : List Stmt} {Q : Flow → Shared → Prop}
    (h : wpAny (model prog w) A (eval iter env) (ForI prog w A env L x body Q) NoE s)
    (he : env.locals = L := by rfl) (hk : env.scope.kind = .function := by rfl) (hx : env.kindOf x = some .local := by rfl)
    (hs : ∀ x, foldedSetIterable iter env x = pure x := by intro _; rfl) :
    wpAny (model prog w) A (exec (.For (.Name x px) iter body [] pos) env) Q E s := by
  refine wpAny_For (liftE (wpAny_mono h (fun xv s₁ hh => ?_) fun _ _ e => e.elim)) hs
  obtain ⟨Inv, h₀, S, nn, P, l₀, n₀, up, C₀, ap, It, I₀, step, done⟩ := hh
  rename_i r
  obtain ⟨hs₁, ds₁, ts₁, rfl⟩ := up
  refine liftE (It _ fun I fp St h' tk k hI hfp W hst live => ?_)
  replace hI : hs₁.get? I = none := hI
  have hIL : L ≠ I := fun q => by obtain ⟨o, z⟩ := C₀.live; rw [q, hI] at z; cases z
  have hI0 : h₀.get? I = none := C₀.none_of hI
  refine codeAny_forLoop (ForSt h₀ L St Inv I fp nn r) ?_ (nn + 1) (.mk hst (C₀.grow k) I₀ ?_ (Nat.zero_le _))
  · intro k s' X
    cases X
    rename_i i l n hh d tk hst C hi hfp' hle
    have hIn := (hfp' I (.head _)).2
    by_cases hlt : i < nn
    · refine W.item i _ _ _ hlt hst fun v h₁ tk₁ hP hst₁ k₁ => ?_
      have C₁ := C.off hI0 hIL hIn fun b o hb e => k₁ b o (by simpa using hb) e
      refine elEAA C₁.wide fun g kg G₁ big => ?_
      have inG : ∀ b ∈ fp, ∀ o, h₁.get? b = some o → g.get? b = some o := fun b hb o e => big b o (hfp' b (.tail _ hb)).1 (hfp' b (.tail _ hb)).2 e
      refine wpAny_assign_Name (stC G₁ (fun h₂ G₂ => ?_) he hk hx)
      refine liftE (wpAny_mono (step i v g l n hi _ _ _ hlt hP kg G₂) (fun f s₃ h₃ => ?_) fun _ _ e => e.elim)
      obtain ⟨hf, ⟨h₃', d₃, tk₃, rfl⟩, l', n', G₃, hi'⟩ := h₃
      have nxt : ∃ m, m < nn + 1 - i ∧ ForSt h₀ L St Inv I fp nn r m { r with heap := h₃', drawn := d₃, toks := tk₃ } := by
        refine ⟨nn + 1 - (i + 1), by exact om125 hlt, .mk (W.frame _ _ _ hst₁ fun b hb o e => G₃.keep _ _ (inG b hb o e)) (G₃.base kg) hi' (fun b hb => ?_) hlt⟩
        replace hb : b ∈ fp := by
          rcases List.mem_cons.mp hb with rfl | hb
          · exact W.sub _ (.head _)
          · exact hb
        refine elE (live _ _ hst₁ b hb) fun o e => ?_
        have e := inG b hb o e
        exact ⟨fun q => (by rw [q, G₃.hL] at e; cases e), fun p hp q => (by rw [← q, (G₃.nw p hp).2.2] at e; cases e)⟩
      rcases hf with rfl | rfl
      · exact nxt
      · exact nxt
    · obtain rfl : i = nn := by exact om44 hle hlt
      refine W.done _ _ _ hst fun h₁ tk₁ k₁ => wpAny_execs_nil ?_
      exact done _ _ hi _ _ _ (C.off hI0 hIL hIn fun b o hb e => k₁ b o (by simpa using hb) e)
  · intro b hb
    rcases List.mem_cons.mp hb with rfl | hb
    · exact ⟨Ne.symm hIL, fun p hp q => by have := (C₀.nw p hp).1; rw [q, hI] at this; cases this⟩
    · rcases hfp b hb with rfl | ⟨hb, _⟩
      · exact ⟨Ne.symm hIL, fun p hp q => by have := (C₀.nw p hp).1; rw [q, hI] at this; cases this⟩
      · exact ap b hb
end
end B6
section B7
theorem Cx.own1 {g g₁ h : Heap} {L D : Addr} {l : Binds} {n : Ents} {o : Obj} (C : Cx g L h l n) (k : Kp g₁ g) (hD : g.get? D = some o) (h1 : g₁.get? D = none) : Cx g₁ L h l ((D, o) :: n) := by
  have B := C.base k
  refine ⟨B.fr, B.keep, B.hL, fun p hp => ?_, ?_⟩
  · rcases List.mem_cons.mp hp with rfl | hp
    · exact ⟨C.keep _ _ hD, fun q => (by rw [show D = L from q, C.hL] at hD; cases hD), h1⟩
    · exact B.nw p hp
  · rw [List.map_cons, List.nodup_cons]
    refine ⟨fun q => ?_, C.nd⟩
    refine elEA (List.mem_map.mp q) fun p hp e => ?_
    rw [show D = p.1 from e.symm, (C.nw p hp).2.2] at hD; cases hD
inductive CompSt (g₁ : Heap) (C D : Addr) (St : Nat → Heap → Prop) (Inv : Nat → Array Value → Ents → Prop) (fp : List Addr) (nn : Nat) (s : Shared) : Nat → Shared → Prop
  | mk {i : Nat} {ys : Array Value} {ep : Nat} {n : Ents} {h : Heap} {d : Drawn} {tk : Nat} : St i h → Cx g₁ C h [] ((D, seqObj "list" ys ep) :: n) → Inv i ys n → (∀ b ∈ fp, b ≠ C ∧ ∀ p ∈ (D, seqObj "list" ys ep) :: n, p.1 ≠ b) → i ≤ nn → ys.size ≤ i → CompSt g₁ C D St Inv fp nn s (nn + 1 - i) { s with heap := h, drawn := d, toks := tk }
inductive CEnd (g : Heap) (L : Addr) (I : Ents → Prop) (r s : Shared) : Prop
  | mk (up : Up r s) (l : Binds) (n : Ents) (C : Cx g L s.heap l n) (inv : I n)
noncomputable def CompStep (prog : Program) (w : World) (A : Around) (env : Env) (h₀ : Heap) (scope : Scope) (cl : List (Str × Addr)) (x : Str) (ifs : List PySem.Expr) (elt : PySem.Expr) (Inv : Nat → Array Value → Ents → Prop) (nn : Nat) (P : Nat → Value → Prop) (r : Shared) : Prop :=
  ∀ i v ys g Cl n, Inv i ys n → ∀ h d tk, i < nn → ys.size ≤ i → P i v → Kp h₀ g → Cx g Cl h [(x, v)] n →
    wpAny (model prog w) A (forIn ifs true fun c r => if r = true then do let ok ← isTrue c (compEnvC scope cl Cl env) (eval c (compEnvC scope cl Cl env)); pure (ForInStep.yield ok) else pure (ForInStep.yield r))
      (fun ok s₄ => Hold (if ok then wpAny (model prog w) A (eval elt (compEnvC scope cl Cl env)) (fun y s₅ => CEnd g Cl (Inv (i + 1) (ys.push y)) r s₅) NoE s₄ else CEnd g Cl (Inv (i + 1) ys) r s₄)) NoE { r with heap := h, drawn := d, toks := tk }
inductive CompI (prog : Program) (w : World) (A : Around) (env : Env) (h₀ : Heap) (L : Addr) (scope : Scope) (cl : List (Str × Addr)) (x : Str) (ifs : List PySem.Expr) (elt : PySem.Expr) (Q : Value → Shared → Prop) (xv : Value) (s₁ : Shared) : Prop
  | mk (Inv : Nat → Array Value → Ents → Prop) (S : List Addr) (nn : Nat) (P : Nat → Value → Prop) (l : Binds) (n : Ents) {r : Shared} (up : Up r s₁) (C : Cx h₀ L s₁.heap l n) (ap : Apart S L n) (it : Iterates prog w A xv s₁ S nn P) (hnn : nn < 1000) (I₀ : Inv 0 #[] n)
    (step : CompStep prog w A env h₀ scope cl x ifs elt Inv nn P r)
    (done : ∀ D ys ep n, Inv nn ys n → ys.size ≤ nn → ∀ h d tk, Cx h₀ L h l ((D, seqObj "list" ys ep) :: n) → Q (.ref D) { r with heap := h, drawn := d, toks := tk })
inductive CompA (prog : Program) (w : World) (A : Around) (env : Env) (h₀ : Heap) (L : Addr) (scope : Scope) (cl : List (Str × Addr)) (x y : Str) (ifs : List PySem.Expr) (elt : PySem.Expr) (Q : Flow → Shared → Prop) (xv : Value) (s₁ : Shared) : Prop
  | mk (Inv : Nat → Array Value → Ents → Prop) (S : List Addr) (nn : Nat) (P : Nat → Value → Prop) (l : Binds) (n : Ents) {r : Shared} (up : Up r s₁) (C : Cx h₀ L s₁.heap l n) (ap : Apart S L n) (it : Iterates prog w A xv s₁ S nn P) (hnn : nn < 1000) (I₀ : Inv 0 #[] n)
    (step : CompStep prog w A env h₀ scope cl x ifs elt Inv nn P r)
    (done : ∀ D ys ep n, Inv nn ys n → ys.size ≤ nn → ∀ h d tk, Cx h₀ L h ((y, .ref D) :: l) ((D, seqObj "list" ys ep) :: n) → Q .next { r with heap := h, drawn := d, toks := tk })
section
variable {prog : Program} {w : World} {A : Around} {E : Value → Shared → Prop} {env : Env} {h₀ : Heap} {L : Addr}
theorem comp_core {elt iter : PySem.Expr} {x : Str} {px : Pos} {ifs : List PySem.Expr} {scope : Scope} {cl : List (Str × Addr)} {pos : Pos} {s₂ : Shared} {I : Addr} {fp : List Addr} {nn : Nat} {P : Nat → Value → Prop} {St : Nat → Heap → Prop}
    {l : Binds} {n₀ : Ents} {RR : Value → Addr → Result → Shared → Prop} (Inv : Nat → Array Value → Ents → Prop) (C₀ : Cx h₀ L s₂.heap l n₀)
    (W : Walks prog w A I fp [I] nn P St) (hst : St 0 s₂.heap) (live : ∀ i h, St i h → ∀ b ∈ fp, ∃ o, h.get? b = some o) (ap : ∀ b ∈ I :: fp, b ≠ L ∧ ∀ p ∈ n₀, p.1 ≠ b) (hI0 : h₀.get? I = none) (I₀ : Inv 0 #[] n₀) (hnn : nn < 1000)
    {r : Shared} {hs₂ : Heap} {ds₂ : Drawn} {ts₂ : Nat} (up : s₂ = { r with heap := hs₂, drawn := ds₂, toks := ts₂ }) (step : CompStep prog w A env h₀ scope cl x ifs elt Inv nn P r)
    (hRR : ∀ D C ys ep n h' d tk m, h'.Ns C m → h₀.get? C = none → L ≠ C → (∀ p ∈ (D, seqObj "list" ys ep) :: n, p.1 ≠ C) → Cx h₀ L h' l ((D, seqObj "list" ys ep) :: n) → Inv nn ys n → ys.size ≤ nn → RR (.ref D) C (.ok .next) { r with heap := h', drawn := d, toks := tk })
    (hcell : ∀ y ∈ scope.names, y.2 ≠ .cell) (hkind : scope.kind = .function) (hx : scope.names.lookup x = some .local) :
    wpAny (model prog w) A (newList []) (fun acc s₃ => wpAny (model prog w) A (newFunctionEnv scope env.globals cl [] env.qual none .none (some env)) (fun cenv s₄ =>
      codeAny (model prog w) A (.compStart (.ListComp elt [⟨.Name x px, iter, ifs, 0⟩] scope pos) 0 (.ref I) acc { cenv with scope := relabel scope env }) (RR acc cenv.locals) s₄) E s₃) E s₂ := by
  subst up
  refine wpAny_newObj_type (wpAny_newFunctionEnv hcell (by intro y hy; simp at hy) (fun h₁ hns₁ hsb₁ => ?_) hkind)
  dsimp only at hns₁ hsb₁ ⊢
  generalize hD : hs₂.objs.size = D at hns₁ hsb₁ ⊢
  have C₁ := C₀.push (seqObj "list" (#[] : Array Value) 0)
  rw [hD] at C₁
  generalize hH2 : hs₂.push { cls := .type "list", dict := none, data := .seq ([] : List Value).toArray } = H2 at hns₁ hsb₁ ⊢
  have eH : hs₂.push (seqObj "list" (#[] : Array Value) 0) = H2 := hH2
  rw [eH] at C₁
  generalize hC : H2.objs.size = C at hns₁ hsb₁ ⊢
  have noneC : H2.get? C = none := hC ▸ size_none H2
  have hCL : C ≠ L := fun q => by obtain ⟨o, z⟩ := C₁.live; rw [← q, noneC] at z; cases z
  have k₁ : Kp H2 h₁ := fun b o e => (hsb₁.2 b fun q => by rw [q, noneC] at e; cases e).trans (Heap.get?_push_of_some _ e)
  have C₂ := C₁.grow k₁
  refine elE C₁.live fun oL eL => ?_
  have fpD : ∀ b ∈ fp, b ≠ D := fun b hb q => by
    refine elE (live _ _ hst b hb) fun o e => ?_
    rw [q, ← hD, size_none] at e; cases e
  have fpC : ∀ b ∈ fp, b ≠ C := fun b hb q => by
    refine elE (live _ _ hst b hb) fun o e => ?_
    have : H2.get? b = some o := eH ▸ Heap.get?_push_of_some _ e
    rw [q, noneC] at this; cases this
  have k₀ : Kp hs₂ h₁ := fun b o e => k₁ b o (eH ▸ Heap.get?_push_of_some _ e)
  have hst₁ : St 0 h₁ := W.frame _ _ _ hst fun b _ o e => k₀ b o e
  -- the base of the whole loop: all but what is owned
  generalize hg₁ : hideAll H2 (I :: ((D, seqObj "list" (#[] : Array Value) 0) :: n₀).map (·.1)) = g₁
  have kg₁ : Kp h₀ g₁ := fun b o e => hg₁ ▸ hideAll_get _ (C₁.keep b o e) fun q => by
    rcases List.mem_cons.mp q with q | q
    · rw [q, hI0] at e; cases e
    · obtain ⟨p, hp, rfl⟩ := List.mem_map.mp q
      rw [(C₁.nw p hp).2.2] at e; cases e
  have g₁H : Kp g₁ H2 := fun b o e => by rw [← hg₁] at e; exact of_hideAll _ e
  have g₁D : g₁.get? D = none := hg₁ ▸ hideAll_none _ (.tail _ (.head _))
  have hI1 : g₁.get? I = none := hg₁ ▸ hideAll_none _ (.head _)
  have g₁L : g₁.get? L = some oL := by
    rw [← hg₁]
    refine hideAll_get _ eL fun q => ?_
    rcases List.mem_cons.mp q with q | q
    · exact (ap I (.head _)).1 q.symm
    · refine elEA (List.mem_map.mp q) fun p hp e => ?_
      exact (C₁.nw p hp).2.1 e
  have g₁C : g₁.get? C = none := by
    cases q : g₁.get? C with
    | none => rfl
    | some o => have := g₁H _ _ q; rw [noneC] at this; cases this
  have K₁ : Cx g₁ C h₁ [] ((D, seqObj "list" (#[] : Array Value) 0) :: n₀) :=
    ⟨⟨_, hns₁, fun _ _ e => by cases e⟩, fun b o e => k₁ b o (g₁H b o e), g₁C, fun p hp => ⟨(C₂.nw p hp).1, fun q => (by have := (C₁.nw p hp).1; rw [q, noneC] at this; cases this), hg₁ ▸ hideAll_none _ (.tail _ (List.mem_map_of_mem hp))⟩, C₁.nd⟩
  refine elEA C₁.fr fun mL Xx1 hmL => ?_
  refine elEEEA Xx1 fun oL' es ep eL' rL => ?_
  obtain rfl : oL = oL' := by rw [eL] at eL'; exact Option.some.inj eL'
  have backL : ∀ h' n', Cx g₁ C h' [] n' → Cx h₀ L h' l n' := fun h' n' K => by
    have B := K.base kg₁
    exact ⟨⟨mL, ⟨oL, es, ep, K.keep _ _ g₁L, rL⟩, hmL⟩, B.keep, C₀.hL, fun p hp => ⟨(K.nw p hp).1, fun q => (by have := (K.nw p hp).2.2; rw [q, g₁L] at this; cases this), (B.nw p hp).2.2⟩, K.nd⟩
  have loop : ∀ s₃ : Shared, s₃ = { r with heap := h₁, drawn := ds₂, toks := ts₂ + ([] : List (Str × Value)).length } →
      codeAny (model prog w) A (.compLoop (.ListComp elt [⟨.Name x px, iter, ifs, 0⟩] scope pos) 0 (.ref I) (.ref D) (compEnvC scope cl C env)) (RR (.ref D) C) s₃ := by
    rintro s₃ rfl
    refine codeAny_compLoop_tests (CompSt g₁ C D St Inv fp nn r) ?_ (nn + 1) (.mk hst₁ K₁ I₀ ?_ (Nat.zero_le _) (Nat.zero_le _))
    · intro k s' X
      cases X
      rename_i i ys ep n h d tk hst K hi hap hle hys
      have hIC : C ≠ I := fun q => (hap I (W.sub _ (.head _))).1 q.symm
      have hIn := (hap I (W.sub _ (.head _))).2
      by_cases hlt : i < nn
      · refine W.item i _ _ _ hlt hst fun v h₂ tk₂ hP hst₂ k₂ => ?_
        have K₂ := K.off hI1 hIC hIn fun b o hb e => k₂ b o (by simpa using hb) e
        have hDn : ∀ p ∈ n, p.1 ≠ D := fun p hp q => (List.nodup_cons.mp K.nd).1 (List.mem_map.mpr ⟨p, hp, q⟩)
        refine elEAA ((K₂.sub (List.sublist_cons_self _ n)).wide) fun g kg G₂ big => ?_
        have inG : ∀ b ∈ fp, ∀ o, h₂.get? b = some o → g.get? b = some o := fun b hb o e => big b o (hap b hb).1 (fun p hp => (hap b hb).2 p (.tail _ hp)) e
        have hgD : g.get? D = some (seqObj "list" ys ep) := big D _ (K₂.nw _ (.head _)).2.1 hDn (K₂.get (.head _))
        refine wpAny_assign_Name (stC G₂ (fun h₃ G₃ => ?_) rfl (by simpa [compEnvC, relabel] using hkind) (lookup_relabel_local hx))
        refine liftE (wpAny_mono (step i v ys g C n hi _ _ _ hlt hys hP (fun b o e => kg b o (kg₁ b o e)) G₃) (fun ok s₄ h₄ => ?_) fun _ _ e => e.elim)
        replace h₄ := h₄.out
        have nxt : ∀ h₅ d₅ tk₅ ys' ep' n', Cx g₁ C h₅ [] ((D, seqObj "list" ys' ep') :: n') → (∀ b o, b ≠ D → g.get? b = some o → h₅.get? b = some o) → (∀ p ∈ n', g.get? p.1 = none) → Inv (i + 1) ys' n' → ys'.size ≤ i + 1 →
            ∃ m, m < nn + 1 - i ∧ CompSt g₁ C D St Inv fp nn r m { r with heap := h₅, drawn := d₅, toks := tk₅ } := by
          intro h₅ d₅ tk₅ ys' ep' n' K₅ k₅ off hi' hys'
          refine ⟨nn + 1 - (i + 1), by exact om125 hlt, .mk (W.frame _ _ _ hst₂ fun b hb o e => k₅ _ _ (fpD b hb) (inG b hb o e)) K₅ hi' (fun b hb => ⟨(hap b hb).1, fun p hp => ?_⟩) hlt hys'⟩
          rcases List.mem_cons.mp hp with rfl | hp
          · exact Ne.symm (fpD b hb)
          · intro q
            refine elE (live _ _ hst₂ b hb) fun o e => ?_
            have e := inG b hb o e
            rw [← q, off p hp] at e; cases e
        cases ok with
        | false =>
          simp only [Bool.false_eq_true, if_false] at h₄ ⊢
          obtain ⟨⟨h₄', d₄, tk₄, rfl⟩, l', n', G₄, hi'⟩ := h₄
          exact nxt _ _ _ ys ep n' ((G₄.own1 kg hgD g₁D).names (by walk_at "m sm")) (fun b o _ e => G₄.keep b o e) (fun p hp => (G₄.nw p hp).2.2) hi' (by exact om28 hys)
        | true =>
          simp only [if_true] at h₄ ⊢
          refine liftE (wpAny_mono h₄ (fun y s₅ h₅ => ?_) fun _ _ e => e.elim)
          obtain ⟨⟨h₅', d₅, tk₅, rfl⟩, l', n', G₅, hi'⟩ := h₅
          refine wpAny_list_append_plain (hsz := by rw [sizeLine_eq]; exact om152 hnn hys hlt) ⟨ep, G₅.keep _ _ hgD⟩ fun h₆ hp₆ hs₆ => ?_
          refine elE hp₆ fun ep' e₆ => ?_
          have K₆ : Cx g₁ C h₆ [] ([] ++ (D, seqObj "list" (ys.push y) ep') :: n') := Cx.chg (n₁ := []) ((G₅.own1 kg hgD g₁D).names (by walk_at "m sm")) (fun b o hb e => (hs₆.2 b hb).trans e) e₆
          exact nxt h₆ _ _ (ys.push y) ep' n' K₆ (fun b o hb e => (hs₆.2 b hb).trans (G₅.keep b o e)) (fun p hp => (G₅.nw p hp).2.2) hi' (by rw [Array.size_push]; exact om59 hys)
      · obtain rfl : i = nn := by exact om44 hle hlt
        refine W.done _ _ _ hst fun h₂ tk₂ k₂ => ?_
        have K₂ := K.off hI1 hIC hIn fun b o hb e => k₂ b o (by simpa using hb) e
        refine elEA K₂.fr fun m hm _ => ?_
        exact hRR D C ys ep n h₂ _ tk₂ m hm (K.base kg₁).hL (Ne.symm hCL) (fun p hp => (K₂.nw p hp).2.1) (backL _ _ K₂) hi (by exact om11 hys)
    · intro b hb
      refine ⟨fpC b hb, fun p hp => ?_⟩
      rcases List.mem_cons.mp hp with rfl | hp
      · exact Ne.symm (fpD b hb)
      · exact (ap b (.tail _ hb)).2 p hp
  exact codeAny_compStart_list (loop _ rfl) (W.self 0 _ _ _ hst₁ (loop _ rfl))
theorem stepC {s : Shared} {env : Env} {F G : Shared → Prop} (h : F s) :
    wpAny (model prog w) A (forIn ([] : List PySem.Expr) true fun c r => if r = true then do let ok ← isTrue c env (eval c env); pure (ForInStep.yield ok) else pure (ForInStep.yield r)) (fun ok s₄ => Hold (if ok then F s₄ else G s₄)) E s :=
  wpAny_tests_nil (Hold.mk (by rw [if_pos rfl]; exact h))
theorem compX {s : Shared} {elt iter : PySem.Expr} {x : Str} {px : Pos} {ifs : List PySem.Expr} {scope : Scope} {cl : List (Str × Addr)} {pos : Pos} {Q : Value → Shared → Prop}
    (h : wpAny (model prog w) A (eval iter env) (CompI prog w A env h₀ L scope cl x ifs elt Q) NoE s)
    (hclos : closureFor scope env = pure cl := by rfl) (hcell : ∀ y ∈ scope.names, y.2 ≠ .cell := by decide) (hkind : scope.kind = .function := by rfl)
    (hnames : ∀ y ∈ scope.names, y.2 = .local → scope.names.lookup y.1 = some .local := by decide) (hx : scope.names.lookup x = some .local := by rfl)
    (hs : ∀ x, foldedSetIterable iter env x = pure x := by intro _; rfl) :
    wpAny (model prog w) A (eval (.ListComp elt [⟨.Name x px, iter, ifs, 0⟩] scope pos) env) Q E s := by
  rw [eval_ListComp]
  refine wpAny_comprehension_free (use := none) rfl hs hclos hkind hnames (liftE (wpAny_mono h (fun xv s₁ hh => ?_) fun _ _ e => e.elim))
  obtain ⟨Inv, S, nn, P, l₀, n₀, ⟨hs₁, ds₁, ts₁, rfl⟩, C₀, ap, It, hnn, I₀, step, done⟩ := hh
  rename_i r
  refine liftE (It _ fun I fp St h' tk k hI hfp W hst live => ?_)
  replace hI : hs₁.get? I = none := hI
  refine comp_core (RR := fun acc C => compPost (model prog w) A E none Q acc C) Inv (C₀.grow k) W hst live ?_ (C₀.none_of hI) I₀ hnn (r := r) rfl step ?_ hcell hkind hx
  · intro b hb
    have new : I ≠ L ∧ ∀ p ∈ n₀, p.1 ≠ I := ⟨fun q => (by obtain ⟨o, z⟩ := C₀.live; rw [← q, hI] at z; cases z), fun p hp q => (by have := (C₀.nw p hp).1; rw [q, hI] at this; cases this)⟩
    rcases List.mem_cons.mp hb with rfl | hb
    · exact new
    · rcases hfp b hb with rfl | ⟨hb, _⟩
      · exact new
      · exact ap b hb
  · intro D C ys ep n h₂ d₂ tk₂ m hm hC0 hLC hnC K hi hsz
    exact ⟨m, hm, fun h₃ hs₃ => done D ys ep n hi hsz _ _ _ (K.off hC0 hLC hnC fun b o hb e => (hs₃.2 b hb).trans e)⟩
theorem compAsg {s : Shared} {elt iter : PySem.Expr} {x y : Str} {px py : Pos} {ifs : List PySem.Expr} {scope : Scope} {cl : List (Str × Addr)} {pos spos : Pos} {Q : Flow → Shared → Prop}
    (h : wpAny (model prog w) A (eval iter env) (CompA prog w A env h₀ L scope cl x y ifs elt Q) NoE s)
    (hsw : swapsWith (.ListComp elt [⟨.Name x px, iter, ifs, 0⟩] scope pos) (some (.Name y py)) spos.line env = pure true := by rfl)
    (hclos : closureFor scope env = pure cl := by rfl) (hcell : ∀ y ∈ scope.names, y.2 ≠ .cell := by decide) (hkind : scope.kind = .function := by rfl)
    (hnames : ∀ y ∈ scope.names, y.2 = .local → scope.names.lookup y.1 = some .local := by decide) (hx : scope.names.lookup x = some .local := by rfl)
    (he : env.locals = L := by rfl) (hk : env.scope.kind = .function := by rfl) (hy : env.kindOf y = some .local := by rfl)
    (hs : ∀ x, foldedSetIterable iter env x = pure x := by intro _; rfl) :
    wpAny (model prog w) A (exec (.Assign [.Name y py] (.ListComp elt [⟨.Name x px, iter, ifs, 0⟩] scope pos) spos) env) Q E s := by
  rw [exec_Assign_Name_used _ _ _ _ hsw]
  refine wpAny_bind (wpAny_standAt (wpAny_bind ?_))
  show wpAny _ A (do let _ ← comprehension (.ListComp elt [⟨.Name x px, iter, ifs, 0⟩] scope pos) scope env _ (newList []) false (eval iter env) (some (assign (.Name y py) env))) _ _ s
  refine wpAny_bind (wpAny_mono (wpAny_comprehension_free (Q := fun _ s' => Q .next s') rfl hs hclos hkind hnames (liftE (wpAny_mono h (fun xv s₁ hh => ?_) fun _ _ e => e.elim)))
    (fun _ s' hq => wpAny_pure (wpAny_pure hq)) fun _ _ e => e)
  obtain ⟨Inv, S, nn, P, l₀, n₀, ⟨hs₁, ds₁, ts₁, rfl⟩, C₀, ap, It, hnn, I₀, step, done⟩ := hh
  rename_i r
  refine liftE (It _ fun I fp St h' tk k hI hfp W hst live => ?_)
  replace hI : hs₁.get? I = none := hI
  refine comp_core (RR := fun acc C => compPost (model prog w) A E (some (assign (.Name y py) env)) _ acc C) Inv (C₀.grow k) W hst live ?_ (C₀.none_of hI) I₀ hnn (r := r) rfl step ?_ hcell hkind hx
  · intro b hb
    have new : I ≠ L ∧ ∀ p ∈ n₀, p.1 ≠ I := ⟨fun q => (by obtain ⟨o, z⟩ := C₀.live; rw [← q, hI] at z; cases z), fun p hp q => (by have := (C₀.nw p hp).1; rw [q, hI] at this; cases this)⟩
    rcases List.mem_cons.mp hb with rfl | hb
    · exact new
    · rcases hfp b hb with rfl | ⟨hb, _⟩
      · exact new
      · exact ap b hb
  · intro D C ys ep n h₂ d₂ tk₂ m hm hC0 hLC hnC K hi hsz
    show wpAny _ _ (assign (.Name y py) env (.ref D)) _ _ _
    refine elEAA K.wide fun g kg G big => ?_
    refine elEEEA hm fun oC es epC eC rC => ?_
    refine wpAny_assign_Name (stC G (fun h₃ G₃ => ⟨m, ⟨oC, es, epC, G₃.keep _ _ (big C _ (Ne.symm hLC) hnC eC), rC⟩, fun h₄ hs₄ => ?_⟩) he hk hy)
    exact done D ys ep n hi hsz _ _ _ ((G₃.base kg).off hC0 hLC hnC fun b o hb e => (hs₄.2 b hb).trans e)
end
end B7
section B8
noncomputable def put (n : Ents) (a : Addr) (o : Obj) : Ents := n.map fun p => if p.1 = a then (a, o) else p
theorem put_keys (n : Ents) (a : Addr) (o : Obj) : (put n a o).map (·.1) = n.map (·.1) := by
  unfold put
  rw [List.map_map]
  refine List.map_congr_left fun p _ => ?_
  show (if p.1 = a then (a, o) else p).1 = p.1
  split
  · rename_i h; exact h.symm
  · rfl
theorem mem_of_lookup : ∀ {n : Ents} {a : Addr} {o : Obj}, n.lookup a = some o → (a, o) ∈ n
  | [], _, _, h => by cases h
  | (b, p) :: r, a, o, h => by
    rw [List.lookup_cons] at h
    cases q : a == b with
    | true => rw [q] at h; cases h; rw [eq_of_beq q]; exact .head _
    | false => rw [q] at h; exact .tail _ (mem_of_lookup h)
theorem lookup_of_mem : ∀ {n : Ents} {a : Addr} {o : Obj}, (n.map (·.1)).Nodup → (a, o) ∈ n → n.lookup a = some o
  | [], _, _, _, h => by cases h
  | (b, p) :: r, a, o, nd, h => by
    rw [List.map_cons, List.nodup_cons] at nd
    rw [List.lookup_cons]
    rcases List.mem_cons.mp h with e | h
    · refine elA (Prod.mk.inj e) fun Xx1 Xx2 => ?_
      obtain rfl := Xx1
      obtain rfl := Xx2
      rw [beq_self_eq_true]
    · have : a ≠ b := fun e => nd.1 (e ▸ List.mem_map_of_mem (f := (·.1)) h)
      rw [beq_false_of_ne this]
      exact lookup_of_mem nd.2 h
theorem lookup_put : ∀ {n : Ents} {a b : Addr} {o : Obj}, (put n a o).lookup b = if b = a then (n.lookup a).map (fun _ => o) else n.lookup b
  | [], a, b, o => by simp [put]
  | (c, p) :: r, a, b, o => by
    have ih := @lookup_put r a b o
    unfold put at ih ⊢
    rw [List.map_cons]
    by_cases hc : c = a
    · subst hc
      simp only [if_true, List.lookup_cons]
      by_cases hb : b = c
      · subst hb; simp
      · simp only [beq_false_of_ne hb, hb, if_false] at ih ⊢; exact ih
    · simp only [hc, if_false, List.lookup_cons]
      by_cases hb : b = c
      · subst hb; simp [hc]
      · simp only [beq_false_of_ne hb]
        rw [ih]
        by_cases hba : b = a
        · subst hba; simp [beq_false_of_ne hb]
        · simp [hba]
theorem lookup_put_self {n : Ents} {a : Addr} {o o' : Obj} (h : n.lookup a = some o') : (put n a o).lookup a = some o := by rw [lookup_put, if_pos rfl, h]; rfl
theorem lookup_put_ne {n : Ents} {a b : Addr} {o o' : Obj} (h : n.lookup b = some o') (hb : b ≠ a) : (put n a o).lookup b = some o' := by rw [lookup_put, if_neg hb, h]
section
variable {h₀ h h' g : Heap} {L : Addr} {l l' : Binds} {n n' : Ents}
theorem Cx.lk (C : Cx h₀ L h l n) {a : Addr} {o : Obj} (e : n.lookup a = some o) : h.get? a = some o := C.get (mem_of_lookup e)
theorem Cx.put (C : Cx h₀ L h l n) {a : Addr} {o o' : Obj} (e : n.lookup a = some o) (k : ∀ b o, b ≠ a → h.get? b = some o → h'.get? b = some o) (ho : h'.get? a = some o') : Cx h₀ L h' l (put n a o') := by
  refine elEA C.fr fun m Xx3 q => ?_
  refine elEEEA Xx3 fun oL es ep eL r => ?_
  have ha := C.nw _ (mem_of_lookup e)
  refine ⟨⟨m, ⟨oL, es, ep, k _ _ (Ne.symm ha.2.1) eL, r⟩, q⟩, fun b o e => k b o (fun z => by have := ha.2.2; rw [← z, e] at this; cases this) (C.keep b o e), C.hL, fun p hp => ?_, by rw [put_keys]; exact C.nd⟩
  obtain ⟨p0, hp0, rfl⟩ := List.mem_map.mp hp
  split
  · exact ⟨ho, ha.2⟩
  · rename_i hne
    exact ⟨k _ _ hne (C.nw _ hp0).1, (C.nw _ hp0).2⟩
theorem Cx.old (C : Cx h₀ L h l n) {a b : Addr} {o o' : Obj} (e : n.lookup b = some o) (ha : h.get? a = none) : ((a, o') :: n).lookup b = some o := by
  rw [List.lookup_cons, beq_false_of_ne (fun q => by have := C.lk e; rw [q, ha] at this; cases this)]
  exact e
structure Mut (h : Heap) (n : Ents) (h' : Heap) (n' : Ents) (ks : List Addr) : Prop where
  k : Kp (bar h n) h'
  own : Own (bar h n) h' n'
  le : ∀ a o, a ∉ ks → n.lookup a = some o → n'.lookup a = some o
@[elab_as_elim] theorem Up.goM {h : Heap} {g : Array GenState} {d : Drawn} {t : Nat} {o : OsState} {s' : Shared} {P : Shared → Prop} {b : Heap} {n n' : Ents} {ks : List Addr} (x : Up ⟨h, g, d, t, o⟩ s') (M : Mut b n s'.heap n' ks) (k : ∀ h' d' t', Mut b n h' n' ks → P ⟨h', g, d', t', o⟩) : P s' := by obtain ⟨h', d', t', rfl⟩ := x; exact k h' d' t' M
theorem Cx.after {ks : List Addr} (C : Cx h₀ L h l n) (M : Mut h n h' n' ks) : Cx h₀ L h' l n' :=
  Cx.back (r := []) C M.k (fun p hp => ⟨M.own.at_ p hp, M.own.off p hp⟩) M.own.nd
theorem Cx.mut {ks : List Addr} (C : Cx (Mine.bar h n) L h' l n') (le : ∀ a o, a ∉ ks → n.lookup a = some o → n'.lookup a = some o) : Mut h n h' n' ks := ⟨C.keep, C.own, le⟩
end
noncomputable def strB (v : Value) (a : Str) : Bool := match v with
  | .str x _ => x == a
  | _ => false
theorem strB_of {v : Value} {a : Str} (h : strB v a = true) : ∃ t, v = .str a t := by
  cases v with
  | str x t => exact ⟨t, congrArg (Value.str · t) (beq_iff_eq.mp h)⟩
  | _ => cases h
noncomputable def intB (v : Value) (k : Int) : Bool := match v with
  | .int x _ => x == k
  | _ => false
theorem intB_of {v : Value} {k : Int} (h : intB v k = true) : ∃ t, v = .int k t := by
  cases v with
  | int x t => exact ⟨t, congrArg (Value.int · t) (beq_iff_eq.mp h)⟩
  | _ => cases h
noncomputable def isNo (v : Value) : Bool := match v with
  | .none => true
  | _ => false
theorem isNo_of {v : Value} (h : isNo v = true) : v = .none := by
  cases v with
  | none => rfl
  | _ => cases h
noncomputable def typB (v : Value) (T : String) : Bool := match v with
  | .type x => x == T
  | _ => false
theorem typB_of {v : Value} {T : String} (h : typB v T = true) : v = .type T := by
  cases v with
  | type x => exact congrArg Value.type (beq_iff_eq.mp h)
  | _ => cases h
inductive Pw {α β : Type} (F : α → β → Prop) : List α → List β → Prop
  | nil : Pw F [] []
  | cons {a b l₁ l₂} : F a b → Pw F l₁ l₂ → Pw F (a :: l₁) (b :: l₂)
noncomputable abbrev Nums (vs : List Value) (xs : List Nat) : Prop := Pw (fun v x => ∃ t, v = Value.int ((x : Nat) : Int) t) vs xs
section
variable {α β : Type} {F : α → β → Prop}
theorem Pw.get {l₁ : List α} {l₂ : List β} (p : Pw F l₁ l₂) : ∀ {i : Nat} {b : β}, l₂[i]? = some b → ∃ a, l₁[i]? = some a ∧ F a b := by
  induction p with
  | nil => intro i b h; cases h
  | cons h t ih =>
    intro i b e
    cases i with
    | zero => exact ⟨_, rfl, Option.some.inj e ▸ h⟩
    | succ i => exact ih (i := i) e
theorem Pw.get1 {l₁ : List α} {l₂ : List β} (p : Pw F l₁ l₂) : ∀ {i : Nat} {a : α}, l₁[i]? = some a → ∃ b, l₂[i]? = some b ∧ F a b := by
  induction p with
  | nil => intro i b h; cases h
  | cons h t ih =>
    intro i b e
    cases i with
    | zero => exact ⟨_, rfl, Option.some.inj e ▸ h⟩
    | succ i => exact ih (i := i) e
theorem Pw.app {l₁ : List α} {l₂ : List β} {m₁ : List α} {m₂ : List β} (p : Pw F l₁ l₂) (q : Pw F m₁ m₂) : Pw F (l₁ ++ m₁) (l₂ ++ m₂) := by
  induction p with
  | nil => exact q
  | cons h _ ih => exact .cons h ih
theorem Pw.set {l₁ : List α} {l₂ : List β} (p : Pw F l₁ l₂) : ∀ {i a b}, F a b → Pw F (l₁.set i a) (l₂.set i b) := by
  induction p with
  | nil => intro _ _ _ _; exact .nil
  | cons h t ih =>
    intro i a b h'
    cases i with
    | zero => exact .cons h' t
    | succ i => exact .cons h (ih h')
theorem Pw.mem1 {l₁ : List α} {l₂ : List β} (p : Pw F l₁ l₂) {a : α} (h : a ∈ l₁) : ∃ b ∈ l₂, F a b := by
  refine elE (List.mem_iff_getElem?.mp h) fun i hi => ?_
  refine elEA (p.get1 hi) fun b hb f => ?_
  exact ⟨b, List.mem_of_getElem? hb, f⟩
theorem Pw.mem2 {l₁ : List α} {l₂ : List β} (p : Pw F l₁ l₂) {b : β} (h : b ∈ l₂) : ∃ a ∈ l₁, F a b := by
  refine elE (List.mem_iff_getElem?.mp h) fun i hi => ?_
  refine elEA (p.get hi) fun a ha f => ?_
  exact ⟨a, List.mem_of_getElem? ha, f⟩
theorem Pw.perm {l₁ l₁' : List α} (q : List.Perm l₁' l₁) : ∀ {l₂ : List β}, Pw F l₁ l₂ → ∃ l₂', l₂'.Perm l₂ ∧ Pw F l₁' l₂' := by
  induction q with
  | nil => intro l₂ h; cases h; exact ⟨_, .refl _, .nil⟩
  | cons a _ ih => intro l₂ h; cases h with | cons h t => obtain ⟨l', p, k⟩ := ih t; exact ⟨_, p.cons _, .cons h k⟩
  | swap a b l => intro l₂ h; cases h with | cons h t => cases t with | cons h' t => exact ⟨_, .swap .., .cons h' (.cons h t)⟩
  | trans _ _ ih₁ ih₂ => intro l₂ h; obtain ⟨l', p, k⟩ := ih₂ h; obtain ⟨l'', p', k'⟩ := ih₁ k; exact ⟨_, p'.trans p, k'⟩
theorem Pw.of_get {l₁ : List α} {l₂ : List β} (hl : l₁.length = l₂.length) (h : ∀ (i : Nat) a b, l₁[i]? = some a → l₂[i]? = some b → F a b) : Pw F l₁ l₂ := by
  induction l₁ generalizing l₂ with
  | nil => cases l₂ with | nil => exact .nil | cons => simp at hl
  | cons a r ih => cases l₂ with
    | nil => simp at hl
    | cons b q => exact .cons (h 0 a b (by walk_at "m sm") (by walk_at "m sm")) (ih (by simpa using hl) fun i x y hx hy => h (i + 1) x y (by simpa using hx) (by simpa using hy))
end
theorem Pw.length {α β : Type} {F : α → β → Prop} {l₁ : List α} {l₂ : List β} (p : Pw F l₁ l₂) : l₁.length = l₂.length := by
  induction p with
  | nil => rfl
  | cons _ _ ih => exact congrArg (· + 1) ih
theorem Pw.mono {α β : Type} {F F' : α → β → Prop} (hm : ∀ a b, F a b → F' a b) {l₁ : List α} {l₂ : List β} (p : Pw F l₁ l₂) : Pw F' l₁ l₂ := by
  induction p with
  | nil => exact .nil
  | cons h _ ih => exact .cons (hm _ _ h) ih
theorem Nums.one (x : Nat) (t : Tok) : Nums [.int x t] [x] := .cons ⟨t, rfl⟩ .nil
theorem isList_obj {h : Heap} {a : Addr} {vs : Array Value} {ep : Nat} (e : h.get? a = some (seqObj "list" vs ep)) : h.IsList a vs := ⟨_, e, rfl, ep, rfl⟩
theorem isTuple_obj {h : Heap} {a : Addr} {vs : Array Value} {ep : Nat} (e : h.get? a = some (seqObj "tuple" vs ep)) : h.IsTuple a vs := ⟨_, e, rfl, ep, rfl⟩
end B8
section B9
noncomputable abbrev lst (vs : List Value) (ep : Nat) : Obj := seqObj "list" vs.toArray ep
section
variable {prog : Program} {w : World} {A : Around} {E : Value → Shared → Prop} {s : Shared} {h₀ : Heap} {L : Addr} {l : Binds} {n : Ents}
theorem gm_list {a : Addr} {o : Obj} {name : Str} {id : String} {pl : Sem Bool} {Q : Value × List Value → Shared → Prop} {M : Model} (ho : s.heap.get? a = some o) (slot : Slot "list" name id) (hty : typeOf (.builtin id) = pure (.type "method_descriptor"))
    (h : Q (.builtin id, [.ref a]) s) (hc : o.cls = .type "list" := by rfl) (hd : o.dict = none := by rfl) : wpAny M A (getMethod (.ref a) name pl) Q E s :=
  getMethod_builtin ⟨o, ho, hc⟩ F.plainAttrs_list slot hty (fun b e => by cases e; exact ⟨o, ho, hd⟩) h
theorem gm_dict {a : Addr} {o : Obj} {name : Str} {id : String} {pl : Sem Bool} {Q : Value × List Value → Shared → Prop} {M : Model} (ho : s.heap.get? a = some o) (slot : Slot "dict" name id) (hty : typeOf (.builtin id) = pure (.type "method_descriptor"))
    (h : Q (.builtin id, [.ref a]) s) (hc : o.cls = .type "dict" := by rfl) (hd : o.dict = none := by rfl) : wpAny M A (getMethod (.ref a) name pl) Q E s :=
  getMethod_builtin ⟨o, ho, hc⟩ F.plainAttrs_dict slot hty (fun b e => by cases e; exact ⟨o, ho, hd⟩) h
theorem appendR {a : Addr} {vs : Array Value} {ep : Nat} {x : Value} {Q : Value → Shared → Prop} (C : Cx h₀ L s.heap l n) (ho : n.lookup a = some (seqObj "list" vs ep)) (hsz : vs.size ≤ sizeLine)
    (h : ∀ h' ep', Cx h₀ L h' l (put n a (seqObj "list" (vs.push x) ep')) → Q .none { s with heap := h' }) : wpAny (model prog w) A (call (.builtin "list.append") [.ref a, x]) Q E s :=
  wpAny_list_append_plain (hsz := hsz) ⟨ep, C.lk ho⟩ fun h' ⟨ep', e⟩ hs => h h' ep' (C.put ho (fun b o hb e => (hs.2 b hb).trans e) e)
theorem extendR {a b : Addr} {vs vs2 : Array Value} {ep ep2 : Nat} {Q : Value → Shared → Prop} (C : Cx h₀ L s.heap l n) (ho : n.lookup a = some (seqObj "list" vs ep)) (hb : s.heap.get? b = some (seqObj "list" vs2 ep2)) (hsz : vs.size + vs2.size ≤ sizeLine)
    (h : ∀ h' ep', Cx h₀ L h' l (put n a (seqObj "list" (vs ++ vs2) ep')) → Q .none { s with heap := h' }) : wpAny (model prog w) A (call (.builtin "list.extend") [.ref a, .ref b]) Q E s := by
  refine call_meets PySem.F.slot_list_extend ⟨_, C.lk ho, rfl⟩ PySem.F.entry_list_extend (PySem.F.args_list_extend_2 _ _) (AutoSeq1.list_extend_list_list_0 a vs ep b vs2 ep2 (extend_door hsz) (by exact om35 hsz) (by exact ll)) ⟨C.lk ho, hb, ?_⟩
  exact h _ _ (C.put ho (fun b o hb e => (Heap.get?_update_ne _ _ _ _ hb).trans e) (by rw [Heap.get?_update_self _ (C.lk ho) (by rw [mapSeq_app]; rfl), mapSeq_app]))
theorem popR {a : Addr} {vs : Array Value} {y : Value} {ep : Nat} {Q : Value → Shared → Prop} (C : Cx h₀ L s.heap l n) (ho : n.lookup a = some (seqObj "list" (vs.push y) ep)) (hsz : vs.size < sizeLine)
    (h : ∀ h' ep', Cx h₀ L h' l (put n a (seqObj "list" vs ep')) → Q y { s with heap := h' }) : wpAny (model prog w) A (call (.builtin "list.pop") [.ref a]) Q E s := by
  refine call_meets PySem.F.slot_list_pop ⟨_, C.lk ho, rfl⟩ PySem.F.entry_list_pop (PySem.F.args_list_pop_1 _) (PySem.MeetsSeq.list_pop_last a _ ep y (by walk_at "m sm") (by rw [Array.size_push]; exact tl1)) ⟨C.lk ho, ?_⟩
  have e : (vs.push y).eraseIdxIfInBounds ((vs.push y).size - 1) = vs := by
    rw [Array.size_push, Nat.add_sub_cancel]
    apply Array.toList_inj.mp
    rw [Array.toList_eraseIdxIfInBounds, Array.toList_push]
    exact List.eraseIdx_append_of_length_le (by walk_at "m sm") _ |>.trans (by walk_at "m sm")
  have ho' := get?_update_seq (C.lk ho) fun xs => xs.eraseIdxIfInBounds ((vs.push y).size - 1)
  rw [e] at ho'
  exact h _ _ (C.put ho (fun b o hb e => (Heap.get?_update_ne _ _ _ _ hb).trans e) ho')
theorem setItemR {a : Addr} {vs : Array Value} {ep : Nat} {j : Nat} {t : Tok} {v : Value} {Q : Unit → Shared → Prop} (C : Cx h₀ L s.heap l n) (ho : n.lookup a = some (seqObj "list" vs ep)) (hj : j < vs.size) (hsz : vs.size ≤ 1000000)
    (h : ∀ h' ep', Cx h₀ L h' l (put n a (seqObj "list" (vs.setIfInBounds j v) ep')) → Q () { s with heap := h' }) : wpAny (model prog w) A (setItem (.ref a) (.int (j : Int) t) v) Q E s := by
  refine ki_setAt (n := ep) (C.lk ho) (by exact z_) (by exact om136 hj hsz) (by exact cl) ?_
  exact h _ _ (C.put ho (fun b o hb e => (Heap.get?_update_ne _ _ _ _ hb).trans e) (get?_update_seq (C.lk ho) (·.setIfInBounds j v)))
structure New (n n' : Ents) (a : Addr) (o : Obj) : Prop where
  le : ∀ b p, n.lookup b = some p → n'.lookup b = some p
  self : n'.lookup a = some o
  ne : ∀ b p, n.lookup b = some p → b ≠ a
theorem Cx.newN {h h' : Heap} (C : Cx h₀ L h l n) {a : Addr} {o : Obj} (k : Kp h h') (ha : h.get? a = none) (ho : h'.get? a = some o) : ∃ n', Cx h₀ L h' l n' ∧ New n n' a o :=
  ⟨(a, o) :: n, C.new k ha ho, fun b p e => C.old e ha, by rw [List.lookup_cons, beq_self_eq_true], fun b p e q => (by have := C.lk e; rw [q, ha] at this; cases this)⟩
theorem newListR {vs : List Value} {Q : Value → Shared → Prop} {M : Model} (C : Cx h₀ L s.heap l n) (hsz : vs.length ≤ sizeLine) (h : ∀ a n' h', Cx h₀ L h' l n' → New n n' a (seqObj "list" vs.toArray 0) → Q (.ref a) { s with heap := h' }) : wpAny M A (newList vs) Q E s :=
  wpAny_newList (by obtain ⟨n', C', N⟩ := C.newN (fun _ _ e => Heap.get?_push_of_some _ e) (size_none _) (Heap.get?_push_size _ rfl : _ = some (seqObj "list" vs.toArray 0)); exact h _ _ _ C' N) hsz
theorem newTupleR {vs : List Value} {Q : Value → Shared → Prop} {M : Model} (C : Cx h₀ L s.heap l n) (hsz : vs.length ≤ sizeLine) (h : ∀ a n' h', Cx h₀ L h' l n' → New n n' a (seqObj "tuple" vs.toArray 0) → Q (.ref a) { s with heap := h' }) : wpAny M A (newTuple vs) Q E s :=
  wpAny_newTuple (by obtain ⟨n', C', N⟩ := C.newN (fun _ _ e => Heap.get?_push_of_some _ e) (size_none _) (Heap.get?_push_size _ rfl : _ = some (seqObj "tuple" vs.toArray 0)); exact h _ _ _ C' N) hsz
theorem Nums.ints {vs : List Value} {xs : List Nat} (p : Nums vs xs) : IntsAre vs (xs.map Int.ofNat) := by
  induction p with
  | nil => exact .nil
  | cons h _ ih => obtain ⟨t, rfl⟩ := h; exact .cons _ _ ih
theorem Nums.of_ints : ∀ {vs : List Value} {xs : List Nat}, IntsAre vs (xs.map Int.ofNat) → Nums vs xs
  | _, [], h => by cases h; exact .nil
  | _, x :: r, h => by cases h with | cons _ _ h' => exact .cons ⟨_, rfl⟩ (Nums.of_ints h')
theorem perm_nat {ns : List Int} {xs : List Nat} (p : ns.Perm (xs.map Int.ofNat)) : ∃ ys : List Nat, ns = ys.map Int.ofNat ∧ ys.Perm xs := by
  have e1 : ∀ l : List Nat, (l.map Int.ofNat).map Int.toNat = l := fun l => by
    rw [List.map_map]; exact (List.map_congr_left fun n _ => Int.toNat_natCast n).trans (List.map_id' l)
  have e2 : ∀ l : List Int, (∀ n ∈ l, 0 ≤ n) → (l.map Int.toNat).map Int.ofNat = l := fun l hl => by
    rw [List.map_map]; exact (List.map_congr_left fun n hn => Int.toNat_of_nonneg (hl n hn)).trans (List.map_id' l)
  refine ⟨ns.map Int.toNat, (e2 ns fun n hn => ?_).symm, (p.map Int.toNat).trans (List.Perm.of_eq (e1 xs))⟩
  obtain ⟨m, _, rfl⟩ := List.mem_map.mp (p.mem_iff.mp hn)
  exact Int.natCast_nonneg m
theorem sortedR {a : Addr} {vs : List Value} {xs : List Nat} {ep : Nat} {Q : Value → Shared → Prop} (C : Cx h₀ L s.heap l n) (ho : s.heap.get? a = some (seqObj "list" vs.toArray ep)) (hx : Nums vs xs) (h64 : xs.length < 64)
    (h : ∀ D (vs' : List Value) ys e n' h', Cx h₀ L h' l n' → New n n' D (seqObj "list" vs'.toArray e) → Nums vs' ys → ys.Perm xs → ys.Pairwise (· ≤ ·) → Q (.ref D) { s with heap := h' }) :
    wpAny (model prog w) A (call (.builtin "sorted") [.ref a]) Q E s := by
  refine sorted_ints (isList_obj ho) hx.ints (by rw [hx.length]; exact h64) fun out ns a1 a2 a3 => ?_
  refine elEA (perm_nat a2) fun ys Xx1 p => ?_
  obtain rfl := Xx1
  refine elE (sortedAll_at s.heap vs out) fun e he => ?_
  refine elEA (C.newN (fun _ _ => sortedAll_old) (by cases q : s.heap.get? (s.heap.objs.size + 1) with | none => rfl | some o => exact absurd (Heap.lt_size q) (Nat.not_lt.mpr (Nat.le_succ _))) he) fun n' C' N => ?_
  refine h _ out.toList ys e n' _ C' (by simpa using N) (Nums.of_ints a1) p ?_
  rw [List.pairwise_map] at a3
  exact a3.imp fun q => Int.ofNat_le.mp q
theorem Cx.ext {h h' : Heap} {a : Addr} (C : Cx h₀ L h l n) (ha : h.get? a = none) (k : Heap.ExtBut a h h') : Cx h₀ L h' l n :=
  C.grow fun b o e => k b o (fun q => by rw [q, ha] at e; cases e) e
theorem assign2 {env : Env} {x y : Str} {px py : Pos} {v1 v2 : Value} {Q : Unit → Shared → Prop} {M : Model} (C : Cx h₀ L s.heap l n) (h : ∀ h' tk, Cx h₀ L h' ((y, v2) :: (x, v1) :: l) n → Q () { s with heap := h', toks := tk })
    (he : env.locals = L := by rfl) (hk : env.scope.kind = .function := by rfl) (hx : env.kindOf x = some .local := by rfl) (hy : env.kindOf y = some .local := by rfl) :
    wpAny M A (assignInOrder ((assignEach [.Name x px, .Name y py] env).map (·.2)) [v1, v2]) Q E s := by
  have e : (assignEach [.Name x px, .Name y py] env).map (·.2) = [assign (.Name x px) env, assign (.Name y py) env] := by rfl
  rw [e]
  refine assignInOrder_cons (wpAny_assign_Name (stC C (fun h1 C1 => ?_) he hk hx))
  refine assignInOrder_cons (wpAny_assign_Name (stC C1 (fun h2 C2 => ?_) he hk hy))
  exact assignInOrder_nil (h _ _ C2)
theorem unpack2L {env : Env} {x y : Str} {px py pos : Pos} {k : Nat} {a : Addr} {ep : Nat} {v1 v2 : Value} {Q : Unit → Shared → Prop} (C : Cx h₀ L s.heap l n) (ho : s.heap.get? a = some (seqObj "list" #[v1, v2] ep)) (hh : A.handled = none)
    (h : ∀ h' tk, Cx h₀ L h' ((y, v2) :: (x, v1) :: l) n → Q () { s with heap := h', toks := tk })
    (he : env.locals = L := by rfl) (hk : env.scope.kind = .function := by rfl) (hx : env.kindOf x = some .local := by rfl) (hy : env.kindOf y = some .local := by rfl) :
    wpAny (model prog w) A (assign (.Tuple [.Name x px, .Name y py] k pos) env (.ref a)) Q E s := by
  rw [arm_assign_Tuple]
  refine wpAny_bind (wpAny_standAt ?_)
  unfold unpack
  rw [show (assignEach [.Name x px, .Name y py] env).length = (#[v1, v2] : Array Value).size by rfl, show (assignEach [.Name x px, .Name y py] env).findIdx? (·.1) = none by rfl]
  refine wpAny_bind (wpAny_holding (kun_itemsOf hh (isList_obj ho) fun h' k => ?_))
  exact assign2 (C.ext (size_none _) k) h he hk hx hy
theorem unpack2T {env : Env} {x y : Str} {px py pos : Pos} {k : Nat} {a : Addr} {ep : Nat} {v1 v2 : Value} {Q : Unit → Shared → Prop} (C : Cx h₀ L s.heap l n) (ho : s.heap.get? a = some (seqObj "tuple" #[v1, v2] ep)) (hh : A.handled = none)
    (h : ∀ h' tk, Cx h₀ L h' ((y, v2) :: (x, v1) :: l) n → Q () { s with heap := h', toks := tk })
    (he : env.locals = L := by rfl) (hk : env.scope.kind = .function := by rfl) (hx : env.kindOf x = some .local := by rfl) (hy : env.kindOf y = some .local := by rfl) :
    wpAny (model prog w) A (assign (.Tuple [.Name x px, .Name y py] k pos) env (.ref a)) Q E s := by
  rw [arm_assign_Tuple]
  refine wpAny_bind (wpAny_standAt ?_)
  unfold unpack
  rw [show (assignEach [.Name x px, .Name y py] env).length = (#[v1, v2] : Array Value).size by rfl, show (assignEach [.Name x px, .Name y py] env).findIdx? (·.1) = none by rfl]
  refine wpAny_bind (wpAny_holding (wpAny_unpackItems_tuple hh (isTuple_obj ho) fun h' k => ?_))
  exact assign2 (C.ext (size_none _) k) h he hk hx hy
theorem itemO {value slice : PySem.Expr} {a : Addr} {vs : Array Value} {ep : Nat} {k : Nat} {u : Tok} {v : Value} {Q : Value → Shared → Prop} (ho : s.heap.get? a = some (seqObj "list" vs ep)) (hx : vs[k]? = some v) (hhi : k < 1000000) (h : Q v s)
    (hs : subscripted slice false (.ref a) (.int (k : Int) u) = operate [.ref a, .int (k : Int) u] (getItem (.ref a) (.int (k : Int) u)) := by with_unfolding_all rfl) :
    wpAny (model prog w) A (subscriptTail value slice (.ref a) (.int (k : Int) u)) Q E s := by
  obtain ⟨vl, rfl⟩ : ∃ vl : List Value, vs = vl.toArray := ⟨vs.toList, by walk_at "m sm"⟩
  exact itemR (isList_obj ho) (by simpa using hx) hhi h hs
theorem rangeR {m : Nat} {t : Tok} {Q : Value → Shared → Prop} (C : Cx h₀ L s.heap l n)
    (h : ∀ r h' tk t1 u1, Cx h₀ L h' l n → IsRange h' r 0 (m : Nat) 1 t1 t u1 → Q (.ref r) { s with heap := h', toks := tk }) :
    wpAny (model prog w) A (call (.type "range") [.int (m : Nat) t]) Q E s :=
  call_range_1 (h _ _ _ _ _ (C.grow fun _ _ e => Heap.get?_push_of_some _ e) (IsRange.new _ _ _ _ _ _ _))
theorem lenL {a : Addr} {vs : Array Value} {ep : Nat} {Q : Value → Shared → Prop} (ho : s.heap.get? a = some (seqObj "list" vs ep)) (hsz : vs.size ≤ 1000000) (h : ∀ t tk, Q (.int (vs.size : Nat) t) { s with toks := tk }) :
    wpAny (model prog w) A (call (.builtin "len") [.ref a]) Q E s := call_len_list (isList_obj ho) (by exact om78 hsz) (h _ _)
end
section
variable {w : World} {A : Around} {E : Value → Shared → Prop} {s : Shared} {h₀ : Heap} {env : Env} {pos : Pos}
theorem callFR {f : Addr} {c d} {sl : Array (Option Value)} {fd : FuncData} {first : List Value} {e : PySem.Expr} {rest : List PySem.Expr} {Q : Value → Shared → Prop} (W : Wd w h₀) (hk : ∀ p, (K p).lookup f = some ⟨c, d, .func fd, sl⟩)
    (h : wpAny (model PySem.Challenge.pw_pq0072_01 w) A (spliced (backTo pos (starEach (e :: rest) env))) (fun vs s₁ => Kp h₀ s₁.heap ∧ wpAny (model PySem.Challenge.pw_pq0072_01 w) A (call (.ref f) (first ++ vs)) Q E s₁) E s)
    (he : starEach (e :: rest) env = (false, eval e env) :: starEach rest env := by rfl) :
    wpAny (model PySem.Challenge.pw_pq0072_01 w) A (callWith pos (.ref f) first (backTo pos (starEach (e :: rest) env)) []) Q E s :=
  callWith_meth (o := ⟨c, d, .func fd, sl⟩) (h₀ := h₀) (fd := fd) rfl (W.k _ _ (hk w.params)) h he
end
end B9
section B10
section
variable {prog : Program} {w : World} {A : Around} {E : Value → Shared → Prop} {s : Shared} {h₀ : Heap} {L : Addr} {l : Binds} {n : Ents} {env : Env}
theorem isTup_obj {h : Heap} {a : Addr} {vs : Array Value} {ep : Nat} (e : h.get? a = some (seqObj "tuple" vs ep)) : IsTup h a vs := ⟨_, e, rfl, ep, rfl⟩
theorem itemT {value slice : PySem.Expr} {a : Addr} {vs : Array Value} {ep : Nat} {k : Nat} {u : Tok} {v : Value} {Q : Value → Shared → Prop} (ho : s.heap.get? a = some (seqObj "tuple" vs ep)) (hx : vs[k]? = some v) (hhi : k < 1000000) (h : Q v s)
    (hs : subscripted slice false (.ref a) (.int (k : Int) u) = operate [.ref a, .int (k : Int) u] (getItem (.ref a) (.int (k : Int) u)) := by with_unfolding_all rfl) :
    wpAny (model prog w) A (subscriptTail value slice (.ref a) (.int (k : Int) u)) Q E s :=
  tail_any (isTup_obj ho).typeIs slot_tuple_getitem.lookup (getItem_tuple (isTup_obj ho) (by exact m63p) (by exact p63p) (seqIndex_of (by exact z_) (by have := (Array.getElem?_eq_some_iff.mp hx).1; exact cl)) hx h) hs
theorem evSlice {k : Nat} {a : Int} {p pos : Pos} {Q : Value → Shared → Prop} {M : Model} (C : Cx h₀ L s.heap l n) (h : ∀ sl n' h' tk u, Cx h₀ L h' l n' → New n n' sl { cls := .type "slice", data := .fields #[.int a u, .none, .none] } → Q (.ref sl) { s with heap := h', toks := tk }) :
    wpAny M A (eval (.Slice (some (.Constant (.int a) k p)) none none pos) env) Q E s := by
  refine wpAny_Slice ?_
  show wpAny M A (eval (.Constant (.int a) k p) env) _ E s
  refine wpAny_Constant_int ?_
  refine wpAny_pure (wpAny_pure ?_)
  refine elEA (C.newN (h' := s.heap.push { cls := .type "slice", data := .fields #[.int a s.toks, .none, .none] }) (fun _ _ e => Heap.get?_push_of_some _ e) (size_none _) (Heap.get?_push_size _ rfl)) fun n' C' N => ?_
  exact h _ n' _ _ _ C' N
theorem sliceT {value slice : PySem.Expr} {t sl : Addr} {vs : Array Value} {ep a : Nat} {u : Tok} {Q : Value → Shared → Prop} (C : Cx h₀ L s.heap l n) (ho : s.heap.get? t = some (seqObj "tuple" vs ep)) (hs : s.heap.get? sl = some { cls := .type "slice", data := .fields #[.int a u, .none, .none] })
    (h1 : 1 ≤ a) (ha : a ≤ vs.size) (hsz : vs.size ≤ sizeLine) (h : ∀ T n' h', Cx h₀ L h' l n' → New n n' T (seqObj "tuple" (vs.toList.drop a).toArray 0) → Q (.ref T) { s with heap := h' })
    (hss : subscripted slice false (.ref t) (.ref sl) = operate [.ref sl, .ref t] (getItem (.ref t) (.ref sl)) := by with_unfolding_all rfl) :
    wpAny (model prog w) A (subscriptTail value slice (.ref t) (.ref sl)) Q E s := by
  refine tail_any (isTup_obj ho).typeIs slot_tuple_getitem.lookup (getItem_tuple_from (isTup_obj ho) ⟨_, hs, rfl, rfl⟩ h1 ha ?_ hsz) hss
  refine elEA (C.newN (fun _ _ e => Heap.get?_push_of_some _ e) (size_none _) (Heap.get?_push_size _ rfl : _ = some (seqObj "tuple" (vs.toList.drop a).toArray 0))) fun n' C' N => ?_
  exact h _ n' _ C' N
theorem tupleR {a : Addr} {vs : Array Value} {ep : Nat} {Q : Value → Shared → Prop} (C : Cx h₀ L s.heap l n) (ho : s.heap.get? a = some (seqObj "list" vs ep)) (hsz : vs.size ≤ sizeLine)
    (h : ∀ T n' h', Cx h₀ L h' l n' → New n n' T (seqObj "tuple" vs 0) → Q (.ref T) { s with heap := h' }) : wpAny (model prog w) A (call (.type "tuple") [.ref a]) Q E s := by
  refine call_tuple_list (hsz := hsz) (isList_obj ho) fun h' k => ?_
  have C1 := C.grow k
  refine elEA (C1.newN (fun _ _ e => Heap.get?_push_of_some _ e) (size_none _) (Heap.get?_push_size _ rfl : _ = some (seqObj "tuple" vs 0))) fun n' C' N => ?_
  exact h _ n' _ C' N
theorem addT {t b : Addr} {v : Value} {vs ws : List Value} {ep ep2 : Nat} {Q : Value → Shared → Prop} (C : Cx h₀ L s.heap l n) (ht : n.lookup t = some (seqObj "tuple" (v :: vs).toArray ep)) (hb : s.heap.get? b = some (seqObj "tuple" ws.toArray ep2)) (hsz : (v :: vs).length + ws.length ≤ sizeLine)
    (h : ∀ T n' h' e, Cx h₀ L h' l n' → (∀ a o, n.lookup a = some o → n'.lookup a = some o) → n'.lookup T = some (seqObj "tuple" (v :: vs ++ ws).toArray e) → Q (.ref T) { s with heap := h' }) :
    wpAny (model prog w) A (binaryOp .Add (.ref t) (.ref b)) Q E s := by
  have ho := C.lk ht
  have e : (v :: vs).toArray ++ ws.toArray = (v :: vs ++ ws).toArray := by simp
  by_cases hw : ws = []
  · subst hw
    refine concat_meets ⟨_, ho, rfl⟩ ⟨_, hb, rfl⟩ noFill_tuple_add seq_tuple_add PySem.F.slot_tuple_add PySem.F.entry_tuple_add (PySem.F.args_tuple_add_2 _ _)
        (tuple_addW1 t b (v :: vs).toArray #[] ep ep2 none none #[] #[] (by walk_at "m sm") (by walk_at "m sm")) ⟨ho, hb, ?_⟩
    exact h t n _ ep C (fun _ _ q => q) (by simpa using ht)
  · refine concat_meets ⟨_, ho, rfl⟩ ⟨_, hb, rfl⟩ noFill_tuple_add seq_tuple_add PySem.F.slot_tuple_add PySem.F.entry_tuple_add (PySem.F.args_tuple_add_2 _ _)
        (tuple_addW2 t b (v :: vs).toArray ws.toArray ep ep2 none none #[] #[] (by walk_at "m sm") (by simpa using hw) (by rw [List.size_toArray, List.size_toArray]; exact hsz)) ⟨ho, hb, ?_⟩
    rw [e]
    refine elEA (C.newN (fun _ _ e => Heap.get?_push_of_some _ e) (size_none _) (Heap.get?_push_size _ rfl : _ = some (seqObj "tuple" (v :: vs ++ ws).toArray 0))) fun n' C' N => ?_
    exact h _ n' _ 0 C' N.le N.self
end
end B10
section C0
theorem k_26 (p : Params) : (K p).lookup 26 = some ⟨.type "function", none, .func (fo (dfn 2) (Str.ofString "whole_of") (Str.ofString "whole_of") (.str (Str.ofString "alikeheap.analyses") 194) (.ref 25)), #[]⟩ := by kernel_rfl
theorem c_26 (p : Params) : codeIn (K p) (.ref 25) (Str.ofString "whole_of") = true := by kernel_rfl
theorem k_40 (p : Params) : (K p).lookup 40 = some ⟨.type "function", none, .func (fo (mth 3 0) (Str.ofString "__init__") (Str.ofString "Consts.__init__") (.str (Str.ofString "alikeheap.analyses") 194) (.ref 39)), #[]⟩ := by kernel_rfl
theorem c_40 (p : Params) : codeIn (K p) (.ref 39) (Str.ofString "Consts.__init__") = true := by kernel_rfl
theorem k_47 (p : Params) : (K p).lookup 47 = some ⟨.type "function", none, .func (fo (mth 3 1) (Str.ofString "of_node") (Str.ofString "Consts.of_node") (.str (Str.ofString "alikeheap.analyses") 194) (.ref 46)), #[]⟩ := by kernel_rfl
theorem c_47 (p : Params) : codeIn (K p) (.ref 46) (Str.ofString "Consts.of_node") = true := by kernel_rfl
theorem k_54 (p : Params) : (K p).lookup 54 = some ⟨.type "function", none, .func (fo (mth 3 2) (Str.ofString "joined") (Str.ofString "Consts.joined") (.str (Str.ofString "alikeheap.analyses") 194) (.ref 53)), #[]⟩ := by kernel_rfl
theorem c_54 (p : Params) : codeIn (K p) (.ref 53) (Str.ofString "Consts.joined") = true := by kernel_rfl
theorem k_75 (p : Params) : (K p).lookup 75 = some ⟨.type "function", none, .func (fo (mth 4 0) (Str.ofString "__init__") (Str.ofString "Keeper.__init__") (.str (Str.ofString "alikeheap.analyses") 194) (.ref 74)), #[]⟩ := by kernel_rfl
theorem c_75 (p : Params) : codeIn (K p) (.ref 74) (Str.ofString "Keeper.__init__") = true := by kernel_rfl
theorem k_82 (p : Params) : (K p).lookup 82 = some ⟨.type "function", none, .func (fo (mth 4 1) (Str.ofString "value") (Str.ofString "Keeper.value") (.str (Str.ofString "alikeheap.analyses") 194) (.ref 81)), #[]⟩ := by kernel_rfl
theorem c_82 (p : Params) : codeIn (K p) (.ref 81) (Str.ofString "Keeper.value") = true := by kernel_rfl
theorem k_89 (p : Params) : (K p).lookup 89 = some ⟨.type "function", none, .func (fo (mth 4 2) (Str.ofString "begun") (Str.ofString "Keeper.begun") (.str (Str.ofString "alikeheap.analyses") 194) (.ref 88)), #[]⟩ := by kernel_rfl
theorem c_89 (p : Params) : codeIn (K p) (.ref 88) (Str.ofString "Keeper.begun") = true := by kernel_rfl
theorem k_94 (p : Params) : (K p).lookup 94 = some ⟨.type "function", none, .func (fo (mth 4 3) (Str.ofString "reckoned") (Str.ofString "Keeper.reckoned") (.str (Str.ofString "alikeheap.analyses") 194) (.ref 93)), #[]⟩ := by kernel_rfl
theorem c_94 (p : Params) : codeIn (K p) (.ref 93) (Str.ofString "Keeper.reckoned") = true := by kernel_rfl
theorem k_99 (p : Params) : (K p).lookup 99 = some ⟨.type "function", none, .func (fo (mth 4 4) (Str.ofString "settle") (Str.ofString "Keeper.settle") (.str (Str.ofString "alikeheap.analyses") 194) (.ref 98)), #[]⟩ := by kernel_rfl
theorem c_99 (p : Params) : codeIn (K p) (.ref 98) (Str.ofString "Keeper.settle") = true := by kernel_rfl
theorem k_104 (p : Params) : (K p).lookup 104 = some ⟨.type "function", none, .func (fo (mth 4 5) (Str.ofString "clashes") (Str.ofString "Keeper.clashes") (.str (Str.ofString "alikeheap.analyses") 194) (.ref 103)), #[]⟩ := by kernel_rfl
theorem c_104 (p : Params) : codeIn (K p) (.ref 103) (Str.ofString "Keeper.clashes") = true := by kernel_rfl
theorem k_164 (p : Params) : (K p).lookup 164 = some ⟨.type "function", none, .func (fo (dfn 9) (Str.ofString "is_op") (Str.ofString "is_op") (.str (Str.ofString "alikeheap.terms") 382) (.ref 163)), #[]⟩ := by kernel_rfl
theorem c_164 (p : Params) : codeIn (K p) (.ref 163) (Str.ofString "is_op") = true := by kernel_rfl
theorem k_178 (p : Params) : (K p).lookup 178 = some ⟨.type "function", none, .func (fo (mth 10 0) (Str.ofString "__init__") (Str.ofString "Bank.__init__") (.str (Str.ofString "alikeheap.terms") 382) (.ref 177)), #[]⟩ := by kernel_rfl
theorem c_178 (p : Params) : codeIn (K p) (.ref 177) (Str.ofString "Bank.__init__") = true := by kernel_rfl
theorem k_185 (p : Params) : (K p).lookup 185 = some ⟨.type "function", none, .func (fo (mth 10 1) (Str.ofString "size") (Str.ofString "Bank.size") (.str (Str.ofString "alikeheap.terms") 382) (.ref 184)), #[]⟩ := by kernel_rfl
theorem c_185 (p : Params) : codeIn (K p) (.ref 184) (Str.ofString "Bank.size") = true := by kernel_rfl
theorem k_190 (p : Params) : (K p).lookup 190 = some ⟨.type "function", none, .func (fo (mth 10 2) (Str.ofString "take") (Str.ofString "Bank.take") (.str (Str.ofString "alikeheap.terms") 382) (.ref 189)), #[]⟩ := by kernel_rfl
theorem c_190 (p : Params) : codeIn (K p) (.ref 189) (Str.ofString "Bank.take") = true := by kernel_rfl
theorem k_197 (p : Params) : (K p).lookup 197 = some ⟨.type "function", none, .func (fo (mth 10 3) (Str.ofString "require") (Str.ofString "Bank.require") (.str (Str.ofString "alikeheap.terms") 382) (.ref 196)), #[]⟩ := by kernel_rfl
theorem c_197 (p : Params) : codeIn (K p) (.ref 196) (Str.ofString "Bank.require") = true := by kernel_rfl
theorem k_225 (p : Params) : (K p).lookup 225 = some ⟨.type "function", none, .func (fo (mth 10 7) (Str.ofString "op") (Str.ofString "Bank.op") (.str (Str.ofString "alikeheap.terms") 382) (.ref 224)), #[]⟩ := by kernel_rfl
theorem c_225 (p : Params) : codeIn (K p) (.ref 224) (Str.ofString "Bank.op") = true := by kernel_rfl
theorem k_232 (p : Params) : (K p).lookup 232 = some ⟨.type "function", none, .func (fo (mth 10 8) (Str.ofString "kids") (Str.ofString "Bank.kids") (.str (Str.ofString "alikeheap.terms") 382) (.ref 231)), #[]⟩ := by kernel_rfl
theorem c_232 (p : Params) : codeIn (K p) (.ref 231) (Str.ofString "Bank.kids") = true := by kernel_rfl
theorem k_286 (p : Params) : (K p).lookup 286 = some ⟨.type "function", none, .func (fo (mth 12 0) (Str.ofString "__init__") (Str.ofString "Unions.__init__") (.str (Str.ofString "alikeheap.unions") 521) (.ref 285)), #[]⟩ := by kernel_rfl
theorem c_286 (p : Params) : codeIn (K p) (.ref 285) (Str.ofString "Unions.__init__") = true := by kernel_rfl
theorem k_293 (p : Params) : (K p).lookup 293 = some ⟨.type "function", none, .func (fo (mth 12 1) (Str.ofString "make") (Str.ofString "Unions.make") (.str (Str.ofString "alikeheap.unions") 521) (.ref 292)), #[]⟩ := by kernel_rfl
theorem c_293 (p : Params) : codeIn (K p) (.ref 292) (Str.ofString "Unions.make") = true := by kernel_rfl
theorem k_300 (p : Params) : (K p).lookup 300 = some ⟨.type "function", none, .func (fo (mth 12 2) (Str.ofString "size") (Str.ofString "Unions.size") (.str (Str.ofString "alikeheap.unions") 521) (.ref 299)), #[]⟩ := by kernel_rfl
theorem c_300 (p : Params) : codeIn (K p) (.ref 299) (Str.ofString "Unions.size") = true := by kernel_rfl
theorem k_307 (p : Params) : (K p).lookup 307 = some ⟨.type "function", none, .func (fo (mth 12 3) (Str.ofString "find") (Str.ofString "Unions.find") (.str (Str.ofString "alikeheap.unions") 521) (.ref 306)), #[]⟩ := by kernel_rfl
theorem c_307 (p : Params) : codeIn (K p) (.ref 306) (Str.ofString "Unions.find") = true := by kernel_rfl
theorem k_314 (p : Params) : (K p).lookup 314 = some ⟨.type "function", none, .func (fo (mth 12 4) (Str.ofString "merge") (Str.ofString "Unions.merge") (.str (Str.ofString "alikeheap.unions") 521) (.ref 313)), #[]⟩ := by kernel_rfl
theorem c_314 (p : Params) : codeIn (K p) (.ref 313) (Str.ofString "Unions.merge") = true := by kernel_rfl
theorem k_321 (p : Params) : (K p).lookup 321 = some ⟨.type "function", none, .func (fo (mth 12 5) (Str.ofString "members") (Str.ofString "Unions.members") (.str (Str.ofString "alikeheap.unions") 521) (.ref 320)), #[]⟩ := by kernel_rfl
theorem c_321 (p : Params) : codeIn (K p) (.ref 320) (Str.ofString "Unions.members") = true := by kernel_rfl
theorem k_326 (p : Params) : (K p).lookup 326 = some ⟨.type "function", none, .func (fo (mth 12 6) (Str.ofString "classes") (Str.ofString "Unions.classes") (.str (Str.ofString "alikeheap.unions") 521) (.ref 325)), #[]⟩ := by kernel_rfl
theorem c_326 (p : Params) : codeIn (K p) (.ref 325) (Str.ofString "Unions.classes") = true := by kernel_rfl
theorem k_368 (p : Params) : (K p).lookup 368 = some ⟨.type "function", none, .func (fo (mth 14 0) (Str.ofString "__init__") (Str.ofString "Heap.__init__") (.str (Str.ofString "alikeheap.heap") 623) (.ref 367)), #[]⟩ := by kernel_rfl
theorem c_368 (p : Params) : codeIn (K p) (.ref 367) (Str.ofString "Heap.__init__") = true := by kernel_rfl
theorem k_375 (p : Params) : (K p).lookup 375 = some ⟨.type "function", none, .func (fo (mth 14 1) (Str.ofString "size") (Str.ofString "Heap.size") (.str (Str.ofString "alikeheap.heap") 623) (.ref 374)), #[]⟩ := by kernel_rfl
theorem c_375 (p : Params) : codeIn (K p) (.ref 374) (Str.ofString "Heap.size") = true := by kernel_rfl
theorem k_380 (p : Params) : (K p).lookup 380 = some ⟨.type "function", none, .func (fo (mth 14 2) (Str.ofString "node") (Str.ofString "Heap.node") (.str (Str.ofString "alikeheap.heap") 623) (.ref 379)), #[]⟩ := by kernel_rfl
theorem c_380 (p : Params) : codeIn (K p) (.ref 379) (Str.ofString "Heap.node") = true := by kernel_rfl
theorem k_385 (p : Params) : (K p).lookup 385 = some ⟨.type "function", none, .func (fo (mth 14 3) (Str.ofString "add") (Str.ofString "Heap.add") (.str (Str.ofString "alikeheap.heap") 623) (.ref 384)), #[]⟩ := by kernel_rfl
theorem c_385 (p : Params) : codeIn (K p) (.ref 384) (Str.ofString "Heap.add") = true := by kernel_rfl
theorem k_399 (p : Params) : (K p).lookup 399 = some ⟨.type "function", none, .func (fo (mth 14 5) (Str.ofString "look_at") (Str.ofString "Heap.look_at") (.str (Str.ofString "alikeheap.heap") 623) (.ref 398)), #[]⟩ := by kernel_rfl
theorem c_399 (p : Params) : codeIn (K p) (.ref 398) (Str.ofString "Heap.look_at") = true := by kernel_rfl
theorem k_406 (p : Params) : (K p).lookup 406 = some ⟨.type "function", none, .func (fo (mth 14 6) (Str.ofString "find") (Str.ofString "Heap.find") (.str (Str.ofString "alikeheap.heap") 623) (.ref 405)), #[]⟩ := by kernel_rfl
theorem c_406 (p : Params) : codeIn (K p) (.ref 405) (Str.ofString "Heap.find") = true := by kernel_rfl
theorem k_420 (p : Params) : (K p).lookup 420 = some ⟨.type "function", none, .func (fo (mth 14 8) (Str.ofString "merge") (Str.ofString "Heap.merge") (.str (Str.ofString "alikeheap.heap") 623) (.ref 419)), #[]⟩ := by kernel_rfl
theorem c_420 (p : Params) : codeIn (K p) (.ref 419) (Str.ofString "Heap.merge") = true := by kernel_rfl
theorem k_427 (p : Params) : (K p).lookup 427 = some ⟨.type "function", none, .func (fo (mth 14 9) (Str.ofString "join") (Str.ofString "Heap.join") (.str (Str.ofString "alikeheap.heap") 623) (.ref 426)), #[]⟩ := by kernel_rfl
theorem c_427 (p : Params) : codeIn (K p) (.ref 426) (Str.ofString "Heap.join") = true := by kernel_rfl
theorem k_434 (p : Params) : (K p).lookup 434 = some ⟨.type "function", none, .func (fo (mth 14 10) (Str.ofString "settle") (Str.ofString "Heap.settle") (.str (Str.ofString "alikeheap.heap") 623) (.ref 433)), #[]⟩ := by kernel_rfl
theorem c_434 (p : Params) : codeIn (K p) (.ref 433) (Str.ofString "Heap.settle") = true := by kernel_rfl
theorem k_448 (p : Params) : (K p).lookup 448 = some ⟨.type "function", none, .func (fo (mth 14 12) (Str.ofString "classes") (Str.ofString "Heap.classes") (.str (Str.ofString "alikeheap.heap") 623) (.ref 447)), #[]⟩ := by kernel_rfl
theorem c_448 (p : Params) : codeIn (K p) (.ref 447) (Str.ofString "Heap.classes") = true := by kernel_rfl
theorem k_455 (p : Params) : (K p).lookup 455 = some ⟨.type "function", none, .func (fo (mth 14 13) (Str.ofString "members") (Str.ofString "Heap.members") (.str (Str.ofString "alikeheap.heap") 623) (.ref 454)), #[]⟩ := by kernel_rfl
theorem c_455 (p : Params) : codeIn (K p) (.ref 454) (Str.ofString "Heap.members") = true := by kernel_rfl
theorem k_460 (p : Params) : (K p).lookup 460 = some ⟨.type "function", none, .func (fo (mth 14 14) (Str.ofString "nodes_of") (Str.ofString "Heap.nodes_of") (.str (Str.ofString "alikeheap.heap") 623) (.ref 459)), #[]⟩ := by kernel_rfl
theorem c_460 (p : Params) : codeIn (K p) (.ref 459) (Str.ofString "Heap.nodes_of") = true := by kernel_rfl
theorem k_479 (p : Params) : (K p).lookup 479 = some ⟨.type "function", none, .func (fo (mth 14 17) (Str.ofString "users") (Str.ofString "Heap.users") (.str (Str.ofString "alikeheap.heap") 623) (.ref 478)), #[]⟩ := by kernel_rfl
theorem c_479 (p : Params) : codeIn (K p) (.ref 478) (Str.ofString "Heap.users") = true := by kernel_rfl
theorem k_513 (p : Params) : (K p).lookup 513 = some ⟨.type "function", none, .func (fo (dfn 18) (Str.ofString "_law_next") (Str.ofString "_law_next") (.str (Str.ofString "law_pq0072_01") 791) (.ref 512)), #[]⟩ := by kernel_rfl
theorem c_513 (p : Params) : codeIn (K p) (.ref 512) (Str.ofString "_law_next") = true := by kernel_rfl
theorem k_520 (p : Params) : (K p).lookup 520 = some ⟨.type "function", none, .func (fo (dfn 19) (Str.ofString "_law_reckoned") (Str.ofString "_law_reckoned") (.str (Str.ofString "law_pq0072_01") 791) (.ref 519)), #[]⟩ := by kernel_rfl
theorem c_520 (p : Params) : codeIn (K p) (.ref 519) (Str.ofString "_law_reckoned") = true := by kernel_rfl
theorem k_527 (p : Params) : (K p).lookup 527 = some ⟨.type "function", none, .func (fo (dfn 20) (Str.ofString "_law_both") (Str.ofString "_law_both") (.str (Str.ofString "law_pq0072_01") 791) (.ref 526)), #[]⟩ := by kernel_rfl
theorem c_527 (p : Params) : codeIn (K p) (.ref 526) (Str.ofString "_law_both") = true := by kernel_rfl
theorem k_532 (p : Params) : (K p).lookup 532 = some ⟨.type "function", none, .func (fo (dfn 21) (Str.ofString "_law_due") (Str.ofString "_law_due") (.str (Str.ofString "law_pq0072_01") 791) (.ref 531)), #[]⟩ := by kernel_rfl
theorem c_532 (p : Params) : codeIn (K p) (.ref 531) (Str.ofString "_law_due") = true := by kernel_rfl
theorem k_537 (p : Params) : (K p).lookup 537 = some ⟨.type "function", none, .func (fo (dfn 22) (Str.ofString "_law_is_kept") (Str.ofString "_law_is_kept") (.str (Str.ofString "law_pq0072_01") 791) (.ref 536)), #[]⟩ := by kernel_rfl
theorem c_537 (p : Params) : codeIn (K p) (.ref 536) (Str.ofString "_law_is_kept") = true := by kernel_rfl
theorem k_544 (p : Params) : (K p).lookup 544 = some ⟨.type "function", none, .func (fo (dfn 23) (Str.ofString "_law_merged") (Str.ofString "_law_merged") (.str (Str.ofString "law_pq0072_01") 791) (.ref 543)), #[]⟩ := by kernel_rfl
theorem c_544 (p : Params) : codeIn (K p) (.ref 543) (Str.ofString "_law_merged") = true := by kernel_rfl
theorem k_549 (p : Params) : (K p).lookup 549 = some ⟨.type "function", none, .func (fo (dfn 24) (Str.ofString "law") (Str.ofString "law") (.str (Str.ofString "law_pq0072_01") 791) (.ref 548)), #[]⟩ := by kernel_rfl
theorem c_549 (p : Params) : codeIn (K p) (.ref 548) (Str.ofString "law") = true := by kernel_rfl
theorem me_185 (P : Params) : methOk (K P) 268 "size" 185 = true := by kernel_rfl
theorem me_190 (P : Params) : methOk (K P) 268 "take" 190 = true := by kernel_rfl
theorem me_197 (P : Params) : methOk (K P) 268 "require" 197 = true := by kernel_rfl
theorem me_293 (P : Params) : methOk (K P) 350 "make" 293 = true := by kernel_rfl
theorem me_300 (P : Params) : methOk (K P) 350 "size" 300 = true := by kernel_rfl
theorem me_314 (P : Params) : methOk (K P) 350 "merge" 314 = true := by kernel_rfl
theorem me_321 (P : Params) : methOk (K P) 350 "members" 321 = true := by kernel_rfl
theorem me_326 (P : Params) : methOk (K P) 350 "classes" 326 = true := by kernel_rfl
theorem me_380 (P : Params) : methOk (K P) 482 "node" 380 = true := by kernel_rfl
theorem me_399 (P : Params) : methOk (K P) 482 "look_at" 399 = true := by kernel_rfl
theorem me_406 (P : Params) : methOk (K P) 482 "find" 406 = true := by kernel_rfl
theorem me_427 (P : Params) : methOk (K P) 482 "join" 427 = true := by kernel_rfl
theorem me_455 (P : Params) : methOk (K P) 482 "members" 455 = true := by kernel_rfl
theorem g_Bank (P : Params) : nsIn (K P) mainGlobals "Bank" = some (some (.ref 268)) := by kernel_rfl
theorem g_Unions (P : Params) : nsIn (K P) mainGlobals "Unions" = some (some (.ref 350)) := by kernel_rfl
theorem g_is_op (P : Params) : nsIn (K P) mainGlobals "is_op" = some (some (.ref 164)) := by kernel_rfl
theorem gb_sum (P : Params) : nsIn (K P) mainGlobals "sum" = some none := by kernel_rfl
theorem gb_max (P : Params) : nsIn (K P) mainGlobals "max" = some none := by kernel_rfl
end C0
section S1
open SetTable
noncomputable abbrev Ris (xs : Array Nat) : Prop := xs.toList.Pairwise (· < ·)
theorem Ris.lt {xs : Array Nat} (r : Ris xs) {i j : Nat} (hij : i < j) (hj : j < xs.size) : xs.getD i 0 < xs.getD j 0 := by
  have hi : i < xs.size := by exact om62 hij hj
  have := List.pairwise_iff_getElem.mp r i j (by simpa using hi) (by simpa using hj) hij
  simpa [Array.getD, hi, hj] using this
theorem below_go {xs : Array Nat} {j : Nat} (r : Ris xs) : ∀ (fuel lo hi : Nat), hi ≤ xs.size → lo ≤ hi → hi - lo ≤ fuel → (∀ i, i < lo → xs.getD i 0 < j) → (∀ i, hi ≤ i → i < xs.size → j ≤ xs.getD i 0) →
    lo ≤ below.go xs j fuel lo hi ∧ below.go xs j fuel lo hi ≤ xs.size ∧ (∀ i, i < below.go xs j fuel lo hi → xs.getD i 0 < j) ∧ ∀ i, below.go xs j fuel lo hi ≤ i → i < xs.size → j ≤ xs.getD i 0 := by
  intro fuel
  induction fuel with
  | zero =>
    intro lo hi h1 h2 h3 h4 h5
    unfold below.go
    exact ⟨Nat.le_refl _, by exact om65 h1 h2, h4, fun i hi' => h5 i (by exact om135 h2 h3 hi')⟩
  | succ f ih =>
    intro lo hi h1 h2 h3 h4 h5
    unfold below.go
    by_cases hl : lo < hi
    · rw [if_pos hl]
      dsimp only
      have hmid : (lo + hi) / 2 < xs.size := by exact om112 h1 hl
      have ed : xs.getD ((lo + hi) / 2) j = xs.getD ((lo + hi) / 2) 0 := by simp [Array.getD, hmid]
      rw [ed]
      by_cases hm : xs.getD ((lo + hi) / 2) 0 < j
      · rw [if_pos hm]
        have h6 : ∀ i, i < (lo + hi) / 2 + 1 → xs.getD i 0 < j := fun i hi' => by
          by_cases e : i = (lo + hi) / 2
          · exact e ▸ hm
          · exact Nat.lt_trans (r.lt (i := i) (j := (lo + hi) / 2) (by exact om210 hi' e) hmid) hm
        refine elAAA (ih ((lo + hi) / 2 + 1) hi h1 (by exact om94 hl) (by exact om188 h3 hl) h6 h5) fun a b c d => ?_
        exact ⟨by exact om145 hl a, b, c, d⟩
      · rw [if_neg hm]
        refine ih lo ((lo + hi) / 2) (by exact om120 hmid) (by exact om42 hl) (by exact om164 h3 hl) h4 fun i hi' hs => ?_
        by_cases e : i = (lo + hi) / 2
        · rw [e]; exact om17 hm
        · have := r.lt (i := (lo + hi) / 2) (j := i) (by exact om194 hi' e) hs
          exact om86 hm this
    · rw [if_neg hl]
      exact ⟨Nat.le_refl _, by exact om114 h1 h2 hl, h4, fun i hi' => h5 i (by exact om113 h2 hl hi')⟩
theorem below_spec {xs : Array Nat} (r : Ris xs) (j : Nat) : below xs j ≤ xs.size ∧ (∀ i, i < below xs j → xs.getD i 0 < j) ∧ ∀ i, below xs j ≤ i → i < xs.size → j ≤ xs.getD i 0 :=
  (below_go r xs.size 0 xs.size (Nat.le_refl _) (Nat.zero_le _) (by exact om0) (fun i h => absurd h (Nat.not_lt_zero _)) fun i h h' => absurd h' (by exact om46 h h')).2
theorem below_at {xs : Array Nat} (r : Ris xs) {i : Nat} (hi : i < xs.size) : below xs (xs.getD i 0) = i := by
  refine elAA (below_spec r (xs.getD i 0)) fun a b c => ?_
  rcases Nat.lt_trichotomy (below xs (xs.getD i 0)) i with h | h | h
  · have h1 := c _ (Nat.le_refl _) (by exact om107 hi a h)
    have h2 := r.lt h hi
    exact om101 h1 h2
  · exact h
  · have := b i h; exact om24 this
theorem below_succ {xs : Array Nat} (r : Ris xs) {i : Nat} (hi : i < xs.size) : below xs (xs.getD i 0 + 1) = i + 1 := by
  refine elAA (below_spec r (xs.getD i 0 + 1)) fun a b c => ?_
  rcases Nat.lt_trichotomy (below xs (xs.getD i 0 + 1)) (i + 1) with h | h | h
  · have := c i (by exact om27 h) hi; exact om100 this
  · exact h
  · have h1 := b (i + 1) h
    have h2 := r.lt (i := i) (j := i + 1) (by exact om1) (by exact om160 hi a h)
    exact om151 h1 h2
theorem below_zero {xs : Array Nat} (r : Ris xs) : below xs 0 = 0 := by
  refine elAA (below_spec r 0) fun a b c => ?_
  rcases Nat.eq_zero_or_pos (below xs 0) with h | h
  · exact h
  · exact absurd (b 0 h) (Nat.not_lt_zero _)
theorem mem_iff_below {xs : Array Nat} (r : Ris xs) (j : Nat) : j ∈ xs ↔ xs[below xs j]? = some j := by
  constructor
  · intro h
    obtain ⟨i, hi, rfl⟩ := Array.mem_iff_getElem.mp h
    have : xs[i] = xs.getD i 0 := by simp [Array.getD, hi]
    rw [this, below_at r hi, ← this]
    simp [hi]
  · exact fun h => Array.mem_of_getElem? h
theorem Ris.insert {xs : Array Nat} (r : Ris xs) {j : Nat} (hj : j ∉ xs) : Ris (insertAt xs (below xs j) j) := by
  refine elAA (below_spec r j) fun a b c => ?_
  show (insertAt xs (below xs j) j).toList.Pairwise _
  rw [toList_insertAt]
  have hlt : ∀ x ∈ xs.toList.take (below xs j), x < j := fun x hx => by
    obtain ⟨i, hi, e⟩ := List.mem_iff_getElem.mp hx
    rw [List.getElem_take] at e
    have hi' : i < below xs j ∧ i < xs.size := by simp at hi; omega
    have := b i hi'.1
    simp only [Array.getD, hi'.2, dite_true] at this
    rw [← e]; simpa using this
  have hge : ∀ x ∈ xs.toList.drop (below xs j), j < x := fun x hx => by
    obtain ⟨i, hi, e⟩ := List.mem_iff_getElem.mp hx
    rw [List.getElem_drop] at e
    have hi' : below xs j + i < xs.size := by simp at hi; omega
    have h1 := c (below xs j + i) (by exact om37 hi) hi'
    simp only [Array.getD, hi', dite_true] at h1
    have h2 : j ≠ x := fun q => hj (by rw [q, ← e]; simp)
    have h3 : j ≤ x := by rw [← e]; simpa using h1
    exact om205 hi hi' h2 h3
  refine List.pairwise_append.mpr ⟨r.sublist (List.take_sublist _ _), List.pairwise_cons.mpr ⟨hge, r.sublist (List.drop_sublist _ _)⟩, fun x hx y hy => ?_⟩
  rcases List.mem_cons.mp hy with rfl | hy
  · exact hlt x hx
  · exact Nat.lt_trans (hlt x hx) (hge y hy)
theorem ris_range (n : Nat) : Ris (Array.range n) := by show (Array.range n).toList.Pairwise _; rw [Array.toList_range]; exact List.pairwise_lt_range
structure Tb (t : SetTable) (n : Nat) : Prop where
  size : t.place.size = n
  ris : Ris t.place
  dum : t.dummies = #[]
  fit : n ≤ t.mask
theorem Tb.fits {t : SetTable} {n : Nat} (T : Tb t n) : t.fits n = true := by
  have := T.size; have := T.fit
  simp [SetTable.fits, SetTable.fill, T.dum]; omega
theorem Tb.standIn {t : SetTable} (n : Nat) : Tb (t.standIn n) n := ⟨by simp [SetTable.standIn], ris_range n, rfl, by simp [SetTable.standIn]; exact om9⟩
theorem Tb.plain {t : SetTable} {n : Nat} (T : Tb t n) (b : Bool) : Tb { t with plain := b } n := ⟨T.size, T.ris, T.dum, T.fit⟩
theorem tb_fresh (f m : Nat) (led : Bool) : Tb (.fresh f m led) 0 := ⟨rfl, List.Pairwise.nil, rfl, Nat.zero_le _⟩
theorem Tb.slot {t : SetTable} {n : Nat} (T : Tb t n) (j : Nat) : t.slot j ≠ .dummy ∧ (t.slot j = .empty → j ∉ t.place) := by
  unfold SetTable.slot
  dsimp only
  split
  · exact ⟨(fun h => nomatch h), fun h => nomatch h⟩
  · rename_i h
    have : has t.dummies j = false := by rw [T.dum]; rfl
    rw [this]
    refine ⟨(fun h => nomatch h), fun _ q => h ?_⟩
    rw [(mem_iff_below T.ris j).mp q]; simp
theorem Tb.probe {t : SetTable} {n : Nat} (T : Tb t n) {f : Nat → Int} {h : Int} : ∀ (fuel : Nat) (p : Probe) {j : Nat} {d : Option Nat}, p.dummy = none → probe.go t f h fuel p = some (.empty j d) → d = none ∧ t.slot j = .empty := by
  intro fuel
  induction fuel with
  | zero => intro p j d _ e; cases e
  | succ k ih =>
    intro p j d hp e
    unfold probe.go at e
    have adv : (t.advance p).dummy = none := by unfold advance; split <;> exact hp
    cases q : t.slot p.j with
    | empty =>
      rw [q] at e
      simp only [Option.some.injEq, Met.empty.injEq] at e
      refine elA e fun e1 e2 => ?_
      subst e1; subst e2
      exact ⟨hp, q⟩
    | dummy => exact absurd q (T.slot p.j).1
    | live i =>
      rw [q] at e
      dsimp only at e
      split at e
      · cases e
      · exact ih _ adv e
theorem Tb.put {t : SetTable} {n : Nat} (T : Tb t n) {j : Nat} (hj : j ∉ t.place) (hn : n + 1 ≤ t.mask) : Tb (t.put j).1 (n + 1) := by
  have hd : has t.dummies j = false := by rw [T.dum]; rfl
  have hsz := T.size
  refine ⟨?_, ?_, ?_, ?_⟩
  · show (insertAt t.place (below t.place j) j).size = _
    rw [← Array.length_toList, (insertAt_perm t.place (below t.place j) j).length_eq]; simp [hsz]
  · exact T.ris.insert hj
  · show (if has t.dummies j = true then _ else t.dummies) = _
    rw [hd]; exact T.dum
  · exact hn
theorem Tb.layNew {t : SetTable} {es : Array (Int × Value)} {h : Int} {x : Value} (T : Tb t es.size) : Tb (layNew t es h x).2.1 (es.size + 1) ∧ (layNew t es h x).2.1.led = t.led := by
  unfold PySem.layNew
  split
  · rename_i slot wd hq
    unfold SetTable.freeSlot at hq
    split at hq
    · rename_i j d hp
      refine elA (T.probe _ _ rfl hp) fun hd hs => ?_
      subst hd
      simp only [Option.getD_none, Option.some.injEq, Prod.mk.injEq] at hq
      refine elA hq fun Xx1 Xx2 => ?_
      obtain rfl := Xx1
      obtain rfl := Xx2
      have hj := (T.slot j).2 hs
      have hsz : (insertAt es (below t.place j) (h, x)).size = es.size + 1 := by
        rw [← Array.length_toList, (insertAt_perm es (below t.place j) (h, x)).length_eq]; simp
      have hpe : t.put j = ((t.put j).1, below t.place j) := rfl
      rw [hpe]
      dsimp only
      rw [hsz]
      unfold orStandIn
      split
      · rename_i hf
        have : es.size + 1 ≤ t.mask := by
          have hf2 := hf
          simp only [SetTable.fits, Bool.and_eq_true, decide_eq_true_eq, beq_iff_eq] at hf2
          have h1 := hf2.1
          have h2 : (t.put j).1.place.size + (t.put j).1.dummies.size ≤ t.mask := hf2.2
          exact om212 hf2 h2
        exact ⟨T.put hj this, rfl⟩
      · exact ⟨Tb.standIn _, rfl⟩
    · cases hq
  · exact ⟨Tb.standIn _, rfl⟩
theorem tb_laid {mask finger moves : Nat} {led plain : Bool} {hashes : Array Int} {t : SetTable} {order : Array Nat} (e : laid mask finger moves led plain hashes = some (t, order)) :
    Ris t.place ∧ t.dummies = #[] ∧ t.led = led ∧ t.mask = mask ∧ t.place.size = order.size := by
  unfold laid at e
  cases q : layClean mask hashes with
  | none => rw [q] at e; cases e
  | some owner =>
    rw [q] at e
    simp only [Option.bind_eq_bind, Option.bind_some, Option.pure_def, Option.some.injEq, Prod.mk.injEq] at e
    refine elA e fun Xx3 Xx4 => ?_
    obtain rfl := Xx3
    obtain rfl := Xx4
    refine ⟨?_, rfl, rfl, rfl, by walk_at "m sm"⟩
    show List.Pairwise _ _
    simp only
    rw [List.pairwise_map]
    refine List.Pairwise.filterMap _ (R := (· < ·)) (fun a b hab c hc d hd => ?_) List.pairwise_lt_range
    cases h1 : owner.getD a none with
    | none => rw [h1] at hc; cases hc
    | some v1 =>
      cases h2 : owner.getD b none with
      | none => rw [h2] at hd; cases hd
      | some v2 => rw [h1] at hc; rw [h2] at hd; cases hc; cases hd; exact hab
theorem Tb.relayAll {t : SetTable} {es : Array (Int × Value)} {wanted : Nat} : Tb (relayAll t es wanted).2.1 (relayAll t es wanted).1.size ∧ (relayAll t es wanted).2.1.led = t.led := by
  unfold PySem.relayAll
  split
  · rename_i t' order hq
    dsimp only
    split
    · rename_i hc
      simp only [Bool.and_eq_true] at hc
      have hf := hc.2
      simp only [SetTable.fits, Bool.and_eq_true, decide_eq_true_eq, beq_iff_eq] at hf
      unfold relaid at hq
      refine elAAAA (tb_laid hq) fun a b c d _ => ?_
      exact ⟨⟨hf.1, a, b, by exact Nat.le_trans (Nat.le_of_eq hf.1.symm) (Nat.le_trans (Nat.le_add_right _ _) hf.2)⟩, c⟩
    · exact ⟨Tb.standIn _, rfl⟩
  · exact ⟨Tb.standIn _, rfl⟩
end S1
section S2
noncomputable abbrev setO (es : Array (Int × Value)) (ep : Nat) (t : SetTable) : Obj := { cls := .type "set", dict := none, data := .set es ep t }
noncomputable def Added (has : Prop) (h : Int) (x : Value) (es es' : Array (Int × Value)) : Prop := (es' = es ∧ has) ∨ es'.toList.Perm ((h, x) :: es.toList)
section
variable {prog : Program} {w : World} {K : Type} [DecidableEq K] {knd : KeyKind prog w K} {A : Around} {E : Value → Shared → Prop} {s : Shared}
theorem store_at {a : Addr} {es es' : Array (Int × Value)} {ep : Nat} {t t' : SetTable} {h : Heap} (ho : h.get? a = some (setO es ep t)) : (h.update a (Obj.putSet es' t')).get? a = some (setO es' (ep + 1) t') := by
  have := Heap.get?_update_self (Obj.putSet es' t') ho (by rw [putSet_of es' t' rfl]; rfl)
  rw [putSet_of es' t' rfl] at this
  exact this
theorem addScan {a : Addr} {es : Array (Int × Value)} {ep : Nat} {t : SetTable} {x : Value} {k : K} {Q : Bool → Shared → Prop} (hkey : knd.is k x = true) (hsc : x.scannable = true) (ho : s.heap.get? a = some (setO es ep t)) (hel : ElemsOf knd es.toList)
    (hb : es.size + 1 < scanBound) (T : Tb t es.size)
    (h : ∀ h' es' ep' t' b, Heap.SameBut a s.heap h' → h'.get? a = some (setO es' ep' t') → Tb t' es'.size → t'.led = t.led → Added (∃ e ∈ es.toList, knd.is k e.2 = true) (knd.hash k) x es es' → Q b { s with heap := h' }) :
    wpAny (model prog w) A (setAddHashed a x (knd.hash k)) Q E s := by
  unfold setAddHashed setAddHashedIn
  refine wpAny_holding (wpAny_bind (wpAny_setState_of ho rfl T.fits ?_))
  dsimp only
  rw [byScan_of hsc (by exact rm0) hel]
  simp only [↓reduceIte]
  unfold setAddByScan
  refine wpAny_bind ?_
  refine wpAny_bind (wpAny_rule ?_)
  refine wpAny_bind (wpAny_setScan_of hkey ho rfl T.fits hel ?_)
  cases hr : List.findIdx? (fun e => knd.is k e.2) es.toList with
  | some j =>
    dsimp only
    obtain ⟨hj, hpj, _⟩ := List.findIdx?_eq_some_iff_getElem.mp hr
    exact wpAny_pure (wpAny_pure (h s.heap es ep t _ (Heap.SameBut.refl a s.heap) ho T rfl (.inl ⟨rfl, es.toList[j], List.getElem_mem hj, hpj⟩)))
  | none =>
    dsimp only
    have hgw : ∀ (b : Bool) {s₁ : Shared} {Q' : Unit → Shared → Prop}, Q' () s₁ → wpAny (model prog w) A (match b with | true => rule "set.scan.the-table-gave-way" | false => pure ()) Q' E s₁ :=
      fun b s₁ Q' hq => by cases b <;> first | exact wpAny_pure hq | exact wpAny_rule hq
    have hperm := layNew_perm t es (knd.hash k) x
    have hT := T.layNew (h := knd.hash k) (x := x)
    generalize hL : layNew t es (knd.hash k) x = L at hperm hT ⊢
    obtain ⟨es1, t1, wasDummy, gave⟩ := L
    dsimp only at hperm hT ⊢
    have hp1 : es1.toList.Perm ((knd.hash k, x) :: es.toList) := hperm.trans (by rw [Array.toList_push]; exact List.perm_append_singleton _ _)
    have hs1 : es1.size = es.size + 1 := by have := hp1.length_eq; simpa using this
    refine wpAny_bind (hgw _ ?_)
    have tail : ∀ t2 : SetTable, Tb t2 es1.size → t2.led = t.led → ∀ R : Option Bool → Shared → Prop, (∀ s' : Shared, (∃ h' es' ep' t', s' = { s with heap := h' } ∧ Heap.SameBut a s.heap h' ∧ h'.get? a = some (setO es' ep' t') ∧ Tb t' es'.size ∧ t'.led = t.led ∧ es'.toList.Perm ((knd.hash k, x) :: es.toList)) → R (some true) s') →
        ∀ g : Bool → Sem Unit, (∀ (b : Bool) (s₁ : Shared) (Q' : Unit → Shared → Prop), Q' () s₁ → wpAny (model prog w) A (g b) Q' E s₁) →
        wpAny (model prog w) A (do
          storeSet a es1 t2
          if (!wasDummy && t2.tooFull) = true then do
              g (relayAll t2 es1 (SetTable.grown es1.size)).2.2
              storeSet a (relayAll t2 es1 (SetTable.grown es1.size)).1 (relayAll t2 es1 (SetTable.grown es1.size)).2.1
              pure (some true)
            else pure (some true)) R E s := by
      intro t2 T2 hl2 R hR g hg
      refine wpAny_bind (wpAny_storeSet_of ho rfl ?_ (fits_of_scanBound (by exact ett)))
      have ho1 := store_at (es' := es1) (t' := t2) ho
      have sb1 := Heap.SameBut.update s.heap a (Obj.putSet es1 t2)
      split
      · have hp := relayAll_perm t2 es1 (SetTable.grown es1.size)
        have hT3 := Tb.relayAll (t := t2) (es := es1) (wanted := SetTable.grown es1.size)
        generalize hRl : relayAll t2 es1 (SetTable.grown es1.size) = Rl at hp hT3 ⊢
        obtain ⟨es2, t3, gave2⟩ := Rl
        dsimp only at hp hT3 ⊢
        have hs2 : es2.size = es1.size := by have := hp.length_eq; simpa using this
        refine wpAny_bind (hg _ _ _ ?_)
        refine wpAny_bind (wpAny_storeSet_of ho1 rfl ?_ (fits_of_scanBound (by exact om180 hb hs1 hs2)))
        exact wpAny_pure (hR _ ⟨_, es2, _, t3, rfl, sb1.trans (Heap.SameBut.update _ a _), store_at ho1, hT3.1, hT3.2.trans hl2, hp.trans hp1⟩)
      · exact wpAny_pure (hR _ ⟨_, es1, _, t2, rfl, sb1, ho1, T2, hl2, hp1⟩)
    have fin : ∀ s' : Shared, (∃ h' es' ep' t', s' = { s with heap := h' } ∧ Heap.SameBut a s.heap h' ∧ h'.get? a = some (setO es' ep' t') ∧ Tb t' es'.size ∧ t'.led = t.led ∧ es'.toList.Perm ((knd.hash k, x) :: es.toList)) → Q true s' := by
      rintro s' ⟨h', es', ep', t', rfl, b1, b2, b3, b4, b5⟩
      exact h h' es' ep' t' _ b1 b2 b3 b4 (.inr b5)
    rw [← hs1] at hT
    split
    · refine wpAny_bind ?_
      rw [hashByValue_scannable 8 hsc]
      refine wpAny_pure ?_
      refine tail _ ?_ ?_ _ (fun s' hs' => by dsimp only; exact wpAny_pure (fin s' hs')) _ ?_
      · split
        · exact hT.1
        · exact hT.1.plain _
      · split
        · exact hT.2
        · exact hT.2
      · intro b s₁ Q' hq; cases b <;> first | exact wpAny_pure hq | exact wpAny_rule hq
    · refine wpAny_bind (wpAny_pure ?_)
      simp only [↓reduceIte]
      refine tail _ hT.1 hT.2 _ (fun s' hs' => by dsimp only; exact wpAny_pure (fin s' hs')) _ ?_
      intro b s₁ Q' hq; cases b <;> first | exact wpAny_pure hq | exact wpAny_rule hq
end
end S2
section S3
open SetTable
noncomputable def leaps (mask : Nat) : Nat → Nat × Nat → Nat × Nat
  | 0, p => p
  | n + 1, p => leaps mask n (leap mask p.1 p.2)
theorem leaps_add (mask : Nat) : ∀ (a b : Nat) (p : Nat × Nat), leaps mask (a + b) p = leaps mask b (leaps mask a p)
  | 0, b, p => by rw [Nat.zero_add]; rfl
  | a + 1, b, p => by rw [Nat.add_right_comm]; exact leaps_add mask a b _
theorem leaps_pert (mask : Nat) : ∀ (n : Nat) (p : Nat × Nat), (leaps mask n p).2 = p.2 / 32 ^ n
  | 0, p => by simp [leaps]
  | n + 1, p => by
    rw [leaps, leaps_pert mask n]
    show p.2 / 32 / 32 ^ n = _
    rw [Nat.div_div_eq_div_mul, Nat.pow_succ, Nat.mul_comm]
theorem leap_le (mask i p : Nat) : (leap mask i p).1 ≤ mask := Nat.le_of_lt_succ (Nat.mod_lt _ (Nat.succ_pos _))
theorem leaps_le (mask : Nat) : ∀ (n : Nat) (p : Nat × Nat), p.1 ≤ mask → (leaps mask n p).1 ≤ mask
  | 0, p, h => h
  | n + 1, p, _ => leaps_le mask n _ (leap_le ..)
noncomputable def walk5 (m : Nat) : Nat → Nat → Nat
  | 0, i => i
  | n + 1, i => walk5 m n ((i * 5 + 1) % (m + 1))
theorem leaps_zero (mask : Nat) : ∀ (n i : Nat), leaps mask n (i, 0) = (walk5 mask n i, 0)
  | 0, i => rfl
  | n + 1, i => by
    rw [leaps]
    show leaps mask n ((i * 5 + 1 + 0 / 32) % (mask + 1), 0 / 32) = _
    rw [show (0 : Nat) / 32 = 0 from rfl, Nat.add_zero, leaps_zero mask n]; rfl
theorem all7 : ∀ i, i < 8 → ∀ e, e < 8 → ∃ q, q < 8 ∧ walk5 7 q i = e := by decide +kernel
theorem all31 : ∀ i, i < 32 → ∀ e, e < 32 → ∃ q, q < 32 ∧ walk5 31 q i = e := by decide +kernel
theorem leaps_reach {mask i p e : Nat} (hm : mask = 7 ∨ mask = 31) (hi : i ≤ mask) (hp : p < 2 ^ 64) (he : e ≤ mask) : ∃ q, q ≤ 13 + mask ∧ (leaps mask q (i, p)).1 = e := by
  have h13 : (leaps mask 13 (i, p)).2 = 0 := by
    rw [leaps_pert]
    exact Nat.div_eq_of_lt (Nat.lt_of_lt_of_le hp (by decide))
  have hi13 := leaps_le mask 13 (i, p) hi
  have hq : ∃ q, q ≤ mask ∧ walk5 mask q (leaps mask 13 (i, p)).1 = e := by
    rcases hm with rfl | rfl
    · refine elEA (all7 (leaps 7 13 (i, p)).1 (by exact lt_) e (by exact lt_)) fun q h1 h2 => ?_
      exact ⟨q, by exact tl, h2⟩
    · refine elEA (all31 (leaps 31 13 (i, p)).1 (by exact lt_) e (by exact lt_)) fun q h1 h2 => ?_
      exact ⟨q, by exact tl, h2⟩
  refine elEA hq fun q h1 h2 => ?_
  refine ⟨13 + q, by omega, ?_⟩
  rw [leaps_add, show leaps mask 13 (i, p) = ((leaps mask 13 (i, p)).1, 0) from Prod.ext rfl h13, leaps_zero]
  exact h2
noncomputable def steps (t : SetTable) : Nat → Probe → Probe
  | 0, p => p
  | n + 1, p => steps t n (t.advance p)
theorem steps_add (t : SetTable) : ∀ (a b : Nat) (p : Probe), steps t (a + b) p = steps t b (steps t a p)
  | 0, b, p => by rw [Nat.zero_add]; rfl
  | a + 1, b, p => by rw [Nat.add_right_comm]; exact steps_add t a b _
theorem steps_run (t : SetTable) : ∀ (r : Nat) (p : Probe), p.more = r → ∃ P : Probe, steps t (r + 1) p = P ∧ (P.i, P.perturb) = leap t.mask p.i p.perturb ∧ P.j = P.i ∧ P.more ≤ 9
  | 0, p, h => by
    refine ⟨_, rfl, ?_⟩
    show (let P := t.advance p; (P.i, P.perturb) = _ ∧ P.j = P.i ∧ P.more ≤ 9)
    unfold advance
    rw [if_neg (by exact om21 h)]
    refine ⟨rfl, rfl, ?_⟩
    show runEnd t.mask _ - _ ≤ 9
    unfold runEnd
    split <;> omega
  | r + 1, p, h => by
    have e : t.advance p = { p with j := p.j + 1, more := p.more - 1 } := by unfold advance; rw [if_pos (by exact om43 h)]
    refine elEAAA (steps_run t r (t.advance p) (by rw [e]; show p.more - 1 = r; exact om58 h)) fun P h1 h2 h3 h4 => ?_
    refine ⟨P, h1, ?_, h3, h4⟩
    rw [h2, e]
theorem steps_leaps (t : SetTable) : ∀ (q : Nat) (p : Probe), p.j = p.i → p.more ≤ 9 → ∃ m, m ≤ 10 * q ∧ (steps t m p).j = (leaps t.mask q (p.i, p.perturb)).1 ∧ (steps t m p).j = (steps t m p).i
  | 0, p, h, _ => ⟨0, Nat.zero_le _, h, h⟩
  | q + 1, p, _, hm => by
    refine elEAAA (steps_run t p.more p rfl) fun P h1 h2 h3 h4 => ?_
    refine elEAA (steps_leaps t q P h3 h4) fun m a b c => ?_
    refine ⟨p.more + 1 + m, by exact om198 hm a, ?_, ?_⟩
    · rw [steps_add, h1, b, leaps, ← h2]
    · rw [steps_add, h1]; exact c
theorem steps_reach {t : SetTable} {p : Probe} {e : Nat} (hm : t.mask = 7 ∨ t.mask = 31) (hp : p.perturb < 2 ^ 64) (h9 : p.more ≤ 9) (he : e ≤ t.mask) : ∃ m, m ≤ 10 * (14 + t.mask) ∧ (steps t m p).j = e := by
  refine elEAAA (steps_run t p.more p rfl) fun P h1 h2 h3 h4 => ?_
  have hPi : P.i = (leap t.mask p.i p.perturb).1 := congrArg Prod.fst h2
  have hPp : P.perturb = p.perturb / 32 := congrArg Prod.snd h2
  refine elEA (leaps_reach (mask := t.mask) (i := P.i) (p := P.perturb) hm (hPi ▸ leap_le ..) (by rw [hPp]; exact om74 hp) he) fun q a b => ?_
  refine elEAA (steps_leaps t q P h3 h4) fun m c d _ => ?_
  refine ⟨p.more + 1 + m, by exact om238 h9 a c, ?_⟩
  rw [steps_add, h1, d, b]
theorem Tb.free {t : SetTable} {n : Nat} (T : Tb t n) : ∃ e, e ≤ t.mask ∧ t.slot e = .empty := by
  have hex : ∃ e, e ≤ t.mask ∧ e ∉ t.place := by
    refine Classical.byContradiction fun hno => ?_
    have hall : ∀ e, e ≤ t.mask → e ∈ t.place := fun e he => Classical.byContradiction fun q => hno ⟨e, he, q⟩
    have hsub : List.range (t.mask + 1) ⊆ t.place.toList := fun e he => by
      rw [List.mem_range] at he
      exact Array.mem_toList_iff.mpr (hall e (by exact om27 he))
    have := List.Nodup.length_le_of_subset List.nodup_range hsub
    have h1 := T.size; have h2 := T.fit
    simp at this; exact om124 h1 h2 this
  refine elEA hex fun e he hn => ?_
  refine ⟨e, he, ?_⟩
  unfold SetTable.slot
  have h1 : ¬ (t.place[below t.place e]? == some e) = true := fun q => hn ((mem_iff_below T.ris e).mpr (eq_of_beq q))
  have h2 : has t.dummies e = false := by rw [T.dum]; rfl
  dsimp only
  rw [if_neg h1, h2]; rfl
theorem probe_go {t : SetTable} {n : Nat} (T : Tb t n) {f : Nat → Int} {h : Int} : ∀ (m fuel : Nat) (p : Probe), p.dummy = none → t.slot (steps t m p).j = .empty → m < fuel →
    (∃ j, probe.go t f h fuel p = some (.empty j none) ∧ t.slot j = .empty) ∨ ∃ j i q, probe.go t f h fuel p = some (.candidate j i (steps t (q + 1) p)) ∧ q < m ∧ t.slot j = .live i := by
  intro m
  induction m with
  | zero =>
    intro fuel p hd he hf
    obtain ⟨fuel, rfl⟩ : ∃ k, fuel = k + 1 := ⟨fuel - 1, by exact om49 hf⟩
    refine .inl ⟨p.j, ?_, he⟩
    unfold probe.go
    rw [show t.slot p.j = .empty from he, hd]
  | succ m ih =>
    intro fuel p hd he hf
    obtain ⟨fuel, rfl⟩ : ∃ k, fuel = k + 1 := ⟨fuel - 1, by exact om104 hf⟩
    have adv : (t.advance p).dummy = none := by unfold advance; split <;> exact hd
    unfold probe.go
    cases q : t.slot p.j with
    | empty => exact .inl ⟨p.j, by simp only [hd], q⟩
    | dummy => exact absurd q (T.slot p.j).1
    | live i =>
      dsimp only
      split
      · exact .inr ⟨p.j, i, 0, rfl, by exact om4, q⟩
      · rcases ih fuel (t.advance p) adv he (by exact om55 hf) with ⟨j, a, b⟩ | ⟨j, i', q', a, b, c⟩
        · exact .inl ⟨j, a, b⟩
        · exact .inr ⟨j, i', q' + 1, a, by exact om57 b, c⟩
theorem steps_dummy (t : SetTable) : ∀ (m : Nat) (p : Probe), p.dummy = none → (steps t m p).dummy = none
  | 0, _, h => h
  | m + 1, p, h => steps_dummy t m _ (by unfold advance; split <;> exact h)
theorem Tb.live {t : SetTable} {n j i : Nat} (_T : Tb t n) (h : t.slot j = .live i) : t.place[i]? = some j := by
  unfold SetTable.slot at h
  dsimp only at h
  split at h
  · rename_i q; cases h; exact eq_of_beq q
  · split at h <;> cases h
theorem bits_lt (h : Int) : bits h < 2 ^ 64 := by unfold bits; omega
theorem start_more (t : SetTable) (h : Int) : (t.probeStart h).more ≤ 9 := by
  show runEnd t.mask (bits h % (t.mask + 1)) - bits h % (t.mask + 1) ≤ 9
  unfold runEnd
  split <;> omega
/-! laying anew -/
theorem free_ok {owner : Array (Option Nat)} {mask e : Nat} (hz : owner.size = mask + 1) (he : owner[e]? = some none) : ∀ (q fuel i p : Nat), (leaps mask q (i, p)).1 = e → i ≤ mask → q < fuel →
    ∃ j, layClean.free mask owner fuel i p = some j ∧ owner[j]? = some none := by
  intro q
  induction q with
  | zero =>
    intro fuel i p hq hi hf
    obtain ⟨fuel, rfl⟩ : ∃ k, fuel = k + 1 := ⟨fuel - 1, by exact om49 hf⟩
    unfold layClean.free
    cases hfi : (List.range (runEnd mask i + 1 - i)).find? fun k => (owner.getD (i + k) (some 0)).isNone with
    | some k =>
      refine ⟨i + k, rfl, ?_⟩
      have := List.find?_some hfi
      cases hg : owner[i + k]? with
      | none => rw [Array.getD_eq_getD_getElem?, hg] at this; simp at this
      | some v => rw [Array.getD_eq_getD_getElem?, hg] at this; cases v with | none => rfl | some _ => simp at this
    | none =>
      exfalso
      have hi' : i = e := hq
      have := List.find?_eq_none.mp hfi 0 (by rw [List.mem_range]; unfold runEnd; split <;> omega)
      rw [Nat.add_zero, hi', Array.getD_eq_getD_getElem?, he] at this
      simp at this
  | succ q ih =>
    intro fuel i p hq hi hf
    obtain ⟨fuel, rfl⟩ : ∃ k, fuel = k + 1 := ⟨fuel - 1, by exact om104 hf⟩
    unfold layClean.free
    cases hfi : (List.range (runEnd mask i + 1 - i)).find? fun k => (owner.getD (i + k) (some 0)).isNone with
    | some k =>
      refine ⟨i + k, rfl, ?_⟩
      have := List.find?_some hfi
      cases hg : owner[i + k]? with
      | none => rw [Array.getD_eq_getD_getElem?, hg] at this; simp at this
      | some v => rw [Array.getD_eq_getD_getElem?, hg] at this; cases v with | none => rfl | some _ => simp at this
    | none => exact ih fuel _ _ hq (leap_le ..) (by exact om55 hf)
theorem set_none_perm : ∀ (l : List (Option Nat)) (j k : Nat), l[j]? = some none → ((l.set j (some k)).filterMap id).Perm (k :: l.filterMap id)
  | [], _, _, h => by simp at h
  | x :: r, 0, k, h => by simp at h; subst h; simp
  | x :: r, j + 1, k, h => by
    have ih := set_none_perm r j k (by simpa using h)
    cases x with
    | none => simpa using ih
    | some v => simp only [List.set_cons_succ, List.filterMap_cons_some (show id (some v) = some v from rfl)]; exact (ih.cons v).trans (.swap ..)
theorem lay_fold {mask : Nat} (hm : mask = 7 ∨ mask = 31) : ∀ (hs : List Int) (owner : Array (Option Nat)) (k : Nat), owner.size = mask + 1 → (owner.toList.filterMap id).Perm (List.range k) → k + hs.length ≤ mask →
    ∃ owner', (hs.foldl (init := some (owner, k)) fun acc h => do
      let (owner, k) ← acc
      let j ← layClean.free mask owner (turns mask) (bits h % (mask + 1)) (bits h)
      pure (owner.setIfInBounds j (some k), k + 1)) = some (owner', k + hs.length) ∧ owner'.size = mask + 1 ∧ (owner'.toList.filterMap id).Perm (List.range (k + hs.length))
  | [], owner, k, h1, h2, _ => ⟨owner, rfl, h1, h2⟩
  | h :: hs, owner, k, h1, h2, h3 => by
    rw [List.length_cons] at h3
    have hex : ∃ e, e ≤ mask ∧ owner[e]? = some none := by
      refine Classical.byContradiction fun hno => ?_
      have hall : ∀ x ∈ owner.toList, x.isSome = true := fun x hx => by
        obtain ⟨i, hi, rfl⟩ := List.mem_iff_getElem.mp hx
        cases q : owner.toList[i] with
        | some v => rfl
        | none =>
          have hi' : i < owner.size := by simpa using hi
          exact absurd ⟨i, by exact om106 h1 hi', by rw [Array.getElem?_eq_getElem hi']; exact congrArg some (by simpa using q)⟩ hno
      have hl : ∀ l : List (Option Nat), (∀ x ∈ l, x.isSome = true) → (l.filterMap id).length = l.length := by
        intro l
        induction l with
        | nil => intro _; rfl
        | cons x r ih =>
          intro hx
          cases x with
          | none => exact absurd (hx _ (.head _)) (by walk_at "m sm")
          | some v => simp [ih fun y hy => hx y (.tail _ hy)]
      have := h2.length_eq
      rw [hl _ hall] at this
      simp at this; exact om181 h1 h3 this
    refine elEA hex fun e he hn => ?_
    have hi : bits h % (mask + 1) ≤ mask := Nat.le_of_lt_succ (Nat.mod_lt _ (Nat.succ_pos _))
    refine elEA (leaps_reach hm hi (bits_lt h) he) fun q hq hqe => ?_
    refine elEA (free_ok h1 hn q (turns mask) _ _ hqe hi (by unfold turns; omega)) fun j hj hjn => ?_
    have hjs : j < owner.size := (Array.getElem?_eq_some_iff.mp hjn).1
    obtain ⟨o', a, b, c⟩ := lay_fold hm hs (owner.setIfInBounds j (some k)) (k + 1) (by simpa using h1) (by
      rw [Array.toList_setIfInBounds]
      refine (set_none_perm _ _ _ (by simpa using hjn)).trans ?_
      rw [List.range_succ]
      exact (h2.cons k).trans (List.perm_append_singleton _ _).symm) (by omega)
    refine ⟨o', ?_, b, ?_⟩
    · rw [List.foldl_cons]
      have e2 : (do let (owner, k) ← some (owner, k); let j ← layClean.free mask owner (turns mask) (bits h % (mask + 1)) (bits h); pure (owner.setIfInBounds j (some k), k + 1) : Option (Array (Option Nat) × Nat)) = some (owner.setIfInBounds j (some k), k + 1) := by
        show (layClean.free mask owner (turns mask) (bits h % (mask + 1)) (bits h) >>= fun j => pure (owner.setIfInBounds j (some k), k + 1)) = _
        rw [hj]; rfl
      rw [e2, a, List.length_cons, show k + 1 + hs.length = k + (hs.length + 1) from by omega]
    · rw [List.length_cons, show k + (hs.length + 1) = k + 1 + hs.length from by omega]; exact c
theorem range_filter : ∀ (l : List (Option Nat)), (List.range l.length).filterMap (fun j => l.getD j none) = l.filterMap id := by
  intro l
  induction l with
  | nil => rfl
  | cons x r ih =>
    rw [List.length_cons, List.range_succ_eq_map, List.filterMap_cons, List.filterMap_map]
    have e : ((fun j => (x :: r).getD j none) ∘ Nat.succ) = fun j => r.getD j none := by funext j; simp
    rw [e, ih]
    cases x <;> simp
theorem laid_ok {mask f mv : Nat} {led plain : Bool} {hs : Array Int} (hm : mask = 7 ∨ mask = 31) (hn : hs.size ≤ mask) :
    ∃ t order, laid mask f mv led plain hs = some (t, order) ∧ order.toList.Perm (List.range hs.size) := by
  obtain ⟨o', a, b, c⟩ := lay_fold hm hs.toList (Array.replicate (mask + 1) none) 0 (by walk_at "m sm") (by
    have : ∀ m : Nat, (List.replicate m (none : Option Nat)).filterMap id = [] := fun m => by induction m with | zero => rfl | succ m ih => rw [List.replicate_succ]; simpa using ih
    rw [Array.toList_replicate, this]; exact .nil) (by simpa using hn)
  have hl : layClean mask hs = some o' := by
    unfold layClean
    rw [← Array.foldl_toList, a]; rfl
  refine ⟨_, _, by unfold laid; rw [hl]; rfl, ?_⟩
  simp only
  have e : (((List.range (mask + 1)).filterMap fun j => (o'.getD j none).map (j, ·)).map (·.2)) = o'.toList.filterMap id := by
    rw [List.map_filterMap, ← range_filter]
    have : o'.toList.length = mask + 1 := by simpa using b
    rw [this]
    congr 1
    funext j
    have : o'.toList.getD j none = o'.getD j none := by simp [List.getD, Array.getD_eq_getD_getElem?]
    rw [this]
    cases o'.getD j none <;> rfl
  rw [e]
  simpa using c
end S3
section S4
noncomputable def soiIs : Str ⊕ Int → Value → Bool
  | .inl x, v => Value.isStrOf x v
  | .inr n, v => Value.isInt n v
theorem soi_shape {k : Str ⊕ Int} {v : Value} (h : soiIs k v = true) : (∃ x t, k = .inl x ∧ v = .str x t) ∨ ∃ n t, k = .inr n ∧ v = .int n t := by
  cases k with
  | inl x => obtain ⟨t, rfl⟩ := Value.isStrOf_shape (x := x) h; exact .inl ⟨x, t, rfl, rfl⟩
  | inr n => obtain ⟨t, rfl⟩ := Value.isInt_shape (k := n) h; exact .inr ⟨n, t, rfl, rfl⟩
noncomputable def soiKind (prog : Program) (w : World) : KeyKind prog w (Str ⊕ Int) where
  is := soiIs
  hash := fun k => match k with | .inl x => hashStr w x | .inr n => hashInt n
  inj := fun v a b ha hb => by
    rcases soi_shape ha with ⟨x, t, rfl, rfl⟩ | ⟨x, t, rfl, rfl⟩ <;> rcases soi_shape hb with ⟨y, u, rfl, e⟩ | ⟨y, u, rfl, e⟩ <;> cases e <;> rfl
  byValue := fun k v h => by rcases soi_shape h with ⟨x, t, rfl, rfl⟩ | ⟨x, t, rfl, rfl⟩ <;> rfl
  pyHash := fun hv h => by
    rcases soi_shape hv with ⟨x, t, rfl, rfl⟩ | ⟨x, t, rfl, rfl⟩
    · exact wpAny_pyHash_str h
    · exact wpAny_pyHash_int h
  eqBool := fun {A E s a b u v Q} hu hv h => by
    rcases soi_shape hu with ⟨x, t, rfl, rfl⟩ | ⟨x, t, rfl, rfl⟩ <;> rcases soi_shape hv with ⟨y, z, rfl, rfl⟩ | ⟨y, z, rfl, rfl⟩
    · refine wpAny_eqBool_str ?_
      have e : decide ((.inl x : Str ⊕ Int) = .inl y) = decide (x = y) := by simp
      rw [← e]; exact h
    · exact SeqAt.EqAt.str_int _ _ _ _ _ _ _ _ (by simpa using h)
    · exact SeqAt.EqAt.int_str _ _ _ _ _ _ _ _ (by simpa using h)
    · refine wpAny_eqBool_int ?_
      have e : decide ((.inr x : Str ⊕ Int) = .inr y) = (x == y) := by rw [show (x == y) = decide (x = y) from rfl]; simp
      rw [← e]; exact h
  «strs» := fun k x t v h => by
    rcases soi_shape h with ⟨y, u, rfl, e⟩ | ⟨y, u, rfl, e⟩
    · cases e
      cases v <;> rfl
    · cases e
theorem soi_str {prog : Program} {w : World} (x : Str) (t : Tok) : (soiKind prog w).is (.inl x) (.str x t) = true := by simp [soiKind, soiIs, Value.isStrOf]
theorem soi_int {prog : Program} {w : World} (n : Int) (t : Tok) : (soiKind prog w).is (.inr n) (.int n t) = true := by simp [soiKind, soiIs, Value.isInt]
noncomputable abbrev Key := List (Str ⊕ Int)
section
variable {prog : Program} {w : World} {A : Around} {E : Value → Shared → Prop} {s : Shared}
noncomputable abbrev IsKey (prog : Program) (w : World) (h : Heap) (ks : Key) (a : Addr) : Prop := IsTupleKey (soiKind prog w) h ks a
noncomputable def AllKeys (prog : Program) (w : World) (h : Heap) (es : List (Int × Value)) : Prop := ∀ e ∈ es, ∃ T ks, e.2 = .ref T ∧ IsKey prog w h ks T
theorem ofA_byValue (n : Nat) {v : Value} (h : carriedByValue v = true) : ofAClassStatement n v = pure false := by
  cases v with
  | ref a => simp [carriedByValue] at h
  | _ => first | rfl | simp [ofAClassStatement] | (unfold ofAClassStatement; rfl)
theorem ofA_key {T : Addr} {ks : Key} {Q : Bool → Shared → Prop} (hk : IsKey prog w s.heap ks T) (h : Q false s) : wpAny (model prog w) A (ofAClassStatement 8 (.ref T)) Q E s := by
  have hT := hk.typeIs
  refine elEEEAAA hk fun o items n ho _ hd hi => ?_
  unfold ofAClassStatement
  refine wpAny_bind (wpAny_typeOf hT ?_)
  dsimp only
  refine wpAny_bind ?_
  refine wpAny_pure ?_
  simp only [Bool.not_true, Bool.false_eq_true, if_false]
  refine wpAny_bind (wpAny_seqItems ho hd ?_)
  dsimp only
  refine wpAny_bind ?_
  rw [← Array.forIn_toList]
  refine wpAny_forIn_list _ (fun rest r s' => r.1 = none ∧ s' = s ∧ ∀ v ∈ rest, carriedByValue v = true) _ ?_ ?_ _ _ ⟨rfl, rfl, hi.byValue⟩
  · rintro v rest r s' ⟨hr, rfl, hall⟩
    rw [ofA_byValue _ (hall v List.mem_cons_self)]
    refine wpAny_bind (wpAny_pure ?_)
    simp only [Bool.false_eq_true, if_false]
    exact wpAny_pure ⟨rfl, rfl, fun u hu' => hall u (List.mem_cons_of_mem _ hu')⟩
  · rintro ⟨r1, r2⟩ s' ⟨hr, rfl, _⟩
    simp only at hr
    subst hr
    exact wpAny_pure h
theorem seen_keys {T : Addr} {ks : Key} {l : List Value} {Q : Bool → Shared → Prop} (hk : IsKey prog w s.heap ks T) (hl : ∀ v ∈ l, ∃ U js, v = .ref U ∧ IsKey prog w s.heap js U) (h : Q false s) : wpAny (model prog w) A (searchCouldBeSeen (.ref T) l) Q E s := by
  unfold searchCouldBeSeen
  refine wpAny_bind ?_
  refine wpAny_forIn_list _ (fun rest r s' => r.1 = none ∧ s' = s ∧ ∀ v ∈ rest, ∃ U js, v = .ref U ∧ IsKey prog w s.heap js U) _ ?_ ?_ _ _ ⟨rfl, rfl, hl⟩
  · rintro v rest r s' ⟨hr, rfl, hall⟩
    refine elEEA (hall v List.mem_cons_self) fun U js Xx1 hU => ?_
    obtain rfl := Xx1
    have hrest := fun u hu => hall u (List.mem_cons_of_mem _ hu)
    dsimp only
    split
    · exact wpAny_pure ⟨rfl, rfl, hrest⟩
    · refine wpAny_bind (wpAny_eqIsQuiet_tuple hk ?_)
      simp only [Bool.not_true, Bool.false_eq_true, if_false]
      refine wpAny_bind (wpAny_eqIsQuiet_tuple hU ?_)
      simp only [Bool.not_true, Bool.false_eq_true, if_false]
      refine wpAny_bind (ofA_key hk ?_)
      simp only [Bool.false_eq_true, if_false]
      refine wpAny_bind (ofA_key hU ?_)
      simp only [Bool.false_eq_true, if_false]
      exact wpAny_pure ⟨rfl, rfl, hrest⟩
  · rintro ⟨r1, r2⟩ s' ⟨hr, rfl, _⟩
    simp only at hr
    subst hr
    exact wpAny_pure h
theorem hbv_key {T : Addr} {ks : Key} {Q : Bool → Shared → Prop} (hk : IsKey prog w s.heap ks T) (h : ∀ b, Q b s) : wpAny (model prog w) A (hashByValue 8 (.ref T)) Q E s := by
  have hT := hk.typeIs
  refine elEEEAAA hk fun o items n ho _ hd hi => ?_
  unfold hashByValue
  refine wpAny_bind (wpAny_specialOf hT F.slot_tuple_hash.lookup ?_)
  show wpAny _ _ (seqItems? (.ref T) >>= _) _ _ _
  refine wpAny_bind (wpAny_seqItems ho hd ?_)
  refine wpAny_bind ?_
  show wpAny _ _ (forIn items _ _) _ _ s
  rw [← Array.forIn_toList]
  refine wpAny_forIn_list _ (fun rest r s' => s' = s ∧ ∃ js, ItemsAre (soiKind prog w) js rest) _ ?_ ?_ _ _ ⟨rfl, ks, hi⟩
  · rintro v rest r s' ⟨rfl, js, hj⟩
    cases hj with
    | @cons k _ js' _ h1 h2 =>
      have hb : ∃ b, hashByValue 7 v = pure b := by
        rcases soi_shape h1 with ⟨x, t, rfl, rfl⟩ | ⟨x, t, rfl, rfl⟩
        · exact ⟨false, by first | rfl | simp [hashByValue]⟩
        · exact ⟨true, by first | rfl | simp [hashByValue]⟩
      refine elE hb fun b hb => ?_
      rw [hb]
      refine wpAny_bind (wpAny_pure ?_)
      cases b
      · simp only [Bool.not_false, if_true]
        exact wpAny_pure (wpAny_pure (h _))
      · simp only [Bool.not_true, Bool.false_eq_true, if_false]
        exact wpAny_pure ⟨rfl, js', h2⟩
  · rintro ⟨r1, r2⟩ s' ⟨rfl, _⟩
    dsimp only
    cases r1 with
    | none => exact wpAny_pure (h _)
    | some b => exact wpAny_pure (h _)
end
end S4
section S5
open SetTable
theorem probe_is {t : SetTable} {n : Nat} (T : Tb t n) {f : Nat → Int} {h : Int} {m : Nat} {p : Probe} {o : Option Met} (e : t.probe f h p = o) (hd : p.dummy = none) (he : t.slot (steps t m p).j = .empty) (hm : m < 10 * turns t.mask) :
    (∃ j, o = some (.empty j none) ∧ t.slot j = .empty) ∨ ∃ j i q, o = some (.candidate j i (steps t (q + 1) p)) ∧ q < m ∧ t.slot j = .live i := by
  subst e
  exact probe_go T m _ p hd he hm
section
variable {prog : Program} {w : World} {A : Around} {E : Value → Shared → Prop} {s : Shared}
theorem search_key {a T : Addr} {es : Array (Int × Value)} {ep : Nat} {t : SetTable} {ks : Key} {h : Int} {Q : SetFound → Shared → Prop} (ho : s.heap.get? a = some (setO es ep t)) (Tt : Tb t es.size) (hm : t.mask = 7 ∨ t.mask = 31)
    (hk : IsKey prog w s.heap ks T) (hes : AllKeys prog w s.heap es.toList) (hu : A.units < cLine)
    (there : (∃ e ∈ es.toList, ∃ U, e.2 = .ref U ∧ IsKey prog w s.heap ks U) → Q (.there none) s) (free : ∀ j, t.slot j = .empty → Q (.free j false) s) :
    ∀ (m fuel : Nat) (stand : Option Probe) (p : Probe), stand.getD (t.probeStart h) = p → p.dummy = none → t.slot (steps t m p).j = .empty → m < fuel → m < 10 * turns t.mask → wpAny (model prog w) A (setSearchFrom a (.ref T) h true fuel stand) Q E s := by
  intro m
  induction m using Nat.strongRecOn with
  | ind m ih =>
    intro fuel stand p hp hd he hf hmt
    obtain ⟨fuel, rfl⟩ : ∃ k, fuel = k + 1 := ⟨fuel - 1, by exact om60 hf⟩
    have hg : t.gaveWay = false := by unfold SetTable.gaveWay; rcases hm with e | e <;> rw [e] <;> rfl
    unfold setSearchFrom
    refine wpAny_bind (wpAny_setState_of ho rfl Tt.fits ?_)
    dsimp only
    rw [hg, hp]
    simp only [Bool.false_eq_true, if_false]
    split
    · rename_i met heq
      rcases probe_is Tt heq hd he hmt with ⟨j, e1, e2⟩ | ⟨j, i, q, e1, e2, e3⟩
      · cases e1
        exact wpAny_pure (free j e2)
      · cases e1
        dsimp only
        have hpl := Tt.live e3
        have hi : i < es.size := by
          have := (Array.getElem?_eq_some_iff.mp hpl).1
          rw [Tt.size] at this; exact this
        have hei : es[i]? = some es[i] := Array.getElem?_eq_getElem hi
        refine elEEA (hes es[i] (by walk_at "m sm")) fun U js hU hjs => ?_
        have after : wpAny (model prog w) A (match es[i]? with
            | some (_, y) => do
              let equal ← holding [y] (eqBool y (.ref T))
              let (es', _, t') ← setState a
              if (true && equal) = true then return .there none
              let some same := t'.sameMemory t.moves t.mask | unsupported "set.changed-during-lookup:is-the-new-block-at-the-old-address"
              let still ← match (if same then t'.slot j else .empty) with
                | .live i' => match es'[i']? with
                  | some (_, y') => do pure (if ← isSame y' y then some i' else none)
                  | none => pure none
                | _ => pure none
              match still with
              | none => rule "set.search.anew"; setSearchFrom a (.ref T) h true fuel none
              | some i' => if equal then return .there (some i') else setSearchFrom a (.ref T) h true fuel (some (steps t (q + 1) p))
            | _ => unsupported "internal:set-entry") Q E s := by
          rw [hei]
          dsimp only
          rw [hU]
          refine wpAny_bind (wpAny_holding (wpAny_eqBool_tuple hu hjs hk ?_))
          refine wpAny_bind (wpAny_setState_of ho rfl Tt.fits ?_)
          dsimp only
          by_cases hj : js = ks
          · rw [decide_eq_true hj]
            simp only [Bool.and_self, if_true]
            exact wpAny_pure (there ⟨es[i], by walk_at "m sm", U, hU, hj ▸ hjs⟩)
          · rw [decide_eq_false hj]
            simp only [Bool.and_false, Bool.false_eq_true, if_false]
            have hs : t.sameMemory t.moves t.mask = some true := by unfold SetTable.sameMemory; simp
            rw [hs]
            dsimp only
            rw [if_pos rfl, e3]
            dsimp only
            rw [hei]
            dsimp only
            rw [hU]
            refine wpAny_bind (wpAny_isSame_ref_self (wpAny_bind (wpAny_pure ?_)))
            rw [if_pos rfl]
            dsimp only
            refine ih (m - (q + 1)) (by exact om45 e2) fuel _ _ rfl (steps_dummy t _ p hd) ?_ (by exact om144 hf e2) (by exact om169 hmt e2)
            show t.slot (steps t (m - (q + 1)) (steps t (q + 1) p)).j = _
            rw [← steps_add, show q + 1 + (m - (q + 1)) = m from by exact om105 e2]
            exact he
        cases hl : t.led
        · simp only [Bool.not_false, if_true]
          refine wpAny_bind (seen_keys hk (fun v hv => ?_) ?_)
          · obtain ⟨e, he', rfl⟩ := List.mem_map.mp hv
            obtain ⟨U', js', h1, h2⟩ := hes e (by
              rw [Array.toList_filter] at he'
              exact (List.mem_filter.mp he').1)
            exact ⟨U', js', h1, h2⟩
          · simp only [Bool.false_eq_true, if_false]
            exact after
        · simp only [Bool.not_true, Bool.false_eq_true, if_false]
          exact after
    · rename_i heq
      rcases probe_is Tt rfl hd he hmt with ⟨j, e1, e2⟩ | ⟨j, i, q, e1, e2, e3⟩
      · exact absurd e1 (heq _)
      · exact absurd e1 (heq _)
noncomputable def Big (t : SetTable) (n : Nat) : Prop := (t.mask = 7 ∧ n ≤ 4) ∨ (t.mask = 31 ∧ n ≤ 18)
theorem addKey {a T : Addr} {es : Array (Int × Value)} {ep : Nat} {t : SetTable} {ks : Key} {h : Int} {Q : Bool → Shared → Prop} (ho : s.heap.get? a = some (setO es ep t)) (Tt : Tb t es.size) (hm : Big t es.size) (hn : es.size < 18)
    (hk : IsKey prog w s.heap ks T) (hes : AllKeys prog w s.heap es.toList) (hu : A.units < cLine)
    (post : ∀ h' es' ep' t' b, Heap.SameBut a s.heap h' → h'.get? a = some (setO es' ep' t') → Tb t' es'.size → t'.led = t.led → Big t' es'.size → Added (∃ e ∈ es.toList, ∃ U, e.2 = .ref U ∧ IsKey prog w s.heap ks U) h (.ref T) es es' → Q b { s with heap := h' }) :
    wpAny (model prog w) A (setAddHashed a (.ref T) h) Q E s := by
  have hm' : t.mask = 7 ∨ t.mask = 31 := hm.imp And.left And.left
  unfold setAddHashed setAddHashedIn
  refine wpAny_holding (wpAny_bind (wpAny_setState_of ho rfl Tt.fits ?_))
  dsimp only
  have hby : byScan (.ref T) es = false := by unfold byScan; rfl
  rw [hby]
  simp only [Bool.false_eq_true, if_false]
  refine elEA Tt.free fun e he1 he2 => ?_
  refine elEA (steps_reach (t := t) (p := t.probeStart h) hm' (bits_lt h) (start_more t h) he1) fun m hm1 hm2 => ?_
  have hmt : m < 10 * turns t.mask := by unfold turns; exact om137 hm1
  refine wpAny_bind (search_key (Q := fun r s₁ => wpAny (model prog w) A _ Q E s₁) ho Tt hm' hk hes hu (fun hth => ?_) (fun j hj => ?_) m 100000 none _ rfl rfl (by show t.slot (steps t m (t.probeStart h)).j = _; rw [hm2]; exact he2) (by rcases hm' with q | q <;> rw [q] at hm1 <;> exact lt_) hmt)
  · exact wpAny_pure (post s.heap es ep t _ (Heap.SameBut.refl a s.heap) ho Tt rfl hm (.inl ⟨rfl, hth⟩))
  · dsimp only
    refine wpAny_bind (wpAny_setState_of ho rfl Tt.fits ?_)
    dsimp only
    have hjp := (Tt.slot j).2 hj
    have hpe : t.put j = ((t.put j).1, below t.place j) := rfl
    rw [hpe]
    dsimp only
    have Tp := Tt.put hjp (by have := Tt.fit; rcases hm with ⟨q, r⟩ | ⟨q, r⟩ <;> omega : es.size + 1 ≤ t.mask)
    have hpm : (t.put j).1.mask = t.mask := rfl
    have hpl : (t.put j).1.led = t.led := rfl
    have hperm : (insertAt es (below t.place j) (h, Value.ref T)).toList.Perm ((h, Value.ref T) :: es.toList) := (insertAt_perm es _ _).trans (by rw [Array.toList_push]; exact List.perm_append_singleton _ _)
    have hsz : (insertAt es (below t.place j) (h, Value.ref T)).size = es.size + 1 := by have := hperm.length_eq; simpa using this
    generalize insertAt es (below t.place j) (h, Value.ref T) = es1 at hperm hsz ⊢
    have body : ∀ t2 : SetTable, Tb t2 (es.size + 1) → t2.led = t.led → t2.mask = t.mask → wpAny (model prog w) A (do
        storeSet a es1 t2
        if (!false && t2.tooFull) = true then setRelay a (SetTable.grown (es.size + 1))
        return true) Q E s := by
      intro t2 T2 hl2 hm2
      refine wpAny_bind (wpAny_storeSet_of ho rfl ?_ (by rw [sizeLine_eq]; exact om119 hn hsz))
      have ho1 := store_at (es' := es1) (t' := t2) ho
      have sb1 := Heap.SameBut.update s.heap a (Obj.putSet es1 t2)
      split
      · rename_i hfull
        have hfill : t2.fill = es.size + 1 := by unfold SetTable.fill; rw [T2.size, T2.dum]; rfl
        have h5 : t.mask = 7 ∧ es.size = 4 := by
          simp only [Bool.not_false, Bool.true_and, SetTable.tooFull, decide_eq_true_eq, hfill, hm2] at hfull
          rcases hm with ⟨q, r⟩ | ⟨q, r⟩
          · rw [q] at hfull; exact ⟨q, by exact om252 hn hsz hfill hfull r⟩
          · rw [q] at hfull; exact om255 hn hsz hfill hfull
        have T2' := T2
        rw [← hsz] at T2'
        refine wpAny_bind ?_
        unfold setRelay
        refine wpAny_bind (wpAny_setState_of (s := { s with heap := _ }) ho1 rfl T2'.fits ?_)
        dsimp only
        rw [h5.2, show SetTable.sizeAbove (SetTable.grown (4 + 1)) = 32 from by decide]
        rw [if_neg (by rw [sizeLine_eq]; decide)]
        refine elEEA (laid_ok (mask := 31) (f := t2.finger) (mv := t2.movedTo 31) (led := t2.led) (plain := t2.plain) (hs := es1.map (·.1)) (.inr rfl) (by simp; exact om225 hsz hfill h5)) fun t3 order hlaid hord => ?_
        have hrel : t2.relaid (es1.map (·.1)) (SetTable.grown (4 + 1)) = some (t3, order) := hlaid
        rw [hrel]
        have hpo : (order.filterMap fun i => es1[i]?).toList.Perm es1.toList := by
          rw [Array.toList_filterMap]
          have hord' : order.toList.Perm (List.range es1.size) := by simpa using hord
          exact (hord'.filterMap _).trans (by rw [filterMap_getElem?_range])
        have hso : (order.filterMap fun i => es1[i]?).size = es1.size := by rw [← Array.length_toList, hpo.length_eq, Array.length_toList]
        have hosz : order.size = es1.size := by have := hord.length_eq; simpa using this
        refine elAAAA (tb_laid hlaid) fun r1 r2 r3 r4 r5 => ?_
        refine wpAny_bind ?_
        show wpAny _ _ (if ((order.filterMap fun i => es1[i]?).size != es1.size) = true then _ else _) _ _ _
        rw [if_neg (by rw [hso]; simp)]
        refine wpAny_pure ?_
        dsimp only
        refine wpAny_storeSet_of (s := { s with heap := _ }) ho1 rfl ?_ (by rw [sizeLine_eq, hso]; exact om227 hsz hfill h5)
        refine wpAny_pure (post _ _ _ t3 _ (sb1.trans (Heap.SameBut.update _ a _)) (store_at ho1) ⟨(r5.trans hosz).trans hso.symm, r1, r2, by rw [r4, hso]; exact om225 hsz hfill h5⟩ (r3.trans hl2) (.inr ⟨r4, by rw [hso]; exact om224 hsz hfill h5⟩) (.inr (hpo.trans hperm)))
      · rename_i hfull
        have hfill : t2.fill = es.size + 1 := by unfold SetTable.fill; rw [T2.size, T2.dum]; rfl
        refine wpAny_pure (post _ es1 _ t2 _ sb1 ho1 (by rw [hsz]; exact T2) hl2 ?_ (.inr hperm))
        simp only [Bool.not_false, Bool.true_and, SetTable.tooFull, decide_eq_true_eq, hfill, hm2] at hfull
        unfold Big
        rw [hm2]
        rcases hm with ⟨q, r⟩ | ⟨q, r⟩
        · rw [q] at hfull; exact .inl ⟨q, by exact om243 hn hsz hfill hfull⟩
        · exact .inr ⟨q, by exact om182 hn hsz hfill⟩
    cases hpl : (t.put j).1.plain
    · simp only [Bool.false_eq_true, if_false]
      refine wpAny_bind (wpAny_pure ?_)
      rw [if_pos rfl]
      exact body _ Tp rfl rfl
    · simp only [if_true]
      refine wpAny_bind (hbv_key hk fun b => ?_)
      cases b
      · simp only [Bool.false_eq_true, if_false]
        exact body _ (Tp.plain _) rfl rfl
      · simp only [if_true]
        exact body _ Tp rfl rfl
end
end S5
section S6
set_option genSizeOf false in
set_option genInjectivity false in
structure SK (prog : Program) (w : World) (K : Type) where
  el : Heap → K → Value → Prop
  en : Heap → Int × Value → Prop
  ok : SetTable → Nat → Prop
  cap : Nat
  room : Around → Prop
  cap_le : cap ≤ 1000
  mono : ∀ {h h' k v}, el h k v → Kp h h' → el h' k v
  emono : ∀ {h h' e}, en h e → Kp h h' → en h' e
  inj : ∀ {h k k' v}, el h k v → el h k' v → k = k'
  ok0 : ∀ f m led, ok (.fresh f m led) 0
  add : ∀ {A : Around} {E : Value → Shared → Prop} {s : Shared} {a : Addr} {es : Array (Int × Value)} {ep : Nat} {t : SetTable} {k : K} {x : Value} {Q : Bool → Shared → Prop}, room A → s.heap.get? a = some (setO es ep t) → Tb t es.size → ok t es.size → es.size < cap → el s.heap k x →
    (∀ e ∈ es.toList, en s.heap e) →
    (∀ h' es' ep' t' tk b, Heap.SameBut a s.heap h' → h'.get? a = some (setO es' ep' t') → Tb t' es'.size → t'.led = t.led → ok t' es'.size → ((es' = es ∧ ∃ e ∈ es.toList, el s.heap k e.2) ∨ ∃ h, es'.toList.Perm ((h, x) :: es.toList) ∧ ∀ h₀, el h₀ k x → en h₀ (h, x)) →
      Q b { s with heap := h', toks := tk }) → wpAny (model prog w) A (setAdd a x) Q E s
theorem key_mono {prog : Program} {w : World} {h h' : Heap} {ks : Key} {T : Addr} (x : IsKey prog w h ks T) (k : Kp h h') : IsKey prog w h' ks T := let ⟨o, i, n, a, r⟩ := x; ⟨o, i, n, k _ _ a, r⟩
noncomputable def skKey (prog : Program) (w : World) : SK prog w Key where
  el := fun h ks v => ∃ T, v = .ref T ∧ IsKey prog w h ks T
  en := fun h e => ∃ T ks, e.2 = .ref T ∧ IsKey prog w h ks T
  ok := Big
  cap := 18
  room := fun A => A.units < cLine
  cap_le := by decide
  mono := fun x k => let ⟨T, e, y⟩ := x; ⟨T, e, key_mono y k⟩
  emono := fun x k => let ⟨T, ks, e, y⟩ := x; ⟨T, ks, e, key_mono y k⟩
  inj := fun x y => by
    refine elEA x fun T Xx1 hx => ?_
    obtain rfl := Xx1
    refine elEA y fun U e hy => ?_
    cases e
    exact hx.inj hy
  ok0 := fun f m led => .inl ⟨rfl, Nat.zero_le _⟩
  add := fun {A E s a es ep t k x Q} hu ho T ok hn hk hes post => by
    refine elEA hk fun U Xx2 hU => ?_
    obtain rfl := Xx2
    unfold setAdd
    refine wpAny_holding (wpAny_bind (wpAny_pyHash_tuple hu hU ?_))
    refine addKey (s := { s with toks := _ }) ho T ok hn hU hes hu fun h' es' ep' t' b a1 a2 a3 a4 a5 a6 => ?_
    refine post h' es' ep' t' _ b a1 a2 a3 a4 a5 ?_
    rcases a6 with ⟨e1, e, he, V, h1, h2⟩ | hp
    · exact .inl ⟨e1, e, he, V, h1, h2⟩
    · exact .inr ⟨_, hp, fun h₀ ⟨V, e, y⟩ => ⟨V, k, e, y⟩⟩
noncomputable def skInt (prog : Program) (w : World) : SK prog w Int where
  el := fun _ n v => ∃ t, v = .int n t
  en := fun _ e => ∃ n t, e.2 = .int n t ∧ e.1 = hashInt n
  ok := fun _ _ => True
  cap := 1000
  room := fun _ => True
  cap_le := by decide
  mono := fun x _ => x
  emono := fun x _ => x
  inj := fun x y => by obtain ⟨t, rfl⟩ := x; obtain ⟨u, e⟩ := y; cases e; rfl
  ok0 := fun _ _ _ => trivial
  add := fun {A E s a es ep t k x Q} _ ho T ok hn hk hes post => by
    refine elE hk fun u Xx3 => ?_
    obtain rfl := Xx3
    unfold setAdd
    refine wpAny_holding (wpAny_bind ((intKind prog w).pyHash (k := k) (intKind_is _ _ _ _) ?_))
    have hel : ElemsOf (intKind prog w) es.toList := fun e he => by
      refine elEEA (hes e he) fun n v h1 h2 => ?_
      exact ⟨⟨n, by rw [h1]; exact intKind_is _ _ _ _, h2⟩, by rw [h1]; rfl⟩
    refine addScan (knd := intKind prog w) (s := { s with toks := s.toks + 1 }) (intKind_is _ _ _ _) rfl ho hel (by unfold scanBound; exact tt1) T fun h' es' ep' t' b a1 a2 a3 a4 a5 => ?_
    refine post h' es' ep' t' _ b a1 a2 a3 a4 trivial ?_
    rcases a5 with ⟨e1, e, he, h1⟩ | hp
    · refine elE (Value.isInt_shape (k := k) h1) fun t2 h2 => ?_
      exact .inl ⟨e1, e, he, t2, h2⟩
    · exact .inr ⟨_, hp, fun h₀ ⟨v, e⟩ => ⟨k, v, e, rfl⟩⟩
section
variable {prog : Program} {w : World} {K : Type} {S : SK prog w K}
structure SInv (S : SK prog w K) (h₀ h : Heap) (a : Addr) (led : Bool) (vs : List Value) (es : Array (Int × Value)) (ep : Nat) (t : SetTable) : Prop where
  at_ : h.get? a = some (setO es ep t)
  tb : Tb t es.size
  ok : S.ok t es.size
  led : t.led = led
  kp : Kp h₀ h
  le : es.size ≤ vs.length
  sub : ∀ e ∈ es.toList, e.2 ∈ vs ∧ S.en h₀ e
  all : ∀ v ∈ vs, ∃ e ∈ es.toList, ∃ k, S.el h₀ k v ∧ S.el h₀ k e.2
theorem set_loop {A : Around} {R : Result → Shared → Prop} {I a : Addr} {fp : List Addr} {n : Nat} {P : Nat → Value → Prop} {St : Nat → Heap → Prop} {h₀ : Heap} {led : Bool} {vs : List Value} (W : Walks prog w A.in1 I fp [I] n P St) (hP : ∀ i v, P i v ↔ vs[i]? = some v) (hn : vs.length = n) (hu : S.room A.in1)
    (haf : a ∉ fp) (ha0 : h₀.get? a = none) (hI0 : h₀.get? I = none) (hvs : ∀ v ∈ vs, ∃ k, S.el h₀ k v) (hcap : n < S.cap) :
    ∀ (k i : Nat) (s : Shared) (es : Array (Int × Value)) (ep : Nat) (t : SetTable), n - i = k → i ≤ n → St i s.heap → SInv S h₀ s.heap a led (vs.take i) es ep t →
      (∀ h' tk es ep t, Kp h₀ h' → SInv S h₀ h' a led vs es ep t → R (.ok (.ret .none)) { s with heap := h', toks := tk }) →
      codeAny (model prog w) A (.builtin "set.update.loop" ⟨[.ref a, .ref I], []⟩) R s := by
  have haI : a ≠ I := fun q => haf (q ▸ W.sub _ (.head _))
  intro k
  induction k with
  | zero =>
    intro i s es ep t hk hi hst hS hR
    obtain rfl : i = n := by exact om71 hk hi
    refine codeAny_builtin F.entry_set_update_loop ?_
    rw [Around.under_plainId F.plain_set_update_loop _]
    show wpAny _ A.in1 (pyNext (.ref I) >>= _) _ _ s
    refine wpAny_bind (W.done s _ _ hst fun h' tk hm => ?_)
    show wpAny _ A.in1 (ret Value.none) _ _ _
    refine wpAny_pure (hR h' tk es ep t ?_ ?_)
    · exact fun b o e => hm b o (by simpa using fun q : b = I => by rw [q, hI0] at e; cases e) (hS.kp b o e)
    · rw [← hn, List.take_length] at hS
      exact ⟨hm a _ (by simpa using haI) hS.at_, hS.tb, hS.ok, hS.led, fun b o e => hm b o (by simpa using fun q : b = I => by rw [q, hI0] at e; cases e) (hS.kp b o e), hS.le, hS.sub, hS.all⟩
  | succ k ih =>
    intro i s es ep t hk hi hst hS hR
    have hlt : i < n := by exact om111 hk hi
    refine codeAny_builtin F.entry_set_update_loop ?_
    rw [Around.under_plainId F.plain_set_update_loop _]
    show wpAny _ A.in1 (pyNext (.ref I) >>= _) _ _ s
    refine wpAny_bind (W.item i s _ _ hlt hst fun v h1 tk1 hPv hst1 hm => ?_)
    have hv := (hP i v).mp hPv
    have hvm : v ∈ vs := List.mem_of_getElem? hv
    refine elE (hvs v hvm) fun kk hkk => ?_
    have k1 : Kp h₀ h1 := fun b o e => hm b o (by simpa using fun q : b = I => by rw [q, hI0] at e; cases e) (hS.kp b o e)
    have htake : vs.take (i + 1) = vs.take i ++ [v] := by
      rw [List.take_add_one, hv]; rfl
    show wpAny _ A.in1 (holding [v] (setAdd a v) >>= _) _ _ _
    refine wpAny_bind (wpAny_holding ?_)
    have hle := hS.le
    rw [List.length_take] at hle
    refine S.add (k := kk) hu (hm a _ (by simpa using haI) hS.at_) hS.tb hS.ok (by exact om192 hn hcap hlt hle) (S.mono hkk k1) (fun e he => S.emono (hS.sub e he).2 k1) fun h2 es2 ep2 t2 tk2 b hsb ho2 T2 hl2 ok2 hadd => ?_
    have k2 : Kp h₀ h2 := fun b o e => (hsb.2 b fun q : b = a => by rw [q, ha0] at e; cases e).trans (k1 b o e)
    have hS2 : SInv S h₀ h2 a led (vs.take (i + 1)) es2 ep2 t2 := by
      rw [htake]
      rcases hadd with ⟨rfl, e, he, hke⟩ | ⟨hh, hp, hen⟩
      · refine ⟨ho2, T2, ok2, hl2.trans hS.led, k2, ?_, fun e he => ⟨List.mem_append_left _ (hS.sub e he).1, (hS.sub e he).2⟩, fun u hu => ?_⟩
        · rw [List.length_append]; have := hS.le; exact om36 this
        · rcases List.mem_append.mp hu with hu | hu
          · exact hS.all u hu
          · rw [List.mem_singleton.mp hu]
            refine elE (hvs e.2 (List.mem_of_mem_take (hS.sub e he).1)) fun j hj => ?_
            have : kk = j := S.inj hke (S.mono hj k1)
            exact ⟨e, he, kk, hkk, this ▸ hj⟩
      · have hkv : S.en h₀ (hh, v) := hen h₀ hkk
        refine ⟨ho2, T2, ok2, hl2.trans hS.led, k2, ?_, fun e he => ?_, fun u hu => ?_⟩
        · have := hp.length_eq; have := hS.le; simp at *; omega
        · rcases List.mem_cons.mp (hp.mem_iff.mp he) with rfl | he
          · exact ⟨List.mem_append_right _ (.head _), hkv⟩
          · exact ⟨List.mem_append_left _ (hS.sub e he).1, (hS.sub e he).2⟩
        · rcases List.mem_append.mp hu with hu | hu
          · refine elEA (hS.all u hu) fun e he r => ?_
            exact ⟨e, hp.mem_iff.mpr (.tail _ he), r⟩
          · rw [List.mem_singleton.mp hu]
            exact ⟨_, hp.mem_iff.mpr (.head _), kk, hkk, hkk⟩
    refine wpAny_pure ⟨plainId_quiet F.plain_set_update_loop _, ih (i + 1) _ es2 ep2 t2 (by exact om197 hn hk hlt) hlt (W.frame _ _ _ hst1 fun b hb o e => ?_) hS2 fun h3 tk3 es3 ep3 t3 k3 hS3 => hR h3 tk3 es3 ep3 t3 k3 hS3⟩
    exact (hsb.2 b fun q : b = a => haf (q ▸ hb)).trans e
end
end S6
section S7
section
variable {prog : Program} {w : World} {A : Around} {E : Value → Shared → Prop} {s : Shared}
noncomputable abbrev byText (w : World) : Bool := w.params.followText "set-order"
theorem set_made (a : Value) {Q₁ : Value → Shared → Prop} (h : Q₁ (.ref s.heap.objs.size) { s with heap := s.heap.push (setO #[] 0 (.fresh 0 0 (!byText w))) }) :
    codeAny (model prog w) A (.call (.builtin "set.__new__") ⟨[.type "set", a], []⟩) (wants Q₁ E) s := by
  refine codeAny_of_tree ?_
  show wpAny _ A.in1 (do checkBuiltinCall "set.__new__" ⟨[.type "set", a], []⟩; again (.builtin "set.__new__" ⟨[.type "set", a], []⟩)) _ _ s
  refine wpAny_bind (wpAny_of_eq (F.newCall_set_1 a) (wpAny_pure ⟨plainId_quiet F.plain_set_new _, codeAny_builtin F.entry_set_new ?_⟩))
  rw [Around.under_plainId F.plain_set_new _]
  unfold Builtin.«set.__new__» Builtin.Frozenset.newClass
  have hsub := sub_set_self
  obtain ⟨hp, g, d, tk, os⟩ := s
  dsimp only
  wp_walk
  refine wpAny_askSetting (wpAny_pure ?_)
  dsimp only
  simp only [newObj]
  refine wpAny_bind (wpAny_alloc (wpAny_pure ?_))
  exact wpAny_pure h
set_option maxHeartbeats 3200000 in
theorem set_of_list {K : Type} {S : SK prog w K} {l : Addr} {items : Array Value} {Q : Value → Shared → Prop} (hh : A.handled = none) (hl : s.heap.IsList l items) (hvs : ∀ v ∈ items.toList, ∃ k, S.el s.heap k v) (hcap : items.size < S.cap)
    (hroom : ∀ A' : Around, A'.units ≤ A.units + 10 → S.room A')
    (h : ∀ a h' tk es ep t, Kp s.heap h' → s.heap.get? a = none → SInv S s.heap h' a (!byText w) items.toList es ep t → Q (.ref a) { s with heap := h', toks := tk }) :
    wpAny (model prog w) A (call (.type "set") [.ref l]) Q E s := by
  refine elEE F.called_set.mro fun c tl hmro => ?_
  have hmade := F.called_set.made
  have hsub := F.called_set.sub
  refine wpAny_call (codeAny_of_tree ?_)
  show wpAny _ _ (callAny (.type "set") _) _ _ _
  refine wpAny_pure ⟨Code.quiet_builtin _ (by decide +kernel), codeAny_builtin F.entry_type_call ?_⟩
  rw [Around.under_plain (weight_type_call_type "set" [.ref l] []) rfl]
  have h1 := F.called_set.notType
  have h2 := F.called_set.canCreate
  have hct := F.typeCall_set_1 (.ref l)
  repeat (any_goals (first | assumption | wp_step))
  refine codeAny_mono (set_made (.ref l) (E := E) (Q₁ := fun obj s₁ => obj = .ref s.heap.objs.size ∧ s₁ = { s with heap := s.heap.push (setO #[] 0 (.fresh 0 0 (!byText w))) }) ⟨rfl, rfl⟩) fun r s₁ hr => ?_
  cases r with
  | error e => exact hr
  | ok fl =>
    cases fl with
    | ret obj =>
      refine elA hr fun Xx1 Xx2 => ?_
      obtain rfl := Xx1
      obtain rfl := Xx2
      have hS : (s.heap.push (setO #[] 0 (.fresh 0 0 (!byText w)))).get? s.heap.objs.size = some (setO #[] 0 (.fresh 0 0 (!byText w))) := Heap.get?_push_size _ rfl
      have hT : Shared.TypeIs { s with heap := s.heap.push (setO #[] 0 (.fresh 0 0 (!byText w))) } (.ref s.heap.objs.size) "set" := ⟨_, hS, rfl⟩
      have hli := F.called_set.init.lookup
      have hbi := F.called_set.init.bind (.ref s.heap.objs.size)
      repeat (any_goals (first | assumption | wp_step))
      refine codeAny_mono (codeAny_call_builtin (R := wants (fun r s₂ => r = .none ∧ ∃ h' tk es ep t, s₂ = { s with heap := h', toks := tk } ∧ Kp s.heap h' ∧ SInv S s.heap h' s.heap.objs.size (!byText w) items.toList es ep t) E) F.called_set.init.plain F.entry_set_init (check_set_init_1 hT ?_)) fun r₂ s₂ hr₂ => ?_
      · refine elEAAE hl fun ol hol hcl nl hdl => ?_
        obtain ⟨ocls, odict, odata, oslots⟩ := ol
        simp only at hcl hdl
        subst hcl; subst hdl
        have hol' : (s.heap.push (setO #[] 0 (.fresh 0 0 (!byText w)))).get? l = some { cls := .type "list", dict := odict, data := .seq items nl, slots := oslots } := Heap.get?_push_of_some _ hol
        have hsls := F.sub_list_set
        have hslf := F.sub_list_frozenset
        have hne : (Value.type "list" == Value.type "dict") = false := by decide
        have hl1 : (s.heap.push (setO #[] 0 (.fresh 0 0 (!byText w)))).IsList l items := ⟨_, hol', rfl, nl, rfl⟩
        unfold Builtin.«set.__init__» noKeywords Builtin.Frozenset.updateFrom
        generalize hPI : pyIter = PI
        wp_walk
        subst hPI
        refine wpAny_pyIter_list hl1 ?_
        refine wpAny_bind (wpAny_runValue ?_)
        have hlS : l < s.heap.objs.size := Heap.lt_size hol
        have hh3 : A.in1.in1.in1.handled = none := by simp [hh]
        have hneI : l ≠ (s.heap.push (setO #[] 0 (.fresh 0 0 (!byText w)))).objs.size := by
          rw [Heap.size_push]; exact Nat.ne_of_lt (Nat.lt_succ_of_lt hlS)
        have hSf : s.heap.objs.size ∉ [(s.heap.push (setO #[] 0 (.fresh 0 0 (!byText w)))).objs.size, l] := by
          rw [Heap.size_push]; simp only [List.mem_cons, List.mem_singleton, List.not_mem_nil, or_false, not_or]
          exact ⟨Nat.ne_of_lt (Nat.lt_succ_self _), Nat.ne_of_gt hlS⟩
        have hbig : s.heap.get? (s.heap.push (setO #[] 0 (.fresh 0 0 (!byText w)))).objs.size = none := by
          cases q : s.heap.get? (s.heap.push (setO #[] 0 (.fresh 0 0 (!byText w)))).objs.size with
          | none => rfl
          | some o => exact absurd (Heap.lt_size q) (by rw [Heap.size_push]; exact Nat.not_lt.mpr (Nat.le_succ _))
        refine set_loop (S := S) (vs := items.toList) (h₀ := s.heap) (led := !byText w) (Walks.list hh3 _ l hneI items) (fun i v => by rw [Array.getElem?_toList]) (by walk_at "m sm") (hroom _ (Nat.add_le_add_left (by decide : 3 ≤ 10) A.units)) hSf (size_none _) hbig hvs hcap (items.size - 0) 0 _ #[] 0 _ rfl (Nat.zero_le _)
          ⟨⟨_, Heap.get?_push_size _ rfl, rfl, rfl⟩, (hl1.push _)⟩ ⟨Heap.get?_push_of_some _ hS, tb_fresh _ _ _, S.ok0 _ _ _, rfl, fun b o e => Heap.get?_push_of_some _ (Heap.get?_push_of_some _ e), Nat.zero_le _, (fun e he => by simp at he), fun v hv => by simp at hv⟩ fun h' tk es ep t k' hS' => ?_
        show wpAny _ _ _ _ _ _
        refine wpAny_pure ?_
        show wpAny _ _ (ret Value.none) _ _ _
        exact wpAny_pure ⟨rfl, h', tk, es, ep, t, rfl, k', hS'⟩
      · cases r₂ with
        | error e => exact hr₂
        | ok fl₂ =>
          cases fl₂ with
          | ret r =>
            refine elAEEEEEAA hr₂ fun Xx3 h' tk es ep t Xx4 k' hS' => ?_
            obtain rfl := Xx3
            obtain rfl := Xx4
            repeat (any_goals (first | assumption | wp_step))
            exact h _ h' tk es ep t k' (size_none _) hS'
          | _ => exact hr₂.elim
    | _ => exact hr.elim
end
end S7
section S8a
theorem entry_si_next : entryFor table "set_iterator.__next__" = some Builtin.«set_iterator.__next__» := entryFor_of_tree (by kernel_rfl)
theorem slot_si_next : Slot "set_iterator" "__next__" "set_iterator.__next__" :=
  .of (owner := "set_iterator") (n := "__next__") (by rw [typeLookup_type, builtinLookup_eq_fast]; kernel_rfl) (by decide +kernel) (by decide +kernel) (by decide +kernel)
    (by first | exact .inl (by decide +kernel) | exact .inr (by decide +kernel)) (by rw [isSubtype_type]; kernel_rfl)
theorem owner_set_iterator : Manifest.owners.lookup (String.ofList ['r', 'o', 't', 'a', 'r', 'e', 't', 'i', '_', 't', 'e', 's'].reverse) = some Manifest.sig_set_iterator := by kernel_rfl
theorem args_si_next (a : Value) : argsOk "set_iterator.__next__" ⟨[a], []⟩ := by
  unfold argsOk; rw [signature?_of (id := "set_iterator.__next__") (n := ['_', '_', 't', 'x', 'e', 'n', '_', '_']) (o := ['r', 'o', 't', 'a', 'r', 'e', 't', 'i', '_', 't', 'e', 's']) (by kernel_rfl) owner_set_iterator]; kernel_rfl
end S8a
section S8
theorem entry_set_iter : entryFor table "set.__iter__" = some Builtin.«frozenset.__iter__» :=
  entryFor_alias (id' := "frozenset.__iter__") (by kernel_rfl) rfl (by decide +kernel) (by kernel_rfl)
theorem slot_si_iter : Slot "set_iterator" "__iter__" "set_iterator.__iter__" :=
  .of (owner := "set_iterator") (n := "__iter__") (by rw [typeLookup_type, builtinLookup_eq_fast]; kernel_rfl) (by decide +kernel) (by decide +kernel) (by decide +kernel)
    (by first | exact .inl (by decide +kernel) | exact .inr (by decide +kernel)) (by rw [isSubtype_type]; kernel_rfl)
theorem entry_si_iter : entryFor table "set_iterator.__iter__" = some Builtin.«dict_keyiterator.__iter__» :=
  entryFor_alias (id' := "dict_keyiterator.__iter__") (by kernel_rfl) rfl (by decide +kernel) (by kernel_rfl)
theorem args_si_iter (a : Value) : argsOk "set_iterator.__iter__" ⟨[a], []⟩ := by
  unfold argsOk; rw [signature?_of (id := "set_iterator.__iter__") (n := ['_', '_', 'r', 'e', 't', 'i', '_', '_']) (o := ['r', 'o', 't', 'a', 'r', 'e', 't', 'i', '_', 't', 'e', 's']) (by kernel_rfl) owner_set_iterator]; kernel_rfl
theorem erase_perm {α : Type} : ∀ (l : List α) (i : Nat) (h : i < l.length), (l[i] :: l.eraseIdx i).Perm l
  | x :: r, 0, _ => .refl _
  | x :: r, i + 1, h => (List.Perm.swap ..).trans ((erase_perm r i (by simpa using h)).cons x)
theorem pick_perm {α : Type} {next : Nat → Nat} : ∀ (fuel k : Nat) (left : List α) (out : Array α), left.length ≤ fuel → (pickOrder.go next fuel k left out).toList.Perm (out.toList ++ left)
  | 0, k, left, out, h => by
    have : left = [] := List.length_eq_zero_iff.mp (by exact om14 h)
    subst this
    unfold pickOrder.go; simp
  | fuel + 1, k, left, out, h => by
    unfold pickOrder.go
    cases left with
    | nil => simp
    | cons y r =>
      have hi : next k % (y :: r).length < (y :: r).length := Nat.mod_lt _ (by walk_at "m sm")
      rw [List.getElem?_eq_getElem hi]
      dsimp only
      refine (pick_perm fuel (k + 1) _ _ (by rw [List.length_eraseIdx_of_lt hi]; simp at h ⊢; exact om11 h)).trans ?_
      rw [Array.toList_push, List.append_assoc]
      exact (erase_perm _ _ hi).append_left _
theorem pickOrder_perm {α : Type} (next : Nat → Nat) (xs : Array α) : (pickOrder next xs).toList.Perm xs.toList := by
  have := pick_perm (next := next) xs.size 0 xs.toList #[] (by walk_at "m sm")
  simpa [pickOrder] using this
section
variable {prog : Program} {w : World} {A : Around} {E : Value → Shared → Prop} {s : Shared}
theorem wpAny_choose {M : Model} {src : Source} {n : Nat} {Q : Nat → Shared → Prop} (hn : n ≠ 0) (h : ∀ i d, i < n → Q i { s with drawn := d }) : wpAny M A (choose src n) Q E s :=
  fun _ _ _ => ⟨hn, h _ _ (Nat.mod_lt _ (Nat.pos_of_ne_zero hn))⟩
theorem wpAny_drawOrder {α : Type} {M : Model} : ∀ (n : Nat) (xs : List α) {s : Shared} {Q : List α → Shared → Prop}, xs.length = n → (∀ ys d, ys.Perm xs → Q ys { s with drawn := d }) → wpAny M A (drawOrder n xs) Q E s
  | 0, xs, s, Q, hn, h => by
    have : xs = [] := List.length_eq_zero_iff.mp hn
    subst this
    exact wpAny_pure (h [] s.drawn (.refl _))
  | n + 1, [], s, Q, hn, h => by cases hn
  | n + 1, x :: r, s, Q, hn, h => by
    unfold drawOrder
    refine wpAny_bind (wpAny_choose (by walk_at "m sm") fun i d hi => ?_)
    rw [List.getElem?_eq_getElem hi]
    dsimp only
    refine wpAny_bind (wpAny_drawOrder n _ (by rw [List.length_eraseIdx_of_lt hi, hn]; rfl) fun ys d' hp => wpAny_pure (h _ d' ?_))
    exact (hp.cons _).trans (erase_perm _ _ hi)
noncomputable abbrev itO (first : Value) (i : Int) (a : Addr) (n : Nat) (ep : Nat) : Obj := { cls := .type "set_iterator", dict := none, data := .fields #[first, .int i 0, .ref a, .int n 0, .int ep 0], slots := #[] }
inductive Md (w : World) (D : List Addr) (a : Addr) (es : Array (Int × Value)) (ep : Nat) (t : SetTable) (out : List Value) (h : Heap) : Value → Nat → Prop
  | text (slot i : Nat) : byText w = true → out = (pickOrder (w.params.setOrder a ep) es).toList.map (·.2) → Md w D a es ep t out h (.int slot 0) i
  | plain (slot i : Nat) : byText w = false → (!t.plain && decide (es.size > 1)) = false → t.led = true → out = es.toList.map (·.2) → SetTable.below t.place slot = i → Md w D a es ep t out h (.int slot 0) i
  | drawn (T : Addr) (pl : List Nat) (i : Nat) : T ∈ D → h.get? T = some (seqObj "tuple" (pl.map fun j => Value.int (j : Nat) 0).toArray 0) → pl.Perm (List.range es.size) → out = pl.map (fun j => (es.toList.map (·.2)).getD j .none) → Md w D a es ep t out h (.ref T) i
theorem setNext_text {a : Addr} {es : Array (Int × Value)} {ep : Nat} {t : SetTable} {slot i : Nat} {Q : Option (Value × Nat) → Shared → Prop} (ho : s.heap.get? a = some (setO es ep t)) (T : Tb t es.size) (hb : byText w = true)
    (h : Q (((pickOrder (w.params.setOrder a ep) es)[i]?).map fun e => (e.2, slot)) s) : wpAny (model prog w) A (setNext a slot i ep) Q E s := by
  unfold setNext setsByText
  refine wpAny_bind (wpAny_setState_of ho rfl T.fits ?_)
  dsimp only
  refine wpAny_bind (wpAny_bind (wpAny_askSetting (wpAny_pure ?_)))
  show wpAny _ _ (if byText w = true then _ else _) _ _ _
  rw [if_pos hb]
  simp only [bne_self_eq_false, Bool.false_eq_true, if_false]
  refine wpAny_bind ?_
  unfold setWalk setsByText
  refine wpAny_bind (wpAny_setState_of ho rfl T.fits ?_)
  dsimp only
  refine wpAny_bind (wpAny_bind (wpAny_askSetting (wpAny_pure ?_)))
  show wpAny _ _ (if byText w = true then _ else _) _ _ _
  rw [if_pos hb]
  refine wpAny_bind (wpAny_askSetting (wpAny_pure (wpAny_pure ?_)))
  exact h
theorem setNext_plain {a : Addr} {es : Array (Int × Value)} {ep : Nat} {t : SetTable} {slot i : Nat} {Q : Option (Value × Nat) → Shared → Prop} (ho : s.heap.get? a = some (setO es ep t)) (T : Tb t es.size) (hb : byText w = false)
    (hd : (!t.plain && decide (es.size > 1)) = false) (hl : t.led = true)
    (h : Q (match es[SetTable.below t.place slot]?, t.place[SetTable.below t.place slot]? with
      | some (_, x), some j => some (x, j + 1)
      | _, _ => none) s) : wpAny (model prog w) A (setNext a slot i ep) Q E s := by
  unfold setNext setsByText
  refine wpAny_bind (wpAny_setState_of ho rfl T.fits ?_)
  dsimp only
  refine wpAny_bind (wpAny_bind (wpAny_askSetting (wpAny_pure ?_)))
  show wpAny _ _ (if byText w = true then _ else _) _ _ _
  rw [hb]
  simp only [Bool.false_eq_true, if_false]
  show wpAny _ _ (if (!t.plain && decide (es.size > 1)) = true then _ else _) _ _ _
  rw [hd]
  simp only [Bool.false_eq_true, if_false]
  refine wpAny_bind ?_
  show wpAny _ _ (if (!t.led && !es.isEmpty) = true then _ else _) _ _ _
  rw [hl]
  simp only [Bool.not_true, Bool.false_and, Bool.false_eq_true, if_false]
  exact wpAny_pure (wpAny_pure h)
structure SI (w : World) (D : List Addr) (I a : Addr) (es : Array (Int × Value)) (ep : Nat) (t : SetTable) (out : List Value) (i : Nat) (h : Heap) : Prop where
  it : ∃ first, h.get? I = some (itO first i a es.size ep) ∧ Md w D a es ep t out h first i
  set : h.get? a = some (setO es ep t)
  tb : Tb t es.size
theorem Md.len {D : List Addr} {a : Addr} {es : Array (Int × Value)} {ep : Nat} {t : SetTable} {out : List Value} {h : Heap} {f : Value} {i : Nat} (m : Md w D a es ep t out h f i) : out.length = es.size := by
  cases m with
  | text slot _ hb e => rw [e, List.length_map, (pickOrder_perm _ _).length_eq, Array.length_toList]
  | plain slot _ hb hd hl e _ => rw [e]; simp
  | drawn T pl _ _ ho hp e => rw [e, List.length_map, hp.length_eq, List.length_range]
theorem si_start {D : List Addr} {a : Addr} {es : Array (Int × Value)} {ep : Nat} {t : SetTable} {out : List Value} {I : Addr} {i : Nat} (x : SI w D I a es ep t out i s.heap) : s.TypeIs (.ref I) "set_iterator" := let ⟨_, h, _⟩ := x.it; ⟨_, h, rfl⟩
end
end S8
section S9
section
variable {prog : Program} {w : World} {A : Around} {E : Value → Shared → Prop} {s : Shared}
theorem si_item {D : List Addr} {a : Addr} {es : Array (Int × Value)} {ep : Nat} {t : SetTable} {out : List Value} {I : Addr} {i : Nat} {v : Value} {Q : Option Value → Shared → Prop} (x : SI w D I a es ep t out i s.heap) (hv : out[i]? = some v) (hIa : a ≠ I)
    (h : ∀ h', SI w D I a es ep t out (i + 1) h' → Heap.SameBut I s.heap h' → Q (some v) { s with heap := h' }) : wpAny (model prog w) A (pyNext (.ref I)) Q E s := by
  have hT := si_start x
  obtain ⟨⟨first, ho, m⟩, hs, T⟩ := x
  have hlen := m.len
  have hi : i < es.size := by have := (List.getElem?_eq_some_iff.mp hv).1; exact tle
  unfold pyNext
  refine wpAny_bind (wpAny_attempt (wpAny_callSpecial?_slot (name := Str.ofString "__next__") hT slot_si_next (wpAny_call_entry slot_si_next hT entry_si_next ?_ (args_si_next _))))
  unfold Builtin.«set_iterator.__next__»
  refine wpAny_bind (m := slotArgs "__next__" 0 _) (wpAny_pure ?_)
  dsimp only
  refine wpAny_bind (wpAny_fieldsOf ho rfl ?_)
  dsimp only
  refine wpAny_bind (wpAny_setEntries_of hs rfl T.fits ?_)
  rw [if_neg (by walk_at "m sm")]
  have tail : ∀ (s1 : Shared) (f2 : Value), Heap.SameBut I s.heap s1.heap → s1 = { s with heap := s1.heap } → s1.heap.get? I = some (itO f2 i a es.size ep) → (∀ h', Heap.SameBut I s.heap h' → Md w D a es ep t out h' f2 (i + 1)) →
      wpAny (model prog w) A.in1 (do setField (.ref I) 1 (rawInt ((i : Int) + 1)); ret v) (fun fin s' => ∃ v, fin = Fin.done (Flow.ret v) ∧ wpAny (model prog w) A (pure (some v)) Q E s')
        (fun e s' => wpAny (model prog w) A (do let b ← isInstance e (Value.type "StopIteration"); if b = true then pure none else throw e) Q E s') s1 := by
    intro s1 f2 sb e1 ho1 hmd
    refine wpAny_bind (wpAny_setField_rec ho1 (by walk_at "m sm") fun h2 ho2 sb2 => ?_)
    refine wpAny_pure ⟨v, rfl, wpAny_pure ?_⟩
    have sb3 := sb.trans sb2
    rw [e1]
    refine h h2 ⟨⟨f2, by simpa [rawInt] using ho2, hmd h2 sb3⟩, (sb3.2 a hIa).trans hs, T⟩ sb3
  cases m with
  | text slot _ hb e =>
    dsimp only
    refine wpAny_bind ?_
    simp only [Int.toNat_natCast]
    refine setNext_text hs T hb ?_
    rw [e, List.getElem?_map] at hv
    refine elEA (Option.map_eq_some_iff.mp hv) fun en h1 h2 => ?_
    rw [Array.getElem?_toList] at h1
    rw [h1]
    simp only [Option.map_some]
    refine wpAny_bind (wpAny_setField_rec ho (by walk_at "m sm") fun h2' ho2 sb2 => ?_)
    rw [h2]
    exact tail _ (.int slot 0) sb2 rfl (by simpa [rawInt] using ho2) fun h' _ => .text slot _ hb e
  | plain slot _ hb hd hl e hbl =>
    dsimp only
    refine wpAny_bind ?_
    simp only [Int.toNat_natCast]
    refine setNext_plain hs T hb hd hl ?_
    rw [e, List.getElem?_map, Array.getElem?_toList] at hv
    refine elEA (Option.map_eq_some_iff.mp hv) fun en h1 h2 => ?_
    have hpl : t.place[i]? = some (t.place.getD i 0) := by
      have : i < t.place.size := by rw [T.size]; exact hi
      simp [Array.getD, this]
    rw [hbl, h1, hpl]
    dsimp only
    refine wpAny_bind (wpAny_setField_rec ho (by walk_at "m sm") fun h2' ho2 sb2 => ?_)
    rw [h2]
    exact tail _ (.int ((t.place.getD i 0 + 1 : Nat) : Int) 0) sb2 rfl (by simpa [rawInt] using ho2) fun h' _ => .plain _ _ hb hd hl e (below_succ T.ris (by rw [T.size]; exact hi))
  | drawn P pl _ hPD hP hp e =>
    dsimp only
    refine wpAny_bind (wpAny_seqItems hP rfl ?_)
    dsimp only
    simp only [Int.toNat_natCast]
    have hil : i < pl.length := by rw [hp.length_eq, List.length_range]; exact hi
    have hpi : (pl.map fun j => Value.int (j : Nat) 0).toArray[i]? = some (.int (pl[i] : Nat) 0) := by simp [hil]
    rw [hpi]
    dsimp only
    have hpm : pl[i] < es.size := List.mem_range.mp (hp.mem_iff.mp (List.getElem_mem hil))
    have hve : v = es[pl[i]].2 := by
      rw [e, List.getElem?_map, List.getElem?_eq_getElem hil] at hv
      simp only [Option.map_some, Option.some.injEq] at hv
      rw [← hv]; simp [List.getD, hpm]
    refine wpAny_bind ?_
    unfold setNextDrawn
    refine wpAny_bind (wpAny_setState_of hs rfl T.fits ?_)
    simp only [Int.toNat_natCast, bne_self_eq_false, Bool.false_eq_true, if_false]
    have hx : es[pl[i]]? = some (es[pl[i]].1, v) := by rw [Array.getElem?_eq_getElem hpm, hve]
    rw [hx]
    refine wpAny_pure ?_
    have hPI : P ≠ I := fun q => by rw [q, ho] at hP; exact absurd (congrArg Obj.cls (Option.some.inj hP)) (by walk_at "m sm")
    exact tail s (.ref P) (Heap.SameBut.refl ..) rfl ho fun h' sb => .drawn P pl _ hPD ((sb.2 P hPI).trans hP) hp e
theorem si_done {D : List Addr} {a : Addr} {es : Array (Int × Value)} {ep : Nat} {t : SetTable} {out : List Value} {I : Addr} {Q : Option Value → Shared → Prop} (hh : A.handled = none) (x : SI w D I a es ep t out out.length s.heap)
    (h : ∀ h', Heap.ExtBut I s.heap h' → Q none { s with heap := h' }) : wpAny (model prog w) A (pyNext (.ref I)) Q E s := by
  have hT := si_start x
  obtain ⟨⟨first, ho, m⟩, hs, T⟩ := x
  have hlen := m.len
  unfold pyNext
  refine wpAny_bind (wpAny_attempt (wpAny_callSpecial?_slot (name := Str.ofString "__next__") hT slot_si_next (wpAny_call_entry slot_si_next hT entry_si_next ?_ (args_si_next _))))
  unfold Builtin.«set_iterator.__next__»
  refine wpAny_bind (m := slotArgs "__next__" 0 _) (wpAny_pure ?_)
  dsimp only
  refine wpAny_bind (wpAny_fieldsOf ho rfl ?_)
  dsimp only
  refine wpAny_bind (wpAny_setEntries_of hs rfl T.fits ?_)
  rw [if_neg (by walk_at "m sm")]
  have tail : ∀ (s1 : Shared) (f2 : Value), Heap.SameBut I s.heap s1.heap → s1 = { s with heap := s1.heap } → s1.heap.get? I = some (itO f2 (out.length : Nat) a es.size ep) →
      wpAny (model prog w) A.in1 (do setField (.ref I) 2 .none; let e ← newExc (.type "StopIteration") []; raiseNew e) (fun fin s' => ∃ v, fin = Fin.done (Flow.ret v) ∧ wpAny (model prog w) A (pure (some v)) Q E s')
        (fun e s' => wpAny (model prog w) A (do let b ← isInstance e (Value.type "StopIteration"); if b = true then pure none else throw e) Q E s') s1 := by
    intro s1 f2 sb e1 ho1
    refine wpAny_bind (wpAny_setField_rec ho1 (by walk_at "m sm") fun h2 ho2 sb2 => ?_)
    have sb3 := sb.trans sb2
    refine wpAny_bind ?_
    simp only [newExc, newTuple]
    refine wpAny_bind (wpAny_newObj_type ?_ (by size_fits))
    refine wpAny_bind (m := firstArgMember _ _) (wpAny_of_eq (a := Value.none) (by first | rfl | (simp only [firstArgMember]; rfl)) ?_)
    refine wpAny_newObj_type ?_ (by size_fits)
    simp only [raiseNew]
    refine wpAny_bind (wpAny_handled ?_)
    rw [show A.in1.handled = none from hh]
    refine wpAny_bind (wpAny_pure (wpAny_throw ?_))
    refine wpAny_bind (wpAny_isInstance (T := "StopIteration") (b := true) ⟨_, Heap.get?_push_size _ rfl, rfl⟩ isSubtype_stop ?_)
    rw [e1]
    exact wpAny_pure (h _ ((sb3.extBut.push _).push _))
  cases m with
  | text slot _ hb e =>
    dsimp only
    refine wpAny_bind ?_
    simp only [Int.toNat_natCast]
    refine setNext_text hs T hb ?_
    have hn : (pickOrder (w.params.setOrder a ep) es)[out.length]? = none := by
      rw [← Array.getElem?_toList]
      refine List.getElem?_eq_none ?_
      rw [(pickOrder_perm _ _).length_eq, hlen]; simp
    rw [hn]
    exact tail s _ (Heap.SameBut.refl ..) rfl ho
  | plain slot _ hb hd hl e hbl =>
    dsimp only
    refine wpAny_bind ?_
    simp only [Int.toNat_natCast]
    refine setNext_plain hs T hb hd hl ?_
    have hn : es[out.length]? = none := Array.getElem?_eq_none (by exact om12 hlen)
    rw [hbl, hn]
    exact tail s _ (Heap.SameBut.refl ..) rfl ho
  | drawn P pl _ hPD hP hp e =>
    dsimp only
    refine wpAny_bind (wpAny_seqItems hP rfl ?_)
    dsimp only
    simp only [Int.toNat_natCast]
    have hpi : (pl.map fun j => Value.int (j : Nat) 0).toArray[out.length]? = none := by
      refine Array.getElem?_eq_none ?_
      rw [e]; simp
    rw [hpi]
    dsimp only
    refine wpAny_bind (wpAny_setField_rec ho (by walk_at "m sm") fun h2 ho2 sb2 => ?_)
    exact tail _ (.int 0 0) sb2 rfl (by simpa [rawInt] using ho2)
theorem Walks.setIt (hh : A.handled = none) {I a : Addr} (hne : a ≠ I) {es : Array (Int × Value)} {ep : Nat} {t : SetTable} {out : List Value} (D : List Addr) :
    Walks prog w A I (I :: a :: D) [I] out.length (fun i v => out[i]? = some v) (fun i h => SI w D I a es ep t out i h) where
  sub := fun b hb => by simp at hb; simp [hb]
  frame := fun i h h' st hk => by
    obtain ⟨⟨first, ho, m⟩, hs, T⟩ := st
    refine ⟨⟨first, hk I (.head _) _ ho, ?_⟩, hk a (.tail _ (.head _)) _ hs, T⟩
    cases m with
    | text slot _ hb e => exact .text slot _ hb e
    | plain slot _ hb hd hl e hbl => exact .plain slot _ hb hd hl e hbl
    | drawn P pl _ hPD hP hp e => exact .drawn P pl _ hPD (hk P (.tail _ (.tail _ hPD)) _ hP) hp e
  item := fun i s Q E hi st hQ => by
    refine si_item st (List.getElem?_eq_getElem hi) hne fun h' st' sb => ?_
    exact hQ _ h' s.toks (List.getElem?_eq_getElem hi) st' fun b o hb e => sb.extBut b o (fun q => hb (by simp [q])) e
  done := fun s Q E st hQ => si_done hh st fun h' he => hQ h' s.toks fun b o hb e => he b o (fun q => hb (by simp [q])) e
  self := fun i s Q E st hQ => by
    refine wpAny_pyIter_slot (si_start st) slot_si_iter (wpAny_call_entry slot_si_iter (si_start st) entry_si_iter ?_ (args_si_iter _))
    show wpAny _ _ (ret (.ref I)) _ _ s
    exact wpAny_pure ⟨_, rfl, "set_iterator", _, si_start st, slot_si_next.lookup, hQ⟩
end
end S9
section S10
section
variable {prog : Program} {w : World} {A : Around} {E : Value → Shared → Prop} {s : Shared}
theorem hint_set {r : Addr} {Q : Bool → Shared → Prop} (hT : s.TypeIs (.ref r) "set") (h : Q false s) : wpAny (model prog w) A (Builtin.List.listLengthHint (.ref r)) Q E s := by
  unfold Builtin.List.listLengthHint
  refine wpAny_bind (wpAny_specialOf hT PySem.F.slot_set_len.lookup ?_)
  generalize hid : ("set.__len__" : String) = id0
  wp_delta
  rw [show splitId id0 = some ("set", "__len__") from by subst hid; decide +kernel]
  subst hid
  refine wpAny_bind (wpAny_isInstance (T := "set") (b := true) hT (by rw [isSubtype_type]; kernel_rfl) ?_)
  refine wpAny_ite_split (fun hab => absurd hab (by decide)) (fun _ => ?_)
  refine wpAny_ite_split (fun _ => ?_) (fun hab => absurd (by decide +kernel) hab)
  refine wpAny_bind (wpAny_typeOf hT ?_)
  exact wpAny_pure h
theorem iter_set {a : Addr} {es : Array (Int × Value)} {ep : Nat} {t : SetTable} {Q : Value → Shared → Prop} (ho : s.heap.get? a = some (setO es ep t)) (T : Tb t es.size) (hl : t.led = !byText w) (hn : es.size ≤ 1000)
    (h : ∀ I D out h' d, Kp s.heap h' → s.heap.get? I = none → (∀ b ∈ D, s.heap.get? b = none) → out.Perm (es.toList.map (·.2)) → SI w D I a es ep t out 0 h' → Q (.ref I) { s with heap := h', drawn := d }) :
    wpAny (model prog w) A (pyIter (.ref a)) Q E s := by
  have hT : s.TypeIs (.ref a) "set" := ⟨_, ho, rfl⟩
  refine wpAny_pyIter_slot hT PySem.F.slot_set_iter (wpAny_call_entry PySem.F.slot_set_iter hT entry_set_iter ?_ (PySem.F.args_set_iter_1 _))
  unfold Builtin.«frozenset.__iter__» Builtin.Frozenset.slot0
  refine wpAny_bind ?_
  refine wpAny_bind (m := slotArgs "__iter__" 0 _) (wpAny_pure ?_)
  refine wpAny_pure ?_
  dsimp only
  unfold Builtin.Frozenset.sizeOf
  refine wpAny_bind (wpAny_bind (wpAny_setEntries_of ho rfl T.fits (wpAny_pure ?_)))
  have fin : ∀ (first : Value) (h1 : Heap) (d : Drawn) (out : List Value) (D : List Addr), Kp s.heap h1 → h1.get? a = some (setO es ep t) → (∀ b ∈ D, s.heap.get? b = none) → out.Perm (es.toList.map (·.2)) → (∀ h', Kp h1 h' → Md w D a es ep t out h' first 0) →
      wpAny (model prog w) A.in1 (do ret (← newFields "set_iterator" [first, rawInt 0, .ref a, rawInt es.size, rawInt (← setEpoch a)])) (fun fin s' => ∃ v, fin = Fin.done (Flow.ret v) ∧ ∃ T' r, s'.TypeIs v T' ∧ typeLookup (.type T') "__next__" = pure (some r) ∧ Q v s') E { s with heap := h1, drawn := d } := by
    intro first h1 d out D k1 ho1 hD hp hmd
    refine wpAny_bind (wpAny_setEpoch_of (s := { s with heap := h1, drawn := d }) ho1 rfl T.fits ?_)
    refine wpAny_bind (wpAny_newObj_type (wpAny_pure ?_))
    refine ⟨_, rfl, "set_iterator", _, ⟨_, Heap.get?_push_size _ rfl, rfl⟩, slot_si_next.lookup, ?_⟩
    have k2 : Kp h1 (h1.push (itO first 0 a es.size ep)) := fun b o e => Heap.get?_push_of_some _ e
    refine h _ D out _ d (fun b o e => k2 b o (k1 b o e)) ?_ hD hp ⟨⟨first, Heap.get?_push_size _ rfl, hmd _ k2⟩, k2 _ _ ho1, T⟩
    cases q : s.heap.get? h1.objs.size with
    | none => rfl
    | some o => exact absurd (Heap.lt_size (k1 _ _ q)) (Nat.lt_irrefl _)
  unfold setDrawn setsByText
  refine wpAny_bind ?_
  refine wpAny_bind (wpAny_setState_of ho rfl T.fits ?_)
  dsimp only
  refine wpAny_bind (wpAny_bind (wpAny_askSetting (wpAny_pure ?_)))
  refine wpAny_pure ?_
  show wpAny _ _ (if (!byText w && (!t.plain && decide (es.size > 1))) = true then _ else _) _ _ _
  cases hb : byText w with
  | true =>
    simp only [Bool.not_true, Bool.false_and, Bool.false_eq_true, if_false]
    refine wpAny_bind (wpAny_pure ?_)
    exact fin (rawInt 0) s.heap s.drawn _ [] (fun _ _ e => e) ho (fun _ h => nomatch h) ((pickOrder_perm (w.params.setOrder a ep) es).map _) fun h' _ => .text 0 0 hb rfl
  | false =>
    cases hd : (!t.plain && decide (es.size > 1)) with
    | false =>
      simp only [Bool.and_false, Bool.false_eq_true, if_false]
      refine wpAny_bind (wpAny_pure ?_)
      exact fin (rawInt 0) s.heap s.drawn _ [] (fun _ _ e => e) ho (fun _ h => nomatch h) (.refl _) fun h' _ => .plain 0 0 hb hd (by rw [hl, hb]; rfl) rfl (below_zero T.ris)
    | true =>
      simp only [Bool.not_false, Bool.and_self, if_true]
      refine wpAny_bind (wpAny_drawOrder _ _ (by walk_at "m sm") fun ys d hp => ?_)
      have hys : ys.length = es.size := by rw [hp.length_eq]; simp
      refine wpAny_bind (wpAny_newTuple (items := ys.map fun (i : Nat) => rawInt i) ?_ (by rw [sizeLine_eq, List.length_map]; exact ell))
      refine fin _ _ d (ys.map fun j => (es.toList.map (·.2)).getD j .none) [s.heap.objs.size] (fun b o e => Heap.get?_push_of_some _ e) (Heap.get?_push_of_some _ ho) (fun b hb => by rw [List.mem_singleton.mp hb]; exact size_none _) ?_ fun h' k' => ?_
      · refine (hp.map _).trans (List.Perm.of_eq ?_)
        apply List.ext_getElem?
        intro i
        by_cases hi : i < es.size
        · rw [List.getElem?_map, List.getElem?_range hi]; simp [hi]
        · rw [List.getElem?_eq_none (by simpa using hi), List.getElem?_eq_none (by simpa using hi)]
      · exact .drawn _ ys _ (.head _) (k' _ _ (by
          have := Heap.get?_push_size s.heap (o := seqObj "tuple" (ys.map fun (i : Nat) => rawInt i).toArray 0) rfl
          exact this)) hp rfl
theorem collect_set {a : Addr} {es : Array (Int × Value)} {ep : Nat} {t : SetTable} {Q : List Value → Shared → Prop} (hh : A.handled = none) (ho : s.heap.get? a = some (setO es ep t)) (T : Tb t es.size) (hl : t.led = !byText w) (hn : es.size ≤ 1000)
    (h : ∀ vs s', vs.Perm (es.toList.map (·.2)) → Ext s s' → Q vs s') : wpAny (model prog w) A (collect (.ref a)) Q E s := by
  have hT : s.TypeIs (.ref a) "set" := ⟨_, ho, rfl⟩
  unfold collect
  refine wpAny_bind (wpAny_runValue (codeAny_builtin PySem.F.entry_proto_collect ?_))
  rw [Around.under_plainId PySem.F.plain_proto_collect _]
  show wpAny _ A.in1 (newList [] >>= fun l => again (.builtin "list.__iadd__" ⟨[l, .ref a], []⟩)) _ _ s
  refine wpAny_bind (wpAny_newObj_type ?_)
  refine wpAny_pure ⟨plainId_quiet PySem.F.plain_list_iadd _, codeAny_builtin PySem.F.entry_list_iadd ?_⟩
  rw [Around.under_plainId PySem.F.plain_list_iadd _]
  generalize hS : s.heap.objs.size = S
  have hSa : S ≠ a := fun q => Nat.lt_irrefl a (by have := Heap.lt_size ho; rw [hS, q] at this; exact this)
  have hSn : s.heap.get? S = none := hS ▸ size_none _
  show wpAny _ A.in1 (Builtin.List.listExtendWith (.ref S) (.ref a) (.ref S)) _ _ { s with heap := s.heap.push (seqObj "list" ([] : List Value).toArray 0) }
  generalize hH : s.heap.push (seqObj "list" ([] : List Value).toArray 0) = H
  have kH : Kp s.heap H := hH ▸ fun b o e => Heap.get?_push_of_some _ e
  have hS1 : H.get? S = some (seqObj "list" ([] : List Value).toArray 0) := by rw [← hH, ← hS]; exact Heap.get?_push_size _ rfl
  have hoH := kH _ _ ho
  unfold Builtin.List.listExtendWith
  refine wpAny_bind (wpAny_typeOf (T := "set") ⟨_, hoH, rfl⟩ ?_)
  have h1 : Builtin.List.listSameRef (.ref S) (.ref a) = false := by simp [Builtin.List.listSameRef, hSa]
  have h2 : (Value.type "set" == Value.type "list") = false := by decide
  have h3 : (Value.type "set" == Value.type "tuple") = false := by decide
  simp only [h1, h2, h3, Bool.or_false, Bool.false_eq_true, if_false]
  refine wpAny_bind (iter_set (s := { s with heap := H }) hoH T hl hn fun I D out h4 d k4 hI hD hp st => ?_)
  have ho4 := k4 _ _ hoH
  refine wpAny_bind (wpAny_holding (hint_set (s := { s with heap := h4, drawn := d }) ⟨_, ho4, rfl⟩ ?_))
  refine wpAny_ite_split (fun _ => ?_) (fun hab => absurd (by decide +kernel) hab)
  refine wpAny_bind (wpAny_rule ?_)
  refine wpAny_bind ?_
  show wpAny _ _ (updateSeq S (·.push .none) >>= fun _ => updateSeq S (·.pop)) _ _ _
  have hS4 := k4 _ _ hS1
  refine wpAny_bind (wpAny_updateSeq (s := { s with heap := h4, drawn := d }) hS4 rfl ?_)
  have hS5 := Heap.get?_update_self (Obj.mapSeq (·.push Value.none)) hS4 rfl
  refine wpAny_updateSeq (hz := by seq_fits) hS5 rfl ?_
  have hS6 := Heap.get?_update_self (Obj.mapSeq (·.pop)) hS5 rfl
  have oth : ∀ b o, b ≠ S → h4.get? b = some o → ((h4.update S (Obj.mapSeq (·.push Value.none))).update S (Obj.mapSeq (·.pop))).get? b = some o :=
    fun b o hb e => (Heap.get?_update_other _ _ (Ne.symm hb)).trans ((Heap.get?_update_other _ _ (Ne.symm hb)).trans e)
  have hSI : S ≠ I := fun q => by rw [← q, hS1] at hI; cases hI
  have hSD : S ∉ D := fun q => by have := hD S q; rw [hS1] at this; cases this
  have haI : a ≠ I := fun q => by rw [← q, hoH] at hI; cases hI
  have hSf : S ∉ I :: a :: D := by simp [hSI, hSa, hSD]
  have hlen : out.length = es.size := by rw [hp.length_eq]; simp
  have W := Walks.setIt (prog := prog) (w := w) (A := A.in1) hh haI D (es := es) (ep := ep) (t := t) (out := out)
  refine wpAny_pure ⟨plainId_quiet PySem.F.plain_extend_loop _, codeAny_extend_loopS W.toS (by rw [sizeLine_eq]; exact ell) S hSf _ out.length 0 _ #[] _ rfl (Nat.zero_le _) (W.frame 0 _ _ st fun b hb o e => oth b o (fun q => hSf (q ▸ hb)) e) hS6 (ItemsOf.nil _) fun s' acc' c' hm hS' hacc => ?_⟩
  show wpAny _ A (load S >>= _) _ _ s'
  refine wpAny_bind (wpAny_load hS' ?_)
  refine wpAny_pure (h _ s' ?_ ?_)
  · have : acc'.toList = out := by
      apply List.ext_getElem?
      intro i
      by_cases hi : i < acc'.size
      · have e1 : acc'[i]? = some acc'[i] := Array.getElem?_eq_getElem hi
        rw [Array.getElem?_toList, e1]
        exact (hacc.2 i _ e1).symm
      · rw [List.getElem?_eq_none (by simpa using hi), List.getElem?_eq_none (by have := hacc.1; exact om85 hi this)]
    rw [this]; exact hp
  · rw [Moved.eq_with hm]
    refine Ext.mk fun b o e => ?_
    have hbS : b ≠ S := fun q => by rw [q, hSn] at e; cases e
    have hbI : b ≠ I := fun q => by rw [q] at e; have := kH _ _ e; rw [hI] at this; cases this
    exact hm.heap b o (by simp [hbS, hbI]) (oth b o hbS (k4 b o (kH b o e)))
end
end S10
section T0
noncomputable def gtab : List (Str × Addr) := [("Bank", 268), ("Consts", 57), ("Unions", 350), ("Heap", 482), ("Keeper", 114), ("TermFault", 157), ("whole_of", 26), ("is_op", 164), ("_law_next", 513), ("_law_reckoned", 520), ("_law_both", 527), ("_law_due", 532), ("_law_is_kept", 537), ("_law_merged", 544), ("law", 549), ("_law_leaves", 497), ("_law_ops", 506)]
noncomputable def btab : List (Str × Value) := [("len", .builtin "len"), ("sorted", .builtin "sorted"), ("range", .type "range"), ("set", .type "set"), ("tuple", .type "tuple"), ("list", .type "list"), ("dict", .type "dict"), ("str", .type "str"), ("abs", .builtin "abs"), ("int", .type "int"), ("sum", .builtin "sum"), ("max", .builtin "max")]
noncomputable def mtab : List ((Addr × Str) × Addr) := [((57, "of_node"), 47), ((57, "joined"), 54), ((114, "value"), 82), ((114, "begun"), 89), ((114, "reckoned"), 94), ((114, "settle"), 99), ((114, "clashes"), 104), ((268, "size"), 185), ((268, "take"), 190), ((268, "require"), 197), ((268, "op"), 225), ((268, "kids"), 232), ((350, "make"), 293), ((350, "size"), 300), ((350, "find"), 307), ((350, "merge"), 314), ((350, "members"), 321), ((350, "classes"), 326), ((482, "size"), 375), ((482, "node"), 380), ((482, "add"), 385), ((482, "look_at"), 399), ((482, "find"), 406), ((482, "merge"), 420), ((482, "join"), 427), ((482, "settle"), 434), ((482, "classes"), 448), ((482, "members"), 455), ((482, "nodes_of"), 460), ((482, "users"), 479)]
noncomputable def atab : List (Addr × Str) := [(57, "n"), (114, "heap"), (114, "analysis"), (114, "values"), (114, "told"), (268, "nodes"), (268, "numbers"), (268, "weights"), (268, "depths"), (350, "above"), (350, "lots"), (350, "merged"), (482, "bank"), (482, "unions"), (482, "edges"), (482, "forest"), (482, "known"), (482, "above"), (482, "waiting")]
noncomputable def ktab : List Addr := [26, 47, 54, 57, 82, 89, 94, 99, 104, 114, 164, 185, 190, 197, 225, 232, 268, 293, 300, 307, 314, 321, 326, 350, 375, 380, 385, 399, 406, 420, 427, 434, 448, 455, 460, 479, 482, 513, 520, 527, 532, 537, 544, 549]
theorem gtab_ok (P : Params) : gtab.all (fun p => nsIn (K P) mainGlobals p.1 == some (some (.ref p.2))) = true := by kernel_rfl
theorem btab_ok (P : Params) : btab.all (fun p => nsIn (K P) mainGlobals p.1 == some none && bootBuiltins p.1 == some p.2 && p.1 != "__name__") = true := by kernel_rfl
theorem mtab_ok (P : Params) : mtab.all (fun p => methOk (K P) p.1.1 p.1.2 p.2) = true := by kernel_rfl
theorem atab_ok (P : Params) : atab.all (fun p => attrOk (K P) p.1 p.2) = true := by kernel_rfl
theorem ktab_ok (P : Params) : ktab.all (fun a => keepIn (K P) (.ref a)) = true := by kernel_rfl
theorem lookup_mem {α β : Type} [BEq α] [LawfulBEq α] {l : List (α × β)} {a : α} {b : β} (h : l.lookup a = some b) : (a, b) ∈ l := by
  induction l with
  | nil => cases h
  | cons p r ih =>
    rw [List.lookup_cons] at h
    cases q : a == p.1 with
    | true => rw [q] at h; obtain rfl := eq_of_beq q; cases h; exact .head _
    | false => rw [q] at h; exact .tail _ (ih h)
section
variable {w : World} {A : Around} {E : Value → Shared → Prop} {s : Shared} {h₀ : Heap} {L : Addr} {l : Binds} {n : Ents} {M : Model} {env : Env}
theorem gnT {x : Str} {pos : Pos} {a : Addr} {Q : Value → Shared → Prop} (C : Cx h₀ L s.heap l n) (W : Wd w h₀) (e : gtab.lookup x = some a) (h : Q (.ref a) s)
    (hk : env.scope.kind = .function := by rfl) (hx : env.kindOf x = some .globalImplicit := by rfl) (hg : env.globals = mainGlobals := by rfl) (hd : (x == ("__debug__" : Str)) = false := by decide) :
    wpAny M A (eval (.Name x pos) env) Q E s := gnC W C (beq_iff_eq.mp (List.all_eq_true.mp (gtab_ok w.params) _ (lookup_mem e))) h hk hx hg hd
theorem bnT {x : Str} {pos : Pos} {v : Value} {Q : Value → Shared → Prop} (C : Cx h₀ L s.heap l n) (W : Wd w h₀) (e : btab.lookup x = some v) (h : Q v s)
    (hk : env.scope.kind = .function := by rfl) (hx : env.kindOf x = some .globalImplicit := by rfl) (hg : env.globals = mainGlobals := by rfl) (hb : env.builtins = builtinsNs := by rfl) (hd : (x == ("__debug__" : Str)) = false := by decide) :
    wpAny M A (eval (.Name x pos) env) Q E s := by
  have := List.all_eq_true.mp (btab_ok w.params) _ (lookup_mem e)
  simp only [Bool.and_eq_true, beq_iff_eq, bne_iff_ne] at this
  exact bnC W C this.1.1 this.1.2 h this.2 hk hx hg hb hd
theorem gmT {x cc f : Addr} {fs : Binds} {name : Str} {pl : Sem Bool} {Q : Value × List Value → Shared → Prop} (X : Cx h₀ L s.heap l n) (W : Wd w h₀) (I : Inst h₀ x cc fs)
    (ok : mtab.lookup (cc, name) = some f) (hv : fs.lookup name = none) (h : Q (.ref f, [.ref x]) s) :
    wpAny (model PySem.Challenge.pw_pq0072_01 w) A (getMethod (.ref x) name pl) Q E s := gmC W X I (List.all_eq_true.mp (mtab_ok w.params) _ (lookup_mem ok)) hv h
theorem gfT {x cc : Addr} {fs : Binds} {name : Str} {v : Value} {expr : Bool} {Q : Value → Shared → Prop} (X : Cx h₀ L s.heap l n) (W : Wd w h₀) (I : Inst h₀ x cc fs)
    (ok : atab.contains (cc, name) = true) (hv : fs.lookup name = some v) (h : Q v { s with toks := s.toks + 1 }) (hh : handedIn v = true := by rfl) :
    wpAny (model PySem.Challenge.pw_pq0072_01 w) A (getAttr (.ref x) name expr) Q E s := gfC W X I (List.all_eq_true.mp (atab_ok w.params) _ (List.contains_iff_mem.mp ok)) hv h hh
theorem callKR {env : Env} {pos : Pos} {f : Value} {first : List Value} {e : PySem.Expr} {rest : List PySem.Expr} {Q : Value → Shared → Prop} (W : Wd w h₀) (hk : keepIn (K w.params) f = true)
    (h : wpAny (model PySem.Challenge.pw_pq0072_01 w) A (spliced (backTo pos (starEach (e :: rest) env))) (fun vs s₁ => Kp h₀ s₁.heap ∧ wpAny (model PySem.Challenge.pw_pq0072_01 w) A (call f (first ++ vs)) Q E s₁) E s)
    (he : starEach (e :: rest) env = (false, eval e env) :: starEach rest env := by rfl) (hplain : (backTo pos (starEach rest env)).any (·.1) = false := by rfl) :
    wpAny (model PySem.Challenge.pw_pq0072_01 w) A (callWith pos f first (backTo pos (starEach (e :: rest) env)) []) Q E s :=
  callWith_K W.k hk (wpAny_mono h (fun _ _ ⟨k, h⟩ => ⟨W.k.keeps k, h⟩) fun _ _ e => e) he hplain
theorem callK0 {env : Env} {pos : Pos} {f : Value} {first : List Value} {Q : Value → Shared → Prop} (W : Wd w h₀) (k : Kp h₀ s.heap) (hk : keepIn (K w.params) f = true)
    (h : wpAny (model PySem.Challenge.pw_pq0072_01 w) A (call f (first ++ [])) Q E s) :
    wpAny (model PySem.Challenge.pw_pq0072_01 w) A (callWith pos f first (backTo pos (starEach [] env)) []) Q E s := callWith_K0 (W.k.keeps k) hk h
theorem callT {pos : Pos} {f : Addr} {first : List Value} {e : PySem.Expr} {rest : List PySem.Expr} {Q : Value → Shared → Prop} (W : Wd w h₀) (hk : ktab.contains f = true)
    (h : wpAny (model PySem.Challenge.pw_pq0072_01 w) A (spliced (backTo pos (starEach (e :: rest) env))) (fun vs s₁ => Kp h₀ s₁.heap ∧ wpAny (model PySem.Challenge.pw_pq0072_01 w) A (call (.ref f) (first ++ vs)) Q E s₁) E s)
    (he : starEach (e :: rest) env = (false, eval e env) :: starEach rest env := by rfl) (hplain : (backTo pos (starEach rest env)).any (·.1) = false := by rfl) :
    wpAny (model PySem.Challenge.pw_pq0072_01 w) A (callWith pos (.ref f) first (backTo pos (starEach (e :: rest) env)) []) Q E s :=
  callKR W (List.all_eq_true.mp (ktab_ok w.params) _ (List.contains_iff_mem.mp hk)) h he hplain
theorem callT0 {pos : Pos} {f : Addr} {first : List Value} {Q : Value → Shared → Prop} (C : Cx h₀ L s.heap l n) (W : Wd w h₀) (hk : ktab.contains f = true)
    (h : wpAny (model PySem.Challenge.pw_pq0072_01 w) A (call (.ref f) (first ++ [])) Q E s) :
    wpAny (model PySem.Challenge.pw_pq0072_01 w) A (callWith pos (.ref f) first (backTo pos (starEach [] env)) []) Q E s := callK0 W C.keep (List.all_eq_true.mp (ktab_ok w.params) _ (List.contains_iff_mem.mp hk)) h
end
section
variable {h₀ : Heap} {L : Addr} {s : Shared} {l : Binds} {n : Ents}
theorem ldK2 {env : Env} {M : Model} {x : Str} {pos : Pos} {v : Value} {c : Addr} {o : Obj} {Q : Value → Shared → Prop} (hc : env.cells.lookup x = some c) (C : Cx h₀ L s.heap l n) (e : n.lookup c = some o) (ho : o.data = .cell (some v)) (h : Q v s)
    (hk : env.scope.kind = .function := by rfl) (hl : env.kindOf x = some .cell := by rfl) (hd : (x == ("__debug__" : Str)) = false := by decide) :
    wpAny M A (eval (.Name x pos) env) Q E s := ldK (C.lk e) ho h hc hk hl hd
end
end T0
set_option bootstrap.genMatcherCode true
set_option compiler.extract_closed false
set_option hygiene false
local macro_rules | `(tactic| walk_at "getAttr ref") => `(tactic| with_unfolding_all (refine gfT (by assumption) (by assumption) (by with_reducible assumption) rfl rfl ?_))
local macro_rules | `(tactic| walk_at "eval Name") => `(tactic| with_unfolding_all (first | refine ldC (by assumption) rfl ?_ | refine gnT (by assumption) (by assumption) rfl ?_ | refine bnT (by assumption) (by assumption) rfl ?_ | refine ldK2 rfl (by assumption) (by with_reducible assumption) (by with_reducible assumption) ?_))
local macro_rules | `(tactic| walk_at "eval Attribute Name") => `(tactic| refine Attribute_any_ ?_)
local macro_rules | `(tactic| walk_at "m names") => `(tactic| repeat (first | exact List.forall_mem_nil _ | refine List.forall_mem_cons.mpr ⟨rfl, ?_⟩))
local macro_rules | `(tactic| walk_at "m ne") => `(tactic| first | with_reducible assumption | exact Ne.symm (by with_reducible assumption) | exact New.ne (by with_reducible assumption) _ _ (by walk_at "m look") | exact Ne.symm (New.ne (by with_reducible assumption) _ _ (by walk_at "m look")))
local macro_rules | `(tactic| walk_at "m look") => `(tactic| first | with_reducible assumption | with_reducible exact lookup_put_self (by walk_at "m look") | with_reducible exact lookup_put_ne (by walk_at "m look") (by walk_at "m ne") | exact New.self (by with_reducible assumption) | exact New.le (by with_reducible assumption) _ _ (by walk_at "m look"))
local macro_rules | `(tactic| walk_at "m at") => `(tactic| first | with_reducible assumption | exact Cx.keep (by assumption) _ _ (by with_reducible assumption) | exact Cx.lk (by assumption) (by walk_at "m look"))
local macro_rules | `(tactic| walk_at "getMethod ref") => `(tactic| first | with_unfolding_all (refine gmT (by assumption) (by assumption) (by with_reducible assumption) rfl rfl ?_) | refine gm_list (by walk_at "m at") F.slot_list_append F.type_list_append ?_ | refine gm_list (by walk_at "m at") F.slot_list_extend F.type_list_extend ?_ | refine gm_list (by walk_at "m at") F.slot_list_pop F.type_list_pop ?_)
local macro_rules | `(tactic| walk_at "m sz") => `(tactic| first | assumption | exact ell | exact ll | omega | (simp only [Array.size_push, Array.size_append, List.size_toArray, List.length_map, List.length_cons, List.length_nil, List.length_append, sizeLine_eq] at *; omega))
local macro_rules | `(tactic| walk_at "newList") => `(tactic| (refine newListR (by assumption) ?sz ?_; (case sz => walk_at "m sz"); intro _ _ _ _ _))
local macro_rules | `(tactic| walk_at "newTuple") => `(tactic| (refine newTupleR (by assumption) ?sz ?_; (case sz => walk_at "m sz"); intro _ _ _ _ _))
local macro_rules | `(tactic| walk_at "call builtin:len") => `(tactic| (refine lenL (by walk_at "m at") ?sz ?_; (case sz => walk_at "m sz"); intro _ _))
local macro_rules | `(tactic| walk_at "call builtin:list.append") => `(tactic| (refine appendR (by assumption) (by walk_at "m look") ?sz ?_; (case sz => walk_at "m sz"); intro _ _ _))
local macro_rules | `(tactic| walk_at "call builtin:list.extend") => `(tactic| (refine extendR (by assumption) (by walk_at "m look") (by walk_at "m at") ?sz ?_; (case sz => walk_at "m sz"); intro _ _ _))
local macro_rules | `(tactic| walk_at "storeName") => `(tactic| (refine stC (by assumption) ?_; intro _ _))
local macro_rules | `(tactic| walk_at "And") => `(tactic| refine ⟨by exact Cx.keep (by assumption), ?_⟩)
local macro_rules | `(tactic| walk_at "setItem") => `(tactic| (refine setItemR (by assumption) (by walk_at "m look") ?j ?sz ?_; (case j => walk_at "m sz"); (case sz => walk_at "m sz"); intro _ _ _))
local macro_rules | `(tactic| walk_at "subscriptTail") => `(tactic| first | refine itemO (by walk_at "m at") (by with_reducible assumption) (by omega) ?_ | refine itemT (by walk_at "m at") (by with_reducible assumption) (by omega) ?_ | (refine sliceT (by assumption) (by walk_at "m at") (by walk_at "m at") (by omega) ?ha ?hb ?_; (case ha => walk_at "m sz"); (case hb => walk_at "m sz"); intro _ _ _ _ _))
local macro_rules | `(tactic| walk_at "call type:range") => `(tactic| (refine rangeR (by assumption) ?_; intro _ _ _ _ _ _ _))
local macro_rules | `(tactic| walk_at "callWith") => `(tactic| first | with_reducible refine PyProof.Rows.callWith_method0 ?_ | ((with_reducible show wpAny _ _ (callWith _ (Value.type _) _ _ _) _ _ _); with_unfolding_all refine PyProof.Rows.callWith_type1 ?_) | ((with_reducible show wpAny _ _ (callWith _ (Value.builtin _) [] _ _) _ _ _); with_unfolding_all refine PyProof.Rows.callWith_builtin1 ?_) | ((with_reducible show wpAny _ _ (callWith _ (Value.builtin _) [_] _ _) _ _ _); with_unfolding_all refine PyProof.Rows.callWith_method1 ?_))
local macro_rules | `(tactic| walk_at "eval Call") => `(tactic| with_unfolding_all refine Call_ ?_)
local macro_rules | `(tactic| walk_at "eval Call Attribute") => `(tactic| with_unfolding_all refine MethodCall_ ?_)
local macro_rules | `(tactic| walk_at "spliced") => `(tactic| with_unfolding_all first | refine args_cons ?_ | (refine args_nil ?_; try simp only [List.cons_append, List.nil_append]))
local macro_rules | `(tactic| walk_at "eval Slice") => `(tactic| (refine evSlice (by assumption) ?_; intro _ _ _ _ _ _ _))
local macro_rules | `(tactic| walk_at "call type:tuple") => `(tactic| (refine tupleR (by assumption) (by walk_at "m at") ?sz ?_; (case sz => walk_at "m sz"); intro _ _ _ _ _))
local macro_rules | `(tactic| walk_at "binaryOp Add ref ref") => `(tactic| (refine addT (by assumption) (by walk_at "m look") (by walk_at "m at") ?sz ?_; (case sz => walk_at "m sz"); intro _ _ _ _ _ _ _))
local macro_rules | `(tactic| walk_at "callWith ref") => `(tactic| with_unfolding_all (first | refine callT (by assumption) rfl ?_ | refine callT0 (by assumption) (by assumption) rfl ?_))
set_option bootstrap.genMatcherCode false
section C1
set_option genSizeOf false in
set_option genInjectivity false in
structure Uni where
  (u ab lo me : Addr) (ps : List Nat) (la : List Addr) (lots : List (List Nat))
noncomputable abbrev Uni.fs (σ : Uni) : Binds := [("above", .ref σ.ab), ("lots", .ref σ.lo), ("merged", .ref σ.me)]
noncomputable abbrev Uni.ks (σ : Uni) : List Addr := σ.ab :: σ.lo :: σ.me :: σ.la
noncomputable abbrev Look := Addr → Option Obj
noncomputable def LN (f : Look) (a : Addr) (xs : List Nat) : Prop := ∃ vs ep, f a = some (seqObj "list" vs ep) ∧ Nums vs.toList xs
theorem LN.mono {f g : Look} {a : Addr} {xs : List Nat} (x : LN f a xs) (k : ∀ o, f a = some o → g a = some o) : LN g a xs := let ⟨vs, ep, e, h⟩ := x; ⟨vs, ep, k _ e, h⟩
structure Uni.On (σ : Uni) (f : Look) : Prop where
  ab : LN f σ.ab σ.ps
  lo : ∃ ep, f σ.lo = some (seqObj "list" (σ.la.map Value.ref).toArray ep)
  me : ∃ vs ep, f σ.me = some (seqObj "list" vs ep) ∧ vs.size + (roots σ.ps).length ≤ σ.ps.length
  lt : Pw (LN f) σ.la σ.lots
theorem Uni.On.mono {σ : Uni} {f g : Look} (R : σ.On f) (k : ∀ a ∈ σ.ks, ∀ o, f a = some o → g a = some o) : σ.On g := by
  obtain ⟨h1, ⟨ep, h2⟩, ⟨vs, ep', h3, h3'⟩, h4⟩ := R
  refine ⟨h1.mono (k _ (by walk_at "m sm")), ⟨ep, k _ (by walk_at "m sm") _ h2⟩, ⟨vs, ep', k _ (by walk_at "m sm") _ h3, h3'⟩, ?_⟩
  have k' : ∀ a ∈ σ.la, ∀ o, f a = some o → g a = some o := fun a ha => k a (by simp [ha])
  clear h1 h2 h3 k
  generalize σ.la = la at h4 k'
  generalize σ.lots = lots at h4
  induction h4 with
  | nil => exact .nil
  | cons h _ ih => exact .cons (h.mono (k' _ (.head _))) (ih fun a ha => k' a (.tail _ ha))
structure Uni.Ok (σ : Uni) : Prop where
  le : Falls σ.ps
  sz : σ.ps.length ≤ 20
  nd : σ.ks.Nodup
  len : σ.lots.length = σ.ps.length
  mem : ∀ (r : Nat) xs, σ.lots[r]? = some xs → σ.ps.getD r r = r → xs.Nodup ∧ ∀ x, x ∈ xs ↔ x < σ.ps.length ∧ root σ.ps x = r
section
variable {w : World} {A : Around} {E : Value → Shared → Prop} {s : Shared}
set_option maxHeartbeats 1000000 in
theorem find_ok {σ : Uni} {a : Nat} {t : Tok} {Q : Value → Shared → Prop} (W : Wd w s.heap) (I : Inst s.heap σ.u 350 σ.fs) (U : σ.On s.heap.get?) (O : σ.Ok) (ha : a < σ.ps.length) (hroom : A.depth < recursionLimit)
    (post : ∀ s' t', Ext s s' → Q (.int (root σ.ps a) t') s') :
    wpAny (model PySem.Challenge.pw_pq0072_01 w) A (call (.ref 307) [.ref σ.u, .int (a : Int) t]) Q E s := by
  refine elEEA U.ab fun vs ep hl hi => ?_
  have hsz := O.sz
  refine enterC (n := []) W (Own.nil _) (x := mth 12 3) rfl k_307 c_307 hroom (binds := [("self", .ref σ.u), ("a", .int a t)]) rfl (locs rfl) (by decide) fun L h₁ W' C => ?_
  change Cx s.heap L h₁ [("a", .int a t), ("self", .ref σ.u)] [] at C
  change Wd w s.heap at W'
  refine wpAny_execs_cons ?_
  refine whileG (fun n l n' => ∃ t', l = ([("a", .int (n : Nat) t'), ("self", .ref σ.u)] : Binds) ∧ n' = [] ∧ root σ.ps n = root σ.ps a ∧ n < σ.ps.length) a Up.mk C ⟨t, rfl, rfl, rfl, ha⟩ ?_
  rintro n l n' ⟨t', rfl, rfl, hr, hb⟩ h d tk C'
  have hg : σ.ps[n]? = some (σ.ps.getD n n) := by simp [List.getD, hb]
  refine elEAE (hi.get hg) fun _ hx t1 Xx1 => ?_
  obtain rfl := Xx1
  have hle := O.le n hb
  have up := Nat.lt_of_le_of_lt hle hb
  have hl' : h.IsList σ.ab vs.toList.toArray := by simpa using isList_obj (C'.keep _ _ hl)
  iterate 6 walk1
  refine itemR hl' hx (by exact tlt) ?_
  iterate 4 walk1
  · rename_i hne
    iterate 2 walk1
    iterate 5 walk1
    refine itemR hl' hx (by exact tlt) ?_
    walk1
    rename_i h2 C2
    refine wpAny_execs_nil ⟨.inl rfl, Up.mk, σ.ps.getD n n, _, _, ?_, C2.names (by walk_at "m names"), _, rfl, rfl, ?_, up⟩
    · exact om118 hle hne
    · rw [← hr, root_eq σ.ps n, if_pos (by exact om118 hle hne)]
  · rename_i hne
    have e : σ.ps.getD n n = n := by exact cst
    iterate 3 walk1
    have : root σ.ps a = n := hr.symm.trans (root_self e)
    rw [← this] at C' ⊢
    exact post _ _ (Ext.mk C'.keep)
end
end C1
section C2
section
variable {w : World} {A : Around} {E : Value → Shared → Prop} {s : Shared}
theorem usize_ok {σ : Uni} {Q : Value → Shared → Prop} (W : Wd w s.heap) (I : Inst s.heap σ.u 350 σ.fs) (U : σ.On s.heap.get?) (O : σ.Ok) (hroom : A.depth < recursionLimit)
    (post : ∀ s' t', Ext s s' → Q (.int (σ.ps.length : Nat) t') s') :
    wpAny (model PySem.Challenge.pw_pq0072_01 w) A (call (.ref 300) [.ref σ.u]) Q E s := by
  refine elEEA U.ab fun vs ep hl hi => ?_
  refine enterC (n := []) W (Own.nil _) (x := mth 12 2) rfl k_300 c_300 hroom (binds := [("self", .ref σ.u)]) rfl (locs rfl) (by decide) fun L h₁ W' C => ?_
  change Cx s.heap L h₁ [("self", .ref σ.u)] [] at C
  change Wd w s.heap at W'
  iterate 10 walk1
  refine call_len_list (isList_obj (C.keep _ _ hl)) (by have := hi.length; have := O.sz; simp at *; omega) ?_
  have : vs.size = σ.ps.length := by simpa using hi.length
  rw [this]
  exact post _ _ (Ext.mk C.keep)
noncomputable abbrev Uni.made (σ : Uni) (a : Addr) : Uni := { σ with ps := σ.ps ++ [σ.ps.length], la := σ.la ++ [a], lots := σ.lots ++ [[σ.ps.length]] }
theorem umake_ok {σ : Uni} {Q : Value → Shared → Prop} {B : Heap} {n : Ents} (W : Wd w B) (Ow : Own B s.heap n) (I : Inst B σ.u 350 σ.fs) (U : σ.On (n.lookup ·)) (O : σ.Ok) (hroom : A.depth < recursionLimit) (h20 : σ.ps.length < 20)
    (post : ∀ a t' s' n', Mut s.heap n s'.heap n' σ.ks → Up s s' → (σ.made a).On (n'.lookup ·) → (σ.made a).Ok → (∀ b p, n.lookup b = some p → b ≠ a) → Q (.int (σ.ps.length : Nat) t') s') :
    wpAny (model PySem.Challenge.pw_pq0072_01 w) A (call (.ref 293) [.ref σ.u]) Q E s := by
  obtain ⟨⟨vs, ep, hl, hi⟩, ⟨ep2, hlo⟩, ⟨ms, ep3, hme, hms⟩, hlt⟩ := U
  have hla := hlt.length
  refine enterC (n := n) W Ow (x := mth 12 1) rfl k_293 c_293 hroom (binds := [("self", .ref σ.u)]) rfl (locs rfl) (by decide) fun L h₁ W' C => ?_
  change Cx (bar s.heap n) L h₁ [("self", .ref σ.u)] n at C
  replace I := I.keeps Ow.bar
  have hv : vs.size = σ.ps.length := by simpa using hi.length
  have hsz := O.sz
  have hlen := O.len
  have nd := O.nd
  simp only [Uni.ks, List.nodup_cons, List.mem_cons, not_or] at nd
  have ne1 : σ.lo ≠ σ.ab := Ne.symm nd.1.1
  have ne2 : σ.me ≠ σ.ab := Ne.symm nd.1.2.1
  have ne3 : σ.me ≠ σ.lo := Ne.symm nd.2.1.1
  repeat walk1
  rename_i t1 tk1 h1 ep4 C1 t2 tk2 a n2 h2 C2 N2 h3 ep5 C3 t3 tk3
  have e : ((vs.push (Value.int (↑vs.size) t1)).size : Int) - 1 = (σ.ps.length : Nat) := by simp [hv]
  rw [e]
  have hla' : σ.la.length = σ.ps.length := by exact om127 hla hv hlen
  have D : ∀ b ∈ σ.la, b ≠ a ∧ b ≠ σ.ab ∧ b ≠ σ.lo ∧ ∃ o, n.lookup b = some o := fun b hb => by
    have hb1 : b ≠ σ.ab := fun q => nd.1.2.2 (q ▸ hb)
    refine elEAEEA (hlt.mem1 hb) fun xs _ vs' ep' e' _ => ?_
    exact ⟨N2.ne _ _ (lookup_put_ne e' hb1), hb1, fun q => nd.2.1.2 (q ▸ hb), _, e'⟩
  have na : σ.ab ≠ a ∧ σ.lo ≠ a ∧ σ.me ≠ a := ⟨N2.ne _ _ (by walk_at "m look"), N2.ne _ _ (by walk_at "m look"), N2.ne _ _ (by walk_at "m look")⟩
  refine post a _ _ _ (C3.mut fun b o hb e => ?_) Up.mk ⟨?_, ?_, ?_, ?_⟩ ⟨?_, ?_, ?_, ?_, ?_⟩ (fun b p e => (Classical.em (b = σ.ab)).elim (fun q => q ▸ na.1) fun q => N2.ne _ _ (lookup_put_ne e q))
  · have := O.nd
    simp only [Uni.ks, List.mem_cons, not_or] at hb
    exact lookup_put_ne (N2.le _ _ (lookup_put_ne e hb.1)) hb.2.1
  · exact ⟨_, _, lookup_put_ne (N2.le _ _ (lookup_put_self hl)) (Ne.symm ne1), by rw [Array.toList_push]; exact hi.app (hv ▸ Nums.one _ _)⟩
  · exact ⟨ep5, (lookup_put_self (N2.le _ _ (lookup_put_ne hlo ne1))).trans (by walk_at "m sm")⟩
  · refine ⟨ms, ep3, lookup_put_ne (N2.le _ _ (lookup_put_ne hme ne2)) ne3, ?_⟩
    rw [roots_app, List.length_append, List.length_append]
    simp only [List.length_singleton]; exact om242 hms hv e
  · refine Pw.app ?_ (.cons ⟨_, _, lookup_put_ne N2.self (Ne.symm na.2.1), ?_⟩ .nil)
    · have : ∀ {la : List Addr} {lots : List (List Nat)}, Pw (LN fun x => n.lookup x) la lots → (∀ b ∈ la, b ≠ a ∧ b ≠ σ.ab ∧ b ≠ σ.lo ∧ ∃ o, n.lookup b = some o) →
          Pw (LN fun x => (put n2 σ.lo (seqObj "list" ((List.map Value.ref σ.la).toArray.push (.ref a)) ep5)).lookup x) la lots := fun h => by
        induction h with
        | nil => exact fun _ => .nil
        | cons h _ ih => exact fun D => .cons (h.mono fun o e => lookup_put_ne (N2.le _ _ (lookup_put_ne e (D _ (.head _)).2.1)) (D _ (.head _)).2.2.1) (ih fun b hb => D b (.tail _ hb))
      exact this hlt D
    · have := Nums.one σ.ps.length t2
      rwa [show (List.map Value.ref σ.la).toArray.size = σ.ps.length by simp [hla']]
  · exact falls_app O.le
  · rw [List.length_append]; simp only [List.length_singleton]; exact tl1
  · simp only [Uni.ks, List.nodup_cons, List.mem_cons, List.mem_append, List.not_mem_nil, or_false, not_or, List.nodup_append]
    exact ⟨⟨nd.1.1, nd.1.2.1, nd.1.2.2, na.1⟩, ⟨nd.2.1.1, nd.2.1.2, na.2.1⟩, ⟨nd.2.2.1, na.2.2⟩, nd.2.2.2, ⟨fun q => q, .nil⟩, fun b hb c hc => by rw [hc]; exact (D b hb).1⟩
  · rw [List.length_append, List.length_append, hlen]; rfl
  · intro r xs hr hrr
    dsimp only at hr hrr
    by_cases h : r < σ.ps.length
    · rw [List.getElem?_append_left (by exact om231 hv hlen e h)] at hr
      rw [getD_app h] at hrr
      refine elA (O.mem r xs hr hrr) fun m1 m2 => ?_
      refine ⟨m1, fun x => ?_⟩
      rw [m2, List.length_append, List.length_singleton]
      constructor
      · rintro ⟨h1, h2⟩; exact ⟨by exact s_, by rw [root_app O.le h1]; exact h2⟩
      · rintro ⟨h1, h2⟩
        by_cases hx : x < σ.ps.length
        · rw [root_app O.le hx] at h2; exact ⟨hx, h2⟩
        · obtain rfl : x = σ.ps.length := by exact om234 hv e h1 hx
          rw [root_last] at h2; exact om239 hv e h h2
    · have hr2 : r = σ.ps.length := by
        have := (List.getElem?_eq_some_iff.mp hr).1
        rw [List.length_append, List.length_singleton] at this; exact om244 hv hlen e h this
      subst hr2
      rw [← hlen, List.getElem?_append_right (Nat.le_refl _)] at hr
      simp at hr
      subst hr
      refine ⟨by walk_at "m sm", fun x => ?_⟩
      rw [List.mem_singleton, List.length_append, List.length_singleton]
      constructor
      · intro q; rw [q, hlen]; exact ⟨by exact om1, root_last⟩
      · rintro ⟨h1, h2⟩
        by_cases hx : x < σ.ps.length
        · rw [root_app O.le hx] at h2; have := root_lt (ps := σ.ps) hx; exact om247 hv e hrr h2 this
        · exact om260 hv hlen e hrr h1 h2 hx
end
end C2
set_option bootstrap.genMatcherCode true
set_option compiler.extract_closed false
set_option hygiene true
local macro_rules | `(tactic| walk_at "m wd") => `(tactic| exact Wd.keeps (by assumption) (Cx.keep (by assumption)))
local macro_rules | `(tactic| walk_at "m inst") => `(tactic| exact Inst.keeps (Cx.keep (by assumption)) (by assumption))
local macro_rules | `(tactic| walk_at "m on") => `(tactic| first | exact Uni.On.mono (by assumption) fun _ _ _ e => Cx.lk (by assumption) e | exact Uni.On.mono (by assumption) fun _ _ _ e => Cx.keep (by assumption) _ _ e)
local macro_rules | `(tactic| walk_at "m back") => `(tactic| (intro _ _ X; obtain ⟨_, _, _, E, X⟩ := X; subst E; have := Cx.grow (by assumption) X))
local macro_rules | `(tactic| walk_at "m room") => `(tactic| (simp only [Around.deeper] at *; omega))
local macro_rules | `(tactic| walk_at "m find") => `(tactic| (refine find_ok (by walk_at "m wd") (by walk_at "m inst") (by walk_at "m on") (by assumption) (by assumption) ?room ?_; (case room => walk_at "m room"); walk_at "m back"))
local macro_rules | `(tactic| walk_at "call ref") => `(tactic| walk_at "m find")
set_option bootstrap.genMatcherCode false
section C3
noncomputable abbrev Uni.joined (σ : Uni) (k g : Nat) : Uni := { σ with ps := σ.ps.set g k, lots := σ.lots.set k (σ.lots.getD k [] ++ σ.lots.getD g []) }
theorem lot_len {xs : List Nat} {N : Nat} {p : Nat → Prop} (h : xs.Nodup ∧ ∀ x, x ∈ xs ↔ x < N ∧ p x) : xs.length ≤ N := by
  exact nodup_len N xs h.1 fun x hx => ((h.2 x).mp hx).1
theorem two_in {x a b : Nat} (h : x ∈ [a, b]) : x = a ∨ x = b := (List.mem_cons.mp h).elim .inl fun h => .inr (List.mem_singleton.mp h)
theorem two_sorted {ys : List Nat} {a b : Nat} (p : ys.Perm [a, b]) (s : ys.Pairwise (· ≤ ·)) : ∃ k g, k ≤ g ∧ ys = [k, g] ∧ (k = a ∧ g = b ∨ k = b ∧ g = a) := by
  have hl := p.length_eq
  match ys, hl with
  | [k, g], _ =>
    refine ⟨k, g, ?_, rfl, ?_⟩
    · simpa using s
    · have hk : k ∈ [a, b] := p.subset (.head _)
      have hg : g ∈ [a, b] := p.subset (.tail _ (.head _))
      have ha : a ∈ [k, g] := p.symm.subset (.head _)
      have hb : b ∈ [k, g] := p.symm.subset (.tail _ (.head _))
      rcases two_in hk with rfl | rfl
      · rcases two_in hg with rfl | rfl
        · exact .inl ⟨rfl, (two_in hb).elim Eq.symm Eq.symm⟩
        · exact .inl ⟨rfl, rfl⟩
      · rcases two_in hg with rfl | rfl
        · exact .inr ⟨rfl, rfl⟩
        · exact .inr ⟨rfl, (two_in ha).elim Eq.symm Eq.symm⟩
section
variable {w : World} {A : Around} {E : Value → Shared → Prop} {s : Shared}
local macro_rules | `(tactic| walk_at "call builtin:sorted") => `(tactic| (refine sortedR (by assumption) (by walk_at "m at") (by exact .cons ⟨_, rfl⟩ (.cons ⟨_, rfl⟩ .nil)) (by exact Nat.lt_of_sub_eq_succ rfl) ?_; intro _ _ _ _ _ _ _ _ _ _ _))
set_option maxHeartbeats 1000000 in
theorem umerge_ok {σ : Uni} {a b : Nat} {t u : Tok} {Q : Value → Shared → Prop} {B : Heap} {n : Ents} (W : Wd w B) (Ow : Own B s.heap n) (I : Inst B σ.u 350 σ.fs) (U : σ.On (n.lookup ·)) (O : σ.Ok) (ha : a < σ.ps.length) (hb : b < σ.ps.length) (hroom : A.depth + 10 < recursionLimit) (hh : A.handled = none)
    (same : root σ.ps a = root σ.ps b → ∀ s' n', Mut s.heap n s'.heap n' σ.ks → Up s s' → σ.On (n'.lookup ·) → Q .none s')
    (diff : ∀ k g T t1 t2 s' n', k < g → (k = root σ.ps a ∧ g = root σ.ps b ∨ k = root σ.ps b ∧ g = root σ.ps a) → Mut s.heap n s'.heap n' σ.ks → Up s s' → (σ.joined k g).On (n'.lookup ·) → (σ.joined k g).Ok →
      s'.heap.get? T = some (seqObj "tuple" #[.int (k : Nat) t1, .int (g : Nat) t2] 0) → Q (.ref T) s') :
    wpAny (model PySem.Challenge.pw_pq0072_01 w) A (call (.ref 314) [.ref σ.u, .int (a : Nat) t, .int (b : Nat) u]) Q E s := by
  have U0 := U
  obtain ⟨⟨vs, ep, hl, hi⟩, ⟨ep2, hlo⟩, ⟨ms, ep3, hme, hms⟩, hlt⟩ := U
  have hla := hlt.length
  refine enterC (n := n) W Ow (x := mth 12 4) rfl k_314 c_314 (by exact rm0) (binds := [("self", .ref σ.u), ("a", .int a t), ("b", .int b u)]) rfl (locs rfl) (by decide) fun L h₁ W' C => ?_
  change Cx (bar s.heap n) L h₁ [("b", .int b u), ("a", .int a t), ("self", .ref σ.u)] n at C
  replace I := I.keeps Ow.bar
  have hv : vs.size = σ.ps.length := by simpa using hi.length
  have hsz := O.sz
  have hlen := O.len
  have nd := O.nd
  simp only [Uni.ks, List.nodup_cons, List.mem_cons, not_or] at nd
  have ne1 : σ.lo ≠ σ.ab := Ne.symm nd.1.1
  have ne2 : σ.me ≠ σ.ab := Ne.symm nd.1.2.1
  have ne3 : σ.me ≠ σ.lo := Ne.symm nd.2.1.1
  repeat walk1
  rename_i D vs' ys e n3 h3 C3 N3 hN hp hs
  refine elEEAA (two_sorted hp hs) fun k g hkg Xx1 hor => ?_
  obtain rfl := Xx1
  obtain ⟨t1, t2, rfl⟩ : ∃ t1 t2, vs' = [.int (k : Nat) t1, .int (g : Nat) t2] := by
    cases hN with | cons h1 r => cases r with | cons h2 r => cases r with | nil => obtain ⟨t1, rfl⟩ := h1; obtain ⟨t2, rfl⟩ := h2; exact ⟨_, _, rfl⟩
  refine unpack2L C3 (by exact C3.lk N3.self) hh fun h' tk C4 => ?_
  have le : ∀ b o, n.lookup b = some o → n3.lookup b = some o := fun b o e => N3.le _ _ (New.le (by assumption) _ _ e)
  repeat walk1
  · rename_i q
    exact same (by exact om220 hor q) _ _ (C4.mut fun _ _ _ e => le _ _ e) Up.mk (U0.mono fun _ _ _ e => le _ _ e)
  · rename_i q
    have hl3 := le _ _ hl
    have hlo3 := le _ _ hlo
    have hme3 := le _ _ hme
    have hkg' : k < g := by exact om118 hkg q
    have hg : g < σ.ps.length := by rcases hor with ⟨_, rfl⟩ | ⟨_, rfl⟩ <;> exact root_lt (by assumption)
    have eg : σ.ps.getD g g = g := by rcases hor with ⟨_, rfl⟩ | ⟨_, rfl⟩ <;> exact root_root O.le (by assumption)
    have ek : σ.ps.getD k k = k := by rcases hor with ⟨rfl, _⟩ | ⟨rfl, _⟩ <;> exact root_root O.le (by assumption)
    obtain ⟨ak, hak⟩ : ∃ x, σ.la[k]? = some x := ⟨_, List.getElem?_eq_getElem (by exact om246 hla hv hlen hkg' hg eg ek)⟩
    obtain ⟨ag, hag⟩ : ∃ x, σ.la[g]? = some x := ⟨_, List.getElem?_eq_getElem (by exact om216 hla hv hlen hg eg)⟩
    refine elEAEEA (hlt.get1 hak) fun lk hlk vk ek' hvk hnk => ?_
    refine elEAEEA (hlt.get1 hag) fun lg hlg vg eg' hvg hng => ?_
    have hvk3 := le _ _ hvk
    have hvg3 := le _ _ hvg
    have hak' : (List.map Value.ref σ.la).toArray[k]? = some (.ref ak) := by simp [hak]
    have hag' : (List.map Value.ref σ.la).toArray[g]? = some (.ref ag) := by simp [hag]
    have mak : ak ∈ σ.la := List.mem_of_getElem? hak
    have mag : ag ∈ σ.la := List.mem_of_getElem? hag
    have ne4 : ak ≠ ag := fun q => by
      have := (List.getElem_inj (h₀ := by exact om246 hla hv hlen hkg' hg eg ek) (h₁ := by exact om216 hla hv hlen hg eg) nd.2.2.2).mp ((List.getElem?_eq_some_iff.mp hak).2.trans (q.trans (List.getElem?_eq_some_iff.mp hag).2.symm))
      exact om154 hkg' eg ek this
    have ne5 : ak ≠ σ.ab := fun q => nd.1.2.2 (q ▸ mak)
    have ne6 : ag ≠ σ.ab := fun q => nd.1.2.2 (q ▸ mag)
    have ne7 : ak ≠ σ.lo := fun q => nd.2.1.2 (q ▸ mak)
    have ne8 : ag ≠ σ.lo := fun q => nd.2.1.2 (q ▸ mag)
    have ne9 : ak ≠ σ.me := fun q => nd.2.2.1 (q ▸ mak)
    have ne10 : ag ≠ σ.me := fun q => nd.2.2.1 (q ▸ mag)
    have sk : vk.size ≤ 20 := by
      have := lot_len (O.mem k lk hlk ek)
      have := hnk.length
      simp at this; omega
    have sg : vg.size ≤ 20 := by
      have := lot_len (O.mem g lg hlg eg)
      have := hng.length
      simp at this; omega
    repeat walk1
    refine diff k g _ t1 t2 _ _ hkg' hor (Cx.mut (by assumption) fun b o hb e => ?_) Up.mk ⟨⟨_, _, by walk_at "m look", ?_⟩, ⟨_, by walk_at "m look"⟩, ⟨_, _, by walk_at "m look", ?_⟩, ?_⟩ ⟨falls_set O.le hkg', by rw [List.length_set]; exact hsz, O.nd, by rw [List.length_set, List.length_set]; exact hlen, lots_set O.le hlen O.mem hkg' hg ek eg⟩ (by walk_at "m at")
    · have e3 := le _ _ e
      have hb1 : b ≠ σ.ab := fun q => hb (by simp [q])
      have hb2 : b ≠ ak := fun q => hb (by simp [q, mak])
      have hb3 : b ≠ σ.me := fun q => hb (by simp [q])
      walk_at "m look"
    · rw [Array.toList_setIfInBounds]; exact hi.set ⟨t1, rfl⟩
    · have := (roots_set O.le hkg' hg eg).1
      show (ms.push _).size + (roots (σ.ps.set g k)).length ≤ (σ.ps.set g k).length
      rw [Array.size_push, List.length_set]; exact om211 hms hv this
    · refine Pw.of_get (by rw [List.length_set]; exact hla) fun i x xs hx hxs => ?_
      rw [List.getElem?_set] at hxs
      by_cases hik : k = i
      · subst hik
        obtain rfl : ak = x := Option.some.inj (hak.symm.trans hx)
        rw [if_pos rfl, if_pos (by exact om237 hv hlen hkg' hg eg ek)] at hxs
        obtain rfl := Option.some.inj hxs
        refine ⟨_, _, by walk_at "m look", ?_⟩
        rw [Array.toList_append]
        refine Pw.app ?_ ?_
        · simpa [List.getD, hlk] using hnk
        · simpa [List.getD, hlg] using hng
      · rw [if_neg hik] at hxs
        have mx : x ∈ σ.la := List.mem_of_getElem? hx
        have hb1 : x ≠ σ.ab := fun q => nd.1.2.2 (q ▸ mx)
        have hb3 : x ≠ σ.me := fun q => nd.2.2.1 (q ▸ mx)
        have hb2 : x ≠ ak := fun q => by
          subst q
          have h1 := (List.getElem?_eq_some_iff.mp hak).1
          have h2 := (List.getElem?_eq_some_iff.mp hx).1
          have := (List.getElem_inj (h₀ := h1) (h₁ := h2) nd.2.2.2).mp ((List.getElem?_eq_some_iff.mp hak).2.trans (List.getElem?_eq_some_iff.mp hx).2.symm)
          exact hik this
        refine elEAEEA (hlt.get1 hx) fun xs' hxs' vx ex hvx hnx => ?_
        obtain rfl : xs' = xs := Option.some.inj (hxs'.symm.trans hxs)
        have := le _ _ hvx
        exact ⟨vx, ex, by walk_at "m look", hnx⟩
end
end C3
section C4
theorem Cx.fresh {h₀ h : Heap} {L : Addr} {l : Binds} {n : Ents} (C : Cx h₀ L h l n) {a : Addr} {o : Obj} (e : n.lookup a = some o) : h₀.get? a = none := (C.nw _ (mem_of_lookup e)).2.2
section
variable {w : World} {A : Around} {E : Value → Shared → Prop} {s : Shared}
set_option maxHeartbeats 1000000 in
theorem umembers_ok {σ : Uni} {a : Nat} {t : Tok} {Q : Value → Shared → Prop} (W : Wd w s.heap) (I : Inst s.heap σ.u 350 σ.fs) (U : σ.On s.heap.get?) (O : σ.Ok) (ha : a < σ.ps.length) (hroom : A.depth + 10 < recursionLimit)
    (post : ∀ D vs xs ep s', Ext s s' → s.heap.get? D = none → s'.heap.get? D = some (seqObj "list" (List.toArray vs) ep) → Nums vs xs → xs.Nodup → (∀ x, x ∈ xs ↔ x < σ.ps.length ∧ root σ.ps x = root σ.ps a) → Q (.ref D) s') :
    wpAny (model PySem.Challenge.pw_pq0072_01 w) A (call (.ref 321) [.ref σ.u, .int (a : Nat) t]) Q E s := by
  have U0 := U
  obtain ⟨⟨vs, ep, hl, hi⟩, ⟨ep2, hlo⟩, ⟨ms, ep3, hme, hms⟩, hlt⟩ := U
  refine enterC (n := []) W (Own.nil _) (x := mth 12 5) rfl k_321 c_321 (by exact rm0) (binds := [("self", .ref σ.u), ("a", .int a t)]) rfl (locs rfl) (by decide) fun L h₁ W' C => ?_
  change Cx s.heap L h₁ [("a", .int a t), ("self", .ref σ.u)] [] at C
  change Wd w s.heap at W'
  have hla := hlt.length
  have hlen := O.len
  have hsz := O.sz
  have hr := root_lt (ps := σ.ps) ha
  obtain ⟨ak, hak⟩ : ∃ x, σ.la[root σ.ps a]? = some x := ⟨_, List.getElem?_eq_getElem (by exact om129 hla hlen hr)⟩
  refine elEAEEA (hlt.get1 hak) fun lk hlk vk ek' hvk hnk => ?_
  have hak' : (List.map Value.ref σ.la).toArray[root σ.ps a]? = some (.ref ak) := by simp [hak]
  have hm := O.mem _ lk hlk (root_root O.le ha)
  have hlk64 : lk.length < 64 := by have := lot_len hm; exact llt
  repeat walk1
  rename_i C'
  refine sortedR (vs := vk.toList) (ep := ek') (by exact C') (by exact (C'.keep _ _ hvk).trans (by walk_at "m sm")) hnk hlk64 ?_
  intro D vs' ys e n' h' C2 N2 hN hp _
  refine post D vs' ys e _ (Ext.mk C2.keep) (C2.fresh N2.self) (C2.lk N2.self) hN (hp.nodup_iff.mpr hm.1) fun x => ?_
  rw [hp.mem_iff]; exact hm.2 x
end
end C4
section C5
section
variable {w : World} {A : Around} {E : Value → Shared → Prop} {s : Shared}
set_option maxHeartbeats 1000000 in
theorem uclasses_ok {σ : Uni} {Q : Value → Shared → Prop} (W : Wd w s.heap) (I : Inst s.heap σ.u 350 σ.fs) (U : σ.On s.heap.get?) (O : σ.Ok) (hroom : A.depth + 10 < recursionLimit) (hh : A.handled = none)
    (post : ∀ D vs ep s', Ext s s' → s.heap.get? D = none → s'.heap.get? D = some (seqObj "list" vs ep) → Nums vs.toList (roots σ.ps) → Q (.ref D) s') :
    wpAny (model PySem.Challenge.pw_pq0072_01 w) A (call (.ref 326) [.ref σ.u]) Q E s := by
  obtain ⟨⟨vs, ep, hl, hi⟩, -, -, -⟩ := U
  refine enterK (n := []) W (Own.nil _) (x := mth 12 6) rfl k_326 c_326 (by exact rm0) (binds := [("self", .ref σ.u)]) (l := []) rfl ⟨.inr ⟨rfl, rfl⟩, trivial⟩ (by decide) (fun _ h => nomatch h) (fun L h₁ tk cells W' X C => ?_) (fun L => show ([L + 1] : List Addr).Nodup by walk_at "m sm")
  refine elEA X.one fun o Xx1 ho => ?_
  obtain rfl := Xx1
  change o.data = .cell (some (.ref σ.u)) at ho
  change Cx s.heap L h₁ [] [(L + 1, o)] at C
  change Wd w s.heap at W'
  have hc : ([(L + 1, o)] : Ents).lookup (L + 1) = some o := by simp
  have hv : vs.size = σ.ps.length := by simpa using hi.length
  have hsz := O.sz
  repeat walk1
  refine compX (L := L) (h₀ := s.heap) (cl := [(Str.ofString "self", L + 1)]) ?_
  repeat walk1
  rename_i C2 R
  refine ⟨fun i ys n => n = [(L + 1, o)] ∧ Nums ys.toList ((List.range i).filter fun a => σ.ps.getD a a == a), [], _, _, [], [(L + 1, o)], Up.mk, C2, Apart.nil, it_range hh R (by exact elt), by exact elt, ⟨rfl, .nil⟩, ?_, ?_⟩
  · rintro i v ys g Cl n ⟨rfl, hN⟩ h3 d3 tk3 hi' hys ⟨t1, rfl⟩ kg C3
    have Wg := W'.keeps kg
    have Ig := I.keeps kg
    have hlg := kg _ _ hl
    have hiN : i < σ.ps.length := by exact tle
    have hgi : σ.ps[i]? = some (σ.ps.getD i i) := by simp [List.getD, hiN]
    refine elEAE (hi.get hgi) fun _ hx t2 Xx2 => ?_
    obtain rfl := Xx2
    replace hx : vs[i]? = some (.int (σ.ps.getD i i : Nat) t2) := by simpa using hx
    refine wpAny_tests_one ?_
    repeat walk1
    refine Hold.mk ?_
    have hf := filter_succ (fun a => σ.ps.getD a a == a) i
    split
    · rename_i q
      have q : σ.ps.getD i i = i := by have := of_decide_eq_true q; exact cst
      repeat walk1
      refine ⟨Up.mk, _, _, C3.grow (fun _ _ e => e), rfl, ?_⟩
      rw [hf, if_pos (beq_iff_eq.mpr q), Array.toList_push]
      exact hN.app (Nums.one _ _)
    · rename_i q
      have q : σ.ps.getD i i ≠ i := fun z => q (decide_eq_true (by rw [z]))
      refine ⟨Up.mk, _, _, C3.grow (fun _ _ e => e), rfl, ?_⟩
      rw [hf, if_neg (fun z => q (beq_iff_eq.mp z)), List.append_nil]
      exact hN
  · rintro D ys ep' n ⟨rfl, hN⟩ - h3 d3 tk3 K
    have hD : ([(D, seqObj "list" ys ep'), (L + 1, o)] : Ents).lookup D = some (seqObj "list" ys ep') := by simp
    exact post D ys ep' _ (Ext.mk K.keep) (K.fresh hD) (K.lk hD) (by rw [hv] at hN; exact hN)
end
end C5
section C6
set_option genSizeOf false in
set_option genInjectivity false in
structure HS where
  (hp bk : Addr) (U : Uni) (no nu we de : Addr) (ta : List Addr) (nodes : List (Str × List Nat)) (ed fo kn av wa : Addr) (abv : List (Nat × Addr × List Nat)) (wait : List Nat)
noncomputable abbrev HS.fs (σ : HS) : Binds := [("bank", .ref σ.bk), ("unions", .ref σ.U.u), ("edges", .ref σ.ed), ("forest", .ref σ.fo), ("known", .ref σ.kn), ("above", .ref σ.av), ("waiting", .ref σ.wa)]
noncomputable abbrev HS.fb (σ : HS) : Binds := [("nodes", .ref σ.no), ("numbers", .ref σ.nu), ("weights", .ref σ.we), ("depths", .ref σ.de)]
structure HS.Ins (σ : HS) (h : Heap) : Prop where
  hp : Inst h σ.hp 482 σ.fs
  bk : Inst h σ.bk 268 σ.fb
  un : Inst h σ.U.u 350 σ.U.fs
theorem HS.Ins.keeps {σ : HS} {h h' : Heap} (k : Kp h h') (x : σ.Ins h) : σ.Ins h' := ⟨x.hp.keeps k, x.bk.keeps k, x.un.keeps k⟩
noncomputable def NodeAt (f : Look) (a : Addr) (nd : Str × List Nat) : Prop := ∃ t vs ep, f a = some (seqObj "tuple" (Value.str nd.1 t :: vs).toArray ep) ∧ Nums vs nd.2
structure HS.Nodes (σ : HS) (f : Look) : Prop where
  no : ∃ ep, f σ.no = some (seqObj "list" (σ.ta.map Value.ref).toArray ep)
  ta : Pw (NodeAt f) σ.ta σ.nodes
section
variable {w : World} {A : Around} {E : Value → Shared → Prop} {s : Shared}
set_option maxHeartbeats 1000000 in
theorem hfind_ok {σ : HS} {a : Nat} {t : Tok} {Q : Value → Shared → Prop} (W : Wd w s.heap) (I : σ.Ins s.heap) (U : σ.U.On s.heap.get?) (O : σ.U.Ok) (ha : a < σ.U.ps.length) (hroom : A.depth + 10 < recursionLimit)
    (post : ∀ s' t', Ext s s' → Q (.int (root σ.U.ps a : Nat) t') s') :
    wpAny (model PySem.Challenge.pw_pq0072_01 w) A (call (.ref 406) [.ref σ.hp, .int (a : Nat) t]) Q E s := by
  have I1 := I.hp
  have I3 := I.un
  refine enterC (n := []) W (Own.nil _) (x := mth 14 6) rfl k_406 c_406 (by exact rm0) (binds := [("self", .ref σ.hp), ("n", .int a t)]) rfl (locs rfl) (by decide) fun L h₁ W' C => ?_
  change Cx s.heap L h₁ [("n", .int a t), ("self", .ref σ.hp)] [] at C
  change Wd w s.heap at W'
  iterate 12 walk1
  refine find_ok (W.keeps C.keep) (I3.keeps C.keep) (U.mono fun _ _ _ e => C.keep _ _ e) O ha (by show A.depth + 1 < recursionLimit; exact rm1) fun s' t' X => ?_
  exact post _ _ (Ext.trans (Ext.mk C.keep) X)
end
end C6
section C7
section
variable {w : World} {A : Around} {E : Value → Shared → Prop} {s : Shared}
set_option maxHeartbeats 1000000 in
theorem op_ok {σ : HS} {i : Nat} {nd : Str × List Nat} {t : Tok} {Q : Value → Shared → Prop} (W : Wd w s.heap) (I : σ.Ins s.heap) (N : σ.Nodes s.heap.get?) (hi : σ.nodes[i]? = some nd) (h20 : σ.nodes.length ≤ 20) (hroom : A.depth + 10 < recursionLimit)
    (post : ∀ s' t', Ext s s' → Q (.str nd.1 t') s') :
    wpAny (model PySem.Challenge.pw_pq0072_01 w) A (call (.ref 225) [.ref σ.bk, .int (i : Nat) t]) Q E s := by
  have I1 := I.bk
  obtain ⟨⟨ep, hno⟩, hta⟩ := N
  refine elEAEEEA (hta.get hi) fun T hT t0 vs ep2 hTo hN => ?_
  have hiN : i < σ.nodes.length := (List.getElem?_eq_some_iff.mp hi).1
  have hT' : (List.map Value.ref σ.ta).toArray[i]? = some (.ref T) := by simp [hT]
  have h0 : (Value.str nd.1 t0 :: vs).toArray[0]? = some (.str nd.1 t0) := by simp
  refine enterC (n := []) W (Own.nil _) (x := mth 10 7) rfl k_225 c_225 (by exact rm0) (binds := [("self", .ref σ.bk), ("n", .int i t)]) rfl (locs rfl) (by decide) fun L h₁ W' C => ?_
  change Cx s.heap L h₁ [("n", .int i t), ("self", .ref σ.bk)] [] at C
  change Wd w s.heap at W'
  iterate 6 walk1
  walk1
  walk1
  refine itemO (by exact C.keep _ _ hno) hT' (by exact tlt) ?_
  walk1
  refine itemT (k := 0) (by exact C.keep _ _ hTo) h0 (by decide) ?_
  exact post _ _ (Ext.mk C.keep)
end
end C7
section C8
section
variable {w : World} {A : Around} {E : Value → Shared → Prop} {s : Shared}
set_option maxHeartbeats 1000000 in
theorem kids_ok {σ : HS} {i : Nat} {nd : Str × List Nat} {t : Tok} {Q : Value → Shared → Prop} (W : Wd w s.heap) (I : σ.Ins s.heap) (N : σ.Nodes s.heap.get?) (hi : σ.nodes[i]? = some nd) (h20 : σ.nodes.length ≤ 20) (hk : nd.2.length ≤ 4) (hroom : A.depth + 10 < recursionLimit)
    (post : ∀ T vs ep s', Ext s s' → s.heap.get? T = none → s'.heap.get? T = some (seqObj "tuple" (List.toArray vs) ep) → Nums vs nd.2 → Q (.ref T) s') :
    wpAny (model PySem.Challenge.pw_pq0072_01 w) A (call (.ref 232) [.ref σ.bk, .int (i : Nat) t]) Q E s := by
  have I1 := I.bk
  obtain ⟨⟨ep, hno⟩, hta⟩ := N
  refine elEAEEEA (hta.get hi) fun T hT t0 vs ep2 hTo hN => ?_
  have hiN : i < σ.nodes.length := (List.getElem?_eq_some_iff.mp hi).1
  have hT' : (List.map Value.ref σ.ta).toArray[i]? = some (.ref T) := by simp [hT]
  have hv := hN.length
  refine enterC (n := []) W (Own.nil _) (x := mth 10 8) rfl k_232 c_232 (by exact rm0) (binds := [("self", .ref σ.bk), ("n", .int i t)]) rfl (locs rfl) (by decide) fun L h₁ W' C => ?_
  change Cx s.heap L h₁ [("n", .int i t), ("self", .ref σ.bk)] [] at C
  change Wd w s.heap at W'
  iterate 8 walk1
  refine itemO (by exact C.keep _ _ hno) hT' (by exact tlt) ?_
  walk1
  rename_i sl n1 h1 tk u C1 N1
  refine sliceT (a := 1) C1 (by exact C1.keep _ _ hTo) (by exact C1.lk N1.self) (by decide) (by walk_at "m sm") (by rw [sizeLine_eq]; simp; exact ell) fun T' n2 h2 C2 N2 => ?_
  refine post T' vs 0 _ (Ext.mk C2.keep) (C2.fresh N2.self) (by simpa using C2.lk N2.self) hN
end
end C8
section S11
theorem Pw.take {α β : Type} {F : α → β → Prop} {l : List α} (h : ∀ a ∈ l, ∃ b, F a b) : ∃ l₂, Pw F l l₂ := by
  induction l with
  | nil => exact ⟨[], .nil⟩
  | cons a r ih =>
    refine elE (h a (.head _)) fun b hb => ?_
    refine elE (ih fun x hx => h x (.tail _ hx)) fun l₂ p => ?_
    exact ⟨b :: l₂, .cons hb p⟩
section
variable {prog : Program} {w : World} {A : Around} {E : Value → Shared → Prop} {s : Shared}
theorem sortable_ints {vs : List Value} {xs : List Nat} (hx : Nums vs xs) : 2 ≤ vs.length → Sortable prog w A vs s := fun h2 Q hQ => by
  rw [ksk_kind (by simpa using hx.ints) (by simpa using h2)]
  refine wpAny_pure (hQ _ _ ⟨s.toks, rfl⟩ fun i j hi hj s'' k C hC => ?_)
  refine elEAE (hx.get1 (List.getElem?_eq_getElem hi)) fun b1 _ t1 e1 => ?_
  refine elEAE (hx.get1 (List.getElem?_eq_getElem hj)) fun b2 _ t2 e2 => ?_
  have g1 : vs.getD i Value.none = vs[i] := by simp [List.getD, hi]
  have g2 : vs.getD j Value.none = vs[j] := by simp [List.getD, hj]
  rw [g1, g2, e1, e2]
  exact kat_lt_int (hC _ _ k)
theorem katlex_ints {Q : Bool → Shared → Prop} {b fin : Bool} (hQ : ∀ c s', Tk s s' → Q c s') : ∀ {xs ys : List Value} {ns ms : List Nat} (i : Nat), Nums xs ns → Nums ys ms → 0 < i → ∀ s', Tk s s' → KatLex prog w A b fin Q (xs.zip ys) i s' := by
  intro xs ys ns ms i p
  induction p generalizing ys ms i with
  | nil => intro _ _ s' k; exact hQ _ _ k
  | cons h1 r1 ih =>
    intro p2 hi s' k
    cases p2 with
    | nil => exact hQ _ _ k
    | cons h2 r2 =>
    refine elE h1 fun t1 Xx1 => ?_
    obtain rfl := Xx1
    refine elE h2 fun t2 Xx2 => ?_
    obtain rfl := Xx2
    rw [List.zip_cons_cons]
    refine kat_cons (wpAny_eqBool_int (kat_go (fun e => ?_) fun e => ?_))
    · exact kat_yes (ih (i + 1) r2 (by exact s_) s' k)
    · refine kat_no ?_
      have : (b && i == 0) = false := by rw [show (i == 0) = false from by simp; exact om20 hi, Bool.and_false]
      rw [this]
      refine kat_one _ _ (wpAny_lt_int ?_)
      exact hQ _ _ k
theorem sortable_nodes {ts : List Addr} {nds : List (Str × List Nat)} (hn : Pw (NodeAt s.heap.get?) ts nds) : 2 ≤ (ts.map Value.ref).length → Sortable prog w A (ts.map .ref) s := fun h2 Q hQ => by
  have htup : ∃ fs, KatTups s.heap (ts.map .ref) fs ∧ fs.length = ts.length ∧ ∀ v ∈ fs, ∃ x t, v = Value.str x t := by
    clear h2 hQ
    induction hn with
    | nil => exact ⟨[], trivial, rfl, fun _ h => nomatch h⟩
    | cons h _ ih =>
      refine elEEEA h fun t vs ep ho _ => ?_
      refine elEAA ih fun fs a b c => ?_
      refine ⟨_ :: fs, KatTups.cons ho rfl rfl (by simp; rfl) a, by simp [b], fun v hv => ?_⟩
      rcases List.mem_cons.mp hv with rfl | hv
      · exact ⟨_, t, rfl⟩
      · exact c v hv
  refine elEAA htup fun fs ht hl hs => ?_
  refine kat_kind (T := .type "str") ht (by rw [hl]; simp at h2; omega) (fun v hv => ?_) rfl ?_
  · refine elEE (hs v hv) fun x t Xx3 => ?_
    obtain rfl := Xx3
    exact fun A Q E s k q => wpAny_pure q
  · refine hQ _ _ ⟨s.toks, rfl⟩ fun i j hi hj s'' k C hC => ?_
    have hi' : i < ts.length := by simpa using hi
    have hj' : j < ts.length := by simpa using hj
    refine elE k fun tk Xx4 => ?_
    obtain rfl := Xx4
    refine elEAEEEA (hn.get1 (List.getElem?_eq_getElem hi')) fun n1 _ t1 v1 ep1 o1 m1 => ?_
    refine elEAEEEA (hn.get1 (List.getElem?_eq_getElem hj')) fun n2 _ t2 v2 ep2 o2 m2 => ?_
    have g1 : (ts.map Value.ref).getD i Value.none = .ref ts[i] := by simp [List.getD, hi']
    have g2 : (ts.map Value.ref).getD j Value.none = .ref ts[j] := by simp [List.getD, hj']
    rw [g1, g2]
    refine kat_lt (s := { s with toks := tk }) o1 rfl o2 rfl ?_
    show KatLex prog w A _ _ C ((Value.str n1.1 t1, Value.str n2.1 t2) :: v1.zip v2) 0 _
    refine kat_cons (wpAny_eqBool_str (kat_go (fun e => ?_) fun e => ?_))
    · exact kat_yes (katlex_ints (s := s) hC 1 m1 m2 (by decide) _ ⟨tk, rfl⟩)
    · refine kat_no ?_
      exact oneLt_str (hC _ _ ⟨tk, rfl⟩)
noncomputable def IntSet (w : World) (o : Obj) (xs : List Nat) : Prop := ∃ es ep t ys, o = setO es ep t ∧ Tb t es.size ∧ t.led = !byText w ∧ es.size ≤ xs.length ∧ Nums (es.toList.map (·.2)) ys ∧ ∀ y, y ∈ ys ↔ y ∈ xs
noncomputable def NodeSet (w : World) (f : Look) (o : Obj) (nds : List (Str × List Nat)) : Prop := ∃ es ep t us mds, o = setO es ep t ∧ Tb t es.size ∧ t.led = !byText w ∧ es.size ≤ nds.length ∧ es.toList.map (·.2) = us.map Value.ref ∧ Pw (NodeAt f) us mds ∧ ∀ y, y ∈ mds ↔ y ∈ nds
section
variable {h₀ : Heap} {L : Addr} {l : Binds} {n : Ents}
theorem setR_ints {a : Addr} {vs : List Value} {xs : List Nat} {ep : Nat} {Q : Value → Shared → Prop} (C : Cx h₀ L s.heap l n) (hh : A.handled = none) (ho : s.heap.get? a = some (seqObj "list" vs.toArray ep)) (hx : Nums vs xs) (hz : xs.length < 1000)
    (h : ∀ S o n' h' tk, Cx h₀ L h' l n' → New n n' S o → IntSet w o xs → Q (.ref S) { s with heap := h', toks := tk }) : wpAny (model prog w) A (call (.type "set") [.ref a]) Q E s := by
  refine set_of_list (S := skInt prog w) hh (isList_obj ho) (fun v hv => ?_) (by show vs.toArray.size < 1000; rw [List.size_toArray, hx.length]; exact hz) (fun _ _ => trivial) fun S h' tk es ep' t k' hS I => ?_
  · refine elEAE (hx.mem1 (by simpa using hv)) fun b _ t e => ?_
    exact ⟨b, t, e⟩
  · refine elEA (C.newN k' hS I.at_) fun n' C' N => ?_
    refine h S _ n' h' tk C' N ?_
    obtain ⟨ys, hys⟩ := Pw.take (F := fun v x => ∃ t, v = Value.int ((x : Nat) : Int) t) (l := es.toList.map (·.2)) (fun v hv => by
      obtain ⟨e, he, rfl⟩ := List.mem_map.mp hv
      refine elEAE (hx.mem1 (by simpa using (I.sub e he).1)) fun b _ t q => ?_
      exact ⟨b, t, q⟩)
    refine ⟨es, ep', t, ys, rfl, I.tb, I.led, by have := I.le; simpa [hx.length] using this, hys, fun y => ⟨fun hy => ?_, fun hy => ?_⟩⟩
    · refine elEAE (hys.mem2 hy) fun v hv t1 e1 => ?_
      obtain ⟨e, he, rfl⟩ := List.mem_map.mp hv
      refine elEAE (hx.mem1 (by simpa using (I.sub e he).1)) fun b hb t2 e2 => ?_
      rw [e1] at e2; cases e2; exact hb
    · refine elEAE (hx.mem2 hy) fun v hv t1 e1 => ?_
      refine elEAEA (I.all v (by simpa using hv)) fun e he k Xx5 Xx6 => ?_
      refine elE Xx5 fun t2 e2 => ?_
      refine elE Xx6 fun t3 e3 => ?_
      rw [e1] at e2; cases e2
      refine elEAE (hys.mem1 (List.mem_map.mpr ⟨e, he, rfl⟩)) fun b hb t4 e4 => ?_
      rw [e3] at e4; cases e4; exact hb
theorem sortedSet_ints {S : Addr} {o : Obj} {xs : List Nat} {Q : Value → Shared → Prop} (C : Cx h₀ L s.heap l n) (hh : A.handled = none) (ho : s.heap.get? S = some o) (hS : IntSet w o xs) (hz : xs.length < 64)
    (h : ∀ D vs ys e n' h' d tk, Cx h₀ L h' l n' → New n n' D (seqObj "list" (List.toArray vs) e) → Nums vs ys → (∀ y, y ∈ ys ↔ y ∈ xs) → ys.length ≤ xs.length → Q (.ref D) { s with heap := h', drawn := d, toks := tk }) :
    wpAny (model prog w) A (call (.builtin "sorted") [.ref S]) Q E s := by
  refine elEEEEAAAAA hS fun es ep t ys Xx7 T hl hle hN hm => ?_
  obtain rfl := Xx7
  refine sorted_gen (P := fun vs => vs.Perm (es.toList.map (·.2))) (fun Q' hq => collect_set (A := A.in1) hh ho T hl (by exact ltl) hq) (fun vs hp => by rw [hp.length_eq]; simp; exact ltt) (fun vs hp h2 s' k => ?_) fun vs out D e s' hp ho' hE => hE.go fun h' d tk k' hD hD0 => ?_
  · refine elEA (Pw.perm hp hN) fun zs _ hz => ?_
    exact sortable_ints hz h2
  · refine elEA (Pw.perm (ho'.trans hp) hN) fun zs hzp hz => ?_
    refine elEA (C.newN k' hD0 hD) fun n' C' N => ?_
    refine h D out zs e n' h' d tk C' N hz (fun y => (hzp.mem_iff).trans (hm y)) ?_
    rw [hzp.length_eq, ← hN.length]; simpa using hle
theorem setR_nodes {a : Addr} {ts : List Addr} {nds : List (Str × List Nat)} {ep : Nat} {Q : Value → Shared → Prop} (C : Cx h₀ L s.heap l n) (hh : A.handled = none) (hu : A.units + 100 < cLine) (ho : s.heap.get? a = some (seqObj "list" (ts.map Value.ref).toArray ep)) (hx : Pw (NodeAt s.heap.get?) ts nds) (hz : nds.length < 18)
    (h : ∀ S o n' h' tk, Cx h₀ L h' l n' → New n n' S o → NodeSet w h'.get? o nds → Q (.ref S) { s with heap := h', toks := tk }) : wpAny (model prog w) A (call (.type "set") [.ref a]) Q E s := by
  have hkey : ∀ {f : Heap} {T : Addr} {nd : Str × List Nat}, NodeAt f.get? T nd → IsKey prog w f (.inl nd.1 :: nd.2.map fun (k : Nat) => .inr (k : Int)) T := fun {f T nd} hn => by
    refine elEEEA hn fun t vs e o1 m => ?_
    clear hn
    refine ⟨_, _, _, o1, rfl, rfl, ?_⟩
    show PySem.ItemsAre _ _ (Value.str nd.1 t :: vs)
    refine .cons (soi_str _ _) ?_
    clear o1
    obtain ⟨x1, x2⟩ := nd
    replace m : Nums vs x2 := m
    show PySem.ItemsAre (soiKind prog w) (x2.map fun (k : Nat) => Sum.inr (k : Int)) vs
    induction m with
    | nil => exact .nil
    | cons h _ ih => obtain ⟨t, rfl⟩ := h; exact .cons (soi_int _ _) ih
  have hinj : ∀ {x y : Str × List Nat}, ((.inl x.1 :: x.2.map fun (k : Nat) => .inr (k : Int)) : Key) = .inl y.1 :: y.2.map (fun (k : Nat) => .inr (k : Int)) → x = y := fun {x y} e => by
    obtain ⟨x1, x2⟩ := x
    obtain ⟨y1, y2⟩ := y
    simp only [List.cons.injEq, Sum.inl.injEq] at e
    refine elA e fun Xx8 e2 => ?_
    obtain rfl := Xx8
    have : x2 = y2 := by
      have h1 := congrArg (List.map fun (z : Str ⊕ Int) => match z with | .inl _ => 0 | .inr k => k.toNat) e2
      simpa [List.map_map, Function.comp_def] using h1
    rw [this]
  refine set_of_list (S := skKey prog w) hh (isList_obj ho) (fun v hv => ?_) (by show (ts.map Value.ref).toArray.size < 18; rw [List.size_toArray, List.length_map, hx.length]; exact hz) (fun A' hA => by show A'.units < cLine; exact om133 hu hA) fun S h' tk es ep' t k' hS I => ?_
  · obtain ⟨T, hT, rfl⟩ := List.mem_map.mp (show v ∈ ts.map Value.ref by simpa using hv)
    refine elEA (hx.mem1 hT) fun nd _ hn => ?_
    exact ⟨_, T, rfl, hkey hn⟩
  · refine elEA (C.newN k' hS I.at_) fun n' C' N => ?_
    refine h S _ n' h' tk C' N ?_
    obtain ⟨us, hus⟩ := Pw.take (F := fun v (T : Addr) => v = Value.ref T ∧ T ∈ ts) (l := es.toList.map (·.2)) (fun v hv => by
      obtain ⟨e, he, rfl⟩ := List.mem_map.mp hv
      refine elEA (List.mem_map.mp (show e.2 ∈ ts.map Value.ref by simpa using (I.sub e he).1)) fun T hT e1 => ?_
      exact ⟨T, e1.symm, hT⟩)
    have hmap : ∀ {l₁ : List Value} {l₂ : List Addr}, Pw (fun v (T : Addr) => v = Value.ref T ∧ T ∈ ts) l₁ l₂ → l₁ = l₂.map Value.ref := fun {l₁ l₂} p => by
      induction p with
      | nil => rfl
      | cons h _ ih => rw [h.1, ih]; rfl
    have hsub : ∀ T ∈ us, T ∈ ts := fun T hT => let ⟨_, _, _, q⟩ := hus.mem2 hT; q
    have he := hmap hus
    obtain ⟨mds, hmds⟩ := Pw.take (F := NodeAt h'.get?) (l := us) (fun T hT => by
      refine elEAEEEA (hx.mem1 (hsub T hT)) fun nd _ t vs e o1 m => ?_
      exact ⟨nd, t, vs, e, k' _ _ o1, m⟩)
    have same : ∀ {T : Addr} {x y : Str × List Nat}, NodeAt h'.get? T x → NodeAt h'.get? T y → x = y := fun {T x y} hx hy => hinj ((hkey hx).inj (hkey hy))
    refine ⟨es, ep', t, us, mds, rfl, I.tb, I.led, by have := I.le; simpa [hx.length] using this, he, hmds, fun y => ⟨fun hy => ?_, fun hy => ?_⟩⟩
    · refine elEA (hmds.mem2 hy) fun T hT hn => ?_
      refine elEAEEEA (hx.mem1 (hsub T hT)) fun nd hnd t vs e o1 m => ?_
      rw [same hn ⟨t, vs, e, k' _ _ o1, m⟩]; exact hnd
    · refine elEA (hx.mem2 hy) fun T hT hn => ?_
      refine elEAEA (I.all (.ref T) (by simpa using hT)) fun e he' kk Xx9 Xx10 => ?_
      refine elEA Xx9 fun T1 e1 q1 => ?_
      refine elEA Xx10 fun T2 e2 q2 => ?_
      cases e1
      have hU : T2 ∈ us := by
        have : e.2 ∈ us.map Value.ref := he ▸ List.mem_map.mpr ⟨e, he', rfl⟩
        rw [e2] at this
        refine elEA (List.mem_map.mp this) fun _ h1 h2 => ?_
        cases h2; exact h1
      refine elEA (hmds.mem1 hU) fun md hmd hn2 => ?_
      have a1 : kk = _ := q1.inj (hkey hn)
      have a2 : kk = _ := (key_mono q2 k').inj (hkey hn2)
      rw [hinj (a1.symm.trans a2)]; exact hmd
theorem sortedSet_nodes {S : Addr} {o : Obj} {nds : List (Str × List Nat)} {Q : Value → Shared → Prop} (C : Cx h₀ L s.heap l n) (hh : A.handled = none) (ho : s.heap.get? S = some o) (hS : NodeSet w s.heap.get? o nds) (hz : nds.length < 64)
    (h : ∀ D us mds e n' h' d tk, Cx h₀ L h' l n' → New n n' D (seqObj "list" (List.map Value.ref us).toArray e) → Pw (NodeAt h'.get?) us mds → (∀ y, y ∈ mds ↔ y ∈ nds) → mds.length ≤ nds.length → Q (.ref D) { s with heap := h', drawn := d, toks := tk }) :
    wpAny (model prog w) A (call (.builtin "sorted") [.ref S]) Q E s := by
  refine elEEEEEAAAAAA hS fun es ep t us mds Xx11 T hl hle he hN hm => ?_
  obtain rfl := Xx11
  have back : ∀ {vs : List Value}, vs.Perm (us.map Value.ref) → ∃ us' mds', vs = us'.map Value.ref ∧ Pw (NodeAt s.heap.get?) us' mds' ∧ mds'.Perm mds := fun {vs} hp => by
    have hp2 : Pw (fun v nd => ∃ T, v = Value.ref T ∧ NodeAt s.heap.get? T nd) (us.map Value.ref) mds := by
      clear he hm hle hp
      induction hN with
      | nil => exact .nil
      | cons h _ ih => exact .cons ⟨_, rfl, h⟩ ih
    refine elEA (Pw.perm hp hp2) fun mds' hpm hpw => ?_
    clear hp hp2
    have : ∃ us', vs = us'.map Value.ref ∧ Pw (NodeAt s.heap.get?) us' mds' := by
      clear hpm
      induction hpw with
      | nil => exact ⟨[], rfl, .nil⟩
      | cons h _ ih =>
        refine elEA h fun T Xx12 hT => ?_
        obtain rfl := Xx12
        refine elEA ih fun us' Xx13 p => ?_
        obtain rfl := Xx13
        exact ⟨T :: us', rfl, .cons hT p⟩
    refine elEA this fun us' e1 p => ?_
    exact ⟨us', mds', e1, p, hpm⟩
  have hlen : mds.length ≤ nds.length := by rw [← hN.length]; have := congrArg List.length he; simp at this; exact om66 hle this
  refine sorted_gen (P := fun vs => vs.Perm (us.map Value.ref)) (fun Q' hq => collect_set (A := A.in1) hh ho T hl (by exact ltl) fun vs s' hp hE => hq vs s' (he ▸ hp) hE) (fun vs hp => by rw [hp.length_eq, List.length_map, hN.length]; exact ltt) (fun vs hp h2 s' k => ?_) fun vs out D e s' hp ho' hE => hE.go fun h' d tk k' hD hD0 => ?_
  · refine elEEAA (back hp) fun us' mds' Xx14 p _ => ?_
    obtain rfl := Xx14
    exact sortable_nodes (s := s') (Pw.mono (fun T nd ⟨t, v, e, o, m⟩ => ⟨t, v, e, k _ _ o, m⟩) p) h2
  · refine elEEAA (back (ho'.trans hp)) fun us' mds' Xx15 p hpm => ?_
    obtain rfl := Xx15
    refine elEA (C.newN k' hD0 hD) fun n' C' N => ?_
    exact h D us' mds' e n' h' d tk C' N (Pw.mono (fun T nd ⟨t, v, e, o, m⟩ => ⟨t, v, e, k' _ _ o, m⟩) p) (fun y => hpm.mem_iff.trans (hm y)) (by rw [hpm.length_eq]; exact hlen)
end
end
end S11
section C9
theorem HS.Nodes.mono {σ : HS} {f g : Look} (N : σ.Nodes f) (k : ∀ a o, f a = some o → g a = some o) : σ.Nodes g :=
  ⟨let ⟨ep, e⟩ := N.no; ⟨ep, k _ _ e⟩, Pw.mono (fun T nd ⟨t, v, e, o, m⟩ => ⟨t, v, e, k _ _ o, m⟩) N.ta⟩
theorem Uni.On.wider {σ : Uni} {f g : Look} (U : σ.On f) (k : ∀ a o, f a = some o → g a = some o) : σ.On g := U.mono fun a _ o e => k a o e
theorem Cx.tail {h₀ h : Heap} {L D b : Addr} {l : Binds} {n : Ents} {o p : Obj} (K : Cx h₀ L h l ((D, o) :: n)) (e : n.lookup b = some p) : List.lookup b ((D, o) :: n) = some p := by
  rw [List.lookup_cons, beq_false_of_ne fun q => (List.nodup_cons.mp K.nd).1 (List.mem_map.mpr ⟨_, mem_of_lookup e, q⟩)]
  exact e
theorem nums_snoc {ys : Array Value} {xs : List Nat} {y : Nat} {t : Tok} (h : Nums ys.toList xs) : Nums (ys.push (.int (y : Nat) t)).toList (xs ++ [y]) := by
  rw [Array.toList_push]; exact h.app (Nums.one _ _)
section
variable {w : World} {A : Around} {E : Value → Shared → Prop} {s : Shared}
set_option maxHeartbeats 1000000 in
theorem node_ok {σ : HS} {i : Nat} {nd : Str × List Nat} {t : Tok} {Q : Value → Shared → Prop} (W : Wd w s.heap) (I : σ.Ins s.heap) (N : σ.Nodes s.heap.get?) (U : σ.U.On s.heap.get?) (O : σ.U.Ok) (hi : σ.nodes[i]? = some nd) (h20 : σ.nodes.length ≤ 20)
    (hk : nd.2.length ≤ 4) (hkids : ∀ k ∈ nd.2, k < σ.U.ps.length) (hroom : A.depth + 20 < recursionLimit) (hh : A.handled = none)
    (post : ∀ T s', Ext s s' → s.heap.get? T = none → NodeAt s'.heap.get? T (nd.1, nd.2.map (root σ.U.ps)) → Q (.ref T) s') :
    wpAny (model PySem.Challenge.pw_pq0072_01 w) A (call (.ref 380) [.ref σ.hp, .int (i : Nat) t]) Q E s := by
  have I1 := I.hp
  refine enterK (n := []) W (Own.nil _) (x := mth 14 2) rfl k_380 c_380 (by exact rm0) (binds := [("self", .ref σ.hp), ("n", .int i t)]) (l := [("n", .int i t)]) rfl ⟨.inr ⟨rfl, rfl⟩, .inl rfl, trivial⟩ (by decide) (List.forall_mem_cons.mpr ⟨rfl, List.forall_mem_nil _⟩) (fun L h₁ tk cells W' X C => ?_) (fun L => show ([L + 1] : List Addr).Nodup by walk_at "m sm")
  refine elEA X.one fun o Xx1 ho => ?_
  obtain rfl := Xx1
  change o.data = .cell (some (.ref σ.hp)) at ho
  change Cx s.heap L h₁ [("n", .int i t)] [(L + 1, o)] at C
  change Wd w s.heap at W'
  have hc : ([(L + 1, o)] : Ents).lookup (L + 1) = some o := by simp
  have I2 := I.bk
  repeat walk1
  refine op_ok (W'.keeps C.keep) (I.keeps C.keep) (N.mono C.keep) hi h20 (by show A.depth + 1 + 10 < recursionLimit; exact rm2) fun s1 t1 X1 => X1.go fun h2 d2 tk2 X1 => ?_
  have C1 := C.grow X1
  clear C
  repeat walk1
  rename_i T1 n3 h3 C3 N3
  clear C1
  have hc3 := N3.le _ _ hc
  repeat walk1
  refine compX (L := L) (h₀ := s.heap) (cl := [(Str.ofString "self", L + 1)]) ?_
  repeat walk1
  refine kids_ok (W'.keeps C3.keep) (I.keeps C3.keep) (N.mono C3.keep) hi h20 hk (by show A.depth + 1 + 10 < recursionLimit; exact rm2) fun T2 vs ep2 s4 X4 => X4.go fun h4 d4 tk4 X4 hT2 ho2 hv => ?_
  have ap := Apart.fresh C3 hT2
  have C4 := C3.grow X4
  clear C3
  have hvl := hv.length
  refine ⟨fun i ys n => n = n3 ∧ Nums ys.toList ((nd.2.take i).map (root σ.U.ps)), [T2], _, _, _, n3, Up.mk, C4, ap, it_tuple hh (isTuple_obj ho2), by rw [List.size_toArray]; exact elt, ⟨rfl, .nil⟩, ?_, ?_⟩
  · intro j v ys g Cl n Z1 h5 d5 tk5 hj hys hP kg C5
    refine stepC ?_
    refine genQ fun QQ hQ => ?_
    refine elA Z1 fun Xx2 hN => ?_
    obtain rfl := Xx2
    have Wg := W'.keeps kg
    have Ig := I.keeps kg
    have Ug := U.wider kg
    have I1g := Ig.hp
    refine elEAE (hv.get1 (by simpa using hP)) fun x hx t5 Xx3 => ?_
    obtain rfl := Xx3
    have hxl := hkids x (List.mem_of_getElem? hx)
    iterate 8 walk1
    refine hfind_ok (Wg.keeps C5.keep) (Ig.keeps C5.keep) (Ug.wider C5.keep) O hxl (by show A.depth + 1 + 10 < recursionLimit; exact rm2) fun s' t' X => ?_
    try refine hQ _ _ ?_
    refine ⟨X.upR, _, _, C5.grow X.kp, rfl, ?_⟩
    have e : (nd.2.take (j + 1)).map (root σ.U.ps) = (nd.2.take j).map (root σ.U.ps) ++ [root σ.U.ps x] := by rw [List.take_add_one, hx]; simp
    rw [e]
    exact nums_snoc hN
  · rintro D ys ep n ⟨rfl, hN⟩ hsz h5 d5 tk5 K
    have hT1 := K.tail (p := seqObj "tuple" (Value.str nd.1 t1 :: []).toArray 0) N3.self
    have hD : List.lookup D ((D, seqObj "list" ys ep) :: n) = some (seqObj "list" ys ep) := by simp
    rw [List.size_toArray, hvl, List.take_length] at hN
    have hsz : ys.size ≤ nd.2.length := (by rw [← hvl]; exact hsz)
    walk1
    refine tupleR K (K.lk hD) (by rw [sizeLine_eq]; exact lll) fun T3 n6 h6 C6 N6 => ?_
    refine addT C6 (N6.le _ _ hT1) (C6.lk (show n6.lookup T3 = some (seqObj "tuple" ys.toList.toArray 0) by simpa using N6.self)) (by rw [sizeLine_eq, Array.length_toList]; simp; exact om170 hk hvl hsz) fun T n7 h7 e C7 _ hT => ?_
    exact post T _ (Ext.mk C7.keep) (C7.fresh hT) ⟨t1, ys.toList, e, C7.lk hT, hN⟩
end
end C9
section D1
section
variable {prog : Program} {w : World} {K : Type} [DecidableEq K] {knd : KeyKind prog w K} {A : Around} {E : Value → Shared → Prop} {s : Shared} {h₀ : Heap} {L d : Addr} {l : Binds} {n : Ents} {o : Obj} {kvs : List (K × Value)} {k : K} {key v : Value}
theorem dOf (ho : s.heap.get? d = some o) (hd : o.IsDictOf knd kvs) : s.heap.DictOf knd d kvs := Heap.dictOf_iff.mpr ⟨o, ho, hd⟩
theorem dGet {Q : Value → Shared → Prop} (ho : s.heap.get? d = some o) (hd : o.IsDictOf knd kvs) (lo : (d == sysModules) = false) (hkey : knd.is k key = true) (h : ∀ tk, Q ((valueAt kvs k).getD .none) { s with toks := tk }) :
    wpAny (model prog w) A (call (.builtin "dict.get") [.ref d, key]) Q E s :=
  have hD := dOf ho hd
  call_meetsIn PySem.F.slot_dict_get hD.typeIs PySem.F.entry_dict_get (PySem.F.args_dict_get_2 _ _) (meets_dict_get knd d hkey lo) ⟨_, hD.mapOf, h _⟩
theorem dItem {value slice : PySem.Expr} {Q : Value → Shared → Prop} (ho : s.heap.get? d = some o) (hd : o.IsDictOf knd kvs) (hkey : knd.is k key = true) (hl : valueAt kvs k = some v) (h : ∀ tk, Q v { s with toks := tk })
    (hs : subscripted slice false (.ref d) key = operate [.ref d, key] (getItem (.ref d) key) := by with_unfolding_all rfl) :
    wpAny (model prog w) A (subscriptTail value slice (.ref d) key) Q E s :=
  have hD := dOf ho hd
  tail_any hD.typeIs slot_dict_getitem.lookup (wpAny_getItem_of hkey hD.mapOf hl (h _)) hs
theorem dNotIn {Q : Value → Shared → Prop} (ho : s.heap.get? d = some o) (hd : o.IsDictOf knd kvs) (lo : (d == sysModules) = false) (hkey : knd.is k key = true) (h : ∀ tk, Q (.bool (!(valueAt kvs k).isSome)) { s with toks := tk }) :
    wpAny (model prog w) A (compareOp .NotIn key (.ref d)) Q E s := wpAny_notIn_of hkey lo (dOf ho hd).mapOf (h _)
theorem dSet {Q : Unit → Shared → Prop} (C : Cx h₀ L s.heap l n) (ho : n.lookup d = some o) (hd : o.IsDictOf knd kvs) (hkey : knd.is k key = true) (hsz : kvs.length ≤ sizeLine)
    (h : ∀ h' o' tk, Cx h₀ L h' l (put n d o') → o'.IsDictOf knd (stored kvs k v) → Q () { s with heap := h', toks := tk }) : wpAny (model prog w) A (setItem (.ref d) key v) Q E s := by
  refine wpAny_setItem_pairs (hsz := hsz) hkey (dOf (C.lk ho) hd) fun h' hmm hs => ?_
  refine elEA (Heap.dictOf_iff.mp hmm) fun o' ho' hd' => ?_
  exact h h' o' _ (C.put ho (fun b o hb e => (hs.2 b hb).trans e) ho') hd'
theorem dPop {Q : Value → Shared → Prop} (C : Cx h₀ L s.heap l n) (ho : n.lookup d = some o) (hd : o.IsDictOf knd kvs) (hkey : knd.is k key = true) (hpart : (keyPart key).isSome = true) (hl : valueAt kvs k = some v) (hsz : kvs.length ≤ sizeLine)
    (h : ∀ h' o' tk, Cx h₀ L h' l (put n d o') → o'.IsDictOf knd (without kvs k) → Q v { s with heap := h', toks := tk }) : wpAny (model prog w) A (call (.builtin "dict.pop") [.ref d, key]) Q E s := by
  have hD := dOf (C.lk ho) hd
  refine call_meetsIn PySem.F.slot_dict_pop hD.typeIs PySem.F.entry_dict_pop (PySem.F.args_dict_pop_2 _ _) (meets_dict_pop_there knd d hkey [] (.inl rfl) hpart) ⟨kvs, v, hD, hsz, hl, fun h' hmm hs => ?_⟩
  refine elEA (Heap.dictOf_iff.mp hmm) fun o' ho' hd' => ?_
  exact h h' o' _ (C.put ho (fun b o hb e => (hs.2 b hb).trans e) ho') hd'
theorem isDict_type (hd : o.IsDictOf knd kvs) : o.cls = .type "dict" ∧ o.dict = none := by obtain ⟨es, ep, h1, _⟩ := hd; exact ⟨h1.1, h1.2.1⟩
theorem isDict_nodup (hd : o.IsDictOf knd kvs) : (kvs.map (·.1)).Nodup := by obtain ⟨es, ep, _, _, _, _, h⟩ := hd; exact h
theorem isDict_new : ({ cls := .type "dict", data := .dict #[] } : Obj).IsDictOf knd [] := ⟨#[], 0, ⟨rfl, rfl, rfl⟩, rfl, fun _ h => by simp at h, .nil, .nil⟩
theorem ne_modules {h : Heap} (x : h.NoLimit) : (h.objs.size == sysModules) = false := beq_eq_false_iff_ne.mpr (Nat.ne_of_gt (modules_low x))
theorem dNew {env : Env} {pos : Pos} {Q : Value → Shared → Prop} (C : Cx h₀ L s.heap l n) (hbig : h₀.NoLimit) (h : ∀ d n' h' o, Cx h₀ L h' l n' → New n n' d o → (d == sysModules) = false → o = ({ cls := .type "dict", data := .dict #[] } : Obj) → Q (.ref d) { s with heap := h' }) :
    wpAny (model prog w) A (eval (.Dict [] [] pos) env) Q E s := by
  refine wpAny_Dict_empty ?_
  refine elEA (C.newN (fun _ _ e => Heap.get?_push_of_some _ e) (size_none _) (Heap.get?_push_size s.heap rfl : _ = some ({ cls := .type "dict", data := .dict #[] } : Obj))) fun n' C' N => ?_
  exact h _ n' _ _ C' N (ne_modules (hbig.keeps C.keep)) rfl
end
noncomputable def TupK (prog : Program) (w : World) (f : Look) (ks : Key) (a : Addr) : Prop := ∃ vs ep, f a = some (seqObj "tuple" (List.toArray vs) ep) ∧ PySem.ItemsAre (soiKind prog w) ks vs
structure KDx (prog : Program) (w : World) (f : Look) (d : Addr) (xs : List (Key × Addr × Value)) : Prop where
  at_ : ∃ o es ep, f d = some o ∧ o.ExactDict ∧ o.data = .dict es ep ∧ es.toList = xs.map (entryOfKey (tupleKind (soiKind prog w)))
  keys : ∀ x ∈ xs, TupK prog w f x.1 x.2.1
  nd : (xs.map (·.1)).Nodup
section
variable {prog : Program} {w : World} {A : Around} {E : Value → Shared → Prop} {s : Shared} {h₀ : Heap} {L d T : Addr} {l : Binds} {n : Ents} {xs : List (Key × Addr × Value)} {ks : Key} {v : Value}
theorem TupK.is {h : Heap} {a : Addr} (x : TupK prog w h.get? ks a) : IsTupleKey (soiKind prog w) h ks a := let ⟨_, _, e, i⟩ := x; ⟨_, _, _, e, rfl, rfl, i⟩
theorem TupK.mono {f g : Look} {a : Addr} (x : TupK prog w f ks a) (k : ∀ o, f a = some o → g a = some o) : TupK prog w g ks a := let ⟨v, ep, e, i⟩ := x; ⟨v, ep, k _ e, i⟩
theorem KDx.heap {h : Heap} (x : KDx prog w h.get? d xs) : h.DictOfH (tupleKind (soiKind prog w)) d xs := by
  obtain ⟨⟨o, es, ep, h1, h2, h3, h4⟩, k, nd⟩ := x
  exact ⟨o, es, ep, h1, h2, h3, h4, fun y hy => (k y hy).is, nd⟩
theorem KDx.mono {f g : Look} (x : KDx prog w f d xs) (k : ∀ a o, f a = some o → g a = some o) : KDx prog w g d xs := by
  obtain ⟨⟨o, es, ep, h1, h⟩, q, nd⟩ := x
  exact ⟨⟨o, es, ep, k _ _ h1, h⟩, fun y hy => (q y hy).mono fun o e => k _ _ e, nd⟩
theorem KDx.new {f : Look} (h : f d = some ({ cls := .type "dict", data := .dict #[] } : Obj)) : KDx prog w f d [] := ⟨⟨_, #[], 0, h, ⟨rfl, rfl, rfl⟩, rfl, rfl⟩, (fun _ h => nomatch h), .nil⟩
theorem KDx.put (x : KDx prog w (n.lookup ·) d xs) (hk : TupK prog w (n.lookup ·) ks T) {h' : Heap} (hm : h'.DictOfH (tupleKind (soiKind prog w)) d (storedH xs ks T v)) : ∃ o', h'.get? d = some o' ∧ KDx prog w ((Mine.put n d o').lookup ·) d (storedH xs ks T v) := by
  obtain ⟨⟨o, es, ep, h1, hd, h2⟩, q, nd⟩ := x
  refine elEEEAAAAA hm fun o' es' ep' g1 g2 g3 g4 g5 g6 => ?_
  have keep : ∀ {js : Key} {a : Addr}, TupK prog w (n.lookup ·) js a → TupK prog w ((Mine.put n d o').lookup ·) js a := fun {js a} y => by
    refine y.mono fun p e => lookup_put_ne e fun z => ?_
    refine elEEA y fun vs e2 y1 _ => ?_
    rw [z] at y1
    have h1' : n.lookup d = some o := h1
    rw [show n.lookup d = some (seqObj "tuple" (List.toArray vs) e2) from y1] at h1'
    cases h1'
    exact absurd hd.1 (by walk_at "m sm")
  refine ⟨o', g1, ⟨o', es', ep', lookup_put_self h1, g2, g3, g4⟩, fun y hy => ?_, g6⟩
  rcases mem_storedH hy with ⟨z, hz, e1, e2⟩ | ⟨e1, e2⟩
  · rw [e1, e2]; exact keep (q z hz)
  · rw [e1, e2]; exact keep hk
theorem kdIn {Q : Value → Shared → Prop} (hu : A.units + 100 < cLine) (lo : (d == sysModules) = false) (x : KDx prog w s.heap.get? d xs) (hk : TupK prog w s.heap.get? ks T) (h : ∀ tk, Q (.bool (atKey xs ks).isSome) { s with toks := tk }) :
    wpAny (model prog w) A (compareOp .In (.ref T) (.ref d)) Q E s := wpAny_in_heap (tupleKind_room_in1 (by exact rm1)) hk.is lo x.heap (h _)
theorem kdItem {value slice : PySem.Expr} {p : Addr × Value} {Q : Value → Shared → Prop} (hu : A.units + 100 < cLine) (x : KDx prog w s.heap.get? d xs) (hk : TupK prog w s.heap.get? ks T) (hp : atKey xs ks = some p) (h : ∀ tk, Q p.2 { s with toks := tk })
    (hs : subscripted slice false (.ref d) (.ref T) = operate [.ref d, .ref T] (getItem (.ref d) (.ref T)) := by with_unfolding_all rfl) :
    wpAny (model prog w) A (subscriptTail value slice (.ref d) (.ref T)) Q E s :=
  tail_any x.heap.typeIs slot_dict_getitem.lookup (wpAny_getItem_heap (tupleKind_room_in1 (by exact rm1)) hk.is x.heap hp (h _)) hs
theorem kdSet {Q : Unit → Shared → Prop} (C : Cx h₀ L s.heap l n) (hu : A.units + 100 < cLine) (x : KDx prog w (n.lookup ·) d xs) (hk : TupK prog w (n.lookup ·) ks T) (hsz : xs.length ≤ sizeLine)
    (h : ∀ h' o' tk, Cx h₀ L h' l (put n d o') → KDx prog w ((put n d o').lookup ·) d (storedH xs ks T v) → Q () { s with heap := h', toks := tk }) : wpAny (model prog w) A (setItem (.ref d) (.ref T) v) Q E s := by
  refine wpAny_setItem_heap (hsz := hsz) (tupleKind_room_in1 (by exact rm1)) (TupK.is (hk.mono fun o e => C.lk e)) (KDx.heap (x.mono fun a o e => C.lk e)) fun h' hm hs => ?_
  refine elEA (x.put hk hm) fun o' e1 k1 => ?_
  obtain ⟨⟨o, es, ep, h1, h2⟩, _⟩ := x
  exact h h' o' _ (C.put h1 (fun b o hb e => (hs.2 b hb).trans e) e1) k1
theorem kdSetDefault {Q : Value → Shared → Prop} (C : Cx h₀ L s.heap l n) (hu : A.units + 100 < cLine) (lo : (d == sysModules) = false) (x : KDx prog w (n.lookup ·) d xs) (hk : TupK prog w (n.lookup ·) ks T) (hsz : xs.length ≤ sizeLine)
    (old : ∀ p tk, atKey xs ks = some p → Q p.2 { s with toks := tk })
    (new : ∀ h' o' tk, atKey xs ks = none → Cx h₀ L h' l (put n d o') → KDx prog w ((put n d o').lookup ·) d (storedH xs ks T v) → Q v { s with heap := h', toks := tk }) : wpAny (model prog w) A (call (.builtin "dict.setdefault") [.ref d, .ref T, v]) Q E s := by
  have hx := KDx.heap (x.mono fun a o e => C.lk e)
  have hT : IsTupleKey (soiKind prog w) s.heap ks T := TupK.is (hk.mono fun o e => C.lk e)
  have hty := hx.typeIs
  refine wpAny_call_entry PySem.F.slot_dict_setdefault hty PySem.F.entry_dict_setdefault ?_ (PySem.F.args_dict_setdefault_3 _ _ _)
  unfold Builtin.«dict.setdefault»
  refine wpAny_bind ?_
  unfold Builtin.Dict.keyAndDefault
  refine wpAny_bind (wpAny_notOrdered_dict hty ?_)
  show wpAny _ _ (pure (d, Value.ref T, some v)) _ _ s
  refine wpAny_pure ?_
  show wpAny _ _ (if (d == sysModules) = true then _ else (dictSetDefault d (.ref T) v >>= _)) _ _ s
  rw [if_neg (by rw [lo]; exact Bool.false_ne_true)]
  refine wpAny_bind ?_
  refine elEEEAAAAA hx fun o es ep ho hc hd he his hn => ?_
  unfold dictSetDefault
  try with_reducible refine wpAny_holding ?_
  refine wpAny_bind (wpAny_pyHash_tuple (show A.in1.units < cLine by show A.units + 1 < cLine; exact rm1) hT ?_)
  refine wpAny_bind (wpAny_dictFind_heap (knd := tupleKind (soiKind prog w)) (s := { s with toks := s.toks + (ks.length + 1) }) (show A.in1.units < cLine by show A.units + 1 < cLine; exact rm1) hT ho hd he his hn ?_ ?_)
  · intro hno
    have hnone := atKey_none_of_get hno
    have hnot : ks ∉ xs.map (·.1) := not_mem_keys_of_get hno
    refine wpAny_bind (wpAny_rule (wpAny_bind (wpAny_updateDictKeys (hz := by have e := size_of_entries he; exact ell) (s := { s with toks := s.toks + (ks.length + 1) }) ho hd (wpAny_pure (wpAny_pure ⟨v, rfl, ?_⟩)))))
    have sb := Heap.SameBut.update s.heap d (Obj.mapDictKeys (·.push ⟨tupleKeyHash (soiKind prog w) ks, .ref T, v⟩))
    have hm : (s.heap.update d (Obj.mapDictKeys (·.push ⟨tupleKeyHash (soiKind prog w) ks, .ref T, v⟩))).DictOfH (tupleKind (soiKind prog w)) d (storedH xs ks T v) := by
      refine ⟨_, _, ep + 1, Heap.get?_update_self _ ho (Obj.isFreed_of_dict (Obj.data_mapDictKeys hd _)), hc.mapDictKeys _, Obj.data_mapDictKeys hd _, ?_, ?_, ?_⟩
      · rw [storedH_new hnone]; simp [he, entryOfKey, tupleKind]
      · rw [storedH_new hnone]
        intro y hy
        rcases List.mem_append.mp hy with hy | hy
        · exact (tupleKind (soiKind prog w)).keeps (his y hy) ho hd sb
        · simp only [List.mem_singleton] at hy
          subst hy
          exact (tupleKind (soiKind prog w)).keeps hT ho hd sb
      · rw [storedH_new hnone, List.map_append, List.nodup_append]
        refine ⟨hn, by walk_at "m sm", ?_⟩
        intro y hy z hz
        simp only [List.map_cons, List.map_nil, List.mem_singleton] at hz
        subst hz
        exact fun e => hnot (e ▸ hy)
    refine elEA (x.put hk hm) fun o' e1 k1 => ?_
    obtain ⟨⟨o2, es2, ep2, h1, h2⟩, _⟩ := x
    exact new _ o' _ hnone (C.put h1 (fun b o hb e => (sb.2 b hb).trans e) e1) k1
  · intro j p hj
    refine wpAny_bind (wpAny_dictEntries (s := { s with toks := s.toks + (ks.length + 1) }) ho hd ?_)
    rw [entry_at he j, hj]
    exact wpAny_bind (wpAny_rule (wpAny_pure (wpAny_pure ⟨p.2, rfl, old p _ (atKey_of_get hn hj)⟩)))
end
end D1
section D3
noncomputable def IsI (v : Value) : Prop := ∃ i t, v = Value.int i t
noncomputable def LI (f : Look) (a : Addr) (m : Nat) : Prop := ∃ vs ep, f a = some (seqObj "list" vs ep) ∧ vs.size = m ∧ ∀ v ∈ vs.toList, IsI v
theorem LI.mono {f g : Look} {a : Addr} {m : Nat} (x : LI f a m) (k : ∀ o, f a = some o → g a = some o) : LI g a m := let ⟨vs, ep, e, h⟩ := x; ⟨vs, ep, k _ e, h⟩
theorem intsAre_of : ∀ {vs : List Value}, (∀ v ∈ vs, IsI v) → ∃ ns, IntsAre vs ns
  | [], _ => ⟨[], .nil⟩
  | v :: r, h => by
    refine elE (intsAre_of fun x hx => h x (.tail _ hx)) fun ns hn => ?_
    refine elEE (h v (.head _)) fun i t Xx1 => ?_
    obtain rfl := Xx1
    exact ⟨i :: ns, .cons _ _ hn⟩
section
variable {prog : Program} {w : World} {A : Around} {E : Value → Shared → Prop} {s : Shared} {h₀ : Heap} {L : Addr} {l : Binds} {n : Ents}
theorem sumR {a : Addr} {vs : List Value} {ep : Nat} {Q : Value → Shared → Prop} (C : Cx h₀ L s.heap l n) (hh : A.handled = none) (ho : s.heap.get? a = some (seqObj "list" vs.toArray ep)) (hi : ∀ v ∈ vs, IsI v)
    (h : ∀ i t h' tk, Cx h₀ L h' l n → Q (.int i t) { s with heap := h', toks := tk }) : wpAny (model prog w) A (call (.builtin "sum") [.ref a]) Q E s := by
  refine elE (intsAre_of hi) fun ns hns => ?_
  refine elE hns.allInts.items fun xs e => ?_
  have hl := isList_obj ho
  rw [e] at hl
  exact sum_intListG hh hl fun h' tk t' hk => h _ t' h' tk (C.grow hk)
theorem maxR {a : Addr} {vs : List Value} {ep : Nat} {Q : Value → Shared → Prop} (C : Cx h₀ L s.heap l n) (hh : A.handled = none) (ho : s.heap.get? a = some (seqObj "list" vs.toArray ep)) (hi : ∀ v ∈ vs, IsI v) (hne : vs ≠ [])
    (h : ∀ i t h' tk, Cx h₀ L h' l n → Q (.int i t) { s with heap := h', toks := tk }) : wpAny (model prog w) A (call (.builtin "max") [.ref a]) Q E s := by
  refine elE (intsAre_of hi) fun ns hns => ?_
  refine elE hns.allInts.items fun xs e => ?_
  have hl := isList_obj ho
  rw [e] at hl
  have hsz : 0 < xs.size := by
    have h1 := congrArg Array.size e
    have h2 : 0 < vs.length := List.length_pos_iff.mpr hne
    simp [intItems] at h1; exact tle
  refine max_intList hh hl hsz fun v h' tk hv hk => ?_
  refine elE (intItems_at hv) fun t Xx2 => ?_
  obtain rfl := Xx2
  exact h _ t h' tk (C.grow hk)
theorem addL {a b : Addr} {vs ws : List Value} {ep ep2 : Nat} {Q : Value → Shared → Prop} (C : Cx h₀ L s.heap l n) (ha : s.heap.get? a = some (seqObj "list" vs.toArray ep)) (hb : s.heap.get? b = some (seqObj "list" ws.toArray ep2)) (hsz : vs.length + ws.length ≤ sizeLine)
    (h : ∀ D n' h', Cx h₀ L h' l n' → New n n' D (seqObj "list" (vs ++ ws).toArray 0) → Q (.ref D) { s with heap := h' }) : wpAny (model prog w) A (binaryOp .Add (.ref a) (.ref b)) Q E s := by
  refine concat_meets ⟨_, ha, rfl⟩ ⟨_, hb, rfl⟩ noFill_list_add seq_list_add PySem.F.slot_list_add PySem.F.entry_list_add (PySem.F.args_list_add_2 _ _)
    (list_addW a b vs.toArray ws.toArray ep ep2 none none #[] #[] (by rw [List.size_toArray, List.size_toArray]; exact hsz)) ⟨ha, hb, ?_⟩
  have e : vs.toArray ++ ws.toArray = (vs ++ ws).toArray := by simp
  rw [e]
  refine elEA (C.newN (fun _ _ e => Heap.get?_push_of_some _ e) (size_none _) (Heap.get?_push_size _ rfl : _ = some (seqObj "list" (vs ++ ws).toArray 0))) fun n' C' N => ?_
  exact h _ n' _ C' N
theorem tupleTT {t : Addr} {vs : Array Value} {ep : Nat} {Q : Value → Shared → Prop} (ht : s.heap.get? t = some (seqObj "tuple" vs ep)) (h : Q (.ref t) s) : wpAny (model prog w) A (call (.type "tuple") [.ref t]) Q E s :=
  call_tuple_same (isTuple_obj ht) h
noncomputable def Off (a : Addr) (n n' : Ents) : Prop := ∀ b p, b ≠ a → n.lookup b = some p → n'.lookup b = some p
theorem off_put {a : Addr} {o : Obj} : Off a n (put n a o) := fun _ _ q e => lookup_put_ne e q
theorem appendX {a : Addr} {vs : Array Value} {ep : Nat} {x : Value} {Q : Value → Shared → Prop} (C : Cx h₀ L s.heap l n) (ho : n.lookup a = some (seqObj "list" vs ep)) (hsz : vs.size ≤ sizeLine)
    (h : ∀ h' n' ep', Cx h₀ L h' l n' → n'.lookup a = some (seqObj "list" (vs.push x) ep') → Off a n n' → Q .none { s with heap := h' }) : wpAny (model prog w) A (call (.builtin "list.append") [.ref a, x]) Q E s :=
  appendR C ho hsz fun h' ep' C' => h h' _ ep' C' (lookup_put_self ho) off_put
theorem extendX {a b : Addr} {vs vs2 : Array Value} {ep ep2 : Nat} {Q : Value → Shared → Prop} (C : Cx h₀ L s.heap l n) (ho : n.lookup a = some (seqObj "list" vs ep)) (hb : s.heap.get? b = some (seqObj "list" vs2 ep2)) (hsz : vs.size + vs2.size ≤ sizeLine)
    (h : ∀ h' n' ep', Cx h₀ L h' l n' → n'.lookup a = some (seqObj "list" (vs ++ vs2) ep') → Off a n n' → Q .none { s with heap := h' }) : wpAny (model prog w) A (call (.builtin "list.extend") [.ref a, .ref b]) Q E s :=
  extendR C ho hb hsz fun h' ep' C' => h h' _ ep' C' (lookup_put_self ho) off_put
theorem popX {a : Addr} {vs : Array Value} {y : Value} {ep : Nat} {Q : Value → Shared → Prop} (C : Cx h₀ L s.heap l n) (ho : n.lookup a = some (seqObj "list" (vs.push y) ep)) (hsz : vs.size < sizeLine)
    (h : ∀ h' n' ep', Cx h₀ L h' l n' → n'.lookup a = some (seqObj "list" vs ep') → Off a n n' → Q y { s with heap := h' }) : wpAny (model prog w) A (call (.builtin "list.pop") [.ref a]) Q E s :=
  popR C ho hsz fun h' ep' C' => h h' _ ep' C' (lookup_put_self ho) off_put
section
variable {K : Type} [DecidableEq K] {knd : KeyKind prog w K} {d : Addr} {o : Obj} {kvs : List (K × Value)} {k : K} {key v : Value}
theorem dSetX {Q : Unit → Shared → Prop} (C : Cx h₀ L s.heap l n) (ho : n.lookup d = some o) (hd : o.IsDictOf knd kvs) (hkey : knd.is k key = true) (hsz : kvs.length ≤ sizeLine)
    (h : ∀ h' n' o' tk, Cx h₀ L h' l n' → n'.lookup d = some o' → o'.IsDictOf knd (stored kvs k v) → Off d n n' → Q () { s with heap := h', toks := tk }) : wpAny (model prog w) A (setItem (.ref d) key v) Q E s :=
  dSet C ho hd hkey hsz fun h' o' tk C' hd' => h h' _ o' tk C' (lookup_put_self ho) hd' off_put
theorem dPopX {Q : Value → Shared → Prop} (C : Cx h₀ L s.heap l n) (ho : n.lookup d = some o) (hd : o.IsDictOf knd kvs) (hkey : knd.is k key = true) (hpart : (keyPart key).isSome = true) (hl : valueAt kvs k = some v) (hsz : kvs.length ≤ sizeLine)
    (h : ∀ h' n' o' tk, Cx h₀ L h' l n' → n'.lookup d = some o' → o'.IsDictOf knd (without kvs k) → Off d n n' → Q v { s with heap := h', toks := tk }) : wpAny (model prog w) A (call (.builtin "dict.pop") [.ref d, key]) Q E s :=
  dPop C ho hd hkey hpart hl hsz fun h' o' tk C' hd' => h h' _ o' tk C' (lookup_put_self ho) hd' off_put
end
end
theorem KDx.offX {prog : Program} {w : World} {n n' : Ents} {d a : Addr} {xs : List (Key × Addr × Value)} {p : Obj} (x : KDx prog w (n.lookup ·) d xs) (ha : n.lookup a = some p) (hc : p.cls = .type "list") (off : Off a n n') : KDx prog w (n'.lookup ·) d xs := by
  obtain ⟨⟨o, es, ep, h1, h2, h⟩, q, nd⟩ := x
  refine ⟨⟨o, es, ep, off _ _ (fun z => ?_) h1, h2, h⟩, fun y hy => ?_, nd⟩
  · have h1' : n.lookup d = some o := h1
    rw [z, ha] at h1'; cases h1'
    have := h2.1; rw [hc] at this; exact absurd this (by walk_at "m sm")
  · refine elEEA (q y hy) fun vs e2 y1 y2 => ?_
    refine ⟨vs, e2, off _ _ (fun z => ?_) y1, y2⟩
    have h1' : n.lookup y.2.1 = some (seqObj "tuple" (List.toArray vs) e2) := y1
    rw [z, ha] at h1'; cases h1'; exact absurd hc (by walk_at "m sm")
end D3
set_option bootstrap.genMatcherCode true
set_option compiler.extract_closed false
set_option hygiene false
local macro_rules | `(tactic| walk_at "m stop") => `(tactic| fail_if_success (with_reducible first | show wpAny _ _ (compareOp _ _ _) _ _ _ | show wpAny _ _ (call _ _) _ _ _ | show wpAny _ _ (setItem _ _ _) _ _ _ | show wpAny _ _ (binaryOp _ _ _) _ _ _ | show wpAny _ _ (newList _) _ _ _ | show wpAny _ _ (newTuple _) _ _ _ | show wpAny _ _ (subscriptTail _ _ _ _) _ _ _ | show wpAny _ _ (eval (PySem.Expr.Subscript _ (PySem.Expr.Slice _ _ _ _) _) _) _ _ _ | show wpAny _ _ (eval (PySem.Expr.ListComp _ _ _ _) _) _ _ _ | show wpAny _ _ (exec (Stmt.For _ _ _ _ _) _) _ _ _ | show wpAny _ _ (exec (Stmt.While _ _ _ _) _) _ _ _))
local macro_rules | `(tactic| walk_at "m go") => `(tactic| repeat (walk_at "m stop"; (with_reducible first | show wpAny _ _ _ _ _ _ | show (ite _ _ _ : Prop) | show _ ∧ _); walk1))
set_option bootstrap.genMatcherCode false
section E1
noncomputable abbrev pwp : Program := PySem.Challenge.pw_pq0072_01
noncomputable abbrev HS.N (σ : HS) : Nat := σ.nodes.length
noncomputable abbrev HS.hs (σ : HS) : List Addr := [σ.no, σ.nu, σ.we, σ.de, σ.ed, σ.fo, σ.kn, σ.av, σ.wa]
noncomputable abbrev HS.ks (σ : HS) : List Addr := σ.U.ks ++ (σ.hs ++ σ.abv.map fun e => e.2.1)
noncomputable def InR (N : Nat) (xs : List (Key × Addr × Value)) : Prop := ∀ x ∈ xs, ∃ j t, x.2.2 = .int ((j : Nat) : Int) t ∧ j < N
structure HS.On (w : World) (σ : HS) (c ck : Nat) (f : Look) : Prop where
  U : σ.U.On f
  N : σ.Nodes f
  nu : ∃ xs, KDx pwp w f σ.nu xs ∧ xs.length ≤ σ.N ∧ InR σ.N xs
  we : LI f σ.we σ.N
  de : LI f σ.de σ.N
  ed : ∃ vs ep, f σ.ed = some (seqObj "list" vs ep) ∧ vs.size + (roots σ.U.ps).length ≤ c
  fo : ∃ vs ep, f σ.fo = some (seqObj "list" vs ep) ∧ vs.size + (roots σ.U.ps).length ≤ c
  kn : ∃ xs, KDx pwp w f σ.kn xs ∧ xs.length + σ.wait.length + 22 * (roots σ.U.ps).length ≤ ck ∧ InR σ.N xs
  av : ∃ o, f σ.av = some o ∧ o.IsDictOf (intKind pwp w) (σ.abv.map fun e => ((e.1 : Int), Value.ref e.2.1))
  al : ∀ e ∈ σ.abv, LN f e.2.1 e.2.2
  wa : LN f σ.wa σ.wait
structure HS.Ok (σ : HS) : Prop where
  u : σ.U.Ok
  len : σ.N = σ.U.ps.length
  n11 : σ.N ≤ 11
  kids : ∀ nd ∈ σ.nodes, nd.2.length ≤ 2 ∧ ∀ k ∈ nd.2, k < σ.N
  ks : σ.ks.Nodup
  abd : (σ.abv.map (·.1)).Nodup
  abk : ∀ r, r ∈ σ.abv.map (·.1) ↔ r ∈ roots σ.U.ps
  abn : ∀ e ∈ σ.abv, ∀ x ∈ e.2.2, x < σ.N
  cov : ∀ (i : Nat) nd, σ.nodes[i]? = some nd → ∀ k ∈ nd.2, ∃ e ∈ σ.abv, e.1 = root σ.U.ps k ∧ i ∈ e.2.2
  tot : (σ.abv.map fun e => e.2.2.length).sum ≤ 2 * σ.N
  wt : ∀ x ∈ σ.wait, x < σ.N
  lo : (σ.nu == sysModules) = false ∧ (σ.kn == sysModules) = false ∧ (σ.av == sysModules) = false
theorem HS.Ok.n20 {σ : HS} (O : σ.Ok) : σ.nodes.length ≤ 20 := Nat.le_trans O.n11 (by decide)
theorem HS.Ok.u11 {σ : HS} (O : σ.Ok) : σ.U.ps.length ≤ 11 := O.len ▸ O.n11
theorem HS.On.mono {w : World} {σ : HS} {c ck : Nat} {f g : Look} (H : σ.On w c ck f) (k : ∀ a o, f a = some o → g a = some o) : σ.On w c ck g := by
  obtain ⟨a1, a2, ⟨x, a3, a3'⟩, a4, a5, ⟨v, e, a6, a6'⟩, ⟨v', e', a7, a7'⟩, ⟨u, a8, a8'⟩, ⟨o, a9, a9'⟩, a10, a11⟩ := H
  exact ⟨a1.wider k, a2.mono k, ⟨x, a3.mono k, a3'⟩, a4.mono (k _), a5.mono (k _), ⟨v, e, k _ _ a6, a6'⟩, ⟨v', e', k _ _ a7, a7'⟩, ⟨u, a8.mono k, a8'⟩, ⟨o, k _ _ a9, a9'⟩, fun e he => (a10 e he).mono (k _), a11.mono (k _)⟩
theorem valueAt_abv {abv : List (Nat × Addr × List Nat)} {r : Nat} {e : Nat × Addr × List Nat} (hd : (abv.map (·.1)).Nodup) (he : e ∈ abv) (hr : e.1 = r) : valueAt (abv.map fun e => ((e.1 : Int), Value.ref e.2.1)) (r : Int) = some (.ref e.2.1) := by
  subst hr
  unfold valueAt
  induction abv with
  | nil => cases he
  | cons x xs ih =>
    rw [List.map_cons, List.nodup_cons] at hd
    rw [List.map_cons, List.find?_cons]
    by_cases hx : x.1 = e.1
    · have : x = e := by
        rcases List.mem_cons.mp he with q | q
        · exact q.symm
        · exact absurd (hx ▸ List.mem_map_of_mem (f := (·.1)) q) hd.1
      subst this
      simp
    · have hx' : ¬ ((x.1 : Int) = (e.1 : Int)) := fun q => hx (by exact cst)
      rw [decide_eq_false hx']
      rcases List.mem_cons.mp he with q | q
      · exact absurd (congrArg (·.1) q).symm hx
      · exact ih hd.2 q
section
variable {w : World} {A : Around} {E : Value → Shared → Prop} {s : Shared}
set_option maxHeartbeats 1000000 in
theorem bsize_ok {σ : HS} {Q : Value → Shared → Prop} (W : Wd w s.heap) (I : σ.Ins s.heap) (N : σ.Nodes s.heap.get?) (h20 : σ.nodes.length ≤ 20) (hroom : A.depth + 5 < recursionLimit)
    (post : ∀ s' t', Ext s s' → Q (.int (σ.N : Nat) t') s') : wpAny (model PySem.Challenge.pw_pq0072_01 w) A (call (.ref 185) [.ref σ.bk]) Q E s := by
  have I1 := I.bk
  obtain ⟨⟨ep, hno⟩, hta⟩ := N
  have hl := hta.length
  refine enterC (n := []) W (Own.nil _) (x := mth 10 1) rfl k_185 c_185 (by exact rm0) (binds := [("self", .ref σ.bk)]) rfl (locs rfl) (by decide) fun L h₁ W' C => ?_
  change Cx s.heap L h₁ [("self", .ref σ.bk)] [] at C
  change Wd w s.heap at W'
  iterate 10 walk1
  refine lenL (by exact C.keep _ _ hno) (by simp; exact ell) fun t tk => ?_
  have : (List.map Value.ref σ.ta).toArray.size = σ.N := by simp [hl]
  rw [this]
  exact post _ _ (Ext.mk C.keep)
end
end E1
section H1
noncomputable abbrev Nam (es : List DictEntry) (fs : Binds) : Prop := Pw (fun e p => (∃ u, e.key = Value.str p.1 u) ∧ e.val = p.2) es fs
noncomputable def putF : Binds → Str → Value → Binds
  | [], x, v => [(x, v)]
  | p :: r, x, v => if p.1 == x then (p.1, v) :: r else p :: putF r x v
theorem Nam.noRef {es : List DictEntry} {fs : Binds} (h : Nam es fs) : es.any (·.refKey) = false := by
  induction h with
  | nil => rfl
  | @cons e p _ _ h _ ih =>
    refine elA h fun Xx1 _ => ?_
    refine elE Xx1 fun u h => ?_
    rw [List.any_cons, ih, Bool.or_false]; unfold DictEntry.refKey; rw [h]
theorem Nam.get {name : Str} : ∀ {es : List DictEntry} {fs : Binds}, Nam es fs → getL name es = some (fs.lookup name) := by
  have key : ∀ {es : List DictEntry} {fs : Binds}, Nam es fs → (es.find? (·.key.isStr name)).map (·.val) = fs.lookup name := by
    intro es fs h
    induction h with
    | nil => rfl
    | @cons e p _ _ h _ ih =>
      refine elA h fun Xx2 h2 => ?_
      refine elE Xx2 fun u h => ?_
      rw [List.find?_cons, List.lookup_cons, h]
      show Option.map _ (match (p.1 == name) with | true => _ | false => _) = _
      rw [show (p.1 == name) = (name == p.1) from Bool.beq_comm]
      cases name == p.1 with
      | true => exact congrArg some h2
      | false => exact ih
  intro es fs h
  have h1 := key h
  have h2 := h.noRef
  unfold getL
  cases q : es.find? (·.key.isStr name) with
  | none => rw [q] at h1; dsimp only; rw [h2]; exact congrArg some h1
  | some e => rw [q] at h1; exact congrArg some h1
theorem Nam.put {name : Str} {hsh : Int} {u : Tok} {v : Value} {es : List DictEntry} {fs : Binds} (x : Nam es fs) : Nam (putL name hsh (.str name u) v es) (putF fs name v) := by
  induction x with
  | nil => exact .cons ⟨⟨u, rfl⟩, rfl⟩ .nil
  | @cons e p _ _ h t ih =>
    unfold putL putF
    have : e.key.isStr name = (p.1 == name) := by obtain ⟨⟨u, h⟩, _⟩ := h; rw [h]; rfl
    rw [this]
    cases p.1 == name with
    | true => exact .cons ⟨h.1, rfl⟩ t
    | false => exact .cons h ih
theorem putF_len {fs : Binds} {x : Str} {v : Value} : (putF fs x v).length ≤ fs.length + 1 := by
  induction fs with
  | nil => exact Nat.le_refl _
  | cons p r ih => unfold putF; split <;> simp only [List.length_cons] <;> omega
structure OI (f : Look) (x dx C : Addr) (fs : Binds) : Prop where
  x : f x = some (instObj C dx)
  d : ∃ es ep, f dx = some (dictOf es ep) ∧ Nam es fs
theorem OI.mono {f g : Look} {x dx C : Addr} {fs : Binds} (I : OI f x dx C fs) (k : ∀ a o, f a = some o → g a = some o) : OI g x dx C fs := ⟨k _ _ I.x, let ⟨es, ep, e, r⟩ := I.d; ⟨es, ep, k _ _ e, r⟩⟩
theorem OI.inst {h : Heap} {x dx C : Addr} {fs : Binds} (I : OI h.get? x dx C fs) : Inst h x C fs :=
  let ⟨es, ep, e, r⟩ := I.d; ⟨_, _, ⟨I.x, rfl, rfl, e⟩, fun name => (lookIn_dict name es ep).trans r.get⟩
theorem OI.new {f : Look} {x dx C : Addr} (hx : f x = some (instObj C dx)) (hd : f dx = some emptyDict) : OI f x dx C [] := ⟨hx, [], 0, hd, .nil⟩
noncomputable def setOk (K : Frag) (C : Addr) (name : Str) : Bool := (findIn K (.ref C) "__setattr__" == some (some (.builtin "object.__setattr__"))) && plainOver K C && (takerIn K C name == some none) && hasDictIn K C
section
variable {w : World} {A : Around} {E : Value → Shared → Prop} {s : Shared} {h₀ : Heap} {L x dx cc : Addr} {l fs : Binds} {n : Ents} {name : Str} {v : Value}
theorem gfO {expr : Bool} {Q : Value → Shared → Prop} (W : Wd w h₀) (C : Cx h₀ L s.heap l n) (I : OI (n.lookup ·) x dx cc fs) (ok : attrOk (K w.params) cc name = true) (hv : fs.lookup name = some v) (h : Q v { s with toks := s.toks + 1 }) (hh : handedIn v = true := by rfl) :
    wpAny (model PySem.Challenge.pw_pq0072_01 w) A (getAttr (.ref x) name expr) Q E s := getF (W.keeps C.keep) (OI.inst (I.mono fun _ _ e => C.lk e)) ok hv h hh
theorem setF {Q : Unit → Shared → Prop} (W : Wd w h₀) (C : Cx h₀ L s.heap l n) (I : OI (n.lookup ·) x dx cc fs) (ok : setOk (K w.params) cc name = true) (hz : fs.length < 20)
    (h : ∀ h' n' tk, Cx h₀ L h' l n' → OI (n'.lookup ·) x dx cc (putF fs name v) → Off dx n n' → n'.map (·.1) = n.map (·.1) → Q () { s with heap := h', toks := tk }) :
    wpAny (model PySem.Challenge.pw_pq0072_01 w) A (setAttr (.ref x) name v) Q E s := by
  unfold setOk at ok
  simp only [Bool.and_eq_true, beq_iff_eq] at ok
  refine elA ok fun Xx3 hd => ?_
  refine elA Xx3 fun Xx4 ht => ?_
  refine elA Xx4 fun hs hp => ?_
  obtain ⟨hx, es, ep, hdx, hnm⟩ := I
  have X := (W.keeps C.keep).k
  have hxh := C.lk hx
  have hdh := C.lk hdx
  have J : InstAt s.heap x (instObj cc dx) cc (some (dictOf es ep)) := ⟨hxh, rfl, rfl, hdh⟩
  refine set_plain X J hs (osa_open (s := { s with toks := s.toks + 1 }) X J hp ht fun b => ?_)
  refine elEA (any_some hd) fun cd hcl hcd => ?_
  have hne : dx ≠ x := fun q => by rw [q, hx] at hdx; cases hdx
  generalize he' : dictOf (putL name (PyData.keyHash w.params name) (.str name (s.toks + 1)) v es) (putN name es ep) = od'
  have hod : od'.isFreed = false := by rw [← he']; rfl
  have hup := Heap.get?_update_self (Obj.putName name (PyData.keyHash w.params name) (.str name (s.toks + 1)) v) hdh (by rw [putName_dict, he']; exact hod)
  rw [putName_dict, he'] at hup
  have hsz : (putL name (PyData.keyHash w.params name) (.str name (s.toks + 1)) v es).length ≤ 1000 := by
    have h1 := (Nam.put (hsh := PyData.keyHash w.params name) (u := s.toks + 1) (v := v) (name := name) hnm).length
    have h2 := putF_len (fs := fs) (x := name) (v := v)
    exact om165 hz h1 h2
  refine wpAny_bind (wpAny_pure (wpAny_bind (wpAny_bind (wpAny_loadPart hxh (wpAny_bind (looks_clsIn X hcl _ _ _ _ (fun _ _ e => e) ?_))))))
  rw [hcd]
  refine wpAny_pure (a := some dx) (wpAny_bind (wpAny_pure (wpAny_bind ?_)))
  unfold nsSet
  refine wpAny_bind (wpAny_bind (wpAny_askSetting (wpAny_pure (wpAny_bind (wpAny_mkText (wpAny_bind (wpAny_loadPart hdh ?_)))))))
  have c : (!es.toArray.any (·.key.isStr name) && es.toArray.any (·.refKey)) = false := by
    rw [List.any_toArray, List.any_toArray, hnm.noRef, Bool.and_false]
  show wpAny _ _ (if aRefKeyMayBeTheName name es.toArray then _ else _) _ _ _
  rw [aRefKeyMayBeTheName_at, c]
  refine wpAny_updatePart hdh ?_
  refine wpAny_bind (wpAny_lookBehind hup (by rw [← he']; exact pastItsLine_dict (by rw [List.size_toArray, sizeLine_eq]; exact ll)) ?_)
  refine wpAny_pure (h _ (Mine.put n dx od') _ (C.put hdx (fun b o hb e => (Heap.get?_update_ne _ _ _ _ hb).trans e) hup) ⟨lookup_put_ne hx (Ne.symm hne), putL name (PyData.keyHash w.params name) (.str name (s.toks + 1)) v es, putN name es ep, he'.symm ▸ lookup_put_self hdx, hnm.put⟩ off_put (put_keys _ _ _))
theorem newListK {vs : List Value} {Q : Value → Shared → Prop} {M : Model} (C : Cx h₀ L s.heap l n) (hsz : vs.length ≤ sizeLine) (h : ∀ a n' h', Cx h₀ L h' l n' → New n n' a (seqObj "list" vs.toArray 0) → n'.map (·.1) = a :: n.map (·.1) → Q (.ref a) { s with heap := h' }) : wpAny M A (newList vs) Q E s :=
  wpAny_newList (h _ _ _ (C.push (seqObj "list" vs.toArray 0)) ⟨fun b p e => C.old e (size_none _), by rw [List.lookup_cons, beq_self_eq_true], fun b p e q => (by have := C.lk e; rw [q, size_none] at this; cases this)⟩ rfl) hsz
theorem dNewK {env : Env} {pos : Pos} {Q : Value → Shared → Prop} {prog : Program} (C : Cx h₀ L s.heap l n) (hbig : h₀.NoLimit) (h : ∀ d n' h', Cx h₀ L h' l n' → New n n' d emptyDict → n'.map (·.1) = d :: n.map (·.1) → (d == sysModules) = false → Q (.ref d) { s with heap := h' }) :
    wpAny (model prog w) A (eval (.Dict [] [] pos) env) Q E s :=
  wpAny_Dict_empty (h _ _ _ (C.push emptyDict) ⟨fun b p e => C.old e (size_none _), by rw [List.lookup_cons, beq_self_eq_true], fun b p e q => (by have := C.lk e; rw [q, size_none] at this; cases this)⟩ rfl (ne_modules (hbig.keeps C.keep)))
theorem enterQ {f c : Addr} {x : Arguments × List Stmt × Scope} {P : Arguments} {B : List Stmt} {S : Scope} {name qual : Str} {pm : Value} {vals : List Value} {binds : Binds} {R : Result → Shared → Prop} {B₀ : Heap} {n : Ents}
    (W : Wd w B₀) (O : Own B₀ s.heap n) (hx : x = (P, B, S)) (ho : ∀ p, (K p).lookup f = some ⟨.type "function", none, .func (fo x name qual pm (.ref c)), #[]⟩) (hcd : ∀ p, codeIn (K p) (.ref c) qual = true)
    (hroom : A.depth < recursionLimit) (hbind : bindArgs (fo (P, B, S) name qual pm (.ref c)) ⟨vals, []⟩ = pure binds) (hloc : ∀ y ∈ binds, S.names.lookup y.1 = some .local)
    (hcell : ∀ y ∈ S.names, y.2 ≠ .cell)
    (h : ∀ L h₁, Wd w (bar s.heap n) → Cx (bar s.heap n) L h₁ binds.reverse n →
      wpAny (model PySem.Challenge.pw_pq0072_01 w) (A.deeper (envOf qual S L f (.ref c))) (execs B (envOf qual S L f (.ref c)))
        (fun fl s' => R (.ok (.ret (match fl with | .ret v => v | _ => .none))) s') NoE { s with heap := h₁, toks := s.toks + binds.length })
    (hco : S.isCoroutine = false := by rfl) (hgen : S.isGenerator = false := by rfl) (hk : S.kind = .function := by rfl) :
    codeAny (model PySem.Challenge.pw_pq0072_01 w) A (.call (.ref f) ⟨vals, []⟩) R s := by
  subst hx
  have W' := W.keeps O.stay
  refine codeAny_call_def (fd := fo (P, B, S) name qual pm (.ref c)) (body := B) (binds := binds) hroom (W'.k _ _ (ho w.params)) rfl W'.lim (codeRec_of W'.k (hcd w.params)) rfl (BindsTo.of_eq hbind) hcell hloc (fun h₁ hns hk₁ => ?_) hco hgen hk
  have hL : (bar s.heap n).get? s.heap.objs.size = none := by
    cases q : (bar s.heap n).get? s.heap.objs.size with
    | none => rfl
    | some o => exact absurd (Heap.lt_size (of_hideAll _ q)) (Nat.lt_irrefl _)
  exact wpAny_mono (h _ h₁ (W.keeps O.bar) ⟨⟨_, hns, fun _ _ e => e⟩, fun b o e => hk₁ b o (of_hideAll _ e), hL, fun p hp => ⟨hk₁ _ _ (O.at_ p hp), Nat.ne_of_lt (Heap.lt_size (O.at_ p hp)), hideAll_none _ (List.mem_map_of_mem hp)⟩, O.nd⟩) (fun _ _ q => q) fun _ _ q => q.elim
theorem makeC {rest : List Value} {fI : Addr} {Q : Value → Shared → Prop} (W : Wd w h₀) (C : Cx h₀ L s.heap l n) (hm : makesIn (K w.params) cc = true)
    (hi : findIn (K w.params) (.ref cc) "__init__" = some (some (.ref fI))) (hf : typeIn (K w.params) (.ref fI) = some (.type "function"))
    (h : ∀ x dx h' n', Cx h₀ L h' l n' → OI (n'.lookup ·) x dx cc [] → (∀ b p, n.lookup b = some p → n'.lookup b = some p) → n'.map (·.1) = x :: dx :: n.map (·.1) →
      codeAny (model PySem.Challenge.pw_pq0072_01 w) (A.under (.builtin "type.__call__" ⟨.ref cc :: rest, []⟩)) (.call (.ref fI) ⟨.ref x :: rest, []⟩) (InitBack x fun r s' => match r with | .ok (.ret v) => Q v s' | .ok _ => False | .error e => E e s') { s with heap := h' }) :
    wpAny (model PySem.Challenge.pw_pq0072_01 w) A (call (.ref cc) rest) Q E s := by
  refine wpAny_call ?_
  obtain ⟨hh, g, d, t, os⟩ := s
  have X := (W.keeps C.keep).k
  refine make_core (makes_of X hm) (looks_findIn X hi) (fun self => bind_fn X self hf) (.inl rfl) (h _ hh.objs.size _ ((hh.objs.size + 1, instObj cc hh.objs.size) :: (hh.objs.size, emptyDict) :: n) ?_ ?_ (fun b p e => ?_) rfl)
  · have := (C.push emptyDict).push (instObj cc hh.objs.size)
    rwa [Heap.size_push] at this
  · exact OI.new (show List.lookup _ _ = _ by rw [List.lookup_cons, beq_self_eq_true]) (show List.lookup _ _ = _ by rw [List.lookup_cons, beq_false_of_ne (Nat.ne_of_lt (Nat.lt_succ_self _)), List.lookup_cons, beq_self_eq_true])
  · have := C.lk e
    have hlt : b < hh.objs.size := Heap.lt_size this
    rw [List.lookup_cons, beq_false_of_ne (Nat.ne_of_lt (Nat.lt_succ_of_lt hlt)), List.lookup_cons, beq_false_of_ne (Nat.ne_of_lt hlt)]
    exact e
end
end H1
section H2
theorem mk_268 (P : Params) : makesIn (K P) 268 = true := by kernel_rfl
theorem mk_350 (P : Params) : makesIn (K P) 350 = true := by kernel_rfl
theorem mk_482 (P : Params) : makesIn (K P) 482 = true := by kernel_rfl
theorem mk_57 (P : Params) : makesIn (K P) 57 = true := by kernel_rfl
theorem mk_114 (P : Params) : makesIn (K P) 114 = true := by kernel_rfl
theorem in_268 (P : Params) : findIn (K P) (.ref 268) "__init__" = some (some (.ref 178)) := by kernel_rfl
theorem in_350 (P : Params) : findIn (K P) (.ref 350) "__init__" = some (some (.ref 286)) := by kernel_rfl
theorem in_482 (P : Params) : findIn (K P) (.ref 482) "__init__" = some (some (.ref 368)) := by kernel_rfl
theorem in_57 (P : Params) : findIn (K P) (.ref 57) "__init__" = some (some (.ref 40)) := by kernel_rfl
theorem in_114 (P : Params) : findIn (K P) (.ref 114) "__init__" = some (some (.ref 75)) := by kernel_rfl
theorem ty_178 (P : Params) : typeIn (K P) (.ref 178) = some (.type "function") := by kernel_rfl
theorem ty_286 (P : Params) : typeIn (K P) (.ref 286) = some (.type "function") := by kernel_rfl
theorem ty_368 (P : Params) : typeIn (K P) (.ref 368) = some (.type "function") := by kernel_rfl
theorem ty_40 (P : Params) : typeIn (K P) (.ref 40) = some (.type "function") := by kernel_rfl
theorem ty_75 (P : Params) : typeIn (K P) (.ref 75) = some (.type "function") := by kernel_rfl
theorem so_268 (P : Params) : (["nodes", "numbers", "weights", "depths"] : List Str).all (setOk (K P) 268) = true := by kernel_rfl
theorem so_350 (P : Params) : (["above", "lots", "merged"] : List Str).all (setOk (K P) 350) = true := by kernel_rfl
theorem so_482 (P : Params) : (["bank", "unions", "edges", "forest", "known", "above", "waiting"] : List Str).all (setOk (K P) 482) = true := by kernel_rfl
theorem so_57 (P : Params) : (["n"] : List Str).all (setOk (K P) 57) = true := by kernel_rfl
theorem so_114 (P : Params) : (["heap", "analysis", "values", "told"] : List Str).all (setOk (K P) 114) = true := by kernel_rfl
section
variable {w : World} {A : Around} {E : Value → Shared → Prop} {s : Shared} {h₀ : Heap} {L x dx cc : Addr} {l fs : Binds} {n : Ents} {name : Str} {v : Value}
theorem of_all {α : Type} {p : α → Bool} {l : List α} (h : l.all p = true) {x : α} (hx : x ∈ l) : p x = true := List.all_eq_true.mp h x hx
inductive AsgI (w : World) (L : Addr) (self name : Str) (Q : Flow → Shared → Prop) (v : Value) : Shared → Prop
  | mk {h : Heap} {ge : Array GenState} {dr : Drawn} {t : Nat} {os : OsState} (h₀ : Heap) (x dx cc : Addr) (fs l : Binds) (n : Ents) (W : Wd w h₀) (C : Cx h₀ L h l n) (hl : l.lookup self = some (.ref x)) (I : OI (n.lookup ·) x dx cc fs) (ok : setOk (K w.params) cc name = true) (hz : fs.length < 20)
    (k : ∀ h' n' tk, Cx h₀ L h' l n' → OI (n'.lookup ·) x dx cc (putF fs name v) → Off dx n n' → n'.map (·.1) = n.map (·.1) → Q .next ⟨h', ge, dr, tk, os⟩) : AsgI w L self name Q v ⟨h, ge, dr, t, os⟩
theorem asgSelf {env : Env} {self : Str} {value : PySem.Expr} {p1 p2 p3 : Pos} {Q : Flow → Shared → Prop} (hs : swapsWith value (some (.Attribute (.Name self p1) name p2)) p3.line env = pure false)
    (he : env.locals = L) (hk : env.scope.kind = .function) (hx : env.kindOf self = some .local) (hd : (self == ("__debug__" : Str)) = false)
    (h : wpAny (model PySem.Challenge.pw_pq0072_01 w) A (eval value env) (AsgI w L self name Q) NoE s) :
    wpAny (model PySem.Challenge.pw_pq0072_01 w) A (exec (.Assign [.Attribute (.Name self p1) name p2] value p3) env) Q E s := by
  refine liftE (plainObj_wpAny_Assign_Attribute (wpAny_mono h (fun v s₁ hh => ?_) fun _ _ e => e) hs)
  obtain ⟨h₀, x, dx, cc, fs, l, n, W, C, hl, I, ok, hz, h⟩ := hh
  exact ldC C hl (setF W C I ok hz fun h' n' tk C' I' off k => h h' n' tk C' I' off k) he hk hx hd
theorem asgSelfList {env : Env} {self : Str} {p1 p2 p3 p4 : Pos} {Q : Flow → Shared → Prop} (W : Wd w h₀) (C : Cx h₀ L s.heap l n) (I : OI (n.lookup ·) x dx cc fs) {ns : List Str} (ok : ns.all (setOk (K w.params) cc) = true) (hn : name ∈ ns) (hz : fs.length < 20)
    (h : ∀ a h' n' tk, Cx h₀ L h' l n' → OI (n'.lookup ·) x dx cc (putF fs name (.ref a)) → n'.lookup a = some (lst [] 0) → (∀ b p, b ≠ dx → n.lookup b = some p → n'.lookup b = some p) → n'.map (·.1) = a :: n.map (·.1) → Q .next { s with heap := h', toks := tk })
    (hl : l.lookup self = some (.ref x) := by rfl) (hs : swapsWith (.List [] p4) (some (.Attribute (.Name self p1) name p2)) p3.line env = pure false := by with_unfolding_all rfl)
    (he : env.locals = L := by rfl) (hk : env.scope.kind = .function := by rfl) (hx : env.kindOf self = some .local := by rfl) (hd : (self == ("__debug__" : Str)) = false := by decide) :
    wpAny (model PySem.Challenge.pw_pq0072_01 w) A (exec (.Assign [.Attribute (.Name self p1) name p2] (.List [] p4) p3) env) Q E s := by
  refine asgSelf hs he hk hx hd ?_
  iterate 2 walk1
  refine newListK (vs := []) C (Nat.zero_le _) fun a n1 h1 C1 N1 k1 => ?_
  refine ⟨h₀, x, dx, cc, fs, l, n1, W, C1, hl, I.mono N1.le, of_all ok hn, hz, fun h' n' tk C' I' off k => h a h' n' tk C' I' (off _ _ ?_ N1.self) (fun b p hb e => off _ _ hb (N1.le _ _ e)) (k.trans k1)⟩
  refine elEEA I.d fun _ _ e _ => ?_
  exact Ne.symm (N1.ne _ _ e)
theorem asgSelfDict {env : Env} {self : Str} {p1 p2 p3 p4 : Pos} {Q : Flow → Shared → Prop} (W : Wd w h₀) (C : Cx h₀ L s.heap l n) (I : OI (n.lookup ·) x dx cc fs) {ns : List Str} (ok : ns.all (setOk (K w.params) cc) = true) (hn : name ∈ ns) (hz : fs.length < 20)
    (h : ∀ a h' n' tk, Cx h₀ L h' l n' → OI (n'.lookup ·) x dx cc (putF fs name (.ref a)) → n'.lookup a = some emptyDict → (∀ b p, b ≠ dx → n.lookup b = some p → n'.lookup b = some p) → n'.map (·.1) = a :: n.map (·.1) → (a == sysModules) = false → Q .next { s with heap := h', toks := tk })
    (hl : l.lookup self = some (.ref x) := by rfl) (hs : swapsWith (.Dict [] [] p4) (some (.Attribute (.Name self p1) name p2)) p3.line env = pure false := by with_unfolding_all rfl)
    (he : env.locals = L := by rfl) (hk : env.scope.kind = .function := by rfl) (hx : env.kindOf self = some .local := by rfl) (hd : (self == ("__debug__" : Str)) = false := by decide) :
    wpAny (model PySem.Challenge.pw_pq0072_01 w) A (exec (.Assign [.Attribute (.Name self p1) name p2] (.Dict [] [] p4) p3) env) Q E s := by
  refine asgSelf hs he hk hx hd ?_
  refine dNewK C W.lim fun a n1 h1 C1 N1 k1 lo => ?_
  refine ⟨h₀, x, dx, cc, fs, l, n1, W, C1, hl, I.mono N1.le, of_all ok hn, hz, fun h' n' tk C' I' off k => h a h' n' tk C' I' (off _ _ ?_ N1.self) (fun b p hb e => off _ _ hb (N1.le _ _ e)) (k.trans k1) lo⟩
  refine elEEA I.d fun _ _ e _ => ?_
  exact Ne.symm (N1.ne _ _ e)
theorem ne_new {n n' : Ents} {ks : List Addr} {h : Heap} (C : Cx h₀ L h l n') (k : n'.map (·.1) = ks ++ n.map (·.1)) {a b : Addr} {p : Obj} (ha : a ∈ ks) (e : n.lookup b = some p) : b ≠ a := fun q => by
  have nd := C.nd
  rw [k] at nd
  exact (List.nodup_append.mp nd).2.2 a ha b (List.mem_map.mpr ⟨_, mem_of_lookup e, rfl⟩) q.symm
set_option maxHeartbeats 1000000 in
theorem uni_new {Q : Value → Shared → Prop} (W : Wd w h₀) (C : Cx h₀ L s.heap l n) (hroom : A.depth + 10 < recursionLimit)
    (post : ∀ x dx a1 a2 a3 s' n', Cx h₀ L s'.heap l n' → Up s s' → OI (n'.lookup ·) x dx 350 [("above", .ref a1), ("lots", .ref a2), ("merged", .ref a3)] → n'.lookup a1 = some (lst [] 0) → n'.lookup a2 = some (lst [] 0) → n'.lookup a3 = some (lst [] 0) →
      (∀ b p, n.lookup b = some p → n'.lookup b = some p) → n'.map (·.1) = [a3, a2, a1, x, dx] ++ n.map (·.1) → Q (.ref x) s') :
    wpAny (model PySem.Challenge.pw_pq0072_01 w) A (call (.ref 350) []) Q E s := by
  refine makeC W C (mk_350 _) (in_350 _) (ty_286 _) fun x dx h1 n1 C1 I1 le1 k1 => ?_
  refine enterQ (n := n1) (s := { s with heap := h1 }) (W.keeps C1.own.bar) C1.own.same (x := mth 12 0) rfl k_286 c_286 (by show A.depth + 1 < recursionLimit; exact rm1) (binds := [("self", .ref x)]) rfl (locs rfl) (by decide) fun L2 h2 W2 C2 => ?_
  change Cx (bar h1 n1) L2 h2 [("self", .ref x)] n1 at C2
  have ok := so_350 w.params
  have hdx : ∃ es ep, n1.lookup dx = some (dictOf es ep) := let ⟨es, ep, e, _⟩ := I1.d; ⟨es, ep, e⟩
  walk1
  refine asgSelfList W2 C2 I1 ok (by walk_at "m sm") (by walk_at "m sm") fun a1 h3 n3 t3 C3 I3 e3 le3 k3 => ?_
  change OI _ _ _ _ [("above", .ref a1)] at I3
  walk1
  refine asgSelfList W2 C3 I3 ok (by walk_at "m sm") (by walk_at "m sm") fun a2 h4 n4 t4 C4 I4 e4 le4 k4 => ?_
  change OI _ _ _ _ [("above", .ref a1), ("lots", .ref a2)] at I4
  walk1
  refine asgSelfList W2 C4 I4 ok (by walk_at "m sm") (by walk_at "m sm") fun a3 h5 n5 t5 C5 I5 e5 le5 k5 => ?_
  refine wpAny_execs_nil ?_
  have k : n5.map (·.1) = [a3, a2, a1, x, dx] ++ n.map (·.1) := by rw [k5, k4, k3, k1]; rfl
  have nd := C5.nd
  rw [k] at nd
  simp only [List.cons_append, List.nil_append, List.nodup_cons, List.mem_cons, not_or] at nd
  have ndx : ∀ b p, n.lookup b = some p → b ≠ dx := fun b p e => ne_new C5 k (by walk_at "m sm") e
  refine ⟨rfl, post x dx a1 a2 a3 _ n5 ?_ Up.mk I5 (le5 _ _ ?_ (le4 _ _ ?_ e3)) (le5 _ _ ?_ e4) e5 (fun b p e => le5 b p (ndx b p e) (le4 b p (ndx b p e) (le3 b p (ndx b p e) (le1 b p e)))) k⟩
  · exact C1.after (C5.mut (ks := n1.map (·.1)) fun b p hb e => absurd (List.mem_map.mpr ⟨_, mem_of_lookup e, rfl⟩) hb)
  all_goals simp [nd]
end
end H2
section H3
theorem ke_268 (P : Params) : keepIn (K P) (.ref 268) = true := by kernel_rfl
theorem ke_350 (P : Params) : keepIn (K P) (.ref 350) = true := by kernel_rfl
section
variable {w : World} {A : Around} {E : Value → Shared → Prop} {s : Shared} {h₀ : Heap} {L x dx cc : Addr} {l fs : Binds} {n : Ents} {name : Str} {v : Value}
set_option maxHeartbeats 1000000 in
theorem bank_new {Q : Value → Shared → Prop} (W : Wd w h₀) (C : Cx h₀ L s.heap l n) (hroom : A.depth + 10 < recursionLimit)
    (post : ∀ x dx a1 a2 a3 a4 s' n', Cx h₀ L s'.heap l n' → Up s s' → OI (n'.lookup ·) x dx 268 [("nodes", .ref a1), ("numbers", .ref a2), ("weights", .ref a3), ("depths", .ref a4)] → n'.lookup a1 = some (lst [] 0) → n'.lookup a2 = some emptyDict → n'.lookup a3 = some (lst [] 0) → n'.lookup a4 = some (lst [] 0) →
      (a2 == sysModules) = false → (∀ b p, n.lookup b = some p → n'.lookup b = some p) → n'.map (·.1) = [a4, a3, a2, a1, x, dx] ++ n.map (·.1) → Q (.ref x) s') :
    wpAny (model PySem.Challenge.pw_pq0072_01 w) A (call (.ref 268) []) Q E s := by
  refine makeC W C (mk_268 _) (in_268 _) (ty_178 _) fun x dx h1 n1 C1 I1 le1 k1 => ?_
  refine enterQ (n := n1) (s := { s with heap := h1 }) (W.keeps C1.own.bar) C1.own.same (x := mth 10 0) rfl k_178 c_178 (by show A.depth + 1 < recursionLimit; exact rm1) (binds := [("self", .ref x)]) rfl (locs rfl) (by decide) fun L2 h2 W2 C2 => ?_
  change Cx (bar h1 n1) L2 h2 [("self", .ref x)] n1 at C2
  have ok := so_268 w.params
  walk1
  refine asgSelfList W2 C2 I1 ok (by walk_at "m sm") (by walk_at "m sm") fun a1 h3 n3 t3 C3 I3 e3 le3 k3 => ?_
  change OI _ _ _ _ [("nodes", .ref a1)] at I3
  walk1
  refine asgSelfDict W2 C3 I3 ok (by walk_at "m sm") (by walk_at "m sm") fun a2 h4 n4 t4 C4 I4 e4 le4 k4 lo => ?_
  change OI _ _ _ _ [("nodes", .ref a1), ("numbers", .ref a2)] at I4
  walk1
  refine asgSelfList W2 C4 I4 ok (by walk_at "m sm") (by walk_at "m sm") fun a3 h5 n5 t5 C5 I5 e5 le5 k5 => ?_
  change OI _ _ _ _ [("nodes", .ref a1), ("numbers", .ref a2), ("weights", .ref a3)] at I5
  walk1
  refine asgSelfList W2 C5 I5 ok (by walk_at "m sm") (by walk_at "m sm") fun a4 h6 n6 t6 C6 I6 e6 le6 k6 => ?_
  refine wpAny_execs_nil ?_
  have k : n6.map (·.1) = [a4, a3, a2, a1, x, dx] ++ n.map (·.1) := by rw [k6, k5, k4, k3, k1]; rfl
  have nd := C6.nd
  rw [k] at nd
  simp only [List.cons_append, List.nil_append, List.nodup_cons, List.mem_cons, not_or] at nd
  have ndx : ∀ b p, n.lookup b = some p → b ≠ dx := fun b p e => ne_new C6 k (by walk_at "m sm") e
  refine ⟨rfl, post x dx a1 a2 a3 a4 _ n6 ?_ Up.mk I6 (le6 _ _ ?_ (le5 _ _ ?_ (le4 _ _ ?_ e3))) (le6 _ _ ?_ (le5 _ _ ?_ e4)) (le6 _ _ ?_ e5) e6 lo (fun b p e => le6 b p (ndx b p e) (le5 b p (ndx b p e) (le4 b p (ndx b p e) (le3 b p (ndx b p e) (le1 b p e))))) k⟩
  · exact C1.after (C6.mut (ks := n1.map (·.1)) fun b p hb e => absurd (List.mem_map.mpr ⟨_, mem_of_lookup e, rfl⟩) hb)
  all_goals simp [nd]
theorem HS.On.empty {σ : HS} {f : Look} (h0 : σ.nodes = []) (h1 : σ.ta = []) (h2 : σ.U.ps = []) (h3 : σ.U.la = []) (h4 : σ.U.lots = []) (h5 : σ.abv = []) (h6 : σ.wait = [])
    (l : ∀ a ∈ [σ.U.ab, σ.U.lo, σ.U.me, σ.no, σ.we, σ.de, σ.ed, σ.fo, σ.wa], f a = some (lst [] 0)) (d : ∀ a ∈ [σ.nu, σ.kn, σ.av], f a = some emptyDict) : σ.On w 0 0 f := by
  obtain ⟨hp, bk, ⟨u, ab, lo, me, ps, la, lots⟩, no, nu, we, de, ta, nodes, ed, fo, kn, av, wa, abv, wait⟩ := σ
  dsimp only at h0 h1 h2 h3 h4 h5 h6
  subst h0 h1 h2 h3 h4 h5 h6
  simp only [List.forall_mem_cons] at l d
  refine elAAAAAAAAA l fun l1 l2 l3 l4 l5 l6 l7 l8 l9 _ => ?_
  refine elAAA d fun d1 d2 d3 _ => ?_
  exact ⟨⟨⟨_, _, l1, .nil⟩, ⟨_, l2⟩, ⟨_, _, l3, Nat.le_refl _⟩, .nil⟩, ⟨⟨_, l4⟩, .nil⟩, ⟨[], KDx.new d1, Nat.le_refl _, (fun _ h => nomatch h)⟩, ⟨_, _, l5, rfl, (fun _ h => nomatch h)⟩, ⟨_, _, l6, rfl, (fun _ h => nomatch h)⟩,
    ⟨_, _, l7, Nat.le_refl _⟩, ⟨_, _, l8, Nat.le_refl _⟩, ⟨[], KDx.new d2, Nat.le_refl _, (fun _ h => nomatch h)⟩, ⟨_, d3, isDict_new⟩, (fun _ h => nomatch h), ⟨_, _, l9, .nil⟩⟩
theorem HS.Ok.empty {σ : HS} (h0 : σ.nodes = []) (h2 : σ.U.ps = []) (h3 : σ.U.la = []) (h4 : σ.U.lots = []) (h5 : σ.abv = []) (h6 : σ.wait = [])
    (nd : [σ.U.ab, σ.U.lo, σ.U.me, σ.no, σ.nu, σ.we, σ.de, σ.ed, σ.fo, σ.kn, σ.av, σ.wa].Nodup) (lo : (σ.nu == sysModules) = false ∧ (σ.kn == sysModules) = false ∧ (σ.av == sysModules) = false) : σ.Ok := by
  obtain ⟨hp, bk, ⟨u, ab, lo, me, ps, la, lots⟩, no, nu, we, de, ta, nodes, ed, fo, kn, av, wa, abv, wait⟩ := σ
  dsimp only at h0 h2 h3 h4 h5 h6
  subst h0 h2 h3 h4 h5 h6
  refine ⟨⟨fun i h => absurd h (Nat.not_lt_zero _), Nat.zero_le _, nd.sublist (by simp [Uni.ks]), rfl, fun r xs h => by simp at h⟩, rfl, Nat.zero_le _, (fun _ h => nomatch h), nd, .nil, fun r => ?_, (fun _ h => nomatch h), (fun i nd h => by simp at h), Nat.le_refl _, (fun _ h => nomatch h), lo⟩
  simp [roots]
set_option maxHeartbeats 1000000 in
theorem heap_new {Q : Value → Shared → Prop} (W : Wd w h₀) (C : Cx h₀ L s.heap l n) (hroom : A.depth + 20 < recursionLimit)
    (post : ∀ (σ : HS) hd bd ud s' n', Cx h₀ L s'.heap l n' → Up s s' → OI (n'.lookup ·) σ.hp hd 482 σ.fs → OI (n'.lookup ·) σ.bk bd 268 σ.fb → OI (n'.lookup ·) σ.U.u ud 350 σ.U.fs → σ.On w 0 0 (n'.lookup ·) → σ.Ok → σ.nodes = [] →
      (∀ b p, n.lookup b = some p → n'.lookup b = some p) → n'.map (·.1) = [σ.wa, σ.av, σ.kn, σ.fo, σ.ed, σ.U.me, σ.U.lo, σ.U.ab, σ.U.u, ud, σ.de, σ.we, σ.nu, σ.no, σ.bk, bd, σ.hp, hd] ++ n.map (·.1) → σ.abv = [] → σ.U.la = [] → Q (.ref σ.hp) s') :
    wpAny (model PySem.Challenge.pw_pq0072_01 w) A (call (.ref 482) []) Q E s := by
  refine makeC W C (mk_482 _) (in_482 _) (ty_368 _) fun x dx h1 n1 C1 I1 le1 k1 => ?_
  refine enterQ (n := n1) (s := { s with heap := h1 }) (W.keeps C1.own.bar) C1.own.same (x := mth 14 0) rfl k_368 c_368 (by show A.depth + 1 < recursionLimit; exact rm1) (binds := [("self", .ref x)]) rfl (locs rfl) (by decide) fun L2 h2 W2 C2 => ?_
  change Cx (bar h1 n1) L2 h2 [("self", .ref x)] n1 at C2
  change Wd w (bar h1 n1) at W2
  generalize hB : bar h1 n1 = B at C2 W2
  have ok := so_482 w.params
  walk1
  refine asgSelf (by with_unfolding_all rfl) (by rfl) (by rfl) (by rfl) (by decide) ?_
  walk1
  refine gnC W2 C2 (g_Bank _) ?_
  refine callK0 W2 C2.keep (ke_268 _) ?_
  refine bank_new W2 C2 (by show A.depth + 1 + 1 + 10 < recursionLimit; exact rm3) fun bx bd b1 b2 b3 b4 s3 n3 C3 X3 => X3.goC C3 fun h3 d3 t3 C3 I3 e1 e2 e3 e4 lo3 le3 k3 => ?_
  refine ⟨B, x, dx, 482, [], _, n3, W2, C3, rfl, I1.mono le3, of_all ok (by walk_at "m sm"), by walk_at "m sm", fun h4 n4 t4 C4 I4 off4 k4 => ?_⟩
  change OI _ _ _ _ [("bank", .ref bx)] at I4
  walk1
  refine asgSelf (by with_unfolding_all rfl) (by rfl) (by rfl) (by rfl) (by decide) ?_
  walk1
  refine gnC W2 C4 (g_Unions _) ?_
  refine callK0 W2 C4.keep (ke_350 _) ?_
  refine uni_new W2 C4 (by show A.depth + 1 + 1 + 10 < recursionLimit; exact rm3) fun ux ud a1 a2 a3 s5 n5 C5 X5 => X5.goC C5 fun h5 d5 t5 C5 I5 f1 f2 f3 le5 k5 => ?_
  refine ⟨B, x, dx, 482, _, _, n5, W2, C5, rfl, I4.mono le5, of_all ok (by walk_at "m sm"), by walk_at "m sm", fun h6 n6 t6 C6 I6 off6 k6 => ?_⟩
  change OI _ _ _ _ [("bank", .ref bx), ("unions", .ref ux)] at I6
  walk1
  refine asgSelfList W2 C6 I6 ok (by walk_at "m sm") (by walk_at "m sm") fun c1 h7 n7 t7 C7 I7 g1 le7 k7 => ?_
  change OI _ _ _ _ [("bank", .ref bx), ("unions", .ref ux), ("edges", .ref c1)] at I7
  walk1
  refine asgSelfList W2 C7 I7 ok (by walk_at "m sm") (by walk_at "m sm") fun c2 h8 n8 t8 C8 I8 g2 le8 k8 => ?_
  change OI _ _ _ _ [("bank", .ref bx), ("unions", .ref ux), ("edges", .ref c1), ("forest", .ref c2)] at I8
  walk1
  refine asgSelfDict W2 C8 I8 ok (by walk_at "m sm") (by walk_at "m sm") fun c3 h9 n9 t9 C9 I9 g3 le9 k9 lo9 => ?_
  change OI _ _ _ _ [("bank", .ref bx), ("unions", .ref ux), ("edges", .ref c1), ("forest", .ref c2), ("known", .ref c3)] at I9
  walk1
  refine asgSelfDict W2 C9 I9 ok (by walk_at "m sm") (by walk_at "m sm") fun c4 h10 n10 t10 C10 I10 g4 le10 k10 lo10 => ?_
  change OI _ _ _ _ [("bank", .ref bx), ("unions", .ref ux), ("edges", .ref c1), ("forest", .ref c2), ("known", .ref c3), ("above", .ref c4)] at I10
  walk1
  refine asgSelfList W2 C10 I10 ok (by walk_at "m sm") (by walk_at "m sm") fun c5 h11 n11 t11 C11 I11 g5 le11 k11 => ?_
  change OI _ _ _ _ [("bank", .ref bx), ("unions", .ref ux), ("edges", .ref c1), ("forest", .ref c2), ("known", .ref c3), ("above", .ref c4), ("waiting", .ref c5)] at I11
  refine wpAny_execs_nil ?_
  have k : n11.map (·.1) = [c5, c4, c3, c2, c1, a3, a2, a1, ux, ud, b4, b3, b2, b1, bx, bd, x, dx] ++ n.map (·.1) := by rw [k11, k10, k9, k8, k7, k6, k5, k4, k3, k1]; rfl
  have nd := C11.nd
  rw [k] at nd
  have nd1 := (List.nodup_append.mp nd).1
  have ndx : ∀ b p, n.lookup b = some p → b ≠ dx := fun b p e => ne_new C11 k (by walk_at "m sm") e
  have l6 : ∀ b p, b ≠ dx → n6.lookup b = some p → n11.lookup b = some p := fun b p q e => le11 b p q (le10 b p q (le9 b p q (le8 b p q (le7 b p q e))))
  have l5 : ∀ b p, b ≠ dx → n5.lookup b = some p → n11.lookup b = some p := fun b p q e => l6 b p q (off6 b p q e)
  have l3 : ∀ b p, b ≠ dx → n3.lookup b = some p → n11.lookup b = some p := fun b p q e => l5 b p q (le5 b p (off4 b p q e))
  have l1 : ∀ b p, b ≠ dx → n1.lookup b = some p → n11.lookup b = some p := fun b p q e => l3 b p q (le3 b p e)
  refine ⟨rfl, post ⟨x, bx, ⟨ux, a1, a2, a3, [], [], []⟩, b1, b2, b3, b4, [], [], c1, c2, c3, c4, c5, [], []⟩ dx bd ud _ n11 ?_ Up.mk I11 ⟨l3 _ _ (ndI nd1 (by walk_at "m nd")) I3.x, ?_⟩ ⟨l5 _ _ (ndI nd1 (by walk_at "m nd")) I5.x, ?_⟩ (HS.On.empty rfl rfl rfl rfl rfl rfl rfl ?_ ?_) (HS.Ok.empty rfl rfl rfl rfl rfl rfl ?_ ⟨lo3, lo9, lo10⟩) rfl (fun b p e => l1 b p (ndx b p e) (le1 b p e)) k rfl rfl⟩
  · subst hB
    exact C1.after (C11.mut (ks := n1.map (·.1)) fun b p hb e => absurd (List.mem_map.mpr ⟨_, mem_of_lookup e, rfl⟩) hb)
  · obtain ⟨es, ep, e, r⟩ := I3.d; exact ⟨es, ep, l3 _ _ (ndI nd1 (by walk_at "m nd")) e, r⟩
  · obtain ⟨es, ep, e, r⟩ := I5.d; exact ⟨es, ep, l5 _ _ (ndI nd1 (by walk_at "m nd")) e, r⟩
  · simp only [List.forall_mem_cons]
    exact ⟨l5 _ _ (ndI nd1 (by walk_at "m nd")) f1, l5 _ _ (ndI nd1 (by walk_at "m nd")) f2, l5 _ _ (ndI nd1 (by walk_at "m nd")) f3, l3 _ _ (ndI nd1 (by walk_at "m nd")) e1, l3 _ _ (ndI nd1 (by walk_at "m nd")) e3, l3 _ _ (ndI nd1 (by walk_at "m nd")) e4, le11 _ _ (ndI nd1 (by walk_at "m nd")) (le10 _ _ (ndI nd1 (by walk_at "m nd")) (le9 _ _ (ndI nd1 (by walk_at "m nd")) (le8 _ _ (ndI nd1 (by walk_at "m nd")) g1))), le11 _ _ (ndI nd1 (by walk_at "m nd")) (le10 _ _ (ndI nd1 (by walk_at "m nd")) (le9 _ _ (ndI nd1 (by walk_at "m nd")) g2)), g5, fun _ h => nomatch h⟩
  · simp only [List.forall_mem_cons]
    exact ⟨l3 _ _ (ndI nd1 (by walk_at "m nd")) e2, le11 _ _ (ndI nd1 (by walk_at "m nd")) (le10 _ _ (ndI nd1 (by walk_at "m nd")) g3), le11 _ _ (ndI nd1 (by walk_at "m nd")) g4, fun _ h => nomatch h⟩
  · have h1 : ([c5, c4, c3, c2, c1, a3, a2, a1, b4, b3, b2, b1] : List Addr).reverse.Nodup := (List.reverse_perm _).nodup_iff.mpr (nd1.sublist (by walk_at "m sm"))
    exact ((List.perm_append_comm (l₁ := [b1, b2, b3, b4]) (l₂ := [a1, a2, a3])).append_right [c1, c2, c3, c4, c5]).nodup_iff.mp h1
theorem consts_new {Q : Value → Shared → Prop} {u : Tok} {i : Int} (W : Wd w h₀) (C : Cx h₀ L s.heap l n) (hroom : A.depth + 20 < recursionLimit)
    (post : ∀ x dx s' n', Cx h₀ L s'.heap l n' → Up s s' → OI (n'.lookup ·) x dx 57 [("n", .int i u)] → (∀ b p, n.lookup b = some p → n'.lookup b = some p) → n'.map (·.1) = [x, dx] ++ n.map (·.1) → Q (.ref x) s') :
    wpAny (model PySem.Challenge.pw_pq0072_01 w) A (call (.ref 57) [.int i u]) Q E s := by
  refine makeC W C (mk_57 _) (in_57 _) (ty_40 _) fun x dx h1 n1 C1 I1 le1 k1 => ?_
  refine enterQ (n := n1) (s := { s with heap := h1 }) (W.keeps C1.own.bar) C1.own.same (x := mth 3 0) rfl k_40 c_40 (by show A.depth + 1 < recursionLimit; exact rm1) (binds := [("self", .ref x), ("n", .int i u)]) rfl (locs rfl) (by decide) fun L2 h2 W2 C2 => ?_
  change Cx (bar h1 n1) L2 h2 [("n", .int i u), ("self", .ref x)] n1 at C2
  walk1
  refine asgSelf (by with_unfolding_all rfl) (by rfl) (by rfl) (by rfl) (by decide) ?_
  walk1
  refine ⟨_, x, dx, 57, [], _, n1, W2, C2, rfl, I1, of_all (so_57 w.params) (by walk_at "m sm"), by walk_at "m sm", fun h4 n4 t4 C4 I4 off4 k4 => ?_⟩
  refine wpAny_execs_nil ?_
  have k : n4.map (·.1) = [x, dx] ++ n.map (·.1) := by rw [k4, k1]; rfl
  refine ⟨rfl, post x dx _ n4 (C1.after (C4.mut (ks := n1.map (·.1)) fun b p hb e => absurd (List.mem_map.mpr ⟨_, mem_of_lookup e, rfl⟩) hb)) Up.mk I4 (fun b p e => off4 _ _ (ne_new C4 k (by walk_at "m sm") e) (le1 _ _ e)) k⟩
theorem keeper_new {Q : Value → Shared → Prop} {a b : Addr} (W : Wd w h₀) (C : Cx h₀ L s.heap l n) (hroom : A.depth + 20 < recursionLimit)
    (post : ∀ x dx vd td s' n', Cx h₀ L s'.heap l n' → Up s s' → OI (n'.lookup ·) x dx 114 [("heap", .ref a), ("analysis", .ref b), ("values", .ref vd), ("told", .ref td)] → n'.lookup vd = some emptyDict → (vd == sysModules) = false → (∀ b p, n.lookup b = some p → n'.lookup b = some p) → n'.map (·.1) = [td, vd, x, dx] ++ n.map (·.1) → Q (.ref x) s') :
    wpAny (model PySem.Challenge.pw_pq0072_01 w) A (call (.ref 114) [.ref a, .ref b]) Q E s := by
  refine makeC W C (mk_114 _) (in_114 _) (ty_75 _) fun x dx h1 n1 C1 I1 le1 k1 => ?_
  refine enterQ (n := n1) (s := { s with heap := h1 }) (W.keeps C1.own.bar) C1.own.same (x := mth 4 0) rfl k_75 c_75 (by show A.depth + 1 < recursionLimit; exact rm1) (binds := [("self", .ref x), ("heap", .ref a), ("analysis", .ref b)]) rfl (locs rfl) (by decide) fun L2 h2 W2 C2 => ?_
  change Cx (bar h1 n1) L2 h2 [("analysis", .ref b), ("heap", .ref a), ("self", .ref x)] n1 at C2
  have ok := so_114 w.params
  walk1
  refine asgSelf (by with_unfolding_all rfl) (by rfl) (by rfl) (by rfl) (by decide) ?_
  walk1
  refine ⟨_, x, dx, 114, [], _, n1, W2, C2, rfl, I1, of_all ok (by walk_at "m sm"), by walk_at "m sm", fun h4 n4 t4 C4 I4 off4 k4 => ?_⟩
  change OI _ _ _ _ [("heap", .ref a)] at I4
  walk1
  refine asgSelf (by with_unfolding_all rfl) (by rfl) (by rfl) (by rfl) (by decide) ?_
  walk1
  refine ⟨_, x, dx, 114, _, _, n4, W2, C4, rfl, I4, of_all ok (by walk_at "m sm"), by walk_at "m sm", fun h5 n5 t5 C5 I5 off5 k5 => ?_⟩
  change OI _ _ _ _ [("heap", .ref a), ("analysis", .ref b)] at I5
  walk1
  refine asgSelfDict W2 C5 I5 ok (by walk_at "m sm") (by walk_at "m sm") fun vd h6 n6 t6 C6 I6 e6 le6 k6 lo6 => ?_
  change OI _ _ _ _ [("heap", .ref a), ("analysis", .ref b), ("values", .ref vd)] at I6
  walk1
  refine asgSelfDict W2 C6 I6 ok (by walk_at "m sm") (by walk_at "m sm") fun td h7 n7 t7 C7 I7 e7 le7 k7 lo7 => ?_
  refine wpAny_execs_nil ?_
  have k : n7.map (·.1) = [td, vd, x, dx] ++ n.map (·.1) := by rw [k7, k6, k5, k4, k1]; rfl
  have nd := C7.nd
  rw [k] at nd
  have nd1 := (List.nodup_append.mp nd).1
  have ndx : ∀ b p, n.lookup b = some p → b ≠ dx := fun b p e => ne_new C7 k (by walk_at "m sm") e
  exact ⟨rfl, post x dx vd td _ n7 (C1.after (C7.mut (ks := n1.map (·.1)) fun b p hb e => absurd (List.mem_map.mpr ⟨_, mem_of_lookup e, rfl⟩) hb)) Up.mk I7 (le7 _ _ (ndI nd1 (by walk_at "m nd")) e6) lo6 (fun b p e => le7 _ _ (ndx _ _ e) (le6 _ _ (ndx _ _ e) (off5 _ _ (ndx _ _ e) (off4 _ _ (ndx _ _ e) (le1 _ _ e))))) k⟩
end
end H3
section P4
open PySem
noncomputable abbrev Va := Option (Option Nat)
noncomputable def vj (a b : Va) : Va := if a = none ∨ a = b then b else if b = none then a else some none
noncomputable def vle (a b : Va) : Prop := a = none ∨ a = b ∨ b = some none
noncomputable def ht : Va → Nat
  | none => 0
  | some (some _) => 1
  | some none => 2
theorem vle.refl (a : Va) : vle a a := .inr (.inl rfl)
theorem vle.trans {a b c : Va} (x : vle a b) (y : vle b c) : vle a c := by
  rcases x with rfl | rfl | rfl
  · exact .inl rfl
  · exact y
  · rcases y with y | rfl | rfl
    · cases y
    · exact .inr (.inr rfl)
    · exact .inr (.inr rfl)
theorem vle.anti {a b : Va} (x : vle a b) (y : vle b a) : a = b := by
  rcases x with rfl | rfl | rfl
  · rcases y with rfl | rfl | y
    · rfl
    · rfl
    · cases y
  · rfl
  · rcases y with y | rfl | rfl
    · cases y
    · rfl
    · rfl
theorem vle_left (a b : Va) : vle a (vj a b) := by
  unfold vj vle; split
  · rename_i h; rcases h with h | h
    · exact .inl h
    · exact .inr (.inl h)
  · split
    · exact .inr (.inl rfl)
    · exact .inr (.inr rfl)
theorem vle_right (a b : Va) : vle b (vj a b) := by
  unfold vj vle; split
  · exact .inr (.inl rfl)
  · split
    · rename_i h; exact .inl h
    · exact .inr (.inr rfl)
theorem vle_lub {a b c : Va} (x : vle a c) (y : vle b c) : vle (vj a b) c := by
  unfold vj; split
  · exact y
  · rename_i h
    split
    · exact x
    · rename_i h2
      rcases x with x | rfl | rfl
      · exact absurd (.inl x) h
      · rcases y with y | rfl | rfl
        · exact absurd y h2
        · exact absurd (.inr rfl) h
        · exact .inr (.inr rfl)
      · exact .inr (.inr rfl)
theorem ht_lt {a b : Va} (x : vle a b) (h : a ≠ b) : ht a < ht b := by
  rcases x with rfl | rfl | rfl
  · cases b with
    | none => exact absurd rfl h
    | some b => cases b <;> simp [ht]
  · exact absurd rfl h
  · cases a with
    | none => simp [ht]
    | some a => cases a with
      | none => exact absurd rfl h
      | some k => simp [ht]
theorem ht_le (a : Va) : ht a ≤ 2 := by cases a with | none => simp [ht] | some a => cases a <;> simp [ht]
noncomputable def vget (m : List (Nat × Va)) (c : Nat) : Va := (m.lookup c).getD none
noncomputable def vput : List (Nat × Va) → Nat → Va → List (Nat × Va)
  | [], c, v => [(c, v)]
  | p :: r, c, v => if p.1 = c then (p.1, v) :: r else p :: vput r c v
theorem vget_put {m : List (Nat × Va)} {c d : Nat} {v : Va} : vget (vput m c v) d = if d = c then v else vget m d := by
  unfold vget
  induction m with
  | nil =>
    unfold vput
    rw [List.lookup_cons]
    by_cases h : d = c
    · subst h; simp
    · simp [beq_false_of_ne h, h]
  | cons p r ih =>
    unfold vput
    by_cases hp : p.1 = c
    · rw [if_pos hp]
      rw [List.lookup_cons, List.lookup_cons]
      by_cases h : d = c
      · subst h; simp [hp]
      · have : d ≠ p.1 := fun q => h (q.trans hp)
        simp [beq_false_of_ne this, h]
    · rw [if_neg hp, List.lookup_cons, List.lookup_cons]
      by_cases h : d = p.1
      · subst h; simp [hp]
      · rw [beq_false_of_ne h]; exact ih
theorem vput_keys {m : List (Nat × Va)} {c : Nat} {v : Va} : ∀ x, x ∈ (vput m c v).map (·.1) ↔ x ∈ m.map (·.1) ∨ x = c := by
  induction m with
  | nil => intro x; simp [vput]
  | cons p r ih =>
    intro x
    unfold vput
    by_cases hp : p.1 = c
    · rw [if_pos hp]; simp only [List.map_cons, List.mem_cons]
      constructor
      · rintro (h | h)
        · exact .inl (.inl h)
        · exact .inl (.inr h)
      · rintro ((h | h) | h)
        · exact .inl h
        · exact .inr h
        · exact .inl (h.trans hp.symm)
    · rw [if_neg hp]; simp only [List.map_cons, List.mem_cons, ih]
      constructor
      · rintro (h | h | h)
        · exact .inl (.inl h)
        · exact .inl (.inr h)
        · exact .inr h
      · rintro ((h | h) | h)
        · exact .inl h
        · exact .inr (.inl h)
        · exact .inr (.inr h)
noncomputable def slack (rs : List Nat) (m : Nat → Va) : Nat := (rs.map fun r => 2 - ht (m r)).sum
theorem slack_le (rs : List Nat) (m : Nat → Va) : slack rs m ≤ 2 * rs.length := by
  unfold slack
  induction rs with
  | nil => simp
  | cons r rs ih => simp only [List.map_cons, List.sum_cons, List.length_cons]; exact om161 ih
theorem slack_mono {rs : List Nat} {m m' : Nat → Va} (h : ∀ r ∈ rs, vle (m r) (m' r)) : slack rs m' ≤ slack rs m := by
  unfold slack
  induction rs with
  | nil => simp
  | cons r rs ih =>
    simp only [List.map_cons, List.sum_cons]
    have h1 := ih fun r hr => h r (.tail _ hr)
    have h2 : ht (m r) ≤ ht (m' r) := by
      by_cases q : m r = m' r
      · rw [q]; exact Nat.le_refl _
      · exact Nat.le_of_lt (ht_lt (h r (.head _)) q)
    exact om174 h1 h2
theorem slack_lt {rs : List Nat} {m m' : Nat → Va} (h : ∀ r ∈ rs, vle (m r) (m' r)) {c : Nat} (hc : c ∈ rs) (ne : m c ≠ m' c) : slack rs m' < slack rs m := by
  unfold slack
  induction rs with
  | nil => cases hc
  | cons r rs ih =>
    simp only [List.map_cons, List.sum_cons]
    have h2 : ht (m r) ≤ ht (m' r) := by
      by_cases q : m r = m' r
      · rw [q]; exact Nat.le_refl _
      · exact Nat.le_of_lt (ht_lt (h r (.head _)) q)
    have b1 := ht_le (m r); have b2 := ht_le (m' r)
    rcases List.mem_cons.mp hc with rfl | hc
    · have h1 : slack rs m' ≤ slack rs m := slack_mono fun r hr => h r (.tail _ hr)
      unfold slack at h1
      have := ht_lt (h c (.head _)) ne
      exact om228 b1 b2 h1 this
    · have h1 := ih (fun r hr => h r (.tail _ hr)) hc
      exact om229 h2 b1 b2 h1
inductive Vles : List Va → List Va → Prop
  | nil : Vles [] []
  | cons {a b l r} : vle a b → Vles l r → Vles (a :: l) (b :: r)
theorem Vles.map {α : Type} {f g : α → Va} {l : List α} (h : ∀ x ∈ l, vle (f x) (g x)) : Vles (l.map f) (l.map g) := by
  induction l with
  | nil => exact .nil
  | cons x l ih => exact .cons (h x (.head _)) (ih fun y hy => h y (.tail _ hy))
theorem Vles.length {l r : List Va} (h : Vles l r) : l.length = r.length := by induction h with | nil => rfl | cons _ _ ih => simp [ih]
theorem Vles.none {l r : List Va} (h : Vles l r) : Option.none ∈ r → Option.none ∈ l := by
  induction h with
  | nil => exact id
  | cons x _ ih =>
    intro q
    rcases List.mem_cons.mp q with q | q
    · subst q
      rcases x with x | x | x
      · exact x ▸ .head _
      · exact x ▸ .head _
      · cases x
    · exact .tail _ (ih q)
theorem Vles.same {l r : List Va} (h : Vles l r) : Option.none ∉ l → some Option.none ∉ r → l = r := by
  induction h with
  | nil => exact fun _ _ => rfl
  | cons x _ ih =>
    intro h1 h2
    rw [List.mem_cons, not_or] at h1 h2
    rw [ih h1.2 h2.2]
    rcases x with x | x | x
    · exact absurd x.symm h1.1
    · rw [x]
    · exact absurd x.symm h2.1
noncomputable def leafs : List (Str × Option Int) := [("0", some 0), ("1", some 1), ("x", none), ("-1", some (-1)), ("10", some 10), ("007", some 7), ("--1", none), ("1x", none), ("-0", some 0), ("-", none)]
noncomputable def opsOk (op : Str) (k : Nat) : Bool := (op == "add" && k == 2) || (op == "mul" && k == 2) || (op == "neg" && k == 1)
noncomputable def numOf : Va → Nat
  | some (some k) => k
  | _ => 0
noncomputable def reck (n : Nat) (op : Str) (vs : List Va) : Va :=
  match vs with
  | [] => ((leafs.lookup op).getD none).map fun i => some (i % (n : Int)).toNat
  | a :: r => if none ∈ a :: r ∨ opsOk op (a :: r).length = false then none else if some none ∈ a :: r then some none
    else if op == "neg" then some (some ((n - numOf a) % n)) else if op == "add" then some (some ((numOf a + numOf (r.headD none)) % n)) else some (some (numOf a * numOf (r.headD none) % n))
theorem reck_mono {n : Nat} {op : Str} {l r : List Va} (h : Vles l r) : vle (reck n op l) (reck n op r) := by
  cases h with
  | nil => exact vle.refl _
  | @cons a b l r x t =>
    have h' := Vles.cons x t
    have hl := h'.length
    unfold reck
    dsimp only
    rw [hl]
    by_cases h1 : none ∈ a :: l ∨ opsOk op (b :: r).length = false
    · rw [if_pos h1]; exact .inl rfl
    · rw [if_neg h1]
      rw [not_or] at h1
      have h2 : ¬ (none ∈ b :: r ∨ opsOk op (b :: r).length = false) := not_or.mpr ⟨fun q => h1.1 (h'.none q), h1.2⟩
      rw [if_neg h2]
      by_cases h3 : some none ∈ b :: r
      · rw [if_pos h3]; exact .inr (.inr rfl)
      · have e := h'.same h1.1 h3
        obtain ⟨rfl, rfl⟩ : a = b ∧ l = r := by simpa using e
        exact vle.refl _
end P4
section H4
noncomputable abbrev clashT : Str := "clash"
noncomputable def VIs (v : Value) : Va → Prop
  | none => v = .none
  | some none => ∃ t, v = .str clashT t
  | some (some k) => ∃ t, v = .int (k : Nat) t
noncomputable def vaOf : Value → Va
  | .int i _ => some (some i.toNat)
  | .str _ _ => some none
  | _ => none
theorem VIs.of {v : Value} {x : Va} (h : VIs v x) : vaOf v = x := by
  rcases x with _ | _ | k
  · cases h; rfl
  · obtain ⟨t, rfl⟩ := h; rfl
  · obtain ⟨t, rfl⟩ := h; rfl
section
variable {prog : Program} {w : World} {A : Around} {E : Value → Shared → Prop} {s : Shared}
theorem natEq (k j : Nat) : ((k : Int) == (j : Int)) = decide (some (some k) = (some (some j) : Va)) := by
  by_cases h : k = j
  · subst h; simp
  · have : ¬ ((k : Int) = (j : Int)) := by exact om102 h
    rw [beq_false_of_ne this]; simp [h]
theorem rcV {a b : Value} {x y : Va} (ha : VIs a x) (hb : VIs b y) : SeqAt.RcAt A s a b (decide (x = y)) := by
  rcases x with _ | _ | k <;> rcases y with _ | _ | j
  · cases ha; cases hb; exact SeqAt.RcAt.none_none
  · cases ha; obtain ⟨t, rfl⟩ := hb; exact SeqAt.RcAt.none_str _ _
  · cases ha; obtain ⟨t, rfl⟩ := hb; exact SeqAt.RcAt.none_int _ _
  · obtain ⟨t, rfl⟩ := ha; cases hb; exact SeqAt.RcAt.str_none _ _
  · obtain ⟨t, rfl⟩ := ha; obtain ⟨u, rfl⟩ := hb; simpa using SeqAt.RcAt.str_str (A := A) (s := s) clashT t clashT u
  · obtain ⟨t, rfl⟩ := ha; obtain ⟨u, rfl⟩ := hb; exact SeqAt.RcAt.str_int _ _ _ _
  · obtain ⟨t, rfl⟩ := ha; cases hb; exact SeqAt.RcAt.int_none _ _
  · obtain ⟨t, rfl⟩ := ha; obtain ⟨u, rfl⟩ := hb; exact SeqAt.RcAt.int_str _ _ _ _
  · obtain ⟨t, rfl⟩ := ha; obtain ⟨u, rfl⟩ := hb; rw [← natEq]; exact SeqAt.RcAt.int_int _ _ _ _
theorem rcneV {a b : Value} {x y : Va} (ha : VIs a x) (hb : VIs b y) : SeqAt.RcNeAt A s a b (!decide (x = y)) := by
  rcases x with _ | _ | k <;> rcases y with _ | _ | j
  · cases ha; cases hb; exact SeqAt.RcNeAt.none_none
  · cases ha; obtain ⟨t, rfl⟩ := hb; exact SeqAt.RcNeAt.none_str _ _
  · cases ha; obtain ⟨t, rfl⟩ := hb; exact SeqAt.RcNeAt.none_int _ _
  · obtain ⟨t, rfl⟩ := ha; cases hb; exact SeqAt.RcNeAt.str_none _ _
  · obtain ⟨t, rfl⟩ := ha; obtain ⟨u, rfl⟩ := hb; simpa using SeqAt.RcNeAt.str_str (A := A) (s := s) clashT t clashT u
  · obtain ⟨t, rfl⟩ := ha; obtain ⟨u, rfl⟩ := hb; exact SeqAt.RcNeAt.str_int _ _ _ _
  · obtain ⟨t, rfl⟩ := ha; cases hb; exact SeqAt.RcNeAt.int_none _ _
  · obtain ⟨t, rfl⟩ := ha; obtain ⟨u, rfl⟩ := hb; exact SeqAt.RcNeAt.int_str _ _ _ _
  · obtain ⟨t, rfl⟩ := ha; obtain ⟨u, rfl⟩ := hb; rw [← natEq]; exact SeqAt.RcNeAt.int_int _ _ _ _
theorem eqatV {a b : Value} {x y : Va} (ha : VIs a x) (hb : VIs b y) : SeqAt.EqAt A s a b (decide (x = y)) := by
  rcases x with _ | _ | k <;> rcases y with _ | _ | j
  · cases ha; cases hb; exact SeqAt.EqAt.same _
  · cases ha; obtain ⟨t, rfl⟩ := hb; exact SeqAt.EqAt.none_str _ _
  · cases ha; obtain ⟨t, rfl⟩ := hb; exact SeqAt.EqAt.none_int _ _
  · obtain ⟨t, rfl⟩ := ha; cases hb; exact SeqAt.EqAt.str_none _ _
  · obtain ⟨t, rfl⟩ := ha; obtain ⟨u, rfl⟩ := hb; simpa using SeqAt.EqAt.str_str (A := A) (s := s) clashT t clashT u
  · obtain ⟨t, rfl⟩ := ha; obtain ⟨u, rfl⟩ := hb; exact SeqAt.EqAt.str_int _ _ _ _
  · obtain ⟨t, rfl⟩ := ha; cases hb; exact SeqAt.EqAt.int_none _ _
  · obtain ⟨t, rfl⟩ := ha; obtain ⟨u, rfl⟩ := hb; exact SeqAt.EqAt.int_str _ _ _ _
  · obtain ⟨t, rfl⟩ := ha; obtain ⟨u, rfl⟩ := hb; rw [← natEq]; exact SeqAt.EqAt.int_int _ _ _ _
theorem eqV {a b : Value} {x y : Va} {Q : Value → Shared → Prop} (ha : VIs a x) (hb : VIs b y) (h : Q (.bool (decide (x = y))) s) : wpAny (model prog w) A (compareOp .Eq a b) Q E s := rcV ha hb prog w E Q h
theorem neV {a b : Value} {x y : Va} {Q : Value → Shared → Prop} (ha : VIs a x) (hb : VIs b y) (h : Q (.bool (!decide (x = y))) s) : wpAny (model prog w) A (compareOp .NotEq a b) Q E s := rcneV ha hb prog w E Q h
noncomputable abbrev Vls (vs : List Value) (xs : List Va) : Prop := Pw VIs vs xs
theorem Vls.any {vs : List Value} {xs : List Va} (h : Vls vs xs) (x : Va) : (vs.toArray.any fun y => decide (vaOf y = x)) = decide (x ∈ xs) := by
  rw [List.any_toArray]
  induction h with
  | nil => rfl
  | cons h _ ih =>
    rw [List.any_cons, ih, h.of]
    rename_i b _ _ _
    by_cases q : b = x
    · subst q; simp
    · have : x ≠ b := Ne.symm q
      simp [q, this]
theorem inV {l : Addr} {b : Value} {vs : List Value} {xs : List Va} {x : Va} {ep : Nat} {Q : Value → Shared → Prop} (ho : s.heap.get? l = some (lst vs ep)) (hv : Vls vs xs) (hb : VIs b x) (h : Q (.bool (decide (x ∈ xs))) s) :
    wpAny (model prog w) A (compareOp .In b (.ref l)) Q E s := by
  refine SeqAt.in_listAt (fun y => decide (vaOf y = x)) (isList_obj ho) (fun y hy => ?_) (by rw [hv.any]; exact h)
  refine elEA (hv.mem1 (by simpa using hy)) fun z _ hz => ?_
  rw [hz.of]
  exact eqatV hz hb
end
noncomputable def KV (w : World) (f : Look) (d : Addr) (m : List (Nat × Va)) : Prop := ∃ o kvs, f d = some o ∧ o.IsDictOf (intKind pwp w) kvs ∧ Pw (fun (p : Int × Value) (q : Nat × Va) => p.1 = (q.1 : Int) ∧ VIs p.2 q.2) kvs m ∧ (d == sysModules) = false
theorem KV.mono {w : World} {f g : Look} {d : Addr} {m : List (Nat × Va)} (h : KV w f d m) (k : ∀ o, f d = some o → g d = some o) : KV w g d m := let ⟨o, kvs, e, r⟩ := h; ⟨o, kvs, k _ e, r⟩
theorem kv_get {kvs : List (Int × Value)} {m : List (Nat × Va)} (h : Pw (fun (p : Int × Value) (q : Nat × Va) => p.1 = (q.1 : Int) ∧ VIs p.2 q.2) kvs m) (c : Nat) : VIs ((valueAt kvs (c : Int)).getD .none) (vget m c) := by
  unfold valueAt vget
  induction h with
  | nil => rfl
  | @cons p q _ _ h _ ih =>
    rw [List.find?_cons, List.lookup_cons]
    by_cases e : q.1 = c
    · have : p.1 = (c : Int) := by rw [h.1, e]
      rw [decide_eq_true this, ← e, beq_self_eq_true]; exact h.2
    · have : ¬ p.1 = (c : Int) := by rw [h.1]; exact om102 e
      rw [decide_eq_false this, beq_false_of_ne (Ne.symm e)]; exact ih
theorem kv_keys {kvs : List (Int × Value)} {m : List (Nat × Va)} (h : Pw (fun (p : Int × Value) (q : Nat × Va) => p.1 = (q.1 : Int) ∧ VIs p.2 q.2) kvs m) : kvs.map (·.1) = m.map fun q => (q.1 : Int) := by
  induction h with
  | nil => rfl
  | cons h _ ih => rw [List.map_cons, List.map_cons, ih, h.1]
theorem kv_put {kvs : List (Int × Value)} {m : List (Nat × Va)} {c : Nat} {v : Value} {x : Va} (h : Pw (fun (p : Int × Value) (q : Nat × Va) => p.1 = (q.1 : Int) ∧ VIs p.2 q.2) kvs m) (nd : (kvs.map (·.1)).Nodup) (hv : VIs v x) :
    Pw (fun (p : Int × Value) (q : Nat × Va) => p.1 = (q.1 : Int) ∧ VIs p.2 q.2) (stored kvs (c : Int) v) (vput m c x) := by
  have out : ∀ {kvs : List (Int × Value)}, (c : Int) ∉ kvs.map (·.1) → kvs.map (fun kv => if kv.1 = (c : Int) then (kv.1, v) else kv) = kvs := fun {kvs} hn => by
    refine (List.map_congr_left fun kv hk => ?_).trans (List.map_id' _)
    exact if_neg fun (e : kv.1 = (c : Int)) => hn (e ▸ List.mem_map_of_mem (f := (·.1)) hk)
  have main : ∀ {kvs : List (Int × Value)} {m : List (Nat × Va)}, Pw (fun (p : Int × Value) (q : Nat × Va) => p.1 = (q.1 : Int) ∧ VIs p.2 q.2) kvs m → (kvs.map (·.1)).Nodup →
      Pw (fun (p : Int × Value) (q : Nat × Va) => p.1 = (q.1 : Int) ∧ VIs p.2 q.2) (stored kvs (c : Int) v) (vput m c x) := fun h => by
    induction h with
    | nil => exact fun _ => .cons ⟨rfl, hv⟩ .nil
    | @cons p q r r' h t ih =>
      intro nd
      rw [List.map_cons, List.nodup_cons] at nd
      unfold vput
      by_cases e : q.1 = c
      · have e' : p.1 = (c : Int) := by rw [h.1, e]
        have : stored (p :: r) (c : Int) v = (p.1, v) :: r := by
          unfold stored
          rw [if_pos (by simp [e']), List.map_cons, if_pos e', out (e' ▸ nd.1)]
        rw [this, if_pos e]
        exact .cons ⟨h.1, hv⟩ t
      · have e' : ¬ p.1 = (c : Int) := by rw [h.1]; exact om102 e
        have : stored (p :: r) (c : Int) v = p :: stored r (c : Int) v := by
          unfold stored
          rw [List.any_cons, decide_eq_false e', Bool.false_or]
          split
          · rw [List.map_cons, if_neg e']
          · rfl
        rw [this, if_neg e]
        exact .cons h (ih nd.2)
  exact main h nd
section
variable {w : World} {A : Around} {E : Value → Shared → Prop} {s : Shared} {h₀ : Heap} {L d : Addr} {l : Binds} {n : Ents} {m : List (Nat × Va)} {c : Nat} {t : Tok}
theorem kvGet {Q : Value → Shared → Prop} (h : KV w s.heap.get? d m) (post : ∀ v tk, VIs v (vget m c) → Q v { s with toks := tk }) : wpAny (model pwp w) A (call (.builtin "dict.get") [.ref d, .int (c : Nat) t]) Q E s := by
  refine elEEAAA h fun o kvs ho hd hp lo => ?_
  exact dGet ho hd lo (intKind_is _ _ _ _) fun tk => post _ tk (kv_get hp c)
theorem kvGm {Q : Value × List Value → Shared → Prop} {pl : Sem Bool} (h : KV w s.heap.get? d m) (post : Q (.builtin "dict.get", [.ref d]) s) : wpAny (model pwp w) A (getMethod (.ref d) "get" pl) Q E s := by
  refine elEEAAA h fun o kvs ho hd hp lo => ?_
  exact gm_dict ho F.slot_dict_get F.type_dict_get post (isDict_type hd).1 (isDict_type hd).2
theorem kvSet {Q : Unit → Shared → Prop} {v : Value} {x : Va} (C : Cx h₀ L s.heap l n) (h : KV w (n.lookup ·) d m) (hv : VIs v x) (hsz : m.length < 1000)
    (post : ∀ h' n' tk, Cx h₀ L h' l n' → KV w (n'.lookup ·) d (vput m c x) → Off d n n' → n'.map (·.1) = n.map (·.1) → Q () { s with heap := h', toks := tk }) : wpAny (model pwp w) A (setItem (.ref d) (.int (c : Nat) t) v) Q E s := by
  refine elEEAAA h fun o kvs ho hd hp lo => ?_
  exact dSet (k := (c : Int)) (v := v) C ho hd (intKind_is _ _ _ _) (by have := hp.length; rw [sizeLine_eq]; exact etl) fun h' o' tk C' hd' => post h' _ tk C' ⟨o', _, lookup_put_self ho, hd', kv_put hp (isDict_nodup hd) hv, lo⟩ off_put (put_keys _ _ _)
end
end H4
section E2
section
variable {w : World} {A : Around} {E : Value → Shared → Prop} {s : Shared}
set_option maxHeartbeats 1000000 in
theorem hsize_ok {σ : HS} {Q : Value → Shared → Prop} (W : Wd w s.heap) (I : σ.Ins s.heap) (N : σ.Nodes s.heap.get?) (h20 : σ.nodes.length ≤ 20) (hroom : A.depth + 10 < recursionLimit)
    (post : ∀ s' t', Ext s s' → Q (.int (σ.N : Nat) t') s') : wpAny (model PySem.Challenge.pw_pq0072_01 w) A (call (.ref 375) [.ref σ.hp]) Q E s := by
  have I1 := I.hp
  have I2 := I.bk
  refine enterC (n := []) W (Own.nil _) (x := mth 14 1) rfl k_375 c_375 (by exact rm0) (binds := [("self", .ref σ.hp)]) rfl (locs rfl) (by decide) fun L h₁ W' C => ?_
  change Cx s.heap L h₁ [("self", .ref σ.hp)] [] at C
  change Wd w s.heap at W'
  iterate 6 walk1
  refine gmC W' C I2 (me_185 _) rfl ?_
  walk1
  refine bsize_ok (W'.keeps C.keep) (I.keeps C.keep) (N.mono C.keep) h20 (by show A.depth + 1 + 5 < recursionLimit; exact rm2) fun s' t' X => ?_
  exact post _ _ (Ext.trans (Ext.mk C.keep) X)
set_option maxHeartbeats 1000000 in
theorem hclasses_ok {σ : HS} {Q : Value → Shared → Prop} (W : Wd w s.heap) (I : σ.Ins s.heap) (U : σ.U.On s.heap.get?) (O : σ.U.Ok) (hroom : A.depth + 20 < recursionLimit) (hh : A.handled = none)
    (post : ∀ D vs ep s', Ext s s' → s.heap.get? D = none → s'.heap.get? D = some (seqObj "list" vs ep) → Nums vs.toList (roots σ.U.ps) → Q (.ref D) s') : wpAny (model PySem.Challenge.pw_pq0072_01 w) A (call (.ref 448) [.ref σ.hp]) Q E s := by
  have I1 := I.hp
  have I3 := I.un
  refine enterC (n := []) W (Own.nil _) (x := mth 14 12) rfl k_448 c_448 (by exact rm0) (binds := [("self", .ref σ.hp)]) rfl (locs rfl) (by decide) fun L h₁ W' C => ?_
  change Cx s.heap L h₁ [("self", .ref σ.hp)] [] at C
  change Wd w s.heap at W'
  iterate 6 walk1
  refine gmC W' C I3 (me_326 _) rfl ?_
  walk1
  refine uclasses_ok (W'.keeps C.keep) (I3.keeps C.keep) (U.wider C.keep) O (by show A.depth + 1 + 10 < recursionLimit; exact rm2) hh fun D vs ep s' X hD hDo hN => ?_
  exact post D vs ep _ (Ext.trans (Ext.mk C.keep) X) (C.none_of hD) hDo hN
set_option maxHeartbeats 1000000 in
theorem hmembers_ok {σ : HS} {a : Nat} {t : Tok} {Q : Value → Shared → Prop} (W : Wd w s.heap) (I : σ.Ins s.heap) (U : σ.U.On s.heap.get?) (O : σ.U.Ok) (ha : a < σ.U.ps.length) (hroom : A.depth + 20 < recursionLimit)
    (post : ∀ D vs xs ep s', Ext s s' → s.heap.get? D = none → s'.heap.get? D = some (seqObj "list" (List.toArray vs) ep) → Nums vs xs → xs.Nodup → (∀ x, x ∈ xs ↔ x < σ.U.ps.length ∧ root σ.U.ps x = root σ.U.ps a) → Q (.ref D) s') :
    wpAny (model PySem.Challenge.pw_pq0072_01 w) A (call (.ref 455) [.ref σ.hp, .int (a : Nat) t]) Q E s := by
  have I1 := I.hp
  have I3 := I.un
  refine enterC (n := []) W (Own.nil _) (x := mth 14 13) rfl k_455 c_455 (by exact rm0) (binds := [("self", .ref σ.hp), ("c", .int a t)]) rfl (locs rfl) (by decide) fun L h₁ W' C => ?_
  change Cx s.heap L h₁ [("c", .int a t), ("self", .ref σ.hp)] [] at C
  change Wd w s.heap at W'
  iterate 6 walk1
  refine gmC W' C I3 (me_321 _) rfl ?_
  iterate 5 walk1
  refine umembers_ok (W'.keeps C.keep) (I3.keeps C.keep) (U.wider C.keep) O ha (by show A.depth + 1 + 10 < recursionLimit; exact rm2) fun D vs xs ep s' X hD hDo hN hnd hm => ?_
  exact post D vs xs ep _ (Ext.trans (Ext.mk C.keep) X) (C.none_of hD) hDo hN hnd hm
end
end E2
section E3
noncomputable abbrev HS.tup (σ : HS) (i : Nat) : Str × List Nat := ((σ.nodes.getD i default).1, (σ.nodes.getD i default).2.map (root σ.U.ps))
theorem HS.get {σ : HS} {i : Nat} (h : i < σ.N) : σ.nodes[i]? = some (σ.nodes.getD i default) := by simp [List.getD, h]
section
variable {w : World} {A : Around} {E : Value → Shared → Prop} {s : Shared}
set_option maxHeartbeats 1000000 in
theorem nodes_of_ok {σ : HS} {a : Nat} {t : Tok} {Q : Value → Shared → Prop} (W : Wd w s.heap) (I : σ.Ins s.heap) (N : σ.Nodes s.heap.get?) (U : σ.U.On s.heap.get?) (O : σ.Ok) (ha : a < σ.N) (hroom : A.depth + 50 < recursionLimit) (hu : A.units + 200 < cLine) (hh : A.handled = none)
    (post : ∀ D us mds e s', Ext s s' → s.heap.get? D = none → s'.heap.get? D = some (seqObj "list" (List.map Value.ref us).toArray e) → Pw (NodeAt s'.heap.get?) us mds →
      (∀ y, y ∈ mds ↔ ∃ i, i < σ.N ∧ root σ.U.ps i = root σ.U.ps a ∧ y = σ.tup i) → mds.length ≤ 11 → Q (.ref D) s') :
    wpAny (model PySem.Challenge.pw_pq0072_01 w) A (call (.ref 460) [.ref σ.hp, .int (a : Nat) t]) Q E s := by
  have I1 := I.hp
  refine enterK (n := []) W (Own.nil _) (x := mth 14 14) rfl k_460 c_460 (by exact rm0) (binds := [("self", .ref σ.hp), ("c", .int a t)]) (l := [("c", .int a t)]) rfl ⟨.inr ⟨rfl, rfl⟩, .inl rfl, trivial⟩ (by decide) (List.forall_mem_cons.mpr ⟨rfl, List.forall_mem_nil _⟩) (fun L h₁ tk cells W' X C => ?_) (fun L => show ([L + 1] : List Addr).Nodup by walk_at "m sm")
  refine elEA X.one fun o Xx1 ho => ?_
  obtain rfl := Xx1
  change o.data = .cell (some (.ref σ.hp)) at ho
  change Cx s.heap L h₁ [("c", .int a t)] [(L + 1, o)] at C
  change Wd w s.heap at W'
  have hc : ([(L + 1, o)] : Ents).lookup (L + 1) = some o := by simp
  have hN := O.len
  have h11 := O.n11
  iterate 10 walk1
  refine compX (L := L) (h₀ := s.heap) (cl := [(Str.ofString "self", L + 1)]) ?_
  iterate 2 walk1
  refine gmC W' C I1 (me_455 _) rfl ?_
  iterate 5 walk1
  refine hmembers_ok (W'.keeps C.keep) (I.keeps C.keep) (U.wider C.keep) O.u (hN ▸ ha) (by show A.depth + 1 + 20 < recursionLimit; exact rm2) fun D vs xs ep s2 X2 => X2.go fun h2 d2 tk2 X2 hD hDo hv hnd hm => ?_
  have ap := Apart.fresh C hD
  have C2 := C.grow X2
  clear C
  have hvl := hv.length
  have hxl : xs.length ≤ σ.U.ps.length := lot_len (p := fun x => root σ.U.ps x = root σ.U.ps a) ⟨hnd, hm⟩
  refine ⟨fun i ys n => (∀ b p, ([(L + 1, o)] : Ents).lookup b = some p → n.lookup b = some p) ∧ ∃ ts, ys.toList = ts.map Value.ref ∧ Pw (NodeAt (n.lookup ·)) ts ((xs.take i).map σ.tup), [D], _, _, _, [(L + 1, o)], Up.mk, C2, ap, it_list hh (isList_obj hDo), by rw [List.size_toArray]; exact om223 ha hN h11 hvl hxl, ⟨fun _ _ e => e, [], rfl, .nil⟩, ?_, ?_⟩
  · intro j v ys g Cl n Z1 h5 d5 tk5 hj hys hP kg C5
    refine stepC ?_
    refine genQ fun QQ hQ => ?_
    refine elAEA Z1 fun hle ts hts hpw => ?_
    have Wg := W'.keeps kg
    have Ig := I.keeps kg
    have Ug := U.wider kg
    have Ng := N.mono kg
    have I1g := Ig.hp
    refine elEAE (hv.get1 (by simpa using hP)) fun x hx t5 Xx2 => ?_
    obtain rfl := Xx2
    have hxm := (hm x).mp (List.mem_of_getElem? hx)
    have hxN : x < σ.N := by exact om147 hN hxm
    have hcg := hle _ _ hc
    iterate 2 walk1
    refine gmC Wg C5 I1g (me_380 _) rfl ?_
    iterate 5 walk1
    have hnd' := O.kids _ (List.mem_of_getElem? (HS.get hxN))
    refine node_ok (Wg.keeps C5.keep) (Ig.keeps C5.keep) (Ng.mono C5.keep) (Ug.wider C5.keep) O.u (HS.get hxN) O.n20 (by omega) (fun k hk => hN ▸ hnd'.2 k hk) (by show A.depth + 1 + 20 < recursionLimit; exact rm2) hh fun T s' X => X.go fun h6 d6 tk6 X6 hT hTo => ?_
    refine elEEEA hTo fun t6 v6 e6 hTo hv6 => ?_
    refine elEA (C5.newN X6 hT hTo) fun n' C6 N6 => ?_
    try refine hQ _ _ ?_
    refine ⟨Up.mk, _, n', C6, fun b p e => N6.le _ _ (hle b p e), ts ++ [T], by rw [Array.toList_push, hts]; simp, ?_⟩
    have e : (xs.take (j + 1)).map σ.tup = (xs.take j).map σ.tup ++ [σ.tup x] := by rw [List.take_add_one, hx]; simp
    rw [e]
    exact Pw.app (Pw.mono (fun T nd ⟨t, v, e, o, m⟩ => ⟨t, v, e, N6.le _ _ o, m⟩) hpw) (.cons ⟨t6, v6, e6, N6.self, hv6⟩ .nil)
  · rintro D2 ys ep2 n ⟨hle, ts, hts, hpw⟩ hsz h5 d5 tk5 K
    have hD2 : List.lookup D2 ((D2, seqObj "list" ys ep2) :: n) = some (seqObj "list" (List.map Value.ref ts).toArray ep2) := by rw [List.lookup_cons, beq_self_eq_true, ← hts]
    rw [List.size_toArray, hvl, List.take_length] at hpw
    have hpK : Pw (NodeAt h5.get?) ts (xs.map σ.tup) := Pw.mono (fun T nd ⟨t, v, e, o, m⟩ => ⟨t, v, e, K.lk (K.tail o), m⟩) hpw
    walk1
    refine setR_nodes K hh (by show A.units + 3 + 100 < cLine; exact rm2) (K.lk hD2) hpK (by rw [List.length_map]; exact om183 ha hN h11 hxl) fun S o2 n6 h6 tk6 C6 N6 hS => ?_
    walk1
    refine sortedSet_nodes C6 hh (C6.lk N6.self) hS (by rw [List.length_map]; exact om184 ha hN h11 hxl) fun D3 us mds e n7 h7 d7 tk7 C7 N7 hpw7 hmem hlen => ?_
    refine post D3 us mds e _ (Ext.mk C7.keep) (C7.fresh N7.self) (C7.lk N7.self) hpw7 (fun y => (hmem y).trans ?_) (by rw [List.length_map] at hlen; exact om240 ha hN h11 hvl hxl hlen)
    rw [List.mem_map]
    constructor
    · rintro ⟨x, hx, rfl⟩
      exact ⟨x, hN ▸ ((hm x).mp hx).1, ((hm x).mp hx).2, rfl⟩
    · rintro ⟨i, h1, h2, rfl⟩
      exact ⟨i, (hm i).mpr ⟨hN ▸ h1, h2⟩, rfl⟩
end
end E3
section P5
open PySem
noncomputable def HS.fv (σ : HS) (n : Nat) (u : Nat → Va) (i : Nat) : Va := reck n (σ.tup i).1 ((σ.tup i).2.map u)
noncomputable def HS.Post (σ : HS) (n : Nat) (u : Nat → Va) : Prop := ∀ i, i < σ.N → vle (σ.fv n u i) (u (root σ.U.ps i))
noncomputable def HS.Below (σ : HS) (n : Nat) (m : Nat → Va) : Prop := ∀ u, σ.Post n u → ∀ c, c < σ.N → vle (m c) (u (root σ.U.ps c))
theorem HS.fv_mono {σ : HS} {n i : Nat} {u u' : Nat → Va} (h : ∀ c ∈ (σ.tup i).2, vle (u c) (u' c)) : vle (σ.fv n u i) (σ.fv n u' i) := reck_mono (Vles.map h)
theorem HS.fv_congr {σ : HS} {n i : Nat} {u u' : Nat → Va} (h : ∀ c ∈ (σ.tup i).2, u c = u' c) : σ.fv n u i = σ.fv n u' i := by
  unfold HS.fv; rw [List.map_congr_left h]
theorem HS.tup_kids {σ : HS} {i c : Nat} (O : σ.Ok) (hi : i < σ.N) (h : c ∈ (σ.tup i).2) : ∃ k ∈ (σ.nodes.getD i default).2, k < σ.N ∧ root σ.U.ps k = c := by
  refine elEA (List.mem_map.mp h) fun k hk e => ?_
  exact ⟨k, hk, (O.kids _ (List.mem_of_getElem? (HS.get hi))).2 k hk, e⟩
theorem HS.tup_lt {σ : HS} {i c : Nat} (O : σ.Ok) (hi : i < σ.N) (h : c ∈ (σ.tup i).2) : c < σ.N ∧ root σ.U.ps c = c := by
  obtain ⟨k, _, hk, rfl⟩ := HS.tup_kids O hi h
  exact ⟨O.len ▸ root_lt (O.len ▸ hk), root_idem O.u.le (O.len ▸ hk)⟩
theorem HS.Below.zero (σ : HS) (n : Nat) : σ.Below n fun _ => none := fun _ _ _ _ => .inl rfl
theorem HS.Below.fv {σ : HS} {n i : Nat} {m u : Nat → Va} (O : σ.Ok) (B : σ.Below n m) (P : σ.Post n u) (hi : i < σ.N) : vle (σ.fv n m i) (u (root σ.U.ps i)) :=
  (HS.fv_mono fun c hc => (let ⟨h1, h2⟩ := HS.tup_lt O hi hc; by have := B u P c h1; rwa [h2] at this)).trans (P i hi)
theorem HS.Below.same {σ : HS} {n c : Nat} {m d : Nat → Va} (B : σ.Below n m) (P : σ.Post n m) (B' : σ.Below n d) (P' : σ.Post n d) (hc : c < σ.N) (hr : root σ.U.ps c = c) : m c = d c := by
  have h1 := B d P' c hc
  have h2 := B' m P c hc
  rw [hr] at h1 h2
  exact h1.anti h2
theorem HS.Below.merged {σ σ' : HS} {n : Nat} {m : Nat → Va} (O : σ.Ok) (O' : σ'.Ok) (hn : σ'.nodes = σ.nodes) (hm : ∀ x y, x < σ.N → y < σ.N → root σ.U.ps x = root σ.U.ps y → root σ'.U.ps x = root σ'.U.ps y) (B : σ.Below n m) : σ'.Below n m := by
  intro u P c hc
  have hN : σ'.N = σ.N := by show σ'.nodes.length = σ.nodes.length; rw [hn]
  rw [hN] at hc
  have rr : ∀ k, k < σ.N → root σ'.U.ps (root σ.U.ps k) = root σ'.U.ps k := fun k hk => hm _ _ (O.len ▸ root_lt (O.len ▸ hk)) hk (root_idem O.u.le (O.len ▸ hk))
  have PP : σ.Post n fun c => u (root σ'.U.ps c) := fun i hi => by
    have h1 := P i (hN ▸ hi)
    show vle _ (u (root σ'.U.ps (root σ.U.ps i)))
    rw [rr i hi]
    have e : σ.fv n (fun c => u (root σ'.U.ps c)) i = σ'.fv n u i := by
      unfold HS.fv HS.tup
      rw [hn, List.map_map, List.map_map]
      congr 1
      exact List.map_congr_left fun k hk => congrArg u (rr k ((O.kids _ (List.mem_of_getElem? (HS.get hi))).2 k hk))
    rw [e]; exact h1
  have h : vle (m c) (u (root σ'.U.ps (root σ.U.ps c))) := B _ PP c hc
  rw [rr c hc] at h
  exact h
end P5
section E4
theorem sum_mem {l : List (Nat × Addr × List Nat)} {e : Nat × Addr × List Nat} (h : e ∈ l) : e.2.2.length ≤ (l.map fun e => e.2.2.length).sum := by
  induction h with
  | head => exact Nat.le_add_right _ _
  | tail _ _ ih => exact Nat.le_trans ih (Nat.le_add_left _ _)
theorem HS.Ok.abOf {σ : HS} (O : σ.Ok) {a : Nat} (ha : a < σ.N) : ∃ e ∈ σ.abv, e.1 = root σ.U.ps a := by
  have := (O.abk (root σ.U.ps a)).mpr (root_mem O.u.le (O.len ▸ ha))
  refine elEA (List.mem_map.mp this) fun e he h => ?_
  exact ⟨e, he, h⟩
theorem HS.Ok.abOne {σ : HS} (O : σ.Ok) {e e' : Nat × Addr × List Nat} (h : e ∈ σ.abv) (h' : e' ∈ σ.abv) (q : e.1 = e'.1) : e = e' := by
  obtain ⟨i, hi, rfl⟩ := List.mem_iff_getElem.mp h
  obtain ⟨j, hj, rfl⟩ := List.mem_iff_getElem.mp h'
  have : i = j := (List.getElem_inj (h₀ := by simpa using hi) (h₁ := by simpa using hj) O.abd).mp (by simpa using q)
  subst this; rfl
section
variable {w : World} {A : Around} {E : Value → Shared → Prop} {s : Shared}
set_option maxHeartbeats 1000000 in
theorem users_ok {σ : HS} {c ck a : Nat} {t : Tok} {Q : Value → Shared → Prop} (W : Wd w s.heap) (I : σ.Ins s.heap) (H : σ.On w c ck s.heap.get?) (O : σ.Ok) (ha : a < σ.N) (hroom : A.depth + 50 < recursionLimit) (hh : A.handled = none)
    (post : ∀ D vs xs e s', Ext s s' → s.heap.get? D = none → s'.heap.get? D = some (seqObj "list" (List.toArray vs) e) → Nums vs xs → (∀ x ∈ xs, x < σ.N) →
      (∀ (i : Nat) nd, σ.nodes[i]? = some nd → ∀ k ∈ nd.2, root σ.U.ps k = root σ.U.ps a → i ∈ xs) → xs.length ≤ 22 → Q (.ref D) s') :
    wpAny (model PySem.Challenge.pw_pq0072_01 w) A (call (.ref 479) [.ref σ.hp, .int (a : Nat) t]) Q E s := by
  have I1 := I.hp
  refine elEA (O.abOf ha) fun e0 he0 hr0 => ?_
  refine elEA H.av fun o hav hd => ?_
  refine elEEA (H.al e0 he0) fun va ea hal hna => ?_
  have hlen : e0.2.2.length ≤ 22 := by have := sum_mem he0; have := O.tot; have := O.n11; omega
  refine enterC (n := []) W (Own.nil _) (x := mth 14 17) rfl k_479 c_479 (by exact rm0) (binds := [("self", .ref σ.hp), ("c", .int a t)]) rfl (locs rfl) (by decide) fun L h₁ W' C => ?_
  change Cx s.heap L h₁ [("c", .int a t), ("self", .ref σ.hp)] [] at C
  change Wd w s.heap at W'
  iterate 16 walk1
  refine gmC W' C I1 (me_406 _) rfl ?_
  iterate 5 walk1
  refine hfind_ok (W'.keeps C.keep) (I.keeps C.keep) (H.U.wider C.keep) O.u (O.len ▸ ha) (by show A.depth + 1 + 10 < recursionLimit; exact rm2) fun s2 t2 X2 => X2.go fun h2 d2 tk2 X2 => ?_
  have C2 := C.grow X2
  clear C
  refine dItem (knd := intKind pwp w) (k := ((root σ.U.ps a : Nat) : Int)) (C2.keep _ _ hav) hd (intKind_is _ _ _ _) (valueAt_abv O.abd he0 hr0) fun tk3 => ?_
  walk1
  refine setR_ints C2 hh (C2.keep _ _ (show s.heap.get? e0.2.1 = some (seqObj "list" va.toList.toArray ea) by simpa using hal)) hna (by exact lt_) fun S o2 n6 h6 tk6 C6 N6 hS => ?_
  walk1
  refine sortedSet_ints C6 hh (C6.lk N6.self) hS (by exact lt_) fun D vs ys e n7 h7 d7 tk7 C7 N7 hv hmem hl => ?_
  refine post D vs ys e _ (Ext.mk C7.keep) (C7.fresh N7.self) (C7.lk N7.self) hv (fun x hx => O.abn e0 he0 x ((hmem x).mp hx)) (fun i nd hi k hk hr => ?_) (by exact lll)
  refine elEAA (O.cov i nd hi k hk) fun e1 h1 h2' h3 => ?_
  rw [O.abOne he0 h1 (hr0.trans (hr.symm.trans h2'.symm))] at hmem
  exact (hmem i).mpr h3
end
end E4
section F1
noncomputable def goodc (c : Nat) : Bool := !Txt.isspace ⟨#[c]⟩ && (Builtin.Str.occurrences "()[]{},:" ⟨#[c]⟩ 0 ("()[]{},:" : Str).length 1).isEmpty
structure GoodOp (op : Str) : Prop where
  ne : op ≠ ""
  ok : ∀ c ∈ op.cps.toList, goodc c = true
  sz : op.cps.size < 100
section
variable {w : World} {A : Around} {E : Value → Shared → Prop} {s : Shared}
set_option maxHeartbeats 1000000 in
theorem isop_ok {op : Str} {t : Tok} {Q : Value → Shared → Prop} (W : Wd w s.heap) (hroom : A.depth + 10 < recursionLimit) (hh : A.handled = none) (hu : A.units + 100 < cLine) (hop : GoodOp op)
    (post : ∀ s', Ext s s' → Q (.bool true) s') :
    wpAny (model PySem.Challenge.pw_pq0072_01 w) A (call (.ref 164) [.str op t]) Q E s := by
  refine enterC (n := []) W (Own.nil _) (x := dfn 9) rfl k_164 c_164 (by exact rm0) (binds := [("text", .str op t)]) rfl (locs rfl) (by decide) fun L h₁ W' C => ?_
  change Cx s.heap L h₁ [("text", .str op t)] [] at C
  change Wd w s.heap at W'
  iterate 9 walk1
  rotate_left
  · rename_i h
    exact absurd (by simpa using h) hop.ne
  iterate 2 walk1
  refine compX (L := L) (h₀ := s.heap) (cl := []) ?_
  walk1
  refine ⟨fun i ys n => ys = #[] ∧ n = [], [], _, _, _, [], Up.mk, C.grow (fun _ _ e => e), Apart.nil, it_str hh, by have := hop.sz; exact tt, ⟨rfl, rfl⟩, ?_, ?_⟩
  · rintro j v ys g Cl n ⟨rfl, rfl⟩ h5 d5 tk5 hj hys ⟨c, u, hc, rfl⟩ kg C5
    have hg := hop.ok c (List.mem_of_getElem? (by simpa using hc))
    have Wg := W'.keeps kg
    simp only [goodc, Bool.and_eq_true, Bool.not_eq_true'] at hg
    refine wpAny_tests_one ?_
    iterate 9 walk1
    · rename_i h
      rw [hg.1] at h; cases h
    repeat' walk1
    · try refine hQ _ _ ?_
      exact Hold.mk (by rw [if_neg (by walk_at "m sm")]; exact ⟨Up.mk, _, _, C5.grow (fun _ _ e => e), rfl, rfl⟩)
    · rename_i h
      rw [hg.2] at h; cases h
  · rintro D ys ep n ⟨rfl, rfl⟩ - h5 d5 tk5 K
    have hD : List.lookup D [(D, seqObj "list" #[] ep)] = some (seqObj "list" #[] ep) := by simp
    iterate 3 walk1
    rename_i D2 n6 h6 C6 N6
    refine SeqAt.eq_listAt (e := fun _ => true) (isList_obj (C6.lk (N6.le _ _ hD))) (isList_obj (C6.lk N6.self)) rfl (show A.units + 3 < cLine by exact rm1) (fun j h1 => absurd h1 (Nat.not_lt_zero _)) ?_
    exact post _ (Ext.mk C6.keep)
end
end F1
section F2
section
variable {w : World} {A : Around} {E : Value → Shared → Prop} {s : Shared}
set_option maxHeartbeats 1000000 in
theorem require_ok {σ : HS} {op : Str} {t : Tok} {Q : Value → Shared → Prop} (W : Wd w s.heap) (hroom : A.depth + 20 < recursionLimit) (hh : A.handled = none) (hu : A.units + 200 < cLine) (hop : GoodOp op) (hq : ∃ c, op.cps[0]? = some c ∧ c ≠ 63)
    (post : ∀ s', Ext s s' → Q .none s') :
    wpAny (model PySem.Challenge.pw_pq0072_01 w) A (call (.ref 197) [.ref σ.bk, .str op t]) Q E s := by
  refine enterC (n := []) W (Own.nil _) (x := mth 10 3) rfl k_197 c_197 (by exact rm0) (binds := [("self", .ref σ.bk), ("op", .str op t)]) rfl (locs rfl) (by decide) fun L h₁ W' C => ?_
  change Cx s.heap L h₁ [("op", .str op t), ("self", .ref σ.bk)] [] at C
  change Wd w s.heap at W'
  iterate 6 walk1
  refine gnC W' C (g_is_op _) ?_
  refine callFR W' k_164 ?_
  iterate 4 walk1
  refine isop_ok (W'.keeps C.keep) (by show A.depth + 1 + 10 < recursionLimit; exact rm2) hh (by show A.units + 3 + 100 < cLine; exact rm2) hop fun s2 X2 => X2.go fun h2 d2 tk2 X2 => ?_
  have C2 := C.grow X2
  clear C
  iterate 7 walk1
  refine elEA hq fun c hc hc63 => ?_
  have hcs : 0 < op.cps.size := (Array.getElem?_eq_some_iff.mp hc).1
  refine tail_any (typeIs_str _ _ _) PySem.F.slot_str_getitem.lookup (P.getItem_str (c := c) (by decide) (by rw [show seqIndex? (0 : Int) op.length = some 0 from seqIndex_of (by decide) (by show (0 : Int) < (op.cps.size : Nat); exact om38 hcs)]; exact hc) ?_) (by with_unfolding_all rfl)
  iterate 4 walk1
  · rename_i h
    have h1 : (⟨#[c]⟩ : Str) = "?" := by simpa using h
    have h2 : #[c] = #[63] := congrArg Str.cps h1
    exact absurd (by simpa using h2) hc63
  · iterate 4 walk1
    exact post _ (Ext.mk C2.keep)
end
end F2
section F3
structure HS.Bk (w : World) (σ : HS) (f : Look) : Prop where
  N : σ.Nodes f
  nu : ∃ xs, KDx pwp w f σ.nu xs ∧ xs.length ≤ σ.N ∧ InR σ.N xs
  we : LI f σ.we σ.N
  de : LI f σ.de σ.N
noncomputable abbrev HS.added (σ : HS) (T : Addr) (nd : Str × List Nat) : HS := { σ with ta := σ.ta ++ [T], nodes := σ.nodes ++ [nd] }
theorem items_nums {prog : Program} {w : World} {vs : List Value} {ks : List Nat} (h : Nums vs ks) : PySem.ItemsAre (soiKind prog w) (ks.map fun (k : Nat) => Sum.inr (k : Int)) vs := by
  induction h with
  | nil => exact .nil
  | cons h _ ih => obtain ⟨t, rfl⟩ := h; exact .cons (soi_int _ _) ih
noncomputable abbrev keyOf (nd : Str × List Nat) : Key := .inl nd.1 :: nd.2.map fun (k : Nat) => .inr (k : Int)
theorem NodeAt.key {prog : Program} {w : World} {f : Look} {a : Addr} {nd : Str × List Nat} (x : NodeAt f a nd) : TupK prog w f (keyOf nd) a := let ⟨t, vs, ep, e, h⟩ := x; ⟨_, ep, e, .cons (soi_str _ _) (items_nums h)⟩
theorem ne_cls {n : Ents} {a b : Addr} {p q : Obj} (ha : n.lookup a = some p) (hb : n.lookup b = some q) (h : p.cls ≠ q.cls) : a ≠ b := fun z => by
  rw [z, hb] at ha; cases ha; exact h rfl
theorem atKey_mem {K : Type} [DecidableEq K] {xs : List (K × Addr × Value)} {k : K} {p : Addr × Value} (h : atKey xs k = some p) : ∃ x ∈ xs, x.2 = p := by
  unfold atKey at h
  refine elEA (Option.map_eq_some_iff.mp h) fun x hx e => ?_
  exact ⟨x, List.mem_of_find?_eq_some hx, e⟩
theorem Cx.narrow {h₀ h : Heap} {L : Addr} {l : Binds} {n n' : Ents} (C : Cx h₀ L h l n') (nd : (n.map (·.1)).Nodup) (le : ∀ b p, n.lookup b = some p → n'.lookup b = some p) : Cx h₀ L h l n :=
  ⟨C.fr, C.keep, C.hL, fun p hp => C.nw p (mem_of_lookup (le _ _ (lookup_of_mem nd hp))), nd⟩
theorem Apart.new {h₀ h : Heap} {L a : Addr} {l : Binds} {n n' : Ents} {o : Obj} (C : Cx h₀ L h l n') (nd : (n.map (·.1)).Nodup) (N : New n n' a o) : Apart [a] L n := fun b hb => by
  rw [List.mem_singleton.mp hb]
  exact ⟨(C.nw _ (mem_of_lookup N.self)).2.1, fun p hp => N.ne _ _ (lookup_of_mem nd hp)⟩
section
variable {w : World} {A : Around} {E : Value → Shared → Prop} {s : Shared}
set_option maxHeartbeats 4000000 in
theorem take_ok {σ : HS} {op : Str} {ks : List Nat} {vs : List Value} {K : Addr} {ek : Nat} {t : Tok} {Q : Value → Shared → Prop} {B : Heap} {n : Ents} (W : Wd w B) (Ow : Own B s.heap n) (I : σ.Ins B) (H : σ.Bk w (n.lookup ·)) (nd : [σ.no, σ.nu, σ.we, σ.de].Nodup) (lo : (σ.nu == sysModules) = false)
    (n11 : σ.N ≤ 10) (hK : B.get? K = some (seqObj "tuple" (List.toArray vs) ek)) (hv : Nums vs ks) (h2 : ks.length ≤ 2) (hks : ∀ k ∈ ks, k < σ.N) (hop : GoodOp op) (hq : ∃ c, op.cps[0]? = some c ∧ c ≠ 63)
    (hroom : A.depth + 50 < recursionLimit) (hu : A.units + 300 < cLine) (hh : A.handled = none)
    (old : ∀ j t s' n', j < σ.N → Mut s.heap n s'.heap n' [] → Up s s' → Q (.int (j : Nat) t) s')
    (new : ∀ T t s' n', Mut s.heap n s'.heap n' [σ.no, σ.nu, σ.we, σ.de] → Up s s' → (σ.added T (op, ks)).Bk w (n'.lookup ·) → Q (.int (σ.N : Nat) t) s') :
    wpAny (model PySem.Challenge.pw_pq0072_01 w) A (call (.ref 190) [.ref σ.bk, .str op t, .ref K]) Q E s := by
  have I1 := I.bk.keeps Ow.bar
  have hK1 := Ow.bar _ _ hK
  obtain ⟨⟨eno, hnol⟩, hta⟩ := H.N
  have htl : σ.ta.length = σ.N := hta.length
  refine enterK (n := n) W Ow (x := mth 10 2) rfl k_190 c_190 (by exact rm0) (binds := [("self", .ref σ.bk), ("op", .str op t), ("kids", .ref K)]) (l := [("kids", .ref K), ("op", .str op t)]) rfl ⟨.inr ⟨rfl, rfl⟩, .inl rfl, .inl rfl, trivial⟩ (by decide) (List.forall_mem_cons.mpr ⟨rfl, List.forall_mem_cons.mpr ⟨rfl, List.forall_mem_nil _⟩⟩) (fun L h₁ tk cells W' X C => ?_) (fun L => show ([L + 1] : List Addr).Nodup by walk_at "m sm")
  refine elEA X.one fun o Xx1 ho => ?_
  obtain rfl := Xx1
  change o.data = .cell (some (.ref σ.bk)) at ho
  change Cx (bar s.heap n) L h₁ [("kids", .ref K), ("op", .str op t)] ((L + 1, o) :: n) at C
  have hle : ∀ b p, n.lookup b = some p → List.lookup b ((L + 1, o) :: n) = some p := fun b p e => C.tail e
  have hc : List.lookup (L + 1) ((L + 1, o) :: n) = some o := by simp
  have hcn : ∀ b p, n.lookup b = some p → L + 1 ≠ b := fun b p e q => (List.nodup_cons.mp C.nd).1 (List.mem_map.mpr ⟨_, mem_of_lookup e, q.symm⟩)
  generalize ((L + 1, o) :: n) = n1 at C hle hc
  iterate 10 walk1
  rename_i T1 n2 h2' C2 N2
  have hK2 := C2.keep _ _ hK1
  clear C
  iterate 4 walk1
  refine tupleTT hK2 ?_
  refine addT C2 N2.self hK2 (by rw [sizeLine_eq, hv.length]; simp; exact om51 h2) fun T n3 h3 e3 C3 le3 hT => ?_
  have hle3 : ∀ b p, n.lookup b = some p → n3.lookup b = some p := fun b p e => le3 _ _ (N2.le _ _ (hle _ _ e))
  have hc3 := le3 _ _ (N2.le _ _ hc)
  have hNode : NodeAt (n3.lookup ·) T (op, ks) := ⟨t, vs, e3, hT, hv⟩
  clear C2
  iterate 8 walk1
  rename_i h4 C4
  refine elEAA H.nu fun xs hkd hxl hxr => ?_
  have hkd3 := hkd.mono hle3
  refine kdIn (by show A.units + 3 + 100 < cLine; exact rm2) lo (hkd3.mono fun a o e => C4.lk e) (hNode.key.mono fun o e => C4.lk e) fun tk4 => ?_
  iterate 2 walk1
  · rename_i hyes
    refine elE (Option.isSome_iff_exists.mp hyes) fun p hp => ?_
    iterate 7 walk1
    refine kdItem (by show A.units + 3 + 100 < cLine; exact rm2) (hkd3.mono fun a o e => C4.lk e) (hNode.key.mono fun o e => C4.lk e) hp fun tk5 => ?_
    obtain ⟨x, hx, rfl⟩ := atKey_mem hp
    refine elEEA (hxr x hx) fun j tj ej hj => ?_
    rw [ej]
    exact old j tj _ n3 hj (C4.mut fun a o _ e => hle3 a o e) Up.mk
  · rename_i hno
    have hnone : atKey xs (keyOf (op, ks)) = none := by simpa using hno
    iterate 5 walk1
    refine gmC W' C4 I1 (me_197 _) rfl ?_
    iterate 5 walk1
    refine require_ok (W'.keeps C4.keep) (by show A.depth + 1 + 20 < recursionLimit; exact rm2) hh (by show A.units + 3 + 200 < cLine; exact rm2) hop hq fun s5 X5 => X5.go fun h5 d5 tk5 X5 => ?_
    have C5 := C4.grow X5
    clear C4
    walk1
    refine forG (L := L) ?_
    iterate 3 walk1
    rename_i sl n6 h6 tk6 u6 C6 N6
    clear C5
    refine sliceT (a := 1) C6 (by exact C6.lk (N6.le _ _ hT)) (by exact C6.lk N6.self) (by decide) (by walk_at "m sm") (by rw [sizeLine_eq]; simp [hv.length]; exact ll) fun T7 n7 h7 C7 N7 => ?_
    have C7' := C7.narrow C6.nd N7.le
    have hT7 := C7.lk N7.self
    refine ⟨fun i l n => l = ([("node", .ref T), ("kids", .ref K), ("op", .str op t)] : Binds) ∧ ∀ b p, n3.lookup b = some p → n.lookup b = some p, bar s.heap n, [T7], _, _, _, n6, Up.mk, C7', Apart.new C7 C6.nd N7, it_tuple hh (isTuple_obj hT7), ⟨rfl, fun b p e => N6.le _ _ e⟩, ?_, ?_⟩
    · intro i v g l8 n8 Z1 h8 d8 tk8 hi hP kg C8
      refine genQ fun QQ hQ => ?_
      refine elA Z1 fun Xx2 hle8 => ?_
      obtain rfl := Xx2
      have Wg := W'.keeps kg
      have I1g := I1.keeps kg
      have hc8 := hle8 _ _ hc3
      refine elEAE (hv.get1 (show vs[i]? = some v by simpa using hP)) fun k hk tv Xx3 => ?_
      obtain rfl := Xx3
      have hkN := hks k (List.mem_of_getElem? hk)
      have hno8 := hle8 _ _ (hle3 _ _ hnol)
      iterate 10 walk1
      rotate_left
      · rename_i h
        exact absurd h (by walk_at "m sm")
      iterate 9 walk1
      refine lenL (C8.lk hno8) (by simp; exact ell) fun t9 tk9 => ?_
      iterate 3 walk1
      rw [if_pos (decide_eq_true (by simp; exact om63 htl hkN))]
      iterate 2 walk1
      try refine hQ _ _ ?_
      exact ⟨.inl rfl, Up.mk, _, _, C8.names (by walk_at "m names"), rfl, hle8⟩
    · rintro l9 n9 ⟨rfl, hle9⟩ h9 d9 tk9 C9
      have hc9 := hle9 _ _ hc3
      have hno9 := hle9 _ _ (hle3 _ _ hnol)
      have hT9 := hle9 _ _ hT
      iterate 10 walk1
      refine lenL (C9.lk hno9) (by simp; exact ell) fun t9 tk9' => ?_
      have hts : (List.map Value.ref σ.ta).toArray.size = σ.N := by simp [htl]
      rw [hts]
      iterate 4 walk1
      refine kdSet C9 (by show A.units + 3 + 100 < cLine; exact rm2) ((hkd.mono hle3).mono hle9) (hNode.key.mono fun o e => hle9 _ _ e) (by rw [sizeLine_eq]; exact lll) fun h10 o10 tk10 C10 hkd10 => ?_
      refine elEEAA H.we fun wvs wep hwe hwl hwi => ?_
      refine elEEAA H.de fun dvs dep hde hdl hdi => ?_
      simp only [List.nodup_cons, List.mem_cons, List.not_mem_nil, or_false, not_or, List.nodup_nil, not_false_eq_true, and_true] at nd
      refine elAA nd fun Xx4 Xx5 d6 => ?_
      refine elAA Xx4 fun d1 d2 d3 => ?_
      refine elA Xx5 fun d4 d5 => ?_
      have ho10 : (put n9 σ.nu o10).lookup σ.no = _ := lookup_put_ne hno9 d1
      have hw10 : (put n9 σ.nu o10).lookup σ.we = _ := lookup_put_ne (hle9 _ _ (hle3 _ _ hwe)) (Ne.symm d4)
      have hd10 : (put n9 σ.nu o10).lookup σ.de = _ := lookup_put_ne (hle9 _ _ (hle3 _ _ hde)) (Ne.symm d5)
      refine elEEEAA hkd.at_ fun onu _ _ hnu hnuc _ => ?_
      have hTne : ∀ b p, n.lookup b = some p → p.cls ≠ .type "tuple" → T ≠ b := fun b p e q z => by
        have h1 := hle3 _ _ e
        rw [← z, hT] at h1
        cases h1
        exact q rfl
      have hu10 : (put n9 σ.nu o10).lookup σ.nu = some o10 := lookup_put_self (hle9 _ _ (hle3 _ _ hnu))
      have hc10 : (put n9 σ.nu o10).lookup (L + 1) = some o := lookup_put_ne hc9 (hcn _ _ hnu)
      have hT10 : (put n9 σ.nu o10).lookup T = _ := lookup_put_ne hT9 (hTne _ _ hnu (by rw [hnuc.1]; simp))
      have hdiff : ∀ b p, n.lookup b = some p → b ≠ σ.nu → (put n9 σ.nu o10).lookup b = some p := fun b p e q => lookup_put_ne (hle9 _ _ (hle3 _ _ e)) q
      generalize put n9 σ.nu o10 = n10 at *
      iterate 6 walk1
      refine gm_list (C10.lk ho10) PySem.F.slot_list_append PySem.F.type_list_append ?_
      iterate 4 walk1
      refine appendX C10 ho10 (by rw [sizeLine_eq]; exact ell) fun h11 n11 e11 C11 ho11 off11 => ?_
      have hw11 := off11 _ _ (Ne.symm d2) hw10
      have hd11 := off11 _ _ (Ne.symm d3) hd10
      have hc11 := off11 _ _ (hcn _ _ hnol) hc10
      have hT11 := off11 _ _ (hTne _ _ hnol (by walk_at "m sm")) hT10
      have hkd11 := hkd10.offX ho10 rfl off11
      have hdiff11 : ∀ b p, n.lookup b = some p → b ≠ σ.nu → b ≠ σ.no → n11.lookup b = some p := fun b p e q q2 => off11 _ _ q2 (hdiff _ _ e q)
      clear C10 ho10 hw10 hd10 hc10 hT10
      iterate 6 walk1
      refine gm_list (C11.lk hw11) PySem.F.slot_list_append PySem.F.type_list_append ?_
      iterate 5 walk1
      refine bnC (v := .builtin "sum") W' C11 (gb_sum _) rfl ?_
      iterate 2 walk1
      refine compX (L := L) (h₀ := bar s.heap n) (cl := [(Str.ofString "self", L + 1)]) ?_
      iterate 3 walk1
      rename_i sl n12 h12 tk12 u12 C12 N12
      refine sliceT (a := 1) C12 (by exact C12.lk (N12.le _ _ hT11)) (by exact C12.lk N12.self) (by decide) (by walk_at "m sm") (by rw [sizeLine_eq]; simp [hv.length]; exact ll) fun T13 n13 h13 C13 N13 => ?_
      have C13' := C13.narrow C12.nd N13.le
      refine ⟨fun i ys n => n = n12 ∧ ∀ v ∈ ys.toList, IsI v, [T13], _, _, _, n12, Up.mk, C13', Apart.new C13 C12.nd N13, it_tuple hh (isTuple_obj (C13.lk N13.self)), by simp [hv.length]; exact lt_, ⟨rfl, fun _ h => nomatch h⟩, ?_, ?_⟩
      · intro i v ys g Cl n14 Z2 h14 d14 tk14 hi hys hP kg C14
        refine stepC ?_
        refine genQ fun QQ hQ => ?_
        refine elA Z2 fun Xx6 hI => ?_
        obtain rfl := Xx6
        have Wg := W'.keeps kg
        have I1g := I1.keeps kg
        have hcg := N12.le _ _ hc11
        have hwg := N12.le _ _ hw11
        refine elEAE (hv.get1 (show vs[i]? = some v by simpa using hP)) fun k hk tv Xx7 => ?_
        obtain rfl := Xx7
        have hkN := hks k (List.mem_of_getElem? hk)
        iterate 5 walk1
        have hkv : wvs[k]? = some wvs[k] := Array.getElem?_eq_getElem (by exact om218 htl hts hwl hdl hkN)
        refine itemO (C14.lk hwg) hkv (by exact tlt) ?_
        try refine hQ _ _ ?_
        refine ⟨Up.mk, _, _, C14.grow (fun _ _ e => e), rfl, fun v hm => ?_⟩
        rw [Array.toList_push] at hm
        rcases List.mem_append.mp hm with hm | hm
        · exact hI v hm
        · rw [List.mem_singleton.mp hm]; exact hwi _ (by walk_at "m sm")
      · rintro D ys ep n14 ⟨rfl, hI⟩ hsz h14 d14 tk14 C14
        have hD : List.lookup D ((D, seqObj "list" ys ep) :: n14) = some (seqObj "list" ys.toList.toArray ep) := by simp
        have hle14 : ∀ b p, n11.lookup b = some p → List.lookup b ((D, seqObj "list" ys ep) :: n14) = some p := fun b p e => C14.tail (N12.le _ _ e)
        generalize ((D, seqObj "list" ys ep) :: n14) = n15 at C14 hD hle14
        walk1
        refine sumR C14 hh (C14.lk hD) hI fun si st h15 tk15 C15 => ?_
        iterate 2 walk1
        refine appendX C15 (hle14 _ _ hw11) (by rw [sizeLine_eq]; exact ell) fun h16 n16 e16 C16 hw16 off16 => ?_
        have hd16 := off16 _ _ (Ne.symm d6) (hle14 _ _ hd11)
        have hc16 := off16 _ _ (hcn _ _ hwe) (hle14 _ _ hc11)
        have hT16 := off16 _ _ (hTne _ _ hwe (by walk_at "m sm")) (hle14 _ _ hT11)
        have ho16 := off16 _ _ d2 (hle14 _ _ ho11)
        have hkd16 := (hkd11.mono hle14).offX (hle14 _ _ hw11) rfl off16
        have hdiff16 : ∀ b p, n.lookup b = some p → b ≠ σ.nu → b ≠ σ.no → b ≠ σ.we → n16.lookup b = some p := fun b p e q q2 q3 => off16 _ _ q3 (hle14 _ _ (hdiff11 _ _ e q q2))
        have hwI : ∀ tk, ∀ v ∈ (wvs.push (.int (1 + si) tk)).toList, IsI v := fun tk v hm => by
          rw [Array.toList_push] at hm
          rcases List.mem_append.mp hm with hm | hm
          · exact hwi v hm
          · rw [List.mem_singleton.mp hm]; exact ⟨_, _, rfl⟩
        iterate 6 walk1
        refine gm_list (C16.lk hd16) PySem.F.slot_list_append PySem.F.type_list_append ?_
        iterate 5 walk1
        refine bnC (v := .builtin "max") W' C16 (gb_max _) rfl ?_
        iterate 3 walk1
        refine compX (L := L) (h₀ := bar s.heap n) (cl := [(Str.ofString "self", L + 1)]) ?_
        iterate 3 walk1
        rename_i sl2 n17 h17 tk17 u17 C17 N17
        refine sliceT (a := 1) C17 (by exact C17.lk (N17.le _ _ hT16)) (by exact C17.lk N17.self) (by decide) (by walk_at "m sm") (by rw [sizeLine_eq]; simp [hv.length]; exact ll) fun T18 n18 h18 C18 N18 => ?_
        have C18' := C18.narrow C17.nd N18.le
        refine ⟨fun i ys n => n = n17 ∧ ∀ v ∈ ys.toList, IsI v, [T18], _, _, _, n17, Up.mk, C18', Apart.new C18 C17.nd N18, it_tuple hh (isTuple_obj (C18.lk N18.self)), by simp [hv.length]; exact lt_, ⟨rfl, fun _ h => nomatch h⟩, ?_, ?_⟩
        · intro i v ys g Cl n19 Z3 h19 d19 tk19 hi hys hP kg C19
          refine stepC ?_
          refine genQ fun QQ hQ => ?_
          refine elA Z3 fun Xx8 hI => ?_
          obtain rfl := Xx8
          have Wg := W'.keeps kg
          have I1g := I1.keeps kg
          have hcg := N17.le _ _ hc16
          have hdg := N17.le _ _ hd16
          refine elEAE (hv.get1 (show vs[i]? = some v by simpa using hP)) fun k hk tv Xx9 => ?_
          obtain rfl := Xx9
          have hkN := hks k (List.mem_of_getElem? hk)
          iterate 5 walk1
          have hkv : dvs[k]? = some dvs[k] := Array.getElem?_eq_getElem (by exact om219 htl hts hwl hdl hkN)
          refine itemO (C19.lk hdg) hkv (by exact tlt) ?_
          try refine hQ _ _ ?_
          refine ⟨Up.mk, _, _, C19.grow (fun _ _ e => e), rfl, fun v hm => ?_⟩
          rw [Array.toList_push] at hm
          rcases List.mem_append.mp hm with hm | hm
          · exact hI v hm
          · rw [List.mem_singleton.mp hm]; exact hdi _ (by walk_at "m sm")
        · rintro D2 ys2 ep2 n19 ⟨rfl, hI2⟩ hsz2 h19 d19 tk19 C19
          have hD2 : List.lookup D2 ((D2, seqObj "list" ys2 ep2) :: n19) = some (seqObj "list" ys2.toList.toArray ep2) := by simp
          have hle19 : ∀ b p, n16.lookup b = some p → List.lookup b ((D2, seqObj "list" ys2 ep2) :: n19) = some p := fun b p e => C19.tail (N17.le _ _ e)
          generalize ((D2, seqObj "list" ys2 ep2) :: n19) = n20 at C19 hD2 hle19
          iterate 5 walk1
          rename_i D3 n21 h21 C21 N21
          refine addL C21 (C21.lk (N21.le _ _ hD2)) (C21.lk N21.self) (by have : vs.length = ks.length := hv.length; rw [sizeLine_eq, Array.length_toList]; simp at hsz2 ⊢; exact om148 h2 this hsz2) fun D4 n22 h22 C22 N22 => ?_
          walk1
          refine maxR C22 hh (C22.lk N22.self) (fun v hm => ?_) (by walk_at "m sm") fun mi mt h23 tk23 C23 => ?_
          · rcases List.mem_append.mp hm with hm | hm
            · exact hI2 v hm
            · rw [List.mem_singleton.mp hm]; exact ⟨_, _, rfl⟩
          iterate 2 walk1
          have hd22 := N22.le _ _ (N21.le _ _ (hle19 _ _ hd16))
          refine appendX C23 hd22 (by rw [sizeLine_eq]; exact ell) fun h24 n24 e24 C24 hd24 off24 => ?_
          have up24 : ∀ b p, n16.lookup b = some p → b ≠ σ.de → n24.lookup b = some p := fun b p e q => off24 _ _ q (N22.le _ _ (N21.le _ _ (hle19 _ _ e)))
          have hc24 := up24 _ _ hc16 (hcn _ _ hde)
          have ho24 := up24 _ _ ho16 d3
          have hw24 := up24 _ _ hw16 d6
          have hT24 := up24 _ _ hT16 (hTne _ _ hde (by walk_at "m sm"))
          have hkd24 := (((hkd16.mono hle19).mono N21.le).mono N22.le).offX hd22 rfl off24
          iterate 11 walk1
          refine lenL (C24.lk ho24) (by rw [Array.size_push, hts]; exact ll1) fun t25 tk25 => ?_
          rw [Array.size_push, hts]
          iterate 2 walk1
          have eN : ((σ.N + 1 : Nat) : Int) - 1 = (σ.N : Nat) := by exact om79
          rw [eN]
          have keepT : ∀ b p, n.lookup b = some p → p.cls = .type "tuple" → n24.lookup b = some p := fun b p e q =>
            up24 _ _ (hdiff16 _ _ e (ne_cls e hnu (by rw [q, hnuc.1]; simp)) (ne_cls e hnol (by rw [q]; simp)) (ne_cls e hwe (by rw [q]; simp))) (ne_cls e hde (by rw [q]; simp))
          refine new T _ _ n24 (C24.mut fun a o hm e => ?_) Up.mk ⟨⟨⟨e11, ?_⟩, Pw.app (Pw.mono (fun T nd ⟨t, v, e, o, m⟩ => ⟨t, v, e, keepT _ _ o rfl, m⟩) hta) (.cons ⟨t, vs, e3, hT24, hv⟩ .nil)⟩, ⟨_, hkd24, ?_, ?_⟩, ⟨_, e16, hw24, by rw [Array.size_push, hwl]; simp [HS.N], hwI _⟩, ⟨_, e24, hd24, by rw [Array.size_push, hdl]; simp [HS.N], ?_⟩⟩
          · simp only [List.mem_cons, List.not_mem_nil, or_false, not_or] at hm
            exact up24 _ _ (hdiff16 _ _ e hm.2.1 hm.1 hm.2.2.1) hm.2.2.2
          · have : (List.map Value.ref σ.ta).toArray.push (.ref T) = (List.map Value.ref (σ.ta ++ [T])).toArray := by simp
            rw [← this]; exact ho24
          · rw [storedH_new hnone]; simp [HS.N]; omega
          · rw [storedH_new hnone]
            intro x hx
            rcases List.mem_append.mp hx with hx | hx
            · refine elEEA (hxr x hx) fun j tj ej hj => ?_
              exact ⟨j, tj, ej, by simp [HS.N] at hj ⊢; exact s_⟩
            · rw [List.mem_singleton.mp hx]
              exact ⟨σ.N, t9, rfl, by simp [HS.N]⟩
          · intro v hm
            rw [Array.toList_push] at hm
            rcases List.mem_append.mp hm with hm | hm
            · exact hdi v hm
            · rw [List.mem_singleton.mp hm]; exact ⟨_, _, rfl⟩
end
end F3
section G1
theorem szL {α : Type} {a : Array α} {k : Nat} (h : a.toList.length = k) : a.size = k := h
theorem lstC {vs : Array Value} {ep : Nat} : (seqObj "list" vs ep).cls ≠ .type "tuple" := by simp
structure Stay (ch : Addr → Prop) (n n' : Ents) : Prop where
  per : ∀ b p, ¬ ch b → n.lookup b = some p → n'.lookup b = some p
  cls : ∀ b p, ch b → n.lookup b = some p → p.cls ≠ .type "tuple"
section
variable {ch : Addr → Prop} {n n' : Ents} {prog : Program} {w : World}
theorem Stay.tup (S : Stay ch n n') {b : Addr} {p : Obj} (e : n.lookup b = some p) (q : p.cls = .type "tuple") : n'.lookup b = some p := S.per b p (fun h => S.cls b p h e q) e
theorem Stay.nodes {σ : HS} (S : Stay ch n n') (N : σ.Nodes (n.lookup ·)) (h : ¬ ch σ.no) : σ.Nodes (n'.lookup ·) :=
  ⟨let ⟨ep, e⟩ := N.no; ⟨ep, S.per _ _ h e⟩, Pw.mono (fun _ _ ⟨t, v, e, o, m⟩ => ⟨t, v, e, S.tup o rfl, m⟩) N.ta⟩
theorem Stay.kd {d : Addr} {xs : List (Key × Addr × Value)} (S : Stay ch n n') (x : KDx prog w (n.lookup ·) d xs) (h : ¬ ch d) : KDx prog w (n'.lookup ·) d xs := by
  obtain ⟨⟨o, es, ep, h1, r⟩, q, nd⟩ := x
  exact ⟨⟨o, es, ep, S.per _ _ h h1, r⟩, fun y hy => (let ⟨vs, e2, y1, y2⟩ := q y hy; ⟨vs, e2, S.tup y1 rfl, y2⟩), nd⟩
end
theorem Uni.On.lists {σ : Uni} {f : Look} (U : σ.On f) : ∀ a ∈ σ.ks, ∃ vs ep, f a = some (seqObj "list" vs ep) := by
  intro a ha
  obtain ⟨⟨v1, e1, h1, _⟩, ⟨e2, h2⟩, ⟨v3, e3, h3, _⟩, h4⟩ := U
  rcases List.mem_cons.mp ha with rfl | ha
  · exact ⟨_, _, h1⟩
  · rcases List.mem_cons.mp ha with rfl | ha
    · exact ⟨_, _, h2⟩
    · rcases List.mem_cons.mp ha with rfl | ha
      · exact ⟨_, _, h3⟩
      · refine elEAEEA (h4.mem1 ha) fun _ _ v e h _ => ?_
        exact ⟨v, e, h⟩
noncomputable abbrev HS.upd (σ : HS) (ps : List Nat) (lots : List (List Nat)) (abv : List (Nat × Addr × List Nat)) (wait : List Nat) : HS := { σ with U := { σ.U with ps := ps, lots := lots }, abv := abv, wait := wait }
noncomputable abbrev HS.m (σ : HS) : Nat := σ.wait.length + 22 * (roots σ.U.ps).length
theorem Cx.given {h₀ h : Heap} {L T : Addr} {l : Binds} {n : Ents} {vs : Array Value} {ep : Nat} (C : Cx h₀ L h l n) (hT : h.get? T = some (seqObj "tuple" vs ep)) :
    ∃ g, Kp h₀ g ∧ Cx g L h l n ∧ ∀ h' l', Cx g L h' l' n → h'.get? T = some (seqObj "tuple" vs ep) := by
  refine elEAA C.wide fun g kg G big => ?_
  refine ⟨g, kg, G, fun h' l' C' => ?_⟩
  by_cases hm : ∃ o, n.lookup T = some o
  · refine elE hm fun o e => ?_
    have := C.lk e
    rw [hT] at this; cases this
    exact C'.lk e
  · refine C'.keep _ _ (big T _ (fun q => ?_) (fun p hp q => hm ⟨p.2, ?_⟩) hT)
    · refine elEA C.fr fun m Xx1 _ => ?_
      refine elEEEA Xx1 fun oL es ep' hL r => ?_
      rw [q, hL] at hT; cases hT
      refine elA r fun r1 _ => ?_
      cases r1
    · rw [← q]; exact lookup_of_mem C.nd hp
theorem HS.Ok.parts {σ : HS} (O : σ.Ok) : σ.hs.Nodup ∧ (∀ b ∈ σ.hs, b ∉ σ.U.ks) ∧ ∀ e ∈ σ.abv, e.2.1 ∉ σ.U.ks ∧ e.2.1 ∉ σ.hs := by
  refine elAA (List.nodup_append.mp O.ks) fun nd1 nd2 nd3 => ?_
  refine elAA (List.nodup_append.mp nd2) fun nd4 nd5 nd6 => ?_
  exact ⟨nd4, fun b h q => nd3 b q b (List.mem_append_left _ h) rfl, fun e h => ⟨fun q => nd3 _ q e.2.1 (List.mem_append_right _ (List.mem_map.mpr ⟨e, h, rfl⟩)) rfl, fun q => nd6 _ q e.2.1 (List.mem_map.mpr ⟨e, h, rfl⟩) rfl⟩⟩
/- unequal objects of the heap -/
theorem HS.no_ed {σ : HS} (h : σ.hs.Nodup) : σ.no ≠ σ.ed := ndI h (by walk_at "m nd")
theorem HS.no_fo {σ : HS} (h : σ.hs.Nodup) : σ.no ≠ σ.fo := ndI h (by walk_at "m nd")
theorem HS.no_av {σ : HS} (h : σ.hs.Nodup) : σ.no ≠ σ.av := ndI h (by walk_at "m nd")
theorem HS.no_wa {σ : HS} (h : σ.hs.Nodup) : σ.no ≠ σ.wa := ndI h (by walk_at "m nd")
theorem HS.nu_ed {σ : HS} (h : σ.hs.Nodup) : σ.nu ≠ σ.ed := ndI h (by walk_at "m nd")
theorem HS.nu_fo {σ : HS} (h : σ.hs.Nodup) : σ.nu ≠ σ.fo := ndI h (by walk_at "m nd")
theorem HS.nu_av {σ : HS} (h : σ.hs.Nodup) : σ.nu ≠ σ.av := ndI h (by walk_at "m nd")
theorem HS.nu_wa {σ : HS} (h : σ.hs.Nodup) : σ.nu ≠ σ.wa := ndI h (by walk_at "m nd")
theorem HS.we_ed {σ : HS} (h : σ.hs.Nodup) : σ.we ≠ σ.ed := ndI h (by walk_at "m nd")
theorem HS.we_fo {σ : HS} (h : σ.hs.Nodup) : σ.we ≠ σ.fo := ndI h (by walk_at "m nd")
theorem HS.we_av {σ : HS} (h : σ.hs.Nodup) : σ.we ≠ σ.av := ndI h (by walk_at "m nd")
theorem HS.we_wa {σ : HS} (h : σ.hs.Nodup) : σ.we ≠ σ.wa := ndI h (by walk_at "m nd")
theorem HS.de_ed {σ : HS} (h : σ.hs.Nodup) : σ.de ≠ σ.ed := ndI h (by walk_at "m nd")
theorem HS.de_fo {σ : HS} (h : σ.hs.Nodup) : σ.de ≠ σ.fo := ndI h (by walk_at "m nd")
theorem HS.de_av {σ : HS} (h : σ.hs.Nodup) : σ.de ≠ σ.av := ndI h (by walk_at "m nd")
theorem HS.de_wa {σ : HS} (h : σ.hs.Nodup) : σ.de ≠ σ.wa := ndI h (by walk_at "m nd")
theorem HS.ed_fo {σ : HS} (h : σ.hs.Nodup) : σ.ed ≠ σ.fo := ndI h (by walk_at "m nd")
theorem HS.ed_kn {σ : HS} (h : σ.hs.Nodup) : σ.ed ≠ σ.kn := ndI h (by walk_at "m nd")
theorem HS.ed_av {σ : HS} (h : σ.hs.Nodup) : σ.ed ≠ σ.av := ndI h (by walk_at "m nd")
theorem HS.ed_wa {σ : HS} (h : σ.hs.Nodup) : σ.ed ≠ σ.wa := ndI h (by walk_at "m nd")
theorem HS.fo_kn {σ : HS} (h : σ.hs.Nodup) : σ.fo ≠ σ.kn := ndI h (by walk_at "m nd")
theorem HS.fo_av {σ : HS} (h : σ.hs.Nodup) : σ.fo ≠ σ.av := ndI h (by walk_at "m nd")
theorem HS.fo_wa {σ : HS} (h : σ.hs.Nodup) : σ.fo ≠ σ.wa := ndI h (by walk_at "m nd")
theorem HS.kn_av {σ : HS} (h : σ.hs.Nodup) : σ.kn ≠ σ.av := ndI h (by walk_at "m nd")
theorem HS.kn_wa {σ : HS} (h : σ.hs.Nodup) : σ.kn ≠ σ.wa := ndI h (by walk_at "m nd")
theorem HS.av_wa {σ : HS} (h : σ.hs.Nodup) : σ.av ≠ σ.wa := ndI h (by walk_at "m nd")
theorem HS.On.stay {w : World} {σ : HS} {c ck : Nat} {n n' : Ents} {x : Addr} (H : σ.On w c ck (n.lookup ·)) (O : σ.Ok) (hx : x ∈ σ.hs) (off : Off x n n') : Stay (· = x) n n' ∧ σ.U.On (n'.lookup ·) ∧ (∀ e ∈ σ.abv, LN (n'.lookup ·) e.2.1 e.2.2) := by
  refine elAA O.parts fun p1 p2 p3 => ?_
  refine ⟨⟨fun b p h e => off b p h e, fun b p h e q => ?_⟩, H.U.mono fun a ha o e => off a o (fun z => p2 _ hx (z ▸ ha)) e, fun e he => (H.al e he).mono fun o q => off _ _ (fun z => (p3 e he).2 (z ▸ hx)) q⟩
  subst h
  obtain ⟨x1, ⟨⟨o1, _, _, h1, k1, _⟩, _⟩, _⟩ := H.nu
  refine elEEA H.we fun v2 e2 h2 _ => ?_
  refine elEEA H.de fun v3 e3 h3 _ => ?_
  refine elEEA H.ed fun v4 e4 h4 _ => ?_
  refine elEEA H.fo fun v5 e5 h5 _ => ?_
  obtain ⟨x6, ⟨⟨o6, _, _, h6, k6, _⟩, _⟩, _⟩ := H.kn
  refine elEA H.av fun o7 h7 k7 => ?_
  refine elEEA H.wa fun v8 e8 h8 _ => ?_
  obtain ⟨⟨e9, h9⟩, _⟩ := H.N
  have fin : ∀ o, n.lookup b = some o → o.cls ≠ .type "tuple" → False := fun o z y => by rw [e] at z; cases z; exact y q
  simp only [List.mem_cons, List.not_mem_nil, or_false] at hx
  rcases hx with rfl | rfl | rfl | rfl | rfl | rfl | rfl | rfl | rfl
  · exact fin _ h9 lstC
  · exact fin _ h1 (by rw [k1.1]; simp)
  · exact fin _ h2 lstC
  · exact fin _ h3 lstC
  · exact fin _ h4 lstC
  · exact fin _ h5 lstC
  · exact fin _ h6 (by rw [k6.1]; simp)
  · exact fin _ h7 (by rw [(isDict_type k7).1]; simp)
  · exact fin _ h8 lstC
theorem HS.mno {σ : HS} : σ.no ∈ σ.hs := .head _
theorem HS.mnu {σ : HS} : σ.nu ∈ σ.hs := .tail _ (.head _)
theorem HS.mwe {σ : HS} : σ.we ∈ σ.hs := .tail _ (.tail _ (.head _))
theorem HS.mde {σ : HS} : σ.de ∈ σ.hs := .tail _ (.tail _ (.tail _ (.head _)))
theorem HS.med {σ : HS} : σ.ed ∈ σ.hs := .tail _ (.tail _ (.tail _ (.tail _ (.head _))))
theorem HS.mfo {σ : HS} : σ.fo ∈ σ.hs := .tail _ (.tail _ (.tail _ (.tail _ (.tail _ (.head _)))))
theorem HS.mkn {σ : HS} : σ.kn ∈ σ.hs := .tail _ (.tail _ (.tail _ (.tail _ (.tail _ (.tail _ (.head _))))))
theorem HS.mav {σ : HS} : σ.av ∈ σ.hs := .tail _ (.tail _ (.tail _ (.tail _ (.tail _ (.tail _ (.tail _ (.head _)))))))
theorem HS.mwa {σ : HS} : σ.wa ∈ σ.hs := .tail _ (.tail _ (.tail _ (.tail _ (.tail _ (.tail _ (.tail _ (.tail _ (.head _))))))))
theorem neM {x y : Addr} {l : List Addr} (h : y ∉ l) (m : x ∈ l) : y ≠ x := fun z => h (z ▸ m)
theorem HS.mh {σ : HS} {b : Addr} (h : b ∈ σ.hs) : b ∈ σ.ks := List.mem_append_right _ (List.mem_append_left _ h)
theorem clsL {n : Ents} {b : Addr} {vs : Array Value} {ep : Nat} {p : Obj} (h : n.lookup b = some (seqObj "list" vs ep)) (e : n.lookup b = some p) : p.cls ≠ .type "tuple" := by rw [h] at e; cases e; exact lstC
theorem Off.has {x b : Addr} {n n' : Ents} {o : Obj} (off : Off x n n') (hx : n'.lookup x = some o) (h : ∃ p, n.lookup b = some p) : ∃ p, n'.lookup b = some p := by
  by_cases q : b = x
  · rw [q]; exact ⟨_, hx⟩
  · obtain ⟨p, e⟩ := h; exact ⟨p, off _ _ q e⟩
theorem HS.On.hs {w : World} {σ : HS} {c ck : Nat} {n : Ents} (H : σ.On w c ck (n.lookup ·)) : ∀ b ∈ σ.hs, ∃ p, n.lookup b = some p := fun b hb => by
  obtain ⟨⟨_, z1⟩, _⟩ := H.N
  obtain ⟨_, ⟨⟨_, _, _, z2, _⟩, _⟩, _⟩ := H.nu
  refine elEEA H.we fun _ _ z3 _ => ?_
  refine elEEA H.de fun _ _ z4 _ => ?_
  refine elEEA H.ed fun _ _ z5 _ => ?_
  refine elEEA H.fo fun _ _ z6 _ => ?_
  obtain ⟨_, ⟨⟨_, _, _, z7, _⟩, _⟩, _⟩ := H.kn
  refine elEA H.av fun _ z9 _ => ?_
  refine elEEA H.wa fun _ _ z8 _ => ?_
  simp only [List.mem_cons, List.not_mem_nil, or_false] at hb
  rcases hb with rfl | rfl | rfl | rfl | rfl | rfl | rfl | rfl | rfl
  · exact ⟨_, z1⟩
  · exact ⟨_, z2⟩
  · exact ⟨_, z3⟩
  · exact ⟨_, z4⟩
  · exact ⟨_, z5⟩
  · exact ⟨_, z6⟩
  · exact ⟨_, z7⟩
  · exact ⟨_, z9⟩
  · exact ⟨_, z8⟩
theorem HS.On.has {w : World} {σ : HS} {c ck : Nat} {n : Ents} (H : σ.On w c ck (n.lookup ·)) : ∀ b ∈ σ.ks, ∃ p, n.lookup b = some p := fun b hb => by
  rcases List.mem_append.mp hb with hb | hb
  · obtain ⟨_, _, e⟩ := H.U.lists b hb; exact ⟨_, e⟩
  · rcases List.mem_append.mp hb with hb | hb
    · exact H.hs b hb
    · obtain ⟨e, he, rfl⟩ := List.mem_map.mp hb
      obtain ⟨_, _, q, _⟩ := H.al e he; exact ⟨_, q⟩
theorem HS.On.stayU {w : World} {σ : HS} {c ck : Nat} {n n' : Ents} {ev : Array Value} {ee : Nat} (H : σ.On w c ck (n.lookup ·)) (hed : n.lookup σ.ed = some (seqObj "list" ev ee)) (k : ∀ b p, b ≠ σ.ed → b ∉ σ.U.ks → n.lookup b = some p → n'.lookup b = some p) : Stay (fun b => b = σ.ed ∨ b ∈ σ.U.ks) n n' :=
  ⟨fun b p h e => k b p (fun q => h (.inl q)) (fun q => h (.inr q)) e, fun b p h e => by
    rcases h with rfl | h
    · exact clsL hed e
    · refine elEE (H.U.lists b h) fun _ _ q => ?_
      exact clsL q e⟩
theorem HS.On.stayJ {w : World} {σ : HS} {c ck : Nat} {n n' : Ents} {ev fv : Array Value} {ee fe : Nat} (H : σ.On w c ck (n.lookup ·)) (hed : n.lookup σ.ed = some (seqObj "list" ev ee)) (hfo : n.lookup σ.fo = some (seqObj "list" fv fe))
    (k : ∀ b p, b ≠ σ.ed → b ≠ σ.fo → b ≠ σ.wa → b ≠ σ.av → b ∉ σ.U.ks → n.lookup b = some p → n'.lookup b = some p) : Stay (fun b => b = σ.ed ∨ b = σ.fo ∨ b = σ.wa ∨ b = σ.av ∨ b ∈ σ.U.ks) n n' :=
  ⟨fun b p h e => k b p (fun q => h (.inl q)) (fun q => h (.inr (.inl q))) (fun q => h (.inr (.inr (.inl q)))) (fun q => h (.inr (.inr (.inr (.inl q))))) (fun q => h (.inr (.inr (.inr (.inr q))))) e, fun b p h e => by
    rcases h with rfl | rfl | rfl | rfl | h
    · exact clsL hed e
    · exact clsL hfo e
    · refine elEEA H.wa fun _ _ q _ => ?_
      exact clsL q e
    · refine elEA H.av fun o q d => ?_
      rw [show n.lookup σ.av = _ from q] at e; cases e; rw [(isDict_type d).1]; simp
    · refine elEE (H.U.lists b h) fun _ _ q => ?_
      exact clsL q e⟩
theorem or5 {a b c d e : Prop} (h1 : ¬ a) (h2 : ¬ b) (h3 : ¬ c) (h4 : ¬ d) (h5 : ¬ e) : ¬ (a ∨ b ∨ c ∨ d ∨ e) := fun h => by
  rcases h with h | h | h | h | h
  · exact h1 h
  · exact h2 h
  · exact h3 h
  · exact h4 h
  · exact h5 h
section
variable {w : World} {A : Around} {E : Value → Shared → Prop} {s : Shared}
set_option maxHeartbeats 4000000 in
theorem join_ok {σ : HS} {a b c ck : Nat} {t u : Tok} {r : Value} {Q : Value → Shared → Prop} {B : Heap} {n : Ents} (W : Wd w B) (Ow : Own B s.heap n) (I : σ.Ins B) (H : σ.On w c ck (n.lookup ·)) (O : σ.Ok) (ha : a < σ.N) (hb : b < σ.N) (hc : c ≤ 2000) (hck : ck ≤ 2000)
    (hroom : A.depth + 50 < recursionLimit) (hh : A.handled = none)
    (same : root σ.U.ps a = root σ.U.ps b → ∀ s' n', Mut s.heap n s'.heap n' σ.ks → Up s s' → σ.On w (c + 1) ck (n'.lookup ·) → Q (.bool false) s')
    (diff : root σ.U.ps a ≠ root σ.U.ps b → ∀ ps lots abv wait s' n', Mut s.heap n s'.heap n' σ.ks → Up s s' → (σ.upd ps lots abv wait).On w c ck (n'.lookup ·) → (σ.upd ps lots abv wait).Ok → (σ.upd ps lots abv wait).m ≤ σ.m → (roots ps).length < (roots σ.U.ps).length →
      (∀ x y, x < σ.N → y < σ.N → root σ.U.ps x = root σ.U.ps y → root ps x = root ps y) → (∀ b p, n.lookup b = some p → b ∉ σ.ks → b ∉ (σ.upd ps lots abv wait).ks) → Q (.bool true) s') :
    wpAny (model PySem.Challenge.pw_pq0072_01 w) A (call (.ref 427) [.ref σ.hp, .int (a : Nat) t, .int (b : Nat) u, r]) Q E s := by
  have I1 := I.hp.keeps Ow.bar
  have hks := O.ks
  refine elEEA H.ed fun ev ee hed hedc => ?_
  refine enterC (n := n) W Ow (x := mth 14 9) rfl k_427 c_427 (by exact rm0) (binds := [("self", .ref σ.hp), ("a", .int a t), ("b", .int b u), ("reason", r)]) rfl (locs rfl) (by decide) fun L h₁ W' C => ?_
  change Cx (bar s.heap n) L h₁ [("reason", r), ("b", .int b u), ("a", .int a t), ("self", .ref σ.hp)] n at C
  refine elAA (HS.Ok.parts O) fun nd4 hU hA => ?_
  iterate 18 walk1
  rename_i T1 n2 h2 C2 N2
  walk1
  refine appendX C2 (N2.le _ _ hed) (by rw [sizeLine_eq]; exact om134 hc hedc) fun h3 n3 e3 C3 hed3 off3 => ?_
  have off3' : ∀ b p, b ≠ σ.ed → n.lookup b = some p → n3.lookup b = some p := fun b p q e => off3 b p q (N2.le _ _ e)
  clear C2
  have I3 := I.un.keeps Ow.bar
  have U3 : σ.U.On (n3.lookup ·) := H.U.mono fun a ha o e => off3' a o (fun z => hU _ HS.med (z ▸ ha)) e
  iterate 6 walk1
  refine gmC W' C3 I3 (me_314 _) rfl ?_
  iterate 7 walk1
  refine umerge_ok (W'.keeps C3.own.bar) C3.own.same (I3.keeps C3.own.bar) U3 O.u (O.len ▸ ha) (O.len ▸ hb) (by show A.depth + 1 + 10 < recursionLimit; exact rm2) hh (fun hs s4 n4 M4 X4 U4 => ?_) fun k g T4 t1 t2 s4 n4 hkg hor M4 X4 U4 O4 hT4 => ?_
  · refine elEEE X4 fun h4 d4 tk4 Xx2 => ?_
    obtain rfl := Xx2
    have C4 := C3.after M4
    have S4 := H.stayU hed fun b p h1 h2 e => M4.le _ _ h2 (off3' _ _ h1 e)
    walk1
    rename_i h5 C5
    iterate 11 walk1
    have hed4 := M4.le _ _ (hU _ HS.med) hed3
    refine elEA H.nu fun x1 b1 b2 => ?_
    refine elEEA H.fo fun fv fe hfo hfoc => ?_
    refine elEA H.kn fun x2 k1 k2 => ?_
    refine elEA H.av fun oa hav hao => ?_
    have nc : ∀ b ∈ σ.hs, b ≠ σ.ed → ¬ (b = σ.ed ∨ b ∈ σ.U.ks) := fun b h1 h2 h3 => h3.elim h2 (hU b h1)
    refine same hs _ n4 (C5.mut fun b p h e => S4.per b p (fun q => h ?_) e) Up.mk ⟨U4, S4.nodes H.N (nc _ HS.mno (HS.no_ed nd4)), ⟨x1, S4.kd b1 (nc _ HS.mnu (HS.nu_ed nd4)), b2⟩, H.we.mono fun o e => S4.per _ _ (nc _ HS.mwe (HS.we_ed nd4)) e, H.de.mono fun o e => S4.per _ _ (nc _ HS.mde (HS.de_ed nd4)) e,
      ⟨_, e3, hed4, by rw [Array.size_push]; exact om121 hedc⟩, ⟨fv, fe, S4.per _ _ (nc _ HS.mfo (Ne.symm (HS.ed_fo nd4))) hfo, by exact om99 hfoc⟩, ⟨x2, S4.kd k1 (nc _ HS.mkn (Ne.symm (HS.ed_kn nd4))), by omega, k2.2⟩, ⟨oa, S4.per _ _ (nc _ HS.mav (Ne.symm (HS.ed_av nd4))) hav, hao⟩,
      fun e he => (H.al e he).mono fun o q => S4.per _ _ (fun z => z.elim (neM (hA e he).2 HS.med) (hA e he).1) q, H.wa.mono fun o q => S4.per _ _ (nc _ HS.mwa (Ne.symm (HS.ed_wa nd4))) q⟩
    rcases q with rfl | q
    · exact HS.mh HS.med
    · exact List.mem_append_left _ q
  · refine elEEE X4 fun h4 d4 tk4 Xx3 => ?_
    obtain rfl := Xx3
    have C4 := C3.after M4
    refine elEAA (C4.given hT4) fun g4 kg4 C4' hT => ?_
    have Wg := W'.keeps kg4
    have I1g := I1.keeps kg4
    clear C4
    walk1
    rename_i h5 C5
    have hT5 := hT _ _ C5
    have S4 := H.stayU hed fun b p h1 h2 e => M4.le _ _ h2 (off3' _ _ h1 e)
    have hed4 := M4.le _ _ (hU _ HS.med) hed3
    refine elEA H.nu fun x1 b1 b2 => ?_
    refine elEEA H.fo fun fv fe hfo hfoc => ?_
    refine elEA H.kn fun x2 k1 k2 => ?_
    refine elEA H.av fun oa hav hao => ?_
    refine elEEA H.wa fun wv we hwa hwN => ?_
    have nc : ∀ b ∈ σ.hs, b ≠ σ.ed → ¬ (b = σ.ed ∨ b ∈ σ.U.ks) := fun b h1 h2 h3 => h3.elim h2 (hU b h1)
    have hfo4 := S4.per _ _ (nc _ HS.mfo (Ne.symm (HS.ed_fo nd4))) hfo
    have hav4 := S4.per _ _ (nc _ HS.mav (Ne.symm (HS.ed_av nd4))) hav
    have hwa4 := S4.per _ _ (nc _ HS.mwa (Ne.symm (HS.ed_wa nd4))) hwa
    have hkN : k < σ.N := by rcases hor with ⟨q, _⟩ | ⟨q, _⟩ <;> rw [q, O.len] <;> exact root_lt (O.len ▸ (by assumption))
    have hgN : g < σ.N := by rcases hor with ⟨_, q⟩ | ⟨_, q⟩ <;> rw [q, O.len] <;> exact root_lt (O.len ▸ (by assumption))
    have hkr : root σ.U.ps k = k := by rcases hor with ⟨q, _⟩ | ⟨q, _⟩ <;> rw [q] <;> exact root_idem O.u.le (O.len ▸ (by assumption))
    have hgr : root σ.U.ps g = g := by rcases hor with ⟨_, q⟩ | ⟨_, q⟩ <;> rw [q] <;> exact root_idem O.u.le (O.len ▸ (by assumption))
    have hal : σ.abv.length ≤ σ.N := by
      have := nodup_len σ.N (σ.abv.map (·.1)) O.abd fun x hx => O.len ▸ (mem_roots.mp ((O.abk x).mp hx)).1
      simpa using this
    have hn11 := O.n11
    refine elEA (O.abOf hkN) fun ek hek hekr => ?_
    refine elEA (O.abOf hgN) fun eg heg hegr => ?_
    rw [hkr] at hekr
    rw [hgr] at hegr
    iterate 12 walk1
    refine unpack2T C5 hT5 hh fun h6 tk6 C6 => ?_
    clear C5
    iterate 14 walk1
    iterate 4 walk1
    refine lenL (C6.lk hed4) (show (ev.push (.ref T1)).size ≤ 1000000 by rw [Array.size_push]; exact om159 hc hedc) fun t7 tk7 => ?_
    iterate 3 walk1
    refine appendX C6 hfo4 (by rw [sizeLine_eq]; exact om193 hc hedc hfoc) fun h8 n8 e8 C8 hfo8 off8 => ?_
    have hwa8 := off8 _ _ (Ne.symm (HS.fo_wa nd4)) hwa4
    have hav8 := off8 _ _ (Ne.symm (HS.fo_av nd4)) hav4
    have S8 : ∀ b p, b ≠ σ.fo → n4.lookup b = some p → n8.lookup b = some p := off8
    refine elEEA (H.al eg heg) fun gv ge hgl hgN' => ?_
    have hg4 := S4.per _ _ (fun z => z.elim (neM (hA eg heg).2 HS.med) (hA eg heg).1) hgl
    have hg8 := S8 _ _ (neM (hA eg heg).2 HS.mfo) hg4
    clear C6
    iterate 14 walk1
    refine dItem (knd := intKind pwp w) (k := (g : Int)) (C8.lk hav8) hao (intKind_is _ _ _ _) (valueAt_abv O.abd heg hegr) fun tk9 => ?_
    walk1
    refine extendX C8 hwa8 (C8.lk hg8) (by
      have h1 : wv.size = σ.wait.length := szL hwN.length
      have h2 : gv.size = eg.2.2.length := szL hgN'.length
      have := sum_mem heg
      have := O.tot
      have := O.n11
      rw [sizeLine_eq]; omega) fun h10 n10 e10 C10 hwa10 off10 => ?_
    have hav10 := off10 _ _ (HS.av_wa nd4) hav8
    refine elEEA (H.al ek hek) fun kv ke hkl hkN' => ?_
    have hk4 := S4.per _ _ (fun z => z.elim (neM (hA ek hek).2 HS.med) (hA ek hek).1) hkl
    have hk10 := off10 _ _ (neM (hA ek hek).2 HS.mwa) (S8 _ _ (neM (hA ek hek).2 HS.mfo) hk4)
    have hg10 := off10 _ _ (neM (hA eg heg).2 HS.mwa) hg8
    clear C8
    iterate 8 walk1
    refine dItem (knd := intKind pwp w) (k := (k : Int)) (C10.lk hav10) hao (intKind_is _ _ _ _) (valueAt_abv O.abd hek hekr) fun tk11 => ?_
    iterate 4 walk1
    refine gm_dict (C10.lk hav10) PySem.F.slot_dict_pop PySem.F.type_dict_pop ?_ (isDict_type hao).1 (isDict_type hao).2
    iterate 4 walk1
    refine dPopX C10 hav10 hao (intKind_is _ _ (g : Int) _) (by rfl) (valueAt_abv O.abd heg hegr) (by rw [sizeLine_eq, List.length_map]; exact lll) fun h12 n12 o12 tk12 C12 hav12 hd12 off12 => ?_
    have hk12 := off12 _ _ (neM (hA ek hek).2 HS.mav) hk10
    have hg12 := off12 _ _ (neM (hA eg heg).2 HS.mav) hg10
    have hkl2 : kv.size = ek.2.2.length := szL hkN'.length
    have hgl2 : gv.size = eg.2.2.length := szL hgN'.length
    have hsk := sum_mem hek
    have hsg := sum_mem heg
    have htot := O.tot
    refine addL (vs := kv.toList) (ws := gv.toList) C12 (by simpa using C12.lk hk12) (by simpa using C12.lk hg12) (by rw [sizeLine_eq]; simp; exact om249 hn11 hkl2 hgl2 hsk hsg htot) fun D n13 h13 C13 N13 => ?_
    iterate 4 walk1
    have hwl : (without (σ.abv.map fun e => ((e.1 : Int), Value.ref e.2.1)) (g : Int)).length ≤ sizeLine := by
      have : (without (σ.abv.map fun e => ((e.1 : Int), Value.ref e.2.1)) (g : Int)).length ≤ σ.abv.length := by
        unfold without
        exact Nat.le_trans (List.length_filter_le _ _) (by simp)
      rw [sizeLine_eq]; exact om150 hal hn11 this
    refine dSetX (v := .ref D) C13 (N13.le _ _ hav12) hd12 (intKind_is _ _ (k : Int) _) hwl fun h14 n14 o14 tk14 C14 hav14 hd14 off14 => ?_
    iterate 3 walk1
    have hkp : k < σ.U.ps.length := O.len ▸ hkN
    have hgp : g < σ.U.ps.length := O.len ▸ hgN
    have ekp : σ.U.ps.getD k k = k := by have := root_root O.u.le hkp; rwa [hkr] at this
    have egp : σ.U.ps.getD g g = g := by have := root_root O.u.le hgp; rwa [hgr] at this
    have hkg' : k ≠ g := by exact om250 hkg hkr hgr hekr hegr ekp egp
    refine elA (roots_set O.u.le hkg hgp egp) fun hr1 hr2 => ?_
    have hne : root σ.U.ps a ≠ root σ.U.ps b := by rcases hor with ⟨q1, q2⟩ | ⟨q1, q2⟩ <;> omega
    have hfin : ∀ b p, b ≠ σ.fo → b ≠ σ.wa → b ≠ σ.av → n4.lookup b = some p → n14.lookup b = some p := fun b p q1 q2 q3 e => off14 _ _ q3 (N13.le _ _ (off12 _ _ q3 (off10 _ _ q2 (off8 _ _ q1 e))))
    have S14 := H.stayJ hed hfo fun b p h1 h2 h3 h4 h5 e => hfin b p h2 h3 h4 (S4.per b p (fun q => q.elim h1 h5) e)
    have ncx : ∀ b ∈ σ.hs, b ≠ σ.ed → b ≠ σ.fo → b ≠ σ.wa → b ≠ σ.av → ¬ (b = σ.ed ∨ b = σ.fo ∨ b = σ.wa ∨ b = σ.av ∨ b ∈ σ.U.ks) := fun b h1 h2 h3 h4 h5 => or5 h2 h3 h4 h5 (hU b h1)
    have hfo14 := off14 _ _ (HS.fo_av nd4) (N13.le _ _ (off12 _ _ (HS.fo_av nd4) (off10 _ _ (HS.fo_wa nd4) hfo8)))
    have hwa14 := off14 _ _ (Ne.symm (HS.av_wa nd4)) (N13.le _ _ (off12 _ _ (Ne.symm (HS.av_wa nd4)) hwa10))
    have hDav : D ≠ σ.av := Ne.symm (N13.ne _ _ hav12)
    have hD14 := off14 _ _ hDav N13.self
    have hU4 : ∀ b ∈ σ.U.ks, b ≠ σ.fo ∧ b ≠ σ.wa ∧ b ≠ σ.av := fun b h => ⟨fun q => hU _ HS.mfo (q ▸ h), fun q => hU _ HS.mwa (q ▸ h), fun q => hU _ HS.mav (q ▸ h)⟩
    have newD : ∀ b p, n.lookup b = some p → b ≠ D := fun b p e => by
      have x3 := Off.has off3' hed3 ⟨p, e⟩
      have x4 : ∃ p, n4.lookup b = some p := by
        by_cases h : b ∈ σ.U.ks
        · refine elEE (U4.lists b h) fun v ep q => ?_
          exact ⟨_, q⟩
        · obtain ⟨p, e⟩ := x3; exact ⟨p, M4.le _ _ h e⟩
      refine elE (off12.has hav12 (off10.has hwa10 (Off.has S8 hfo8 x4))) fun p e => ?_
      exact N13.ne _ _ e
    have hsum : sumlen (abJoin σ.abv k g D (ek.2.2 ++ eg.2.2)) = sumlen σ.abv := by
      have := abJoin_sum (D := D) O.abd hek heg (by exact om251 hkg hkr hgr hekr hegr ekp egp)
      rwa [hekr, hegr] at this
    have hDks : D ∉ σ.ks := fun h => (let ⟨p, e⟩ := H.has D h; newD D p e rfl)
    rw [abJoin_dict (ys := ek.2.2 ++ eg.2.2) hek hekr hkg'] at hd14
    refine diff hne (σ.U.ps.set g k) (σ.U.joined k g).lots (abJoin σ.abv k g D (ek.2.2 ++ eg.2.2)) (σ.wait ++ eg.2.2) _ n14 ((C14.base kg4).mut fun b p h e => S14.per b p (fun q => h ?_) e) Up.mk
      ⟨U4.mono fun b hb o e => hfin b o (hU4 b hb).1 (hU4 b hb).2.1 (hU4 b hb).2.2 e, S14.nodes (σ := σ.upd (σ.U.ps.set g k) (σ.U.joined k g).lots (abJoin σ.abv k g D (ek.2.2 ++ eg.2.2)) (σ.wait ++ eg.2.2)) ⟨H.N.no, H.N.ta⟩ (ncx _ HS.mno (HS.no_ed nd4) (HS.no_fo nd4) (HS.no_wa nd4) (HS.no_av nd4)), ⟨x1, S14.kd b1 (ncx _ HS.mnu (HS.nu_ed nd4) (HS.nu_fo nd4) (HS.nu_wa nd4) (HS.nu_av nd4)), b2⟩,
        H.we.mono fun o e => S14.per _ _ (ncx _ HS.mwe (HS.we_ed nd4) (HS.we_fo nd4) (HS.we_wa nd4) (HS.we_av nd4)) e, H.de.mono fun o e => S14.per _ _ (ncx _ HS.mde (HS.de_ed nd4) (HS.de_fo nd4) (HS.de_wa nd4) (HS.de_av nd4)) e,
        ⟨_, e3, hfin _ _ (HS.ed_fo nd4) (HS.ed_wa nd4) (HS.ed_av nd4) hed4, ?_⟩, ⟨_, e8, hfo14, ?_⟩, ⟨x2, S14.kd k1 (ncx _ HS.mkn (Ne.symm (HS.ed_kn nd4)) (Ne.symm (HS.fo_kn nd4)) (HS.kn_wa nd4) (HS.kn_av nd4)), ?_, k2.2⟩, ⟨o14, hav14, hd14⟩, ?_, ⟨_, e10, hwa14, ?_⟩⟩ ?_ ?_ ?_ ?_ ?_
    · rcases q with rfl | rfl | rfl | rfl | q
      · simp
      · simp
      · simp
      · simp
      · exact List.mem_append_left _ q
    · rw [Array.size_push]; show ev.size + 1 + (roots (σ.U.ps.set g k)).length ≤ c; exact om172 hedc hr1
    · rw [Array.size_push]; show fv.size + 1 + (roots (σ.U.ps.set g k)).length ≤ c; exact om172 hfoc hr1
    · rw [List.length_append]; show x2.length + (σ.wait.length + eg.2.2.length) + 22 * (roots (σ.U.ps.set g k)).length ≤ ck; omega
    · intro e he
      rcases abJoin_mem he with rfl | ⟨h1, h2, h3⟩
      · exact ⟨_, 0, hD14, hkN'.app hgN'⟩
      · exact (H.al e h1).mono fun o q => S14.per _ _ (or5 (neM (hA e h1).2 HS.med) (neM (hA e h1).2 HS.mfo) (neM (hA e h1).2 HS.mwa) (neM (hA e h1).2 HS.mav) (hA e h1).1) q
    · rw [Array.toList_append]; exact hwN.app hgN'
    · have hroot : ∀ x, x < σ.N → root (σ.U.ps.set g k) x = if root σ.U.ps x = g then k else root σ.U.ps x := fun x hx => root_set O.u.le hkg hgp ekp egp (O.len ▸ hx)
      refine ⟨O4, by rw [List.length_set]; exact O.len, O.n11, O.kids, ?_, abJoin_nodup O.abd, fun r => ?_, ?_, ?_, ?_, ?_, O.lo⟩
      · have hsub : ∀ x ∈ (abJoin σ.abv k g D (ek.2.2 ++ eg.2.2)).map (·.2.1), x = D ∨ x ∈ σ.abv.map (·.2.1) := fun x hx => by
          obtain ⟨e, he, rfl⟩ := List.mem_map.mp hx
          rcases abJoin_mem he with rfl | ⟨h1, _⟩
          · exact .inl rfl
          · exact .inr (List.mem_map.mpr ⟨e, h1, rfl⟩)
        have hDx : ∀ x ∈ σ.ks, x ≠ D := fun x hx q => hDks (q ▸ hx)
        refine elAA (List.nodup_append.mp hks) fun nd1 nd2 nd3 => ?_
        refine elAA (List.nodup_append.mp nd2) fun _ nd5 nd6 => ?_
        refine List.nodup_append.mpr ⟨nd1, List.nodup_append.mpr ⟨nd4, abJoin_addr O.abd nd5 (fun h => hDks (List.mem_append_right _ (List.mem_append_right _ h))), fun x hx y hy => ?_⟩, fun x hx y hy => ?_⟩
        · rcases hsub y hy with rfl | hy
          · exact hDx x (List.mem_append_right _ (List.mem_append_left _ hx))
          · exact nd6 x hx y hy
        · rcases List.mem_append.mp hy with hy | hy
          · exact nd3 x hx y (List.mem_append_left _ hy)
          · rcases hsub y hy with rfl | hy
            · exact hDx x (List.mem_append_left _ hx)
            · exact nd3 x hx y (List.mem_append_right _ hy)
      · rw [abJoin_key, O.abk]
        show _ ↔ r ∈ roots (σ.U.ps.set g k)
        rw [hr2, List.mem_filter]; simp
      · intro e he x hx
        rcases abJoin_mem he with rfl | ⟨h1, _⟩
        · rcases List.mem_append.mp hx with hx | hx
          · exact O.abn ek hek x hx
          · exact O.abn eg heg x hx
        · exact O.abn e h1 x hx
      · intro i nd hi q hq
        have hqN : q < σ.N := (O.kids nd (List.mem_of_getElem? hi)).2 q hq
        refine elEAA (O.cov i nd hi q hq) fun e he h1 h2 => ?_
        show ∃ e ∈ abJoin σ.abv k g D (ek.2.2 ++ eg.2.2), e.1 = root (σ.U.ps.set g k) q ∧ i ∈ e.2.2
        rw [hroot q hqN]
        by_cases hg1 : root σ.U.ps q = g
        · rw [if_pos hg1]
          have : e = eg := O.abOne he heg (by exact om217 hgr hegr egp h1 hg1)
          subst this
          exact ⟨_, abJoin_new hek hekr hkg', rfl, List.mem_append_right _ h2⟩
        · rw [if_neg hg1]
          by_cases hk1 : root σ.U.ps q = k
          · have : e = ek := O.abOne he hek (by exact om217 hkr hekr ekp h1 hk1)
            subst this
            exact ⟨_, abJoin_new hek hekr hkg', hk1.symm, List.mem_append_left _ h2⟩
          · exact ⟨e, abJoin_old he (by exact om226 hkr hekr ekp h1 hk1) (by exact om262 hkg hkr hgr hekr hegr ekp egp h1 hg1 hk1), h1, h2⟩
      · exact Nat.le_trans (Nat.le_of_eq hsum) htot
      · intro x hx
        rcases List.mem_append.mp hx with hx | hx
        · exact O.wt x hx
        · exact O.abn eg heg x hx
    · show (σ.wait ++ eg.2.2).length + 22 * (roots (σ.U.ps.set g k)).length ≤ σ.wait.length + 22 * (roots σ.U.ps).length
      rw [List.length_append]; exact om254 hn11 hsg htot hr1
    · show (roots (σ.U.ps.set g k)).length < _
      exact om26 hr1
    · intro x y hx hy hxy
      rw [root_set O.u.le hkg hgp ekp egp (O.len ▸ hx), root_set O.u.le hkg hgp ekp egp (O.len ▸ hy), hxy]
    · intro x p e hx hx2
      rcases List.mem_append.mp hx2 with hx2 | hx2
      · exact hx (List.mem_append_left _ hx2)
      · rcases List.mem_append.mp hx2 with hx2 | hx2
        · exact hx (List.mem_append_right _ (List.mem_append_left _ hx2))
        · obtain ⟨e', he', rfl⟩ := List.mem_map.mp hx2
          rcases abJoin_mem he' with rfl | ⟨h1, _⟩
          · exact newD _ _ e rfl
          · exact hx (List.mem_append_right _ (List.mem_append_right _ (List.mem_map.mpr ⟨e', h1, rfl⟩)))
end
end G1
section G2
section
variable {prog : Program} {w : World} {A : Around} {E : Value → Shared → Prop} {s : Shared} {h₀ : Heap} {L d T : Addr} {l : Binds} {n : Ents} {xs : List (Key × Addr × Value)} {ks : Key} {v : Value}
theorem kdSetDefault1 {Q : Value → Shared → Prop} (C : Cx h₀ L s.heap l n) (hu : A.units + 100 < cLine) (lo : (d == sysModules) = false) (x : KDx prog w (n.lookup ·) d xs) (hk : TupK prog w (n.lookup ·) ks T) (hsz : xs.length ≤ sizeLine)
    (h : ∀ val h' n' xs' tk, Cx h₀ L h' l n' → KDx prog w (n'.lookup ·) d xs' → Off d n n' → xs'.length ≤ xs.length + 1 → (∀ y ∈ xs', y ∈ xs ∨ y.2.2 = v) → (val = v ∨ ∃ y ∈ xs, val = y.2.2) → Q val { s with heap := h', toks := tk }) :
    wpAny (model prog w) A (call (.builtin "dict.setdefault") [.ref d, .ref T, v]) Q E s := by
  refine kdSetDefault C hu lo x hk hsz (fun p tk hp => ?_) fun h' o' tk hp C' x' => ?_
  · obtain ⟨y, hy, rfl⟩ := atKey_mem hp
    exact h _ _ n xs tk C x (fun _ _ _ e => e) (Nat.le_succ _) (fun y hy => .inl hy) (.inr ⟨y, hy, rfl⟩)
  · refine h v h' _ _ tk C' x' off_put ?_ (fun y hy => ?_) (.inl rfl)
    · rw [storedH_new hp]; simp
    · rw [storedH_new hp] at hy
      rcases List.mem_append.mp hy with hy | hy
      · exact .inl hy
      · rw [List.mem_singleton.mp hy]; exact .inr rfl
end
section
variable {w : World} {A : Around} {E : Value → Shared → Prop} {s : Shared}
set_option maxHeartbeats 4000000 in
theorem look_at_ok {σ : HS} {i c ck : Nat} {t : Tok} {Q : Value → Shared → Prop} {B : Heap} {n : Ents} (W : Wd w B) (Ow : Own B s.heap n) (I : σ.Ins B) (H : σ.On w c ck (n.lookup ·)) (O : σ.Ok) (hi : i < σ.N) (hc : c ≤ 2000) (hck : ck < 2000)
    (hroom : A.depth + 100 < recursionLimit) (hu : A.units + 300 < cLine) (hh : A.handled = none)
    (post : ∀ ps lots abv wait s' n', Mut s.heap n s'.heap n' σ.ks → Up s s' → (σ.upd ps lots abv wait).On w c (ck + 1) (n'.lookup ·) → (σ.upd ps lots abv wait).Ok → (σ.upd ps lots abv wait).m ≤ σ.m →
      (∀ x y, x < σ.N → y < σ.N → root σ.U.ps x = root σ.U.ps y → root ps x = root ps y) → (∀ b p, n.lookup b = some p → b ∉ σ.ks → b ∉ (σ.upd ps lots abv wait).ks) → Q .none s') :
    wpAny (model PySem.Challenge.pw_pq0072_01 w) A (call (.ref 399) [.ref σ.hp, .int (i : Nat) t]) Q E s := by
  have IB := I.keeps Ow.bar
  have I1 := IB.hp
  have hN := O.len
  refine enterC (n := n) W Ow (x := mth 14 5) rfl k_399 c_399 (by exact rm0) (binds := [("self", .ref σ.hp), ("n", .int i t)]) rfl (locs rfl) (by decide) fun L h₁ W' C => ?_
  change Cx (bar s.heap n) L h₁ [("n", .int i t), ("self", .ref σ.hp)] n at C
  refine elEAA H.kn fun xk hkd hkl hkr => ?_
  refine elEEEAA hkd.at_ fun ok _ _ hok hokc _ => ?_
  have hnd := O.kids _ (List.mem_of_getElem? (HS.get hi))
  iterate 6 walk1
  refine gm_dict (C.lk hok) PySem.F.slot_dict_setdefault PySem.F.type_dict_setdefault ?_ hokc.1 hokc.2.1
  iterate 4 walk1
  refine gmC W' C I1 (me_380 _) rfl ?_
  iterate 5 walk1
  refine node_ok (W'.keeps C.keep) (IB.keeps C.keep) (H.N.mono fun a o e => C.lk e) (H.U.wider fun a o e => C.lk e) O.u (HS.get hi) O.n20 (by omega) (fun k hk => hN ▸ hnd.2 k hk) (by show A.depth + 1 + 20 < recursionLimit; exact rm2) hh fun T s2 X => X.go fun h2 d2 tk2 X2 hT hTo => ?_
  refine elEEEA hTo fun t6 v6 e6 hTo hv6 => ?_
  refine elEA (C.newN X2 hT hTo) fun n2 C2 N2 => ?_
  have hNode : NodeAt (n2.lookup ·) T (σ.tup i) := ⟨t6, v6, e6, N2.self, hv6⟩
  clear C
  iterate 3 walk1
  have hkd2 := hkd.mono fun a o e => N2.le _ _ e
  refine kdSetDefault1 C2 (by show A.units + 3 + 100 < cLine; exact rm2) O.lo.2.1 hkd2 hNode.key (by rw [sizeLine_eq]; exact om189 hck hkl) fun val h3 n3 xs3 tk3 C3 hkd3 off3 hx3 hy3 hval => ?_
  obtain ⟨j, tj, rfl, hj⟩ : ∃ (j : Nat) (tj : Tok), val = .int j tj ∧ j < σ.N := by
    rcases hval with rfl | ⟨y, hy, rfl⟩
    · exact ⟨i, t, rfl, hi⟩
    · exact hkr y hy
  have off3' : Off σ.kn n n3 := fun b p q e => off3 b p q (N2.le _ _ e)
  refine elAA (H.stay O (x := σ.kn) (by walk_at "m sm") off3') fun S3 U3 al3 => ?_
  refine elAA O.parts fun p1 p2 p3 => ?_
  have H3 : σ.On w c (ck + 1) (n3.lookup ·) := by
    refine elEA H.nu fun x1 b1 b2 => ?_
    refine elEEA H.ed fun v4 e4 h4 r4 => ?_
    refine elEEA H.fo fun v5 e5 h5 r5 => ?_
    refine elEA H.av fun o7 h7 k7 => ?_
    refine ⟨U3, S3.nodes H.N (ndI p1 (by walk_at "m nd")), ⟨x1, S3.kd b1 (ndI p1 (by walk_at "m nd")), b2⟩, H.we.mono fun o e => off3' _ _ (ndI p1 (by walk_at "m nd")) e, H.de.mono fun o e => off3' _ _ (ndI p1 (by walk_at "m nd")) e, ⟨v4, e4, off3' _ _ (ndI p1 (by walk_at "m nd")) h4, r4⟩, ⟨v5, e5, off3' _ _ (ndI p1 (by walk_at "m nd")) h5, r5⟩,
      ⟨xs3, hkd3, by exact om233 hkl hx3, fun y hy => ?_⟩, ⟨o7, off3' _ _ (Ne.symm (ndI p1 (by walk_at "m nd"))) h7, k7⟩, al3, H.wa.mono fun o e => off3' _ _ (Ne.symm (ndI p1 (by walk_at "m nd"))) e⟩
    rcases hy3 y hy with hy | hy
    · exact hkr y hy
    · exact ⟨i, t, hy, hi⟩
  have le3 : ∀ b p, b ∉ σ.ks → n.lookup b = some p → n3.lookup b = some p := fun b p q e => off3' b p (fun z => q (List.mem_append_right _ (List.mem_append_left _ (z ▸ by walk_at "m sm")))) e
  clear C2 hkd2 hkd3
  walk1
  rename_i h5 C5
  iterate 5 walk1
  refine gmC W' C5 I1 (me_406 _) rfl ?_
  iterate 5 walk1
  refine hfind_ok (W'.keeps C5.keep) (IB.keeps C5.keep) (U3.wider fun a o e => C5.lk e) O.u (hN ▸ hj) (by show A.depth + 1 + 10 < recursionLimit; exact rm2) fun s6 t6' X6 => X6.go fun h6 d6 tk6 X6 => ?_
  have C6 := C5.grow X6
  clear C5
  iterate 2 walk1
  refine gmC W' C6 I1 (me_406 _) rfl ?_
  iterate 5 walk1
  refine hfind_ok (W'.keeps C6.keep) (IB.keeps C6.keep) (U3.wider fun a o e => C6.lk e) O.u (hN ▸ hi) (by show A.depth + 1 + 10 < recursionLimit; exact rm2) fun s7 t7 X7 => X7.go fun h7 d7 tk7 X7 => ?_
  have C7 := C6.grow X7
  clear C6
  iterate 3 walk1
  · rename_i hne
    iterate 4 walk1
    refine gmC W' C7 I1 (me_427 _) rfl ?_
    iterate 11 walk1
    rename_i T8 n8 h8 C8 N8
    iterate 2 walk1
    have H8 := H3.mono fun a o e => N8.le a o e
    refine join_ok (W'.keeps C8.own.bar) C8.own.same (IB.keeps C8.own.bar) H8 O hj hi hc (by exact tl1) (by show A.depth + 1 + 50 < recursionLimit; exact rm2) hh (fun hs => ?_) fun hd ps lots abv wait s9 n9 M9 X9 H9 O9 hm9 hr9 hmono hfr => ?_
    · have hne' : ¬ ((root σ.U.ps j : Int) = (root σ.U.ps i : Int)) := by simpa using hne
      exact absurd (by rw [hs]) hne'
    · refine elEEE X9 fun h9 d9 tk9 Xx1 => ?_
      obtain rfl := Xx1
      have C9 := C8.after M9
      iterate 2 walk1
      exact post ps lots abv wait _ n9 (C9.mut fun b p q e => M9.le _ _ q (N8.le _ _ (le3 _ _ q e))) Up.mk H9 O9 hm9 hmono fun b p e q => hfr b p (N8.le _ _ (le3 _ _ q e)) q
  · iterate 2 walk1
    exact post σ.U.ps σ.U.lots σ.abv σ.wait _ n3 (C7.mut le3) Up.mk H3 O (Nat.le_refl _) (fun _ _ _ _ h => h) fun _ _ _ h => h
end
end G2
section G3
theorem arr_last {α : Type} {xs : Array α} (h : 0 < xs.size) : ∃ ys y, xs = Array.push ys y := by
  have hne : xs.toList ≠ [] := fun q => by rw [← Array.length_toList, q] at h; exact Nat.lt_irrefl _ h
  refine ⟨xs.toList.dropLast.toArray, xs.toList.getLast hne, ?_⟩
  apply Array.toList_inj.mp
  rw [Array.toList_push]
  exact (List.dropLast_concat_getLast hne).symm
theorem nums_last {vs : List Value} {y : Value} : ∀ {xs : List Nat}, Nums (vs ++ [y]) xs → ∃ ws x t, xs = ws ++ [x] ∧ Nums vs ws ∧ y = .int ((x : Nat) : Int) t := by
  induction vs with
  | nil => intro xs h; cases h with | cons h r => cases r; obtain ⟨t, rfl⟩ := h; exact ⟨[], _, t, rfl, .nil, rfl⟩
  | cons v r ih => intro xs h; cases h with | cons h q => obtain ⟨ws, x, t, rfl, a, b⟩ := ih q; exact ⟨_ :: ws, x, t, rfl, .cons h a, b⟩
section
variable {w : World} {A : Around} {E : Value → Shared → Prop} {s : Shared}
set_option maxHeartbeats 4000000 in
theorem hmerge_ok {σ : HS} {a b c ck : Nat} {t u : Tok} {r : Value} {Q : Value → Shared → Prop} {B : Heap} {n : Ents} (W : Wd w B) (Ow : Own B s.heap n) (I : σ.Ins B) (H : σ.On w c ck (n.lookup ·)) (O : σ.Ok) (ha : a < σ.N) (hb : b < σ.N) (hc : c ≤ 2000) (hck : ck ≤ 2000)
    (hroom : A.depth + 60 < recursionLimit) (hh : A.handled = none)
    (post : ∀ (v : Bool) ps lots abv wait s' n', Mut s.heap n s'.heap n' σ.ks → Up s s' → (σ.upd ps lots abv wait).On w (c + 1) ck (n'.lookup ·) → (σ.upd ps lots abv wait).Ok →
      (∀ x y, x < σ.N → y < σ.N → root σ.U.ps x = root σ.U.ps y → root ps x = root ps y) → (∀ b p, n.lookup b = some p → b ∉ σ.ks → b ∉ (σ.upd ps lots abv wait).ks) → Q (.bool v) s') :
    wpAny (model PySem.Challenge.pw_pq0072_01 w) A (call (.ref 420) [.ref σ.hp, .int (a : Nat) t, .int (b : Nat) u, r]) Q E s := by
  have IB := I.keeps Ow.bar
  have I1 := IB.hp
  refine enterC (n := n) W Ow (x := mth 14 8) rfl k_420 c_420 (by exact rm0) (binds := [("self", .ref σ.hp), ("a", .int a t), ("b", .int b u), ("reason", r)]) rfl (locs rfl) (by decide) fun L h₁ W' C => ?_
  change Cx (bar s.heap n) L h₁ [("reason", r), ("b", .int b u), ("a", .int a t), ("self", .ref σ.hp)] n at C
  iterate 4 walk1
  refine gmC W' C I1 (me_427 _) rfl ?_
  iterate 9 walk1
  refine join_ok (W'.keeps C.own.bar) C.own.same (IB.keeps C.own.bar) H O ha hb hc hck (by show A.depth + 1 + 50 < recursionLimit; exact rm2) hh (fun hs s4 n4 M4 X4 H4 => ?_) fun hd ps lots abv wait s4 n4 M4 X4 H4 O4 _ _ hmono hfr => ?_
  · refine elEEE X4 fun h4 d4 tk4 Xx1 => ?_
    obtain rfl := Xx1
    exact post _ σ.U.ps σ.U.lots σ.abv σ.wait _ n4 ((C.after M4).mut fun b p q e => M4.le _ _ q e) Up.mk H4 O (fun _ _ _ _ h => h) fun _ _ _ h => h
  · refine elEEE X4 fun h4 d4 tk4 Xx2 => ?_
    obtain rfl := Xx2
    refine post _ ps lots abv wait _ n4 ((C.after M4).mut fun b p q e => M4.le _ _ q e) Up.mk ?_ O4 hmono hfr
    obtain ⟨a1, a2, a3, a4, a5, ⟨v, e, a6, b6⟩, ⟨v7, e7, a7, b7⟩, a8, a9, a10, a11⟩ := H4
    exact ⟨a1, a2, a3, a4, a5, ⟨v, e, a6, Nat.le_succ_of_le b6⟩, ⟨v7, e7, a7, Nat.le_succ_of_le b7⟩, a8, a9, a10, a11⟩
inductive SetlW (w : World) (σ : HS) (c ck : Nat) (n : Ents) : Nat → Binds → Ents → Prop
  | mk (ps : List Nat) (lots : List (List Nat)) (abv : List (Nat × Addr × List Nat)) (wait : List Nat) {n' : Ents} (le : ∀ b p, b ∉ σ.ks → n.lookup b = some p → n'.lookup b = some p) (H : (σ.upd ps lots abv wait).On w c ck (n'.lookup ·)) (O : (σ.upd ps lots abv wait).Ok)
    (hm : ∀ x y, x < σ.N → y < σ.N → root σ.U.ps x = root σ.U.ps y → root ps x = root ps y) (hf : ∀ b p, n.lookup b = some p → b ∉ σ.ks → b ∉ (σ.upd ps lots abv wait).ks) : SetlW w σ c ck n (σ.upd ps lots abv wait).m [("self", .ref σ.hp)] n'
set_option maxHeartbeats 4000000 in
theorem hsettle_ok {σ : HS} {c ck : Nat} {Q : Value → Shared → Prop} {B : Heap} {n : Ents} (W : Wd w B) (Ow : Own B s.heap n) (I : σ.Ins B) (H : σ.On w c ck (n.lookup ·)) (O : σ.Ok) (hc : c ≤ 2000) (hck : ck ≤ 2000)
    (hroom : A.depth + 150 < recursionLimit) (hu : A.units + 400 < cLine) (hh : A.handled = none)
    (post : ∀ ps lots abv wait s' n', Mut s.heap n s'.heap n' σ.ks → Up s s' → (σ.upd ps lots abv wait).On w c ck (n'.lookup ·) → (σ.upd ps lots abv wait).Ok →
      (∀ x y, x < σ.N → y < σ.N → root σ.U.ps x = root σ.U.ps y → root ps x = root ps y) → (∀ b p, n.lookup b = some p → b ∉ σ.ks → b ∉ (σ.upd ps lots abv wait).ks) → Q .none s') :
    wpAny (model PySem.Challenge.pw_pq0072_01 w) A (call (.ref 434) [.ref σ.hp]) Q E s := by
  have IB := I.keeps Ow.bar
  have I1 := IB.hp
  refine enterC (n := n) W Ow (x := mth 14 10) rfl k_434 c_434 (by exact rm0) (binds := [("self", .ref σ.hp)]) rfl (locs rfl) (by decide) fun L h₁ W' C => ?_
  change Cx (bar s.heap n) L h₁ [("self", .ref σ.hp)] n at C
  walk1
  refine whileG (SetlW w σ c ck n) σ.m Up.mk C (.mk σ.U.ps σ.U.lots σ.abv σ.wait (fun _ _ _ e => e) H O (fun _ _ _ _ h => h) fun _ _ _ h => h) ?_
  rintro _ _ n' ⟨ps, lots, abv, wait, le, H', O', hmono, hfr⟩ h d tk C'
  refine genQ fun QQ hQ => ?_
  refine elEEA H'.wa fun wv we hwa hwN => ?_
  have hwl : wv.size = wait.length := by simpa using hwN.length
  have hkn := H'.kn
  refine elEAA hkn fun xk hkd hkl hkr => ?_
  have hkl' : xk.length + wait.length + 22 * (roots ps).length ≤ ck := hkl
  iterate 9 walk1
  refine lenL (C'.lk hwa) (by rw [hwl]; omega) fun t4 tk4 => ?_
  iterate 3 walk1
  refine hQ _ _ ?_
  split
  · refine genQ fun QQ hQ => ?_
    rename_i hpos
    have hpos' : 0 < wv.size := by have := of_decide_eq_true hpos; omega
    refine elEE (arr_last hpos') fun wv' y Xx4 => ?_
    obtain rfl := Xx4
    rw [Array.toList_push] at hwN
    obtain ⟨ws, x, tx, rfl, hws, rfl⟩ := nums_last hwN
    have hxN : x < σ.N := O'.wt x (by walk_at "m sm")
    iterate 4 walk1
    refine gmC W' C' I1 (me_399 _) rfl ?_
    iterate 6 walk1
    refine gm_list (C'.lk hwa) PySem.F.slot_list_pop PySem.F.type_list_pop ?_
    walk1
    refine popX C' hwa (by rw [Array.size_push] at hwl; rw [sizeLine_eq]; omega) fun h5 n5 e5 C5 hwa5 off5 => ?_
    refine elAA (H'.stay O' (x := σ.wa) (by walk_at "m sm") off5) fun S5 U5 al5 => ?_
    refine elAA O'.parts fun p1 p2 p3 => ?_
    rw [List.length_append, List.length_singleton] at hkl'
    have H5 : (σ.upd ps lots abv ws).On w c (ck - 1) (n5.lookup ·) := by
      refine elEA H'.nu fun x1 b1 b2 => ?_
      refine elEEA H'.ed fun v4 e4 h4 r4 => ?_
      refine elEEA H'.fo fun v5 e9 h9 r5 => ?_
      refine elEA H'.av fun o7 h7 k7 => ?_
      exact ⟨U5, S5.nodes (σ := σ.upd ps lots abv ws) ⟨H'.N.no, H'.N.ta⟩ (ndI p1 (by walk_at "m nd")), ⟨x1, S5.kd b1 (ndI p1 (by walk_at "m nd")), b2⟩, H'.we.mono fun o e => off5 _ _ (ndI p1 (by walk_at "m nd")) e, H'.de.mono fun o e => off5 _ _ (ndI p1 (by walk_at "m nd")) e, ⟨v4, e4, off5 _ _ (ndI p1 (by walk_at "m nd")) h4, r4⟩, ⟨v5, e9, off5 _ _ (ndI p1 (by walk_at "m nd")) h9, r5⟩,
        ⟨xk, S5.kd hkd (ndI p1 (by walk_at "m nd")), (by show xk.length + ws.length + 22 * (roots ps).length ≤ ck - 1; omega), hkr⟩, ⟨o7, off5 _ _ (ndI p1 (by walk_at "m nd")) h7, k7⟩, al5, ⟨wv', e5, hwa5, hws⟩⟩
    have O5 : (σ.upd ps lots abv ws).Ok := ⟨O'.u, O'.len, O'.n11, O'.kids, O'.ks, O'.abd, O'.abk, O'.abn, O'.cov, O'.tot, fun z hz => O'.wt z (List.mem_append_left _ hz), O'.lo⟩
    have le5 : ∀ b p, b ∉ σ.ks → n.lookup b = some p → n5.lookup b = some p := fun b p q e => off5 b p (fun z => q (List.mem_append_right _ (List.mem_append_left _ (z ▸ by walk_at "m sm")))) (le b p q e)
    iterate 2 walk1
    refine look_at_ok (σ := σ.upd ps lots abv ws) (W'.keeps C5.own.bar) C5.own.same (HS.Ins.keeps (σ := σ.upd ps lots abv ws) C5.own.bar ⟨IB.hp, IB.bk, IB.un⟩) H5 O5 hxN hc (by omega) (by show A.depth + 1 + 100 < recursionLimit; exact rm2) (by show A.units + 3 + 300 < cLine; exact rm2) hh fun ps2 lots2 abv2 wait2 s6 n6 M6 X6 => X6.goM M6 fun h6 d6 tk6 M6 H6 O6 hm6 hmono6 hfr6 => ?_
    walk1
    have hck1 : ck - 1 + 1 = ck := by omega
    rw [hck1] at H6
    refine hQ _ _ ?_
    refine ⟨.inl rfl, Up.mk, _, _, n6, ?_, C5.after M6, .mk ps2 lots2 abv2 wait2 (fun b p q e => M6.le b p (hfr b p e q) (le5 b p q e)) H6 O6 (fun x y hx hy h => hmono6 x y hx hy (hmono x y hx hy h)) fun b p e q => hfr6 b p (le5 b p q e) (hfr b p e q)⟩
    refine Nat.lt_of_le_of_lt hm6 ?_
    show ws.length + 22 * (roots ps).length < (ws ++ [x]).length + 22 * (roots ps).length
    simp
  · walk1
    exact post ps lots abv wait _ n' (C'.mut le) Up.mk H' O' hmono hfr
end
end G3
section G4a
noncomputable abbrev HS.gr (σ : HS) (T D5 : Addr) (nd : Str × List Nat) (ab : Ab) : HS := { σ with ta := σ.ta ++ [T], nodes := σ.nodes ++ [nd], U := σ.U.made D5, abv := ab }
noncomputable abbrev HS.new (σ : HS) (D : Addr) : Ab := σ.abv ++ [(σ.N, D, [])]
structure AddInv (σ : HS) (D : Addr) (cs : List Nat) (i : Nat) (n8 n' : Ents) (ab : Ab) : Prop where
  keys : ab.map (·.1) = (σ.new D).map (·.1)
  adr : ab.map (·.2.1) = (σ.new D).map (·.2.1)
  dic : ab.map (fun (e : Nat × Addr × List Nat) => ((e.1 : Int), Value.ref e.2.1)) = (σ.new D).map (fun (e : Nat × Addr × List Nat) => ((e.1 : Int), Value.ref e.2.1))
  al : ∀ e ∈ ab, LN (n'.lookup ·) e.2.1 e.2.2
  old : ∀ e ∈ σ.new D, ∃ e' ∈ ab, e'.1 = e.1 ∧ ∀ z ∈ e.2.2, z ∈ e'.2.2
  cov : ∀ c ∈ cs.take i, ∃ e' ∈ ab, e'.1 = c ∧ σ.N ∈ e'.2.2
  bnd : ∀ e ∈ ab, ∀ x ∈ e.2.2, x ≤ σ.N
  tot : sumlen ab ≤ sumlen (σ.new D) + i
  per : ∀ b p, b ∉ (σ.new D).map (·.2.1) → n8.lookup b = some p → n'.lookup b = some p
theorem HS.On.weaken {w : World} {σ : HS} {c ck c' ck' : Nat} {f : Look} (H : σ.On w c ck f) (h : c ≤ c') (hk : ck ≤ ck') : σ.On w c' ck' f := by
  obtain ⟨a1, a2, a3, a4, a5, ⟨v, e, a6, b6⟩, ⟨v7, e7, a7, b7⟩, ⟨x, a8, b8, c8⟩, a9, a10, a11⟩ := H
  exact ⟨a1, a2, a3, a4, a5, ⟨v, e, a6, Nat.le_trans b6 h⟩, ⟨v7, e7, a7, Nat.le_trans b7 h⟩, ⟨x, a8, Nat.le_trans b8 hk, c8⟩, a9, a10, a11⟩
theorem map_one {α β : Type} {f : α → β} {l : List α} (nd : (l.map f).Nodup) {x y : α} (hx : x ∈ l) (hy : y ∈ l) (h : f x = f y) : x = y := by
  obtain ⟨i, hi, rfl⟩ := List.mem_iff_getElem.mp hx
  obtain ⟨j, hj, rfl⟩ := List.mem_iff_getElem.mp hy
  have : i = j := (List.getElem_inj (h₀ := by simpa using hi) (h₁ := by simpa using hj) nd).mp (by simpa using h)
  subst this; rfl
theorem stored_new {l : Ab} {k : Nat} {v : Value} (h : k ∉ l.map (·.1)) : stored (l.map fun e => ((e.1 : Int), Value.ref e.2.1)) (k : Int) v = (l.map fun e => ((e.1 : Int), Value.ref e.2.1)) ++ [((k : Int), v)] := by
  unfold stored
  rw [if_neg]
  intro q
  refine elEA (List.any_eq_true.mp q) fun x hx e => ?_
  obtain ⟨y, hy, rfl⟩ := List.mem_map.mp hx
  have e' : (y.1 : Int) = (k : Int) := of_decide_eq_true e
  exact h (List.mem_map.mpr ⟨y, hy, by exact cst⟩)
theorem sumlen_new {σ : HS} {D : Addr} : sumlen (σ.new D) = sumlen σ.abv := by simp [sumlen]
theorem HS.Ok.notN {σ : HS} (O : σ.Ok) : σ.N ∉ σ.abv.map (·.1) := fun q => by
  have := (mem_roots.mp ((O.abk _).mp q)).1
  have := O.len
  omega
theorem HS.Ok.newKeys {σ : HS} (O : σ.Ok) {D : Addr} : ((σ.new D).map (·.1)).Nodup := by
  rw [List.map_append, List.nodup_append]
  exact ⟨O.abd, by walk_at "m sm", fun a ha b hb q => by
    simp at hb
    exact O.notN (by rw [← hb, ← q]; exact ha)⟩
theorem HS.Ok.abLen {σ : HS} (O : σ.Ok) : σ.abv.length ≤ σ.N := by
  have := nodup_len σ.N (σ.abv.map (·.1)) O.abd fun x hx => O.len ▸ (mem_roots.mp ((O.abk x).mp hx)).1
  simpa using this
section
variable {w : World} {σ : HS} {c ck : Nat} {T D5 D : Addr} {op : Str} {ks cs : List Nat} {n n2 n5 n7 n8 n' n14 : Ents} {ab : Ab} {i : Nat}
theorem AddInv.init (O : σ.Ok) (al : ∀ e ∈ σ.new D, LN (n8.lookup ·) e.2.1 e.2.2) : AddInv σ D cs 0 n8 n8 (σ.new D) := by
  refine ⟨rfl, rfl, rfl, al, fun e he => ⟨e, he, rfl, fun _ h => h⟩, (fun _ h => by simp at h), fun e he x hx => ?_, Nat.le_refl _, fun b p _ e => e⟩
  rcases List.mem_append.mp he with he | he
  · exact Nat.le_of_lt (O.abn e he x hx)
  · rw [List.mem_singleton.mp he] at hx; cases hx
theorem AddInv.step {cc : Nat} {e1 : Nat × Addr × List Nat} {va : Array Value} {e14 : Nat} {t : Tok} (V : AddInv σ D cs i n8 n' ab) (O : σ.Ok) (na : ((σ.new D).map (·.2.1)).Nodup) (hcc : cs[i]? = some cc) (he1 : e1 ∈ ab) (hr1 : e1.1 = cc)
    (hna : Nums va.toList e1.2.2) (hva14 : n14.lookup e1.2.1 = some (seqObj "list" (va.push (.int (σ.N : Nat) t)) e14)) (off14 : Off e1.2.1 n' n14) : AddInv σ D cs (i + 1) n8 n14 (abPut ab cc σ.N) := by
  have nkab : (ab.map (·.1)).Nodup := V.keys ▸ O.newKeys
  have naab : (ab.map (·.2.1)).Nodup := V.adr ▸ na
  refine ⟨abPut_keys.trans V.keys, abPut_addr.trans V.adr, abPut_dict.trans V.dic, fun e he => ?_, fun e he => ?_, fun c' hc' => ?_, fun e he x hx => ?_, ?_, fun b p hb e => ?_⟩
  · refine elEAAA (abPut_mem he) fun y hy h1 h2 h3 => ?_
    rcases h3 with ⟨hyc, h4⟩ | ⟨hyc, rfl⟩
    · have : y = e1 := map_one nkab hy he1 (hyc.trans hr1.symm)
      subst this
      rw [h2, h4]
      exact ⟨_, e14, hva14, nums_snoc hna⟩
    · exact (V.al e hy).mono fun o' q => off14 _ _ (fun z => hyc (by rw [map_one naab hy he1 z]; exact hr1)) q
  · refine elEAA (V.old e he) fun e' he' h1 h2 => ?_
    refine elEAAA (abPut_old (c := cc) (x := σ.N) he') fun e2 he2 h3 h4 _ => ?_
    exact ⟨e2, he2, h3.trans h1, fun z hz => h4 z (h2 z hz)⟩
  · rw [List.take_add_one, hcc] at hc'
    rcases List.mem_append.mp hc' with hc' | hc'
    · refine elEAA (V.cov c' hc') fun e' he' h1 h2 => ?_
      refine elEAAA (abPut_old (c := cc) (x := σ.N) he') fun e2 he2 h3 h4 _ => ?_
      exact ⟨e2, he2, h3.trans h1, h4 _ h2⟩
    · obtain rfl : c' = cc := by simpa using hc'
      refine elEAAA (abPut_old (c := c') (x := σ.N) he1) fun e2 he2 h3 _ h5 => ?_
      exact ⟨e2, he2, h3.trans hr1, h5 hr1⟩
  · refine elEAAA (abPut_mem he) fun y hy h1 h2 h3 => ?_
    rcases h3 with ⟨_, h4⟩ | ⟨_, rfl⟩
    · rw [h4] at hx
      rcases List.mem_append.mp hx with hx | hx
      · exact V.bnd y hy x hx
      · rw [List.mem_singleton.mp hx]; exact Nat.le_refl _
    · exact V.bnd e hy x hx
  · have := abPut_sum (c := cc) (x := σ.N) nkab
    have := V.tot
    omega
  · exact off14 _ _ (fun z => hb (by rw [← V.adr, z]; exact List.mem_map_of_mem (f := (·.2.1)) he1)) (V.per b p hb e)
theorem add_mid {oa o7 : Obj} (H : σ.On w c ck (n.lookup ·)) (O : σ.Ok) (Bk2 : (σ.added T (op, ks)).Bk w (n2.lookup ·)) (le2 : ∀ b p, b ∉ [σ.no, σ.nu, σ.we, σ.de] → n.lookup b = some p → n2.lookup b = some p)
    (U5 : (σ.U.made D5).On (n5.lookup ·)) (le5 : ∀ b p, b ∉ σ.U.ks → n2.lookup b = some p → n5.lookup b = some p) (off7 : ∀ b p, b ≠ σ.av → n5.lookup b = some p → n7.lookup b = some p)
    (hav0 : n.lookup σ.av = some oa) (hao : oa.cls = .type "dict") (hav7 : n7.lookup σ.av = some o7) (hd7 : o7.IsDictOf (intKind pwp w) ((σ.new D).map fun (e : Nat × Addr × List Nat) => ((e.1 : Int), Value.ref e.2.1))) (hD7 : n7.lookup D = some (lst [] 0)) :
    (σ.gr T D5 (op, ks) (σ.new D)).On w (c + 1) (ck + 22) (n7.lookup ·) := by
  refine elAA O.parts fun p1 p2 p3 => ?_
  have hN := O.len
  have hnb : ∀ b ∈ [σ.no, σ.nu, σ.we, σ.de], b ∈ σ.hs := fun b hb => by simp at hb ⊢; rcases hb with h | h | h | h <;> simp [h]
  have hdis : ∀ b ∈ [σ.ed, σ.fo, σ.kn, σ.av, σ.wa], b ∉ [σ.no, σ.nu, σ.we, σ.de] := fun b hb q => (List.nodup_append.mp (show ([σ.no, σ.nu, σ.we, σ.de] ++ [σ.ed, σ.fo, σ.kn, σ.av, σ.wa]).Nodup from p1)).2.2 b q b hb rfl
  have U2 : σ.U.On (n2.lookup ·) := H.U.mono fun a ha o e => le2 a o (fun q => p2 a (hnb a q) ha) e
  have hav5 := le5 _ _ (p2 _ (by walk_at "m sm")) (le2 _ _ (hdis _ (by walk_at "m sm")) hav0)
  have per7 : ∀ b p, b ∉ σ.U.ks → b ∉ [σ.no, σ.nu, σ.we, σ.de] → b ≠ σ.av → n.lookup b = some p → n7.lookup b = some p := fun b p q1 q2 q3 e => off7 _ _ q3 (le5 b p q1 (le2 _ _ q2 e))
  have hr1 : (roots (σ.U.ps ++ [σ.U.ps.length])).length = (roots σ.U.ps).length + 1 := by rw [roots_app]; simp
  have S27 : Stay (fun b => b ∈ σ.U.ks ∨ b = σ.av) n2 n7 := ⟨fun b p h e => off7 _ _ (fun q => h (.inr q)) (le5 b p (fun q => h (.inl q)) e), fun b p h e => by
    rcases h with h | rfl
    · refine elEE (U2.lists b h) fun _ _ q => ?_
      have q' : n2.lookup b = _ := q
      rw [q'] at e; cases e; simp
    · rw [le2 _ _ (hdis _ (by walk_at "m sm")) hav0] at e; cases e; rw [hao]; simp⟩
  have nch : ∀ b ∈ σ.hs, b ≠ σ.av → ¬ (b ∈ σ.U.ks ∨ b = σ.av) := fun b h1 h2 h3 => h3.elim (p2 b h1) h2
  have S7 : Stay (fun b => b ∈ σ.U.ks ∨ b ∈ [σ.no, σ.nu, σ.we, σ.de] ∨ b = σ.av) n n7 := ⟨fun b p h e => per7 b p (fun q => h (.inl q)) (fun q => h (.inr (.inl q))) (fun q => h (.inr (.inr q))) e, fun b p h e => by
    rcases h with h | h | rfl
    · refine elEE (H.U.lists b h) fun _ _ q => ?_
      have q' : n.lookup b = _ := q
      rw [q'] at e; cases e; simp
    · obtain ⟨⟨_, z1⟩, _⟩ := H.N
      obtain ⟨_, ⟨⟨_, _, _, z2, z2', _⟩, _⟩, _⟩ := H.nu
      refine elEEA H.we fun _ _ z3 _ => ?_
      refine elEEA H.de fun _ _ z4 _ => ?_
      simp only [List.mem_cons, List.not_mem_nil, or_false] at h
      have fin : ∀ o, n.lookup b = some o → o.cls ≠ .type "tuple" → p.cls ≠ .type "tuple" := fun o z y => by rw [e] at z; cases z; exact y
      rcases h with rfl | rfl | rfl | rfl
      · exact fin _ z1 (by walk_at "m sm")
      · exact fin _ z2 (by rw [z2'.1]; simp)
      · exact fin _ z3 (by walk_at "m sm")
      · exact fin _ z4 (by walk_at "m sm")
    · rw [hav0] at e; cases e; rw [hao]; simp⟩
  have nc7 : ∀ b ∈ [σ.ed, σ.fo, σ.kn, σ.wa], b ∉ σ.U.ks ∧ b ∉ [σ.no, σ.nu, σ.we, σ.de] := fun b hb => ⟨p2 b (by simp at hb ⊢; rcases hb with h | h | h | h <;> simp [h]), hdis b (by simp at hb ⊢; rcases hb with h | h | h | h <;> simp [h])⟩
  refine elEEA H.ed fun v4 e4 h4' r4 => ?_
  refine elEEA H.fo fun v5 e5 h5' r5 => ?_
  refine elEAA H.kn fun x6 k6 r6 q6 => ?_
  refine elEAA Bk2.nu fun x1 b1 b2 b3 => ?_
  have avne : ∀ b ∈ [σ.no, σ.nu, σ.we, σ.de], b ≠ σ.av := fun b hb q => hdis σ.av (by walk_at "m sm") (q ▸ hb)
  have nc : ∀ b ∈ [σ.no, σ.nu, σ.we, σ.de], ¬ (b ∈ σ.U.ks ∨ b = σ.av) := fun b hb => nch _ (hnb b hb) (avne b hb)
  refine ⟨U5.mono fun b hb o' e => off7 b o' (fun q => ?_) e, S27.nodes (σ := σ.gr T D5 (op, ks) (σ.new D)) ⟨Bk2.N.no, Bk2.N.ta⟩ (nc _ (by walk_at "m sm")), ⟨x1, S27.kd b1 (nc _ (by walk_at "m sm")), b2, b3⟩,
    Bk2.we.mono fun o' e => S27.per _ _ (nc _ (by walk_at "m sm")) e, Bk2.de.mono fun o' e => S27.per _ _ (nc _ (by walk_at "m sm")) e,
    ⟨v4, e4, per7 _ _ (nc7 _ (by walk_at "m sm")).1 (nc7 _ (by walk_at "m sm")).2 (ndI p1 (by walk_at "m nd")) h4', ?_⟩, ⟨v5, e5, per7 _ _ (nc7 _ (by walk_at "m sm")).1 (nc7 _ (by walk_at "m sm")).2 (ndI p1 (by walk_at "m nd")) h5', ?_⟩,
    ⟨x6, S7.kd k6 (fun q => ?_), ?_, fun y hy => ?_⟩, ⟨o7, hav7, hd7⟩, fun e he => ?_, H.wa.mono fun o' e => per7 _ _ (nc7 _ (by walk_at "m sm")).1 (nc7 _ (by walk_at "m sm")).2 (Ne.symm (ndI p1 (by walk_at "m nd"))) e⟩
  · refine elEE (U5.lists b hb) fun _ _ z => ?_
    have z' : n5.lookup b = _ := z
    rw [q, hav5] at z'; cases z'
    exact absurd hao (by walk_at "m sm")
  · show v4.size + (roots (σ.U.ps ++ [σ.U.ps.length])).length ≤ c + 1
    exact om173 hr1 r4
  · show v5.size + (roots (σ.U.ps ++ [σ.U.ps.length])).length ≤ c + 1
    exact om173 hr1 r5
  · rcases q with q | q | q
    · exact p2 _ (by walk_at "m sm") q
    · exact hdis _ (by walk_at "m sm") q
    · exact absurd q (ndI p1 (by walk_at "m nd"))
  · show x6.length + σ.wait.length + 22 * (roots (σ.U.ps ++ [σ.U.ps.length])).length ≤ ck + 22
    exact om235 hr1 r6
  · refine elEEA (q6 y hy) fun j tj' ej hj => ?_
    exact ⟨j, tj', ej, by simp [HS.N] at hj ⊢; exact s_⟩
  · rcases List.mem_append.mp he with he | he
    · exact (H.al e he).mono fun o' q => per7 _ _ (p3 e he).1 (fun z => (p3 e he).2 (hnb _ z)) (fun z => (p3 e he).2 (by rw [z]; simp)) q
    · rw [List.mem_singleton.mp he]
      exact ⟨_, 0, hD7, .nil⟩
theorem add_on {n15 : Ents} (V : AddInv σ D cs i n8 n15 ab) (H7 : (σ.gr T D5 (op, ks) (σ.new D)).On w c ck (n8.lookup ·)) (dj : ∀ b ∈ (σ.new D).map (·.2.1), b ∉ (σ.U.made D5).ks ∧ b ∉ σ.hs) : (σ.gr T D5 (op, ks) ab).On w c ck (n15.lookup ·) := by
  have S15 : Stay (fun b => b ∈ (σ.new D).map (·.2.1)) n8 n15 := ⟨fun b p h e => V.per b p h e, fun b p h e => by
    obtain ⟨y, hy, rfl⟩ := List.mem_map.mp h
    refine elEEA (H7.al y hy) fun _ _ z _ => ?_
    have z' : n8.lookup y.2.1 = _ := z
    rw [z'] at e; cases e; simp⟩
  have nh : ∀ b ∈ σ.hs, b ∉ (σ.new D).map (·.2.1) := fun b hb q => (dj b q).2 hb
  have lh : ∀ b ∈ σ.hs, ∀ p, n8.lookup b = some p → n15.lookup b = some p := fun b hb p e => V.per b p (nh b hb) e
  refine elEAA H7.nu fun x1 b1 b2 b3 => ?_
  refine elEEA H7.ed fun v4 e4 h4' r4 => ?_
  refine elEEA H7.fo fun v5 e5 h5' r5 => ?_
  refine elEAA H7.kn fun x6 k6 r6 q6' => ?_
  refine elEA H7.av fun o7 hav7 hd7 => ?_
  exact ⟨H7.U.mono fun b hb o' e => V.per b o' (fun z => (dj b z).1 hb) e, S15.nodes (σ := σ.gr T D5 (op, ks) ab) ⟨H7.N.no, H7.N.ta⟩ (nh _ (by walk_at "m sm")), ⟨x1, S15.kd b1 (nh _ (by walk_at "m sm")), b2, b3⟩,
    H7.we.mono fun o' e => lh _ (by walk_at "m sm") _ e, H7.de.mono fun o' e => lh _ (by walk_at "m sm") _ e, ⟨v4, e4, lh _ (by walk_at "m sm") _ h4', r4⟩, ⟨v5, e5, lh _ (by walk_at "m sm") _ h5', r5⟩, ⟨x6, S15.kd k6 (nh _ (by walk_at "m sm")), r6, q6'⟩,
    ⟨o7, lh _ (by walk_at "m sm") _ hav7, V.dic.symm ▸ hd7⟩, V.al, H7.wa.mono fun o' e => lh _ (by walk_at "m sm") _ e⟩
theorem add_ok {n15 : Ents} (V : AddInv σ D cs i n8 n15 ab) (O : σ.Ok) (O5 : (σ.U.made D5).Ok) (n10 : σ.N ≤ 10) (h2 : ks.length ≤ 2) (hks : ∀ k ∈ ks, k < σ.N) (hi : cs.take i = cs) (hi2 : i ≤ 2) (hcs : ∀ k ∈ ks, root (σ.U.ps ++ [σ.U.ps.length]) k ∈ cs)
    (na : ((σ.new D).map (·.2.1)).Nodup) (dj : ∀ b ∈ (σ.new D).map (·.2.1), b ∉ (σ.U.made D5).ks ∧ b ∉ σ.hs) (d5 : D5 ∉ σ.hs) : (σ.gr T D5 (op, ks) ab).Ok := by
  refine elAA O.parts fun p1 p2 p3 => ?_
  have hNU : σ.N = σ.U.ps.length := O.len
  have n10' : σ.nodes.length ≤ 10 := n10
  have nd15 : ((σ.U.made D5).ks ++ (σ.hs ++ ab.map (·.2.1))).Nodup := by
    rw [V.adr, List.nodup_append]
    refine ⟨O5.nd, ?_, fun a ha b hb q => ?_⟩
    · rw [List.nodup_append]
      exact ⟨p1, na, fun a ha b hb q => (dj b hb).2 (q ▸ ha)⟩
    · subst q
      rcases List.mem_append.mp hb with hb | hb
      · rcases List.mem_append.mp (show a ∈ σ.U.ks ++ [D5] from ha) with ha | ha
        · exact p2 _ hb ha
        · exact d5 (List.mem_singleton.mp ha ▸ hb)
      · exact (dj _ hb).1 ha
  refine ⟨O5, ?_, ?_, fun nd hnd => ?_, nd15, V.keys ▸ O.newKeys, fun r => ?_, fun e he x hx => ?_, fun i nd hi k hk => ?_, ?_, fun x hx => ?_, O.lo⟩
  · simp [HS.N, hNU]
  · show (σ.nodes ++ [(op, ks)]).length ≤ 11
    rw [List.length_append, List.length_singleton]; exact ll1
  · show nd.2.length ≤ 2 ∧ ∀ k ∈ nd.2, k < (σ.nodes ++ [(op, ks)]).length
    rw [List.length_append, List.length_singleton]
    rcases List.mem_append.mp hnd with hnd | hnd
    · exact ⟨(O.kids nd hnd).1, fun k hk => Nat.lt_succ_of_lt ((O.kids nd hnd).2 k hk)⟩
    · rw [List.mem_singleton.mp hnd]
      exact ⟨h2, fun k hk => Nat.lt_succ_of_lt (hks k hk)⟩
  · show r ∈ ab.map (·.1) ↔ r ∈ roots (σ.U.ps ++ [σ.U.ps.length])
    rw [V.keys, roots_app, List.map_append, List.mem_append, List.mem_append, O.abk, ← hNU]
    rfl
  · show x < (σ.nodes ++ [(op, ks)]).length
    rw [List.length_append, List.length_singleton]
    exact Nat.lt_succ_of_le (V.bnd e he x hx)
  · show ∃ e ∈ ab, e.1 = root (σ.U.ps ++ [σ.U.ps.length]) k ∧ i ∈ e.2.2
    by_cases hiN : i < σ.nodes.length
    · have hi' : σ.nodes[i]? = some nd := by rw [← hi]; exact (List.getElem?_append_left hiN).symm
      refine elEAA (O.cov i nd hi' k hk) fun e he h1 h3 => ?_
      refine elEAA (V.old e (List.mem_append_left _ he)) fun e' he' h4 h5 => ?_
      exact ⟨e', he', by rw [h4, h1, root_app O.u.le (hNU ▸ (O.kids nd (List.mem_of_getElem? hi')).2 k hk)], h5 i h3⟩
    · have hi2 : i < (σ.nodes ++ [(op, ks)]).length := (List.getElem?_eq_some_iff.mp hi).1
      rw [List.length_append, List.length_singleton] at hi2
      have hiN' : i = σ.nodes.length := by exact om95 hiN hi2
      subst hiN'
      have hnd : nd = (op, ks) := by
        have : (σ.nodes ++ [(op, ks)])[σ.nodes.length]? = some nd := hi
        simp at this
        exact this.symm
      subst hnd
      exact V.cov _ (by rw [‹cs.take _ = cs›]; exact hcs k hk)
  · have h3 : sumlen (σ.new D) = sumlen σ.abv := sumlen_new
    have h4 : sumlen σ.abv ≤ 2 * σ.nodes.length := O.tot
    have h5 := V.tot
    show sumlen ab ≤ 2 * (σ.nodes ++ [(op, ks)]).length
    rw [List.length_append, List.length_singleton]
    exact om236 hi2 h3 h4 h5
  · show x < (σ.nodes ++ [(op, ks)]).length
    rw [List.length_append, List.length_singleton]
    exact Nat.lt_succ_of_lt (O.wt x hx)
end
end G4a
section G4b
structure HS.Grew (σ τ : HS) (nd : Str × List Nat) : Prop where
  same : τ.hp = σ.hp ∧ τ.bk = σ.bk ∧ τ.fs = σ.fs ∧ τ.fb = σ.fb ∧ τ.U.u = σ.U.u ∧ τ.U.fs = σ.U.fs
  nodes : τ.nodes = σ.nodes ∨ τ.nodes = σ.nodes ++ [nd]
theorem HS.Grew.refl (σ : HS) (nd : Str × List Nat) : HS.Grew σ σ nd := ⟨⟨rfl, rfl, rfl, rfl, rfl, rfl⟩, .inl rfl⟩
theorem HS.Grew.ins {σ τ : HS} {nd : Str × List Nat} {h : Heap} (g : HS.Grew σ τ nd) (I : σ.Ins h) : τ.Ins h := by
  obtain ⟨⟨a, b, c, d, e, f⟩, _⟩ := g
  exact ⟨by rw [a, c]; exact I.hp, by rw [b, d]; exact I.bk, by rw [e, f]; exact I.un⟩
section
variable {w : World} {A : Around} {E : Value → Shared → Prop} {s : Shared}
set_option maxHeartbeats 8000000 in
theorem hadd_ok {σ : HS} {c ck : Nat} {op : Str} {ks : List Nat} {vs : List Value} {K : Addr} {ek : Nat} {t : Tok} {Q : Value → Shared → Prop} {B : Heap} {n : Ents} (W : Wd w B) (Ow : Own B s.heap n) (I : σ.Ins B) (H : σ.On w c ck (n.lookup ·)) (O : σ.Ok)
    (n10 : σ.N ≤ 10) (hK : B.get? K = some (seqObj "tuple" (List.toArray vs) ek)) (hv : Nums vs ks) (h2 : ks.length ≤ 2) (hks : ∀ k ∈ ks, k < σ.N) (hop : GoodOp op) (hq : ∃ c, op.cps[0]? = some c ∧ c ≠ 63) (hc : c ≤ 1000) (hck : ck ≤ 1000)
    (hroom : A.depth + 200 < recursionLimit) (hu : A.units + 500 < cLine) (hh : A.handled = none)
    (post : ∀ (j : Int) (tv : Tok) τ s' n', Mut s.heap n s'.heap n' σ.ks → Up s s' → HS.Grew σ τ (op, ks) → τ.On w (c + 1) (ck + 23) (n'.lookup ·) → τ.Ok → (∀ b p, n.lookup b = some p → b ∉ σ.ks → b ∉ τ.ks) → 0 < τ.N → Q (.int j tv) s') :
    wpAny (model PySem.Challenge.pw_pq0072_01 w) A (call (.ref 385) [.ref σ.hp, .str op t, .ref K]) Q E s := by
  have IB := I.keeps Ow.bar
  have I1 := IB.hp
  have I2 := IB.bk
  have I3 := IB.un
  have hK1 := Ow.bar _ _ hK
  have hN := O.len
  refine elAA O.parts fun p1 p2 p3 => ?_
  refine enterK (n := n) W Ow (x := mth 14 3) rfl k_385 c_385 (by exact rm0) (binds := [("self", .ref σ.hp), ("op", .str op t), ("numbers", .ref K)]) (l := [("numbers", .ref K), ("op", .str op t)]) rfl ⟨.inr ⟨rfl, rfl⟩, .inl rfl, .inl rfl, trivial⟩ (by decide) (List.forall_mem_cons.mpr ⟨rfl, List.forall_mem_cons.mpr ⟨rfl, List.forall_mem_nil _⟩⟩) (fun L h₁ tk cells W' X C => ?_) (fun L => show ([L + 1] : List Addr).Nodup by walk_at "m sm")
  refine elEA X.one fun o Xx1 ho => ?_
  obtain rfl := Xx1
  change o.data = .cell (some (.ref σ.hp)) at ho
  change Cx (bar s.heap n) L h₁ [("numbers", .ref K), ("op", .str op t)] ((L + 1, o) :: n) at C
  have hle : ∀ b p, n.lookup b = some p → List.lookup b ((L + 1, o) :: n) = some p := fun b p e => C.tail e
  have hcl : List.lookup (L + 1) ((L + 1, o) :: n) = some o := by simp
  have hcn : ∀ b p, n.lookup b = some p → L + 1 ≠ b := fun b p e q => (List.nodup_cons.mp C.nd).1 (List.mem_map.mpr ⟨_, mem_of_lookup e, q.symm⟩)
  generalize ((L + 1, o) :: n) = n1 at C hle hcl
  iterate 6 walk1
  refine gmC W' C I2 (me_190 _) rfl ?_
  iterate 7 walk1
  have Bk1 : σ.Bk w (n1.lookup ·) := by
    have H1 := H.mono fun a o e => hle a o e
    exact ⟨H1.N, H1.nu, H1.we, H1.de⟩
  have nd4 : [σ.no, σ.nu, σ.we, σ.de].Nodup := p1.sublist (by walk_at "m sm")
  have hdis : ∀ b ∈ [σ.ed, σ.fo, σ.kn, σ.av, σ.wa], b ∉ [σ.no, σ.nu, σ.we, σ.de] := fun b hb q => (List.nodup_append.mp (show ([σ.no, σ.nu, σ.we, σ.de] ++ [σ.ed, σ.fo, σ.kn, σ.av, σ.wa]).Nodup from p1)).2.2 b q b hb rfl
  refine take_ok (W'.keeps C.own.bar) C.own.same (IB.keeps C.own.bar) Bk1 nd4 O.lo.1 (by exact ll) (C.own.bar _ _ hK1) hv h2 hks hop hq (by show A.depth + 1 + 50 < recursionLimit; exact rm2) (by show A.units + 3 + 300 < cLine; exact rm2) hh (fun j tj s2 n2 hj M2 X2 => ?_) fun T tj s2 n2 M2 X2 Bk2 => ?_
  · refine elEEE X2 fun h2' d2 tk2 Xx2 => ?_
    obtain rfl := Xx2
    have C2 := C.after M2
    have le2 : ∀ b p, n.lookup b = some p → n2.lookup b = some p := fun b p e => M2.le b p (fun q => nomatch q) (hle b p e)
    have hc2 := M2.le _ _ (fun q => nomatch q) hcl
    have H2 := H.mono fun a o e => le2 a o e
    walk1
    rename_i h3 C3
    iterate 8 walk1
    refine gmC W' C3 I3 (me_300 _) rfl ?_
    walk1
    refine usize_ok (W'.keeps C3.keep) (I3.keeps C3.keep) (H2.U.wider fun a o e => C3.lk e) O.u (by show A.depth + 1 < recursionLimit; exact rm1) fun s4 t4 X4 => X4.go fun h4 d4 tk4 X4 => ?_
    have C4 := C3.grow X4
    clear C3
    iterate 2 walk1
    rw [if_pos (decide_eq_true (by rw [← hN]; exact cl))]
    iterate 3 walk1
    exact post _ _ σ _ n2 (C4.mut fun b p _ e => le2 b p e) Up.mk (HS.Grew.refl _ _) (H2.weaken (Nat.le_succ _) (Nat.le_add_right _ _)) O (fun _ _ _ h => h) (Nat.lt_of_le_of_lt (Nat.zero_le _) hj)
  · refine elEEE X2 fun h2' d2 tk2 Xx3 => ?_
    obtain rfl := Xx3
    have C2 := C.after M2
    have hnb : ∀ b ∈ [σ.no, σ.nu, σ.we, σ.de], b ∈ σ.hs := fun b hb => by simp at hb ⊢; rcases hb with h | h | h | h <;> simp [h]
    have le2 : ∀ b p, b ∉ [σ.no, σ.nu, σ.we, σ.de] → n.lookup b = some p → n2.lookup b = some p := fun b p q e => M2.le b p q (hle b p e)
    have U2 : σ.U.On (n2.lookup ·) := H.U.mono fun a ha o e => le2 a o (fun q => p2 a (hnb a q) ha) e
    have hc2 : n2.lookup (L + 1) = some o := by
      obtain ⟨⟨_, z1⟩, _⟩ := H.N
      obtain ⟨_, ⟨⟨_, _, _, z2, _⟩, _⟩, _⟩ := H.nu
      refine elEEA H.we fun _ _ z3 _ => ?_
      refine elEEA H.de fun _ _ z4 _ => ?_
      refine M2.le _ _ (fun q => ?_) hcl
      simp only [List.mem_cons, List.not_mem_nil, or_false] at q
      rcases q with q | q | q | q
      · exact hcn _ _ z1 q
      · exact hcn _ _ z2 q
      · exact hcn _ _ z3 q
      · exact hcn _ _ z4 q
    walk1
    rename_i h3 C3
    iterate 8 walk1
    refine gmC W' C3 I3 (me_300 _) rfl ?_
    walk1
    refine usize_ok (W'.keeps C3.keep) (I3.keeps C3.keep) (U2.wider fun a o e => C3.lk e) O.u (by show A.depth + 1 < recursionLimit; exact rm1) fun s4 t4 X4 => X4.go fun h4 d4 tk4 X4 => ?_
    have C4 := C3.grow X4
    clear C3
    iterate 2 walk1
    rw [if_neg (by rw [← hN]; simp)]
    iterate 7 walk1
    refine gmC W' C4 I3 (me_293 _) rfl ?_
    walk1
    refine umake_ok (W'.keeps C4.own.bar) C4.own.same (I3.keeps C4.own.bar) U2 O.u (by show A.depth + 1 < recursionLimit; exact rm1) (by exact om89 n10 hN) fun D5 t5 s5 n5 M5 X5 => X5.goM M5 fun h5 d5 tk5 M5 U5 O5 hD5 => ?_
    have C5 := C4.after M5
    have hc5 : n5.lookup (L + 1) = some o := M5.le _ _ (fun q => by
      refine elEE (H.U.lists _ q) fun _ _ z => ?_
      exact hcn _ _ z rfl) hc2
    have le5 : ∀ b p, b ∉ σ.U.ks → b ∉ [σ.no, σ.nu, σ.we, σ.de] → n.lookup b = some p → n5.lookup b = some p := fun b p q q2 e => M5.le b p q (le2 b p q2 e)
    iterate 4 walk1
    refine newListR C5 (Nat.zero_le _) fun D n6 h6 C6 N6 => ?_
    refine elEA H.av fun oa hav0 hao => ?_
    have hav5 := le5 _ _ (p2 _ (by walk_at "m sm")) (hdis _ (by walk_at "m sm")) hav0
    have hav6 := N6.le _ _ hav5
    have hc6 := N6.le _ _ hc5
    iterate 4 walk1
    have hal := O.abLen
    refine dSetX (v := .ref D) C6 hav6 hao (intKind_is _ _ (σ.N : Int) _) (by rw [sizeLine_eq, List.length_map]; exact lll) fun h7 n7 o7 tk7 C7 hav7 hd7 off7 => ?_
    have hd7' : o7.IsDictOf (intKind pwp w) ((σ.new D).map fun (e : Nat × Addr × List Nat) => ((e.1 : Int), Value.ref e.2.1)) := by
      have h1 := hd7
      rw [stored_new O.notN] at h1
      rw [List.map_append]
      exact h1
    have hc7 : n7.lookup (L + 1) = some o := off7 _ _ (hcn _ _ hav0) hc6
    have hDav : D ≠ σ.av := Ne.symm (N6.ne _ _ hav5)
    have hD7 := off7 _ _ hDav N6.self
    have o7' : ∀ b p, b ≠ σ.av → n5.lookup b = some p → n7.lookup b = some p := fun b p q e => off7 _ _ q (N6.le _ _ e)
    have H7 := add_mid H O Bk2 le2 U5 (fun b p q e => M5.le b p q e) o7' hav0 (isDict_type hao).1 hav7 hd7' hD7
    have hD6 : ∀ b p, n5.lookup b = some p → b ≠ D := fun b p e => N6.ne _ _ e
    have per7 : ∀ b p, b ∉ σ.U.ks → b ∉ [σ.no, σ.nu, σ.we, σ.de] → b ≠ σ.av → n.lookup b = some p → n7.lookup b = some p := fun b p q1 q2 q3 e => o7' _ _ q3 (le5 b p q1 q2 e)
    have hh2 : ∀ b ∈ σ.hs, ∃ p, n2.lookup b = some p := fun b hb => by
      by_cases q : b ∈ [σ.no, σ.nu, σ.we, σ.de]
      · obtain ⟨⟨_, z1⟩, _⟩ := Bk2.N
        obtain ⟨_, ⟨⟨_, _, _, z2, _⟩, _⟩, _⟩ := Bk2.nu
        refine elEEA Bk2.we fun _ _ z3 _ => ?_
        refine elEEA Bk2.de fun _ _ z4 _ => ?_
        simp only [List.mem_cons, List.not_mem_nil, or_false] at q
        rcases q with rfl | rfl | rfl | rfl
        · exact ⟨_, z1⟩
        · exact ⟨_, z2⟩
        · exact ⟨_, z3⟩
        · exact ⟨_, z4⟩
      · refine elE (H.hs b hb) fun p z => ?_
        exact ⟨p, le2 _ _ q z⟩
    have hD5h : D5 ∉ σ.hs := fun q => let ⟨_, z⟩ := hh2 _ q; hD5 _ _ z rfl
    have hDh : D ∉ σ.hs := fun q => let ⟨_, z⟩ := hh2 _ q; hD6 _ _ (M5.le _ _ (p2 _ q) z) rfl
    clear off7 N6 M5 hav6 hc6 hd7
    clear C6
    walk1
    have OG : (σ.U.made D5).Ok := O5
    have hNG : (σ.U.ps ++ [σ.U.ps.length]).length = σ.N + 1 := by simp [hN]
    have le5a : ∀ e ∈ σ.abv, ∃ p, n.lookup e.2.1 = some p ∧ n5.lookup e.2.1 = some p := fun e he => by
      refine elEEA (H.al e he) fun va ea z _ => ?_
      exact ⟨_, z, le5 _ _ (p3 e he).1 (fun q => (p3 e he).2 (hnb _ q)) z⟩
    have hab7 : ∀ b ∈ (σ.new D).map (·.2.1), L + 1 ≠ b ∧ σ.av ≠ b := fun b hb => by
      obtain ⟨e, he, rfl⟩ := List.mem_map.mp hb
      rcases List.mem_append.mp he with he | he
      · refine elEA (le5a e he) fun p z _ => ?_
        exact ⟨hcn _ _ z, fun q => (p3 e he).2 (by rw [← q]; simp)⟩
      · rw [List.mem_singleton.mp he]
        exact ⟨hD6 _ _ hc5, Ne.symm hDav⟩
    have na7' : ((σ.new D).map (·.2.1)).Nodup := by
      rw [List.map_append, List.nodup_append]
      refine ⟨(List.nodup_append.mp (List.nodup_append.mp O.ks).2.1).2.1, by walk_at "m sm", fun a ha b hb q => ?_⟩
      obtain ⟨e, he, rfl⟩ := List.mem_map.mp ha
      refine elEA (le5a e he) fun p _ z => ?_
      have hb' : b = D := by simpa using hb
      exact hD6 _ _ z (q.trans hb')
    refine forG (L := L) ?_
    iterate 8 walk1
    have hK7 := C7.keep _ _ hK1
    refine compX (L := L) (h₀ := bar s.heap n) (cl := [(Str.ofString "self", L + 1)]) ?_
    walk1
    refine ⟨fun i ys n => n = n7 ∧ Nums ys.toList ((ks.take i).map (root (σ.U.ps ++ [σ.U.ps.length]))), [K], _, _, _, n7, Up.mk, C7.grow (fun _ _ e => e), Apart.base C7 hK1, it_tuple hh (isTuple_obj hK7), by rw [List.size_toArray, hv.length]; exact lt_, ⟨rfl, .nil⟩, ?_, ?_⟩
    · intro i v ys g Cl n8 Z1 h8 d8 tk8 hi hys hP kg C8
      refine stepC ?_
      refine genQ fun QQ hQ => ?_
      refine elA Z1 fun Xx4 hI => ?_
      obtain rfl := Xx4
      have Wg := W'.keeps kg
      have Ig : (σ.gr T D5 (op, ks) (σ.new D)).Ins g := ⟨IB.hp.keeps kg, IB.bk.keeps kg, IB.un.keeps kg⟩
      have I1g := I1.keeps kg
      refine elEAE (hv.get1 (show vs[i]? = some v by simpa using hP)) fun k hk tv Xx5 => ?_
      obtain rfl := Xx5
      have hkN := hks k (List.mem_of_getElem? hk)
      iterate 2 walk1
      refine gmC Wg C8 I1g (me_406 _) rfl ?_
      iterate 5 walk1
      refine hfind_ok (σ := σ.gr T D5 (op, ks) (σ.new D)) (Wg.keeps C8.keep) (Ig.keeps C8.keep) (H7.U.wider fun a o e => C8.lk e) O5 (by rw [hNG]; exact s_) (by show A.depth + 1 + 10 < recursionLimit; exact rm2) fun s9 t9 X9 => ?_
      try refine hQ _ _ ?_
      refine ⟨X9.upR, _, _, C8.grow X9.kp, rfl, ?_⟩
      have e : (ks.take (i + 1)).map (root (σ.U.ps ++ [σ.U.ps.length])) = (ks.take i).map (root (σ.U.ps ++ [σ.U.ps.length])) ++ [root (σ.U.ps ++ [σ.U.ps.length]) k] := by rw [List.take_add_one, hk]; simp
      rw [e]
      exact nums_snoc hI
    · rintro D8 ys ep8 n8 ⟨rfl, hI⟩ hsz h8 d8 tk8 C8
      have hD8 : List.lookup D8 ((D8, seqObj "list" ys ep8) :: n8) = some (seqObj "list" ys.toList.toArray ep8) := by simp
      have hle8 : ∀ b p, n8.lookup b = some p → List.lookup b ((D8, seqObj "list" ys ep8) :: n8) = some p := fun b p e => C8.tail e
      generalize ((D8, seqObj "list" ys ep8) :: n8) = n9 at C8 hD8 hle8
      rw [List.size_toArray, hv.length, List.take_length] at hI
      walk1
      refine setR_ints C8 hh (C8.lk hD8) hI (by rw [List.length_map]; exact lt_) fun S o10 n10' h10 tk10 C10 N10 hS => ?_
      walk1
      refine sortedSet_ints C10 hh (C10.lk N10.self) hS (by rw [List.length_map]; exact lt_) fun D11 vs11 cs e11 n11 h11 d11 tk11 C11 N11 hcs hcm hcl => ?_
      have c11 : ∀ b p, n8.lookup b = some p → n11.lookup b = some p := fun b p e => N11.le _ _ (N10.le _ _ (hle8 _ _ e))
      have hD11 := C11.lk N11.self
      have hlen7 : ∀ i, i < cs.length → cs[i]? = some (cs.getD i 0) := fun i h => by simp [List.getD, h]
      refine ⟨fun i l n' => l = ([("n", .int (σ.N : Nat) tj), ("numbers", .ref K), ("op", .str op t)] : Binds) ∧ ∃ abv' : Ab, AddInv σ D cs i n8 n' abv', bar s.heap n,
        [D11], _, _, _, n8, Up.mk, C11.narrow C7.nd c11, Apart.new (C11.narrow (n := n11) C11.nd fun _ _ e => e) C7.nd ⟨c11, N11.self, fun b p e => N11.ne _ _ (N10.le _ _ (hle8 _ _ e))⟩, it_list hh (isList_obj hD11), ⟨rfl, σ.new D, AddInv.init O H7.al⟩, ?_, ?_⟩
      · intro i v g l12 n12 Z2 h12 d12 tk12 hi hP kg C12
        refine genQ fun QQ hQ => ?_
        refine elAE Z2 fun Xx6 ab V => ?_
        obtain rfl := Xx6
        have Wg := W'.keeps kg
        have I1g := I1.keeps kg
        refine elEAE (hcs.get1 (show vs11[i]? = some v by simpa using hP)) fun cc hcc tcc Xx7 => ?_
        obtain rfl := Xx7
        have hc12 : n12.lookup (L + 1) = some o := V.per _ _ (fun z => (hab7 _ z).1 rfl) hc7
        have hav12 : n12.lookup σ.av = some o7 := V.per _ _ (fun z => (hab7 _ z).2 rfl) hav7
        have hccm : cc ∈ cs := List.mem_of_getElem? hcc
        refine elEA (List.mem_map.mp ((hcm cc).mp hccm)) fun k hk hkr => ?_
        rw [root_app O.u.le (hN ▸ hks k hk)] at hkr
        refine elEA (O.abOf (hks k hk)) fun e0 he0 hr0 => ?_
        refine elEAA (V.old e0 (List.mem_append_left _ he0)) fun e1 he1 hr1' _ => ?_
        have hr1 : e1.1 = cc := hr1'.trans (hr0.trans hkr)
        refine elEEA (V.al e1 he1) fun va ea hva hna => ?_
        have hsz : va.size ≤ sizeLine := by
          have h1 : va.size = e1.2.2.length := by simpa using hna.length
          have h2 := sum_mem he1
          have h3 : sumlen (σ.new D) = sumlen σ.abv := sumlen_new
          have h7 := V.tot
          have h4 : sumlen σ.abv ≤ 2 * σ.N := O.tot
          have h5 : (ab.map fun e => e.2.2.length).sum = sumlen ab := rfl
          have h6 : vs11.toArray.size = cs.length := by rw [List.size_toArray]; exact hcs.length
          rw [List.length_map] at hcl
          rw [sizeLine_eq]; omega
        have hdab : o7.IsDictOf (intKind pwp w) (ab.map fun (e : Nat × Addr × List Nat) => ((e.1 : Int), Value.ref e.2.1)) := V.dic.symm ▸ hd7'
        iterate 8 walk1
        refine dItem (knd := intKind pwp w) (k := (cc : Int)) (C12.lk hav12) hdab (intKind_is _ _ _ _) (valueAt_abv (V.keys ▸ O.newKeys) he1 hr1) fun tk13 => ?_
        refine gm_list (C12.lk hva) PySem.F.slot_list_append PySem.F.type_list_append ?_
        iterate 4 walk1
        refine appendX C12 hva hsz fun h14 n14 e14 C14 hva14 off14 => ?_
        walk1
        try refine hQ _ _ ?_
        exact ⟨.inl rfl, Up.mk, _, n14, C14.names (by walk_at "m names"), rfl, _, V.step O na7' hcc he1 hr1 hna hva14 off14⟩
      · rintro l15 n15 ⟨rfl, ab, V⟩ h15 d15 tk15 C15
        have hdj : ∀ b ∈ (σ.new D).map (·.2.1), b ∉ (σ.U.made D5).ks ∧ b ∉ σ.hs := fun b hb => by
          obtain ⟨e, he, rfl⟩ := List.mem_map.mp hb
          rcases List.mem_append.mp he with he | he
          · refine ⟨fun q => ?_, (p3 e he).2⟩
            rcases List.mem_append.mp (show e.2.1 ∈ σ.U.ks ++ [D5] from q) with q | q
            · exact (p3 e he).1 q
            · refine elEEA (H.al e he) fun va ea z _ => ?_
              exact hD5 _ _ (le2 _ _ (fun q => (p3 e he).2 (hnb _ q)) z) (List.mem_singleton.mp q)
          · rw [List.mem_singleton.mp he]
            exact ⟨fun q => (let ⟨_, _, z⟩ := U5.lists _ q; hD6 _ _ z rfl), hDh⟩
        have len11 : vs11.toArray.size = cs.length := by rw [List.size_toArray]; exact hcs.length
        rw [len11] at V
        have H15 := add_on V H7 hdj
        have hlk : cs.length ≤ 2 := by rw [List.length_map] at hcl; exact lll
        have O15 := add_ok (T := T) (op := op) V O O5 n10 h2 hks List.take_length hlk (fun k hk => (hcm _).mpr (List.mem_map.mpr ⟨k, hk, rfl⟩)) na7' hdj hD5h
        have fresh : ∀ b p, n.lookup b = some p → b ∉ σ.ks → b ∉ (σ.gr T D5 (op, ks) ab).ks := fun b p e hb => by
          have hbU : b ∉ σ.U.ks := fun q => hb (List.mem_append_left _ q)
          have hbh : b ∉ σ.hs := fun q => hb (List.mem_append_right _ (List.mem_append_left _ q))
          have hba : b ∉ σ.abv.map (·.2.1) := fun q => hb (List.mem_append_right _ (List.mem_append_right _ q))
          have hb4 : b ∉ [σ.no, σ.nu, σ.we, σ.de] := fun q => hbh (hnb _ q)
          intro q
          rcases List.mem_append.mp (show b ∈ (σ.U.ks ++ [D5]) ++ (σ.hs ++ ab.map (·.2.1)) from q) with q | q
          · rcases List.mem_append.mp q with q | q
            · exact hbU q
            · exact hD5 _ _ (le2 _ _ hb4 e) (List.mem_singleton.mp q)
          · rcases List.mem_append.mp q with q | q
            · exact hbh q
            · rw [V.adr, List.map_append] at q
              rcases List.mem_append.mp q with q | q
              · exact hba q
              · have qD : b = D := by simpa using q
                exact hD6 _ _ (le5 _ _ hbU hb4 e) qD
        have le15 : ∀ b p, b ∉ σ.ks → n.lookup b = some p → n15.lookup b = some p := fun b p hb e => by
          have hbU : b ∉ σ.U.ks := fun q => hb (List.mem_append_left _ q)
          have hbh : b ∉ σ.hs := fun q => hb (List.mem_append_right _ (List.mem_append_left _ q))
          refine V.per b p (fun q => fresh b p e hb ?_) (per7 b p hbU (fun q => hbh (hnb _ q)) (fun q => hbh (by rw [q]; simp)) e)
          exact List.mem_append_right _ (List.mem_append_right _ (V.adr ▸ q))
        have hc15 : n15.lookup (L + 1) = some o := V.per _ _ (fun z => (hab7 _ z).1 rfl) hc7
        clear V H7 hdj hab7 na7' le5a hcm hD6 per7 o7' le5 le2 Bk2 U2 M2 U5
        iterate 4 walk1
        refine gmC W' C15 I1 (me_399 _) rfl ?_
        iterate 5 walk1
        refine look_at_ok (σ := σ.gr T D5 (op, ks) ab) (W'.keeps C15.own.bar) C15.own.same (HS.Ins.keeps (σ := σ.gr T D5 (op, ks) ab) C15.own.bar ⟨IB.hp, IB.bk, IB.un⟩) H15 O15 (by simp [HS.N]) (by exact ll1) (by exact om50 hck) (by show A.depth + 1 + 100 < recursionLimit; exact rm2) (by show A.units + 3 + 300 < cLine; exact rm2) hh fun ps2 lots2 abv2 wait2 s6 n6 M6 X6 => X6.goM M6 fun h6 d6 tk6 M6 H6 O6 _ _ hfr6 => ?_
        have C16 := C15.after M6
        iterate 3 walk1
        exact post _ _ ((σ.gr T D5 (op, ks) ab).upd ps2 lots2 abv2 wait2) _ n6 (C16.mut fun b p q e => M6.le b p (fresh b p e q) (le15 b p q e)) Up.mk ⟨⟨rfl, rfl, rfl, rfl, rfl, rfl⟩, .inr rfl⟩ H6 O6 (fun b p e q => hfr6 b p (le15 b p q e) (fresh b p e q)) (by simp [HS.N])
end
end G4b
section T1
section
variable {w : World} {A : Around} {E : Value → Shared → Prop} {s : Shared} {h₀ : Heap} {L : Addr} {l : Binds} {n : Ents} {M : Model} {env : Env}
theorem gmTO {x dx cc f : Addr} {fs : Binds} {name : Str} {pl : Sem Bool} {Q : Value × List Value → Shared → Prop} (X : Cx h₀ L s.heap l n) (W : Wd w h₀) (I : OI (n.lookup ·) x dx cc fs)
    (ok : mtab.lookup (cc, name) = some f) (hv : fs.lookup name = none) (h : Q (.ref f, [.ref x]) s) :
    wpAny (model PySem.Challenge.pw_pq0072_01 w) A (getMethod (.ref x) name pl) Q E s := getM (W.keeps X.keep) (OI.inst (I.mono fun _ _ e => X.lk e)) (List.all_eq_true.mp (mtab_ok w.params) _ (lookup_mem ok)) hv h
theorem gfTO {x dx cc : Addr} {fs : Binds} {name : Str} {v : Value} {expr : Bool} {Q : Value → Shared → Prop} (X : Cx h₀ L s.heap l n) (W : Wd w h₀) (I : OI (n.lookup ·) x dx cc fs)
    (ok : atab.contains (cc, name) = true) (hv : fs.lookup name = some v) (h : Q v { s with toks := s.toks + 1 }) (hh : handedIn v = true := by rfl) :
    wpAny (model PySem.Challenge.pw_pq0072_01 w) A (getAttr (.ref x) name expr) Q E s := gfO W X I (List.all_eq_true.mp (atab_ok w.params) _ (List.contains_iff_mem.mp ok)) hv h hh
end
end T1
section T2
/- several steps of the walk in one -/
noncomputable abbrev pwm (w : World) : Model := model PySem.Challenge.pw_pq0072_01 w
section
variable {w : World} {A : Around} {E : Value → Shared → Prop} {s : Shared} {h₀ : Heap} {L : Addr} {l : Binds} {n : Ents} {env : Env} {x name : Str} {p1 p2 pos : Pos} {a c cc f : Addr} {o : Obj} {fs : Binds} {v : Value} {dx : Addr} {e : PySem.Expr} {rest args : List PySem.Expr}
theorem attrOf {Q : Value → Shared → Prop} (h : wpAny (pwm w) A (eval (.Name x p1) env) (fun o s₁ => wpAny (pwm w) A (getAttr o name true) Q E s₁) E s) : wpAny (pwm w) A (eval (.Attribute (.Name x p1) name p2) env) Q E s := Attribute_any_ h
theorem gaL {Q : Value → Shared → Prop} (h : Q v { s with toks := s.toks + 1 }) (C : Cx h₀ L s.heap l n := by assumption) (W : Wd w h₀ := by assumption) (hv : l.lookup x = some (.ref a) := by with_unfolding_all rfl) (I : Inst h₀ a cc fs := by with_reducible assumption)
    (ok : atab.contains (cc, name) = true := by with_unfolding_all rfl) (hf : fs.lookup name = some v := by with_unfolding_all rfl) (hh : handedIn v = true := by with_unfolding_all rfl)
    (he : env.locals = L := by with_unfolding_all rfl) (hk : env.scope.kind = .function := by with_unfolding_all rfl) (hl : env.kindOf x = some .local := by with_unfolding_all rfl) (hd : (x == ("__debug__" : Str)) = false := by decide) : wpAny (pwm w) A (eval (.Attribute (.Name x p1) name p2) env) Q E s :=
  attrOf (ldC C hv (gfT C W I ok hf h hh) he hk hl hd)
theorem gaLO {Q : Value → Shared → Prop} (h : Q v { s with toks := s.toks + 1 }) (C : Cx h₀ L s.heap l n := by assumption) (W : Wd w h₀ := by assumption) (hv : l.lookup x = some (.ref a) := by with_unfolding_all rfl) (I : OI (n.lookup ·) a dx cc fs := by with_reducible assumption)
    (ok : atab.contains (cc, name) = true := by with_unfolding_all rfl) (hf : fs.lookup name = some v := by with_unfolding_all rfl) (hh : handedIn v = true := by with_unfolding_all rfl)
    (he : env.locals = L := by with_unfolding_all rfl) (hk : env.scope.kind = .function := by with_unfolding_all rfl) (hl : env.kindOf x = some .local := by with_unfolding_all rfl) (hd : (x == ("__debug__" : Str)) = false := by decide) : wpAny (pwm w) A (eval (.Attribute (.Name x p1) name p2) env) Q E s :=
  attrOf (ldC C hv (gfTO C W I ok hf h hh) he hk hl hd)
theorem gaK {Q : Value → Shared → Prop} (h : Q v { s with toks := s.toks + 1 }) (hc : env.cells.lookup x = some c := by with_unfolding_all rfl) (C : Cx h₀ L s.heap l n := by assumption) (W : Wd w h₀ := by assumption) (e : n.lookup c = some o := by with_reducible assumption) (ho : o.data = .cell (some (.ref a)) := by with_reducible assumption) (I : Inst h₀ a cc fs := by with_reducible assumption)
    (ok : atab.contains (cc, name) = true := by with_unfolding_all rfl) (hf : fs.lookup name = some v := by with_unfolding_all rfl) (hh : handedIn v = true := by with_unfolding_all rfl)
    (hk : env.scope.kind = .function := by with_unfolding_all rfl) (hl : env.kindOf x = some .cell := by with_unfolding_all rfl) (hd : (x == ("__debug__" : Str)) = false := by decide) : wpAny (pwm w) A (eval (.Attribute (.Name x p1) name p2) env) Q E s :=
  attrOf (ldK2 hc C e ho (gfT C W I ok hf h hh) hk hl hd)
theorem mcOf {pl : Sem Bool} {Q : Value → Shared → Prop} (h : wpAny (pwm w) A (eval (.Name x p1) env) (fun ov s₁ => wpAny (pwm w) A (getMethod ov name pl) (fun fx s₂ => wpAny (pwm w) A (callWith pos fx.1 fx.2 (backTo pos (starEach args env)) []) Q E s₂) E s₁) E s)
    (he : eval (.Call (.Attribute (.Name x p1) name p2) args [] pos) env = (do
      let ov ← eval (.Name x p1) env
      standAt p2.atName
      let (f, first) ← holding [ov] (getMethod ov name pl)
      callWith pos f first (backTo pos (starEach args env)) [])) : wpAny (pwm w) A (eval (.Call (.Attribute (.Name x p1) name p2) args [] pos) env) Q E s := MethodCall_ h he
theorem mcL0 {pl : Sem Bool} {Q : Value → Shared → Prop} (h : wpAny (pwm w) A (call (.ref f) [.ref a]) Q E s) (C : Cx h₀ L s.heap l n := by assumption) (W : Wd w h₀ := by assumption) (hv : l.lookup x = some (.ref a) := by with_unfolding_all rfl) (I : Inst h₀ a cc fs := by with_reducible assumption)
    (ok : mtab.lookup (cc, name) = some f := by with_unfolding_all rfl) (hf : fs.lookup name = none := by with_unfolding_all rfl) (hk' : ktab.contains f = true := by with_unfolding_all rfl)
    (he : env.locals = L := by with_unfolding_all rfl) (hk : env.scope.kind = .function := by with_unfolding_all rfl) (hl : env.kindOf x = some .local := by with_unfolding_all rfl) (hd : (x == ("__debug__" : Str)) = false := by decide)
    (he' : eval (.Call (.Attribute (.Name x p1) name p2) [] [] pos) env = (do
      let ov ← eval (.Name x p1) env
      standAt p2.atName
      let (f, first) ← holding [ov] (getMethod ov name pl)
      callWith pos f first (backTo pos (starEach [] env)) []) := by with_unfolding_all rfl) : wpAny (pwm w) A (eval (.Call (.Attribute (.Name x p1) name p2) [] [] pos) env) Q E s :=
  mcOf (ldC C hv (gmT C W I ok hf (callT0 (first := [.ref a]) C W hk' h)) he hk hl hd) he'
theorem mcLO0 {pl : Sem Bool} {Q : Value → Shared → Prop} (h : wpAny (pwm w) A (call (.ref f) [.ref a]) Q E s) (C : Cx h₀ L s.heap l n := by assumption) (W : Wd w h₀ := by assumption) (hv : l.lookup x = some (.ref a) := by with_unfolding_all rfl) (I : OI (n.lookup ·) a dx cc fs := by with_reducible assumption)
    (ok : mtab.lookup (cc, name) = some f := by with_unfolding_all rfl) (hf : fs.lookup name = none := by with_unfolding_all rfl) (hk' : ktab.contains f = true := by with_unfolding_all rfl)
    (he : env.locals = L := by with_unfolding_all rfl) (hk : env.scope.kind = .function := by with_unfolding_all rfl) (hl : env.kindOf x = some .local := by with_unfolding_all rfl) (hd : (x == ("__debug__" : Str)) = false := by decide)
    (he' : eval (.Call (.Attribute (.Name x p1) name p2) [] [] pos) env = (do
      let ov ← eval (.Name x p1) env
      standAt p2.atName
      let (f, first) ← holding [ov] (getMethod ov name pl)
      callWith pos f first (backTo pos (starEach [] env)) []) := by with_unfolding_all rfl) : wpAny (pwm w) A (eval (.Call (.Attribute (.Name x p1) name p2) [] [] pos) env) Q E s :=
  mcOf (ldC C hv (gmTO C W I ok hf (callT0 (first := [.ref a]) C W hk' h)) he hk hl hd) he'
theorem mcK0 {pl : Sem Bool} {Q : Value → Shared → Prop} (h : wpAny (pwm w) A (call (.ref f) [.ref a]) Q E s) (hc : env.cells.lookup x = some c := by with_unfolding_all rfl) (C : Cx h₀ L s.heap l n := by assumption) (W : Wd w h₀ := by assumption) (e : n.lookup c = some o := by with_reducible assumption) (ho : o.data = .cell (some (.ref a)) := by with_reducible assumption) (I : Inst h₀ a cc fs := by with_reducible assumption)
    (ok : mtab.lookup (cc, name) = some f := by with_unfolding_all rfl) (hf : fs.lookup name = none := by with_unfolding_all rfl) (hk' : ktab.contains f = true := by with_unfolding_all rfl)
    (hk : env.scope.kind = .function := by with_unfolding_all rfl) (hl : env.kindOf x = some .cell := by with_unfolding_all rfl) (hd : (x == ("__debug__" : Str)) = false := by decide)
    (he' : eval (.Call (.Attribute (.Name x p1) name p2) [] [] pos) env = (do
      let ov ← eval (.Name x p1) env
      standAt p2.atName
      let (f, first) ← holding [ov] (getMethod ov name pl)
      callWith pos f first (backTo pos (starEach [] env)) []) := by with_unfolding_all rfl) : wpAny (pwm w) A (eval (.Call (.Attribute (.Name x p1) name p2) [] [] pos) env) Q E s :=
  mcOf (ldK2 hc C e ho (gmT C W I ok hf (callT0 (first := [.ref a]) C W hk' h)) hk hl hd) he'
theorem mcL {pl : Sem Bool} {Q : Value → Shared → Prop} (h : wpAny (pwm w) A (spliced (backTo pos (starEach (e :: rest) env))) (fun vs s₁ => Kp h₀ s₁.heap ∧ wpAny (pwm w) A (call (.ref f) (.ref a :: vs)) Q E s₁) E s) (C : Cx h₀ L s.heap l n := by assumption) (W : Wd w h₀ := by assumption) (hv : l.lookup x = some (.ref a) := by with_unfolding_all rfl) (I : Inst h₀ a cc fs := by with_reducible assumption)
    (ok : mtab.lookup (cc, name) = some f := by with_unfolding_all rfl) (hf : fs.lookup name = none := by with_unfolding_all rfl) (hk' : ktab.contains f = true := by with_unfolding_all rfl)
    (hs : starEach (e :: rest) env = (false, eval e env) :: starEach rest env := by with_unfolding_all rfl) (hp : (backTo pos (starEach rest env)).any (·.1) = false := by with_unfolding_all rfl)
    (he : env.locals = L := by with_unfolding_all rfl) (hk : env.scope.kind = .function := by with_unfolding_all rfl) (hl : env.kindOf x = some .local := by with_unfolding_all rfl) (hd : (x == ("__debug__" : Str)) = false := by decide)
    (he' : eval (.Call (.Attribute (.Name x p1) name p2) (e :: rest) [] pos) env = (do
      let ov ← eval (.Name x p1) env
      standAt p2.atName
      let (f, first) ← holding [ov] (getMethod ov name pl)
      callWith pos f first (backTo pos (starEach (e :: rest) env)) []) := by with_unfolding_all rfl) : wpAny (pwm w) A (eval (.Call (.Attribute (.Name x p1) name p2) (e :: rest) [] pos) env) Q E s :=
  mcOf (ldC C hv (gmT C W I ok hf (callT (first := [.ref a]) W hk' h hs hp)) he hk hl hd) he'
theorem mcLO {pl : Sem Bool} {Q : Value → Shared → Prop} (h : wpAny (pwm w) A (spliced (backTo pos (starEach (e :: rest) env))) (fun vs s₁ => Kp h₀ s₁.heap ∧ wpAny (pwm w) A (call (.ref f) (.ref a :: vs)) Q E s₁) E s) (C : Cx h₀ L s.heap l n := by assumption) (W : Wd w h₀ := by assumption) (hv : l.lookup x = some (.ref a) := by with_unfolding_all rfl) (I : OI (n.lookup ·) a dx cc fs := by with_reducible assumption)
    (ok : mtab.lookup (cc, name) = some f := by with_unfolding_all rfl) (hf : fs.lookup name = none := by with_unfolding_all rfl) (hk' : ktab.contains f = true := by with_unfolding_all rfl)
    (hs : starEach (e :: rest) env = (false, eval e env) :: starEach rest env := by with_unfolding_all rfl) (hp : (backTo pos (starEach rest env)).any (·.1) = false := by with_unfolding_all rfl)
    (he : env.locals = L := by with_unfolding_all rfl) (hk : env.scope.kind = .function := by with_unfolding_all rfl) (hl : env.kindOf x = some .local := by with_unfolding_all rfl) (hd : (x == ("__debug__" : Str)) = false := by decide)
    (he' : eval (.Call (.Attribute (.Name x p1) name p2) (e :: rest) [] pos) env = (do
      let ov ← eval (.Name x p1) env
      standAt p2.atName
      let (f, first) ← holding [ov] (getMethod ov name pl)
      callWith pos f first (backTo pos (starEach (e :: rest) env)) []) := by with_unfolding_all rfl) : wpAny (pwm w) A (eval (.Call (.Attribute (.Name x p1) name p2) (e :: rest) [] pos) env) Q E s :=
  mcOf (ldC C hv (gmTO C W I ok hf (callT (first := [.ref a]) W hk' h hs hp)) he hk hl hd) he'
theorem mcK {e' : PySem.Expr} {pl : Sem Bool} {Q : Value → Shared → Prop} (h : wpAny (pwm w) A (spliced (backTo pos (starEach (e' :: rest) env))) (fun vs s₁ => Kp h₀ s₁.heap ∧ wpAny (pwm w) A (call (.ref f) (.ref a :: vs)) Q E s₁) E s) (hc : env.cells.lookup x = some c := by with_unfolding_all rfl) (C : Cx h₀ L s.heap l n := by assumption) (W : Wd w h₀ := by assumption) (e : n.lookup c = some o := by with_reducible assumption) (ho : o.data = .cell (some (.ref a)) := by with_reducible assumption) (I : Inst h₀ a cc fs := by with_reducible assumption)
    (ok : mtab.lookup (cc, name) = some f := by with_unfolding_all rfl) (hf : fs.lookup name = none := by with_unfolding_all rfl) (hk' : ktab.contains f = true := by with_unfolding_all rfl)
    (hs : starEach (e' :: rest) env = (false, eval e' env) :: starEach rest env := by with_unfolding_all rfl) (hp : (backTo pos (starEach rest env)).any (·.1) = false := by with_unfolding_all rfl)
    (hk : env.scope.kind = .function := by with_unfolding_all rfl) (hl : env.kindOf x = some .cell := by with_unfolding_all rfl) (hd : (x == ("__debug__" : Str)) = false := by decide)
    (he' : eval (.Call (.Attribute (.Name x p1) name p2) (e' :: rest) [] pos) env = (do
      let ov ← eval (.Name x p1) env
      standAt p2.atName
      let (f, first) ← holding [ov] (getMethod ov name pl)
      callWith pos f first (backTo pos (starEach (e' :: rest) env)) []) := by with_unfolding_all rfl) : wpAny (pwm w) A (eval (.Call (.Attribute (.Name x p1) name p2) (e' :: rest) [] pos) env) Q E s :=
  mcOf (ldK2 hc C e ho (gmT C W I ok hf (callT (first := [.ref a]) W hk' h hs hp)) hk hl hd) he'
theorem gcT {Q : Value → Shared → Prop} (h : wpAny (pwm w) A (spliced (backTo pos (starEach (e :: rest) env))) (fun vs s₁ => Kp h₀ s₁.heap ∧ wpAny (pwm w) A (call (.ref a) vs) Q E s₁) E s) (C : Cx h₀ L s.heap l n := by assumption) (W : Wd w h₀ := by assumption) (hv : gtab.lookup x = some a := by with_unfolding_all rfl) (hk' : ktab.contains a = true := by with_unfolding_all rfl)
    (hs : starEach (e :: rest) env = (false, eval e env) :: starEach rest env := by with_unfolding_all rfl) (hp : (backTo pos (starEach rest env)).any (·.1) = false := by with_unfolding_all rfl)
    (hk : env.scope.kind = .function := by with_unfolding_all rfl) (hx : env.kindOf x = some .globalImplicit := by with_unfolding_all rfl) (hg : env.globals = mainGlobals := by with_unfolding_all rfl) (hd : (x == ("__debug__" : Str)) = false := by decide) : wpAny (pwm w) A (eval (.Call (.Name x p1) (e :: rest) [] pos) env) Q E s :=
  Call_ (gnT C W hv (callT (first := []) W hk' h hs hp) hk hx hg hd)
theorem bcT {Q : Value → Shared → Prop} (h : wpAny (pwm w) A (callWith pos v [] (backTo pos (starEach args env)) []) Q E s) (C : Cx h₀ L s.heap l n := by assumption) (W : Wd w h₀ := by assumption) (hv : btab.lookup x = some v := by with_unfolding_all rfl)
    (hk : env.scope.kind = .function := by with_unfolding_all rfl) (hx : env.kindOf x = some .globalImplicit := by with_unfolding_all rfl) (hg : env.globals = mainGlobals := by with_unfolding_all rfl) (hb : env.builtins = builtinsNs := by with_unfolding_all rfl) (hd : (x == ("__debug__" : Str)) = false := by decide) : wpAny (pwm w) A (eval (.Call (.Name x p1) args [] pos) env) Q E s :=
  Call_ (bnT C W hv h hk hx hg hb hd)
theorem argL {Q : List Value → Shared → Prop} (h : wpAny (pwm w) A (spliced (backTo pos (starEach rest env))) (fun vs => Q (v :: vs)) E s) (C : Cx h₀ L s.heap l n := by assumption) (hv : l.lookup x = some v := by with_unfolding_all rfl)
    (hs : starEach (.Name x p1 :: rest) env = (false, eval (.Name x p1) env) :: starEach rest env := by with_unfolding_all rfl)
    (he : env.locals = L := by with_unfolding_all rfl) (hk : env.scope.kind = .function := by with_unfolding_all rfl) (hl : env.kindOf x = some .local := by with_unfolding_all rfl) (hd : (x == ("__debug__" : Str)) = false := by decide) : wpAny (pwm w) A (spliced (backTo pos (starEach (.Name x p1 :: rest) env))) Q E s :=
  args_cons (ldC C hv h he hk hl hd) hs
theorem argL1 {Q : List Value → Shared → Prop} (h : Q [v] s) (C : Cx h₀ L s.heap l n := by assumption) (hv : l.lookup x = some v := by with_unfolding_all rfl)
    (hs : starEach [.Name x p1] env = [(false, eval (.Name x p1) env)] := by with_unfolding_all rfl)
    (he : env.locals = L := by with_unfolding_all rfl) (hk : env.scope.kind = .function := by with_unfolding_all rfl) (hl : env.kindOf x = some .local := by with_unfolding_all rfl) (hd : (x == ("__debug__" : Str)) = false := by decide) : wpAny (pwm w) A (spliced (backTo pos (starEach [.Name x p1] env))) Q E s :=
  args_cons (ldC C hv (args_nil h) he hk hl hd) hs
theorem argK {Q : List Value → Shared → Prop} (h : wpAny (pwm w) A (spliced (backTo pos (starEach rest env))) (fun vs => Q (v :: vs)) E s) (hc : env.cells.lookup x = some c := by with_unfolding_all rfl) (C : Cx h₀ L s.heap l n := by assumption) (e : n.lookup c = some o := by with_reducible assumption) (ho : o.data = .cell (some v) := by with_reducible assumption)
    (hs : starEach (.Name x p1 :: rest) env = (false, eval (.Name x p1) env) :: starEach rest env := by with_unfolding_all rfl)
    (hk : env.scope.kind = .function := by with_unfolding_all rfl) (hl : env.kindOf x = some .cell := by with_unfolding_all rfl) (hd : (x == ("__debug__" : Str)) = false := by decide) : wpAny (pwm w) A (spliced (backTo pos (starEach (.Name x p1 :: rest) env))) Q E s :=
  args_cons (ldK2 hc C e ho h hk hl hd) hs
end
end T2
set_option bootstrap.genMatcherCode true
set_option compiler.extract_closed false
set_option hygiene false
local macro_rules | `(tactic| walk_at "getAttr ref") => `(tactic| with_unfolding_all (refine gfTO (by assumption) (by assumption) (by with_reducible assumption) rfl rfl ?_))
local macro_rules | `(tactic| walk_at "getMethod ref") => `(tactic| with_unfolding_all (refine gmTO (by assumption) (by assumption) (by with_reducible assumption) rfl rfl ?_))
local macro_rules | `(tactic| walk_at "eval Attribute Name") => `(tactic| with_reducible first | refine gaL ?_ | refine gaK ?_ | refine gaLO ?_)
local macro_rules | `(tactic| walk_at "eval Call Attribute") => `(tactic| with_reducible first | refine mcL0 ?_ | refine mcL ?_ | refine mcK0 ?_ | refine mcK ?_ | refine mcLO0 ?_ | refine mcLO ?_)
local macro_rules | `(tactic| walk_at "eval Call") => `(tactic| with_reducible first | refine gcT ?_ | refine bcT ?_)
local macro_rules | `(tactic| walk_at "spliced") => `(tactic| with_reducible first | refine argL1 ?_ | refine argL ?_ | refine argK ?_)
set_option bootstrap.genMatcherCode false
section H5
section
variable {w : World} {A : Around} {E : Value → Shared → Prop} {s : Shared}
theorem isV {prog : Program} {a : Value} {x : Va} {Q : Value → Shared → Prop} (ha : VIs a x) (h1 : x = none → Q (.bool true) s) (h2 : x ≠ none → Q (.bool false) s) : wpAny (model prog w) A (compareOp .Is a .none) Q E s := by
  rcases x with _ | _ | k
  · cases ha; exact wpAny_is_self rfl (h1 rfl)
  · obtain ⟨t, rfl⟩ := ha; exact wpAny_is_plain rfl (h2 (by walk_at "m sm"))
  · obtain ⟨t, rfl⟩ := ha; exact wpAny_is_plain rfl (h2 (by walk_at "m sm"))
theorem eqV2 {prog : Program} {a b : Value} {x y : Va} {Q : Value → Shared → Prop} (ha : VIs a x) (hb : VIs b y) (h1 : x = y → Q (.bool true) s) (h2 : x ≠ y → Q (.bool false) s) : wpAny (model prog w) A (compareOp .Eq a b) Q E s := by
  refine eqV ha hb ?_
  by_cases h : x = y
  · rw [decide_eq_true h]; exact h1 h
  · rw [decide_eq_false h]; exact h2 h
theorem neV2 {prog : Program} {a b : Value} {x y : Va} {Q : Value → Shared → Prop} (ha : VIs a x) (hb : VIs b y) (h1 : x = y → Q (.bool false) s) (h2 : x ≠ y → Q (.bool true) s) : wpAny (model prog w) A (compareOp .NotEq a b) Q E s := by
  refine neV ha hb ?_
  by_cases h : x = y
  · rw [decide_eq_true h]; exact h1 h
  · rw [decide_eq_false h]; exact h2 h
set_option maxHeartbeats 1000000 in
theorem joined_ok {X : Addr} {a b : Value} {x y : Va} {Q : Value → Shared → Prop} (W : Wd w s.heap) (ha : VIs a x) (hb : VIs b y) (hroom : A.depth < recursionLimit)
    (post : ∀ v s', Ext s s' → VIs v (vj x y) → Q v s') :
    wpAny (model PySem.Challenge.pw_pq0072_01 w) A (call (.ref 54) [.ref X, a, b]) Q E s := by
  refine enterC (n := []) W (Own.nil _) (x := mth 3 2) rfl k_54 c_54 hroom (binds := [("self", .ref X), ("one", a), ("other", b)]) rfl (locs rfl) (by decide) fun L h₁ W' C => ?_
  change Cx s.heap L h₁ [("other", b), ("one", a), ("self", .ref X)] [] at C
  change Wd w s.heap at W'
  walk_at "m go"
  refine isV ha (fun hx => ?_) fun hx => ?_
  · walk_at "m go"
    exact post _ _ (Ext.mk C.keep) (by unfold vj; rw [if_pos (.inl hx)]; exact hb)
  · walk_at "m go"
    refine eqV2 ha hb (fun hxy => ?_) fun hxy => ?_
    · walk_at "m go"
      exact post _ _ (Ext.mk C.keep) (by unfold vj; rw [if_pos (.inr hxy)]; exact hb)
    · have hj : vj x y = if y = none then x else some none := by unfold vj; rw [if_neg (by rintro (h | h); exact hx h; exact hxy h)]
      walk_at "m go"
      refine isV hb (fun hy => ?_) fun hy => ?_
      · walk_at "m go"
        exact post _ _ (Ext.mk C.keep) (by rw [hj, if_pos hy]; exact ha)
      · walk_at "m go"
        exact post _ _ (Ext.mk C.keep) (by rw [hj, if_neg hy]; exact ⟨_, rfl⟩)
end
end H5
section H6
section
variable {prog : Program} {w : World} {A : Around} {E : Value → Shared → Prop} {s : Shared} {h₀ : Heap} {L : Addr} {l : Binds} {n : Ents}
theorem neEmpty {D D2 : Addr} {vs : Array Value} {ep ep2 : Nat} {Q : Value → Shared → Prop} (h1 : s.heap.get? D = some (seqObj "list" vs ep)) (h2 : s.heap.get? D2 = some (seqObj "list" #[] ep2)) (hu : A.units < cLine)
    (t : vs.size = 0 → Q (.bool false) s) (f : vs.size ≠ 0 → Q (.bool true) s) : wpAny (model prog w) A (compareOp .NotEq (.ref D) (.ref D2)) Q E s := by
  by_cases h : vs.size = 0
  · refine SeqAt.RcNeAt.lists (e := fun _ => true) (isList_obj h1) (isList_obj h2) h hu (fun j hj => absurd hj (by exact om61 h hj)) prog w E Q ?_
    rw [h]; exact t h
  · exact SeqAt.RcNeAt.lists_lengths (isList_obj h1) (isList_obj h2) (by simpa using h) hu prog w E Q (f h)
theorem eqEmpty {D D2 : Addr} {vs : Array Value} {ep ep2 : Nat} {Q : Value → Shared → Prop} (h1 : s.heap.get? D = some (seqObj "list" vs ep)) (h2 : s.heap.get? D2 = some (seqObj "list" #[] ep2)) (hu : A.units < cLine)
    (t : vs.size = 0 → Q (.bool true) s) (f : vs.size ≠ 0 → Q (.bool false) s) : wpAny (model prog w) A (compareOp .Eq (.ref D) (.ref D2)) Q E s := by
  by_cases h : vs.size = 0
  · refine SeqAt.RcAt.lists (e := fun _ => true) (isList_obj h1) (isList_obj h2) h hu (fun j hj => absurd hj (by exact om61 h hj)) prog w E Q ?_
    rw [h]; exact t h
  · exact SeqAt.RcAt.lists_lengths (isList_obj h1) (isList_obj h2) (by simpa using h) hu prog w E Q (f h)
theorem Up.cut {h : Heap} {g : Array GenState} {d : Drawn} {t : Nat} {o : OsState} {s' : Shared} (x : Up ⟨h, g, d, t, o⟩ s') : ∃ h' d' t', s' = ⟨h', g, d', t', o⟩ := x
theorem cutTo {env : Env} {value : PySem.Expr} {k : Nat} {j : Int} {p p2 pos : Pos} {x : Str} {t : Tok} {Q : Value → Shared → Prop}
    (hv : wpAny (model prog w) A (eval value env) (fun v s₁ => v = .str x t ∧ s₁ = s) NoE s) (C : Cx h₀ L s.heap l n) (hsz : x.length ≤ sizeLine)
    (h : ∀ h' t' tk, Cx h₀ L h' l n → Q (.str (Txt.slice x none (some j)) t') { s with heap := h', toks := tk }) (ht : ∀ o r, letTemporaryGo value o r = pure () := by intro _ _; rfl) :
    wpAny (model prog w) A (eval (.Subscript value (.Slice none (some (.Constant (.int j) k p)) none p2) pos) env) Q E s := by
  refine wpAny_Subscript_str_slice (liftE (wpAny_mono hv ?_ fun _ _ e => e)) ht
  rintro _ _ ⟨rfl, rfl⟩
  rw [evalPart_none]
  refine wpAny_pure ?_
  show wpAny _ A (eval (.Constant (.int j) k p) env) _ E _
  refine wpAny_Constant_int ⟨x, t, none, some (j, _), rfl, rfl, rfl, ?_⟩
  exact post_val_or_str ⟨Nat.le_trans (Txt.slice_le x _ _) hsz, fun t' k => h _ t' k (C.grow fun _ _ e => Heap.get?_push_of_some _ e)⟩
theorem cutFrom {env : Env} {value : PySem.Expr} {k : Nat} {i : Int} {p p2 pos : Pos} {x : Str} {t : Tok} {Q : Value → Shared → Prop}
    (hv : wpAny (model prog w) A (eval value env) (fun v s₁ => v = .str x t ∧ s₁ = s) NoE s) (C : Cx h₀ L s.heap l n) (hsz : x.length ≤ sizeLine)
    (h : ∀ h' t' tk, Cx h₀ L h' l n → Q (.str (Txt.slice x (some i) none) t') { s with heap := h', toks := tk }) (ht : ∀ o r, letTemporaryGo value o r = pure () := by intro _ _; rfl) :
    wpAny (model prog w) A (eval (.Subscript value (.Slice (some (.Constant (.int i) k p)) none none p2) pos) env) Q E s := by
  refine wpAny_Subscript_str_slice (liftE (wpAny_mono hv ?_ fun _ _ e => e)) ht
  rintro _ _ ⟨rfl, rfl⟩
  show wpAny _ A (eval (.Constant (.int i) k p) env) _ E _
  refine wpAny_Constant_int ?_
  rw [evalPart_none]
  refine wpAny_pure ⟨x, t, some (i, _), none, rfl, rfl, rfl, ?_⟩
  exact post_val_or_str ⟨Nat.le_trans (Txt.slice_le x _ _) hsz, fun t' k => h _ t' k (C.grow fun _ _ e => Heap.get?_push_of_some _ e)⟩
end
noncomputable def dgOf (op : Str) : Str := if Txt.slice op none (some 1) == "-" then Txt.slice op (some 1) none else op
noncomputable def digitc (c : Nat) : Bool := !(Builtin.Str.occurrences "0123456789" ⟨#[c]⟩ 0 ("0123456789" : Str).length 1).isEmpty
noncomputable def isNum (op : Str) : Bool := Nat.blt 0 (dgOf op).cps.size && (dgOf op).cps.toList.all digitc
structure LeafOk (op : Str) (r : Option Int) : Prop where
  sz : op.length ≤ 100
  dz : (dgOf op).cps.size ≤ 100
  num : isNum op = r.isSome
  val : ∀ i, r = some i → PySem.intText? op = some i
noncomputable def leafOk (op : Str) (r : Option Int) : Bool := Nat.ble op.length 100 && Nat.ble (dgOf op).cps.size 100 && (isNum op == r.isSome) && (match r with | some i => PySem.intText? op == some i | none => true)
theorem LeafOk.of {op : Str} {r : Option Int} (h : leafOk op r = true) : LeafOk op r := by
  unfold leafOk at h
  simp only [Bool.and_eq_true, beq_iff_eq] at h
  refine elA h fun Xx1 h4 => ?_
  refine elA Xx1 fun Xx2 h3 => ?_
  refine elA Xx2 fun h1 h2 => ?_
  exact ⟨Nat.le_of_ble_eq_true h1, Nat.le_of_ble_eq_true h2, h3, fun i e => by subst e; exact beq_iff_eq.mp h4⟩
theorem leafs_ok : leafs.all (fun p => leafOk p.1 p.2) = true := by decide +kernel
theorem leaf_ok {op : Str} {r : Option Int} (h : (op, r) ∈ leafs) : LeafOk op r := LeafOk.of (List.all_eq_true.mp leafs_ok _ h)
noncomputable def WIs (v : Value) : Option Int → Prop
  | none => v = .none
  | some i => ∃ t, v = .int i t
section
variable {w : World} {A : Around} {E : Value → Shared → Prop} {s : Shared}
set_option maxHeartbeats 1000000 in
theorem whole_ok {op : Str} {r : Option Int} {t : Tok} {Q : Value → Shared → Prop} (W : Wd w s.heap) (hl : LeafOk op r) (hroom : A.depth < recursionLimit) (hh : A.handled = none) (hu : A.units + 100 < cLine)
    (post : ∀ v s', Ext s s' → WIs v r → Q v s') :
    wpAny (model PySem.Challenge.pw_pq0072_01 w) A (call (.ref 26) [.str op t]) Q E s := by
  refine enterC (n := []) W (Own.nil _) (x := dfn 2) rfl k_26 c_26 hroom (binds := [("op", .str op t)]) rfl (locs rfl) (by decide) fun L h₁ W' C => ?_
  change Cx s.heap L h₁ [("op", .str op t)] [] at C
  change Wd w s.heap at W'
  have hsz : op.length ≤ sizeLine := by have := hl.sz; rw [sizeLine_eq]; exact ll
  have hdz := hl.dz
  iterate 2 walk1
  refine wpAny_mono (Q := fun v s' => ∃ h' t' tk, v = .str (dgOf op) t' ∧ s' = { s with heap := h', toks := tk } ∧ Cx s.heap L h' [("op", .str op t)] []) ?_ ?_ (fun _ _ e => e)
  · walk_at "m go"
    refine cutTo (x := op) (t := t) (ldC C rfl ⟨rfl, rfl⟩) C hsz fun h2 t2 tk2 C2 => ?_
    walk_at "m go"
    refine SeqAt.RcAt.str_str _ _ _ _ _ _ _ _ ?_
    by_cases hd : (Txt.slice op none (some 1) == "-") = true
    · rw [hd]
      walk_at "m go"
      refine cutFrom (x := op) (t := t) (ldC C2 rfl ⟨rfl, rfl⟩) C2 hsz fun h3 t3 tk3 C3 => ?_
      exact ⟨h3, t3, tk3, by unfold dgOf; rw [if_pos hd], rfl, C3⟩
    · rw [Bool.not_eq_true] at hd
      rw [hd]
      walk_at "m go"
      exact ⟨_, t, _, by unfold dgOf; rw [hd]; rfl, rfl, C2⟩
  rintro _ _ ⟨h2, t2, tk2, rfl, rfl, C2⟩
  clear C
  walk_at "m go"
  rename_i h3 C3
  refine len_str (by show ¬ ((dgOf op).cps.size : Int) ≥ 2 ^ 63; exact om76 hdz) ?_
  have hdl : ((dgOf op).length : Int) = ((dgOf op).cps.size : Nat) := rfl
  rw [hdl]
  by_cases h0 : (dgOf op).cps.size = 0
  · rw [h0]
    walk1
    walk_at "m go"
    have hr : r = none := by
      have := hl.num
      rw [show isNum op = false by unfold isNum; rw [h0]; rfl] at this
      cases r with | none => rfl | some i => cases this
    exact post _ _ (Ext.mk C3.keep) (by rw [hr]; rfl)
  · iterate 2 walk1
    rw [if_pos (decide_eq_true (by exact om209 hdz hdl h0))]
    walk_at "m go"
    iterate 2 walk1
    rw [decide_eq_true (by exact om178 hdz hdl)]
    walk_at "m go"
    refine compX (L := L) (h₀ := s.heap) (cl := []) ?_
    walk1
    refine ⟨fun i ys n => ys.size = (((dgOf op).cps.toList.take i).filter fun c => !digitc c).length ∧ n = [], [], _, _, _, [], Up.mk, C3.grow (fun _ _ e => e), Apart.nil, it_str hh, by exact lt_, ⟨rfl, rfl⟩, ?_, ?_⟩
    · rintro j v ys g Cl n ⟨hI, rfl⟩ h5 d5 tk5 hj hys ⟨c, u, hc, rfl⟩ kg C5
      have ht : (dgOf op).cps.toList.take (j + 1) = (dgOf op).cps.toList.take j ++ [c] := by rw [List.take_add_one]; simp [hc]
      refine wpAny_tests_one ?_
      walk_at "m go"
      refine notIn_str ?_
      by_cases hd : digitc c = true
      · have e : (Builtin.Str.occurrences "0123456789" ⟨#[c]⟩ 0 ("0123456789" : Str).length 1).isEmpty = false := by simpa [digitc] using hd
        rw [e]
        walk_at "m go"
        refine Hold.mk ?_
        rw [if_neg (by walk_at "m sm")]
        exact ⟨Up.mk, _, _, C5.grow (fun _ _ e => e), by rw [ht, List.filter_append, hI]; simp [hd], rfl⟩
      · have e : (Builtin.Str.occurrences "0123456789" ⟨#[c]⟩ 0 ("0123456789" : Str).length 1).isEmpty = true := by simpa [digitc] using hd
        rw [e]
        walk_at "m go"
        refine Hold.mk ?_
        rw [if_pos (by walk_at "m sm")]
        walk_at "m go"
        try refine hQ _ _ ?_
        exact ⟨Up.mk, _, _, C5.grow (fun _ _ e => e), by rw [ht, List.filter_append, Array.size_push, hI]; simp [hd], rfl⟩
    · rintro D ys ep n ⟨hI, rfl⟩ - h5 d5 tk5 K
      have hD : List.lookup D [(D, seqObj "list" ys ep)] = some (seqObj "list" ys ep) := by simp
      rw [show (dgOf op).cps.toList.take (dgOf op).cps.size = (dgOf op).cps.toList from by rw [← Array.length_toList]; exact List.take_length] at hI
      walk_at "m go"
      refine newListR (vs := []) K (Nat.zero_le _) fun D2 n6 h6 C6 N6 => ?_
      refine neEmpty (C6.lk (N6.le _ _ hD)) (C6.lk N6.self) (by show A.units + 3 < cLine; exact rm1) (fun hz => ?_) fun hz => ?_
      · have hn : isNum op = true := by
          unfold isNum
          rw [Bool.and_eq_true]
          refine ⟨Nat.ble_eq.mpr (by exact om206 hdz hdl h0), List.all_eq_true.mpr fun c hc => ?_⟩
          have hf := List.length_eq_zero_iff.mp (hI.symm.trans hz)
          have := List.filter_eq_nil_iff.mp hf c hc
          simpa using this
        refine elE (Option.isSome_iff_exists.mp (hl.num.symm.trans hn)) fun i hi => ?_
        walk_at "m go"
        refine KIN.call_text (hl.val i hi) (by have := hl.sz; exact ll) ?_
        exact post _ _ (Ext.mk C6.keep) (by rw [hi]; exact ⟨_, rfl⟩)
      · have hn : isNum op = false := by
          cases q : isNum op with
          | false => rfl
          | true =>
            unfold isNum at q
            rw [Bool.and_eq_true] at q
            have : ((dgOf op).cps.toList.filter fun c => !digitc c) = [] := List.filter_eq_nil_iff.mpr fun c hc => by simp [List.all_eq_true.mp q.2 c hc]
            rw [this] at hI
            exact absurd hI hz
        have hr : r = none := by
          have := hl.num
          rw [hn] at this
          cases r with | none => rfl | some i => cases this
        walk_at "m go"
        exact post _ _ (Ext.mk C6.keep) (by rw [hr]; rfl)
end
end H6
section H6b
noncomputable abbrev pairO (a : Str) (t : Tok) (i : Int) (u : Tok) (ep : Nat) : Obj := seqObj "tuple" #[.str a t, .int i u] ep
section
variable {prog : Program} {w : World} {A : Around} {E : Value → Shared → Prop} {s : Shared} {h₀ : Heap} {L : Addr} {l : Binds} {n : Ents} {env : Env}
theorem pairE {a : Str} {i : Int} {k1 k2 k : Nat} {p1 p2 p : Pos} {Q : Value → Shared → Prop} (C : Cx h₀ L s.heap l n)
    (h : ∀ T n' h' tk t u, Cx h₀ L h' l n' → New n n' T (pairO a t i u 0) → Q (.ref T) { s with heap := h', toks := tk }) :
    wpAny (model prog w) A (eval (.Tuple [.Constant (.str a) k1 p1, .Constant (.int i) k2 p2] k p) env) Q E s := by
  walk_at "m go"
  exact newTupleR (M := model prog w) C (by simp [sizeLine_eq]) fun T n2 h2 C2 N2 => h T n2 h2 _ _ _ C2 N2
theorem pairEq {T T1 : Addr} {a b : Str} {t u t1 u1 ep ep1 : Nat} {i k : Int} (h1 : s.heap.get? T1 = some (pairO a t1 i u1 ep1)) (h2 : s.heap.get? T = some (pairO b t k u ep)) (ne : T1 ≠ T) (hu : A.units + 10 < cLine) :
    SeqAt.EqAt A s (.ref T1) (.ref T) (a == b && i == k) := by
  have := SeqAt.RcAt.tuples (A := A) (e := fun j => if j = 0 then a == b else i == k) (isTup_obj h1) (isTup_obj h2) (by exact rm0) (fun j hj1 hj2 => by
    match j, hj1, hj2 with
    | 0, _, _ => exact SeqAt.EqAt.str_str a t1 b t
    | 1, _, _ => exact SeqAt.EqAt.int_int i u1 k u
    | n + 2, h, _ => exact absurd h (by show ¬ n + 2 < 2; exact om5))
  refine SeqAt.EqAt.of_refs ne ?_
  simpa [List.range_succ] using this
theorem opsEq {T T1 T2 T3 : Addr} {op : Str} {k : Nat} {t u e0 t1 u1 e1 t2 u2 e2 t3 u3 e3 : Nat} (h0 : s.heap.get? T = some (pairO op t (k : Nat) u e0)) (h1 : s.heap.get? T1 = some (pairO "add" t1 2 u1 e1)) (h2 : s.heap.get? T2 = some (pairO "mul" t2 2 u2 e2)) (h3 : s.heap.get? T3 = some (pairO "neg" t3 1 u3 e3))
    (nd : [T1, T2, T3, T].Nodup) (hu : A.units + 10 < cLine) : ∃ e : Value → Bool, (∀ y, y ∈ #[Value.ref T1, .ref T2, .ref T3] → SeqAt.EqAt A s y (.ref T) (e y)) ∧ (#[Value.ref T1, .ref T2, .ref T3].any e) = opsOk op k := by
  simp only [List.nodup_cons, List.mem_cons, List.not_mem_nil, or_false, not_or] at nd
  refine ⟨fun y => if y = .ref T1 then (("add" : Str) == op && (2 : Int) == (k : Nat)) else if y = .ref T2 then (("mul" : Str) == op && (2 : Int) == (k : Nat)) else (("neg" : Str) == op && (1 : Int) == (k : Nat)), fun y hy => ?_, ?_⟩
  · simp only [List.mem_toArray, List.mem_cons, List.not_mem_nil, or_false] at hy
    rcases hy with rfl | rfl | rfl
    · show SeqAt.EqAt A s _ _ (if _ then _ else _)
      rw [if_pos rfl]; exact pairEq h1 h0 nd.1.2.2 hu
    · show SeqAt.EqAt A s _ _ (if _ then _ else if _ then _ else _)
      rw [if_neg (fun q => nd.1.1 (Value.ref.inj q).symm), if_pos rfl]; exact pairEq h2 h0 nd.2.1.2 hu
    · show SeqAt.EqAt A s _ _ (if _ then _ else if _ then _ else _)
      rw [if_neg (fun q => nd.1.2.1 (Value.ref.inj q).symm), if_neg (fun q => nd.2.1.1 (Value.ref.inj q).symm)]; exact pairEq h3 h0 nd.2.2.1 hu
  · have c2 : ((2 : Int) == (k : Nat)) = (k == 2) := by
      rw [Bool.eq_iff_iff]; simp; exact om30
    have c1 : ((1 : Int) == (k : Nat)) = (k == 1) := by
      rw [Bool.eq_iff_iff]; simp; exact om29
    have s1 : (Value.ref T2 = Value.ref T1) = False := eq_false fun q => nd.1.1 (Value.ref.inj q).symm
    have s2 : (Value.ref T3 = Value.ref T1) = False := eq_false fun q => nd.1.2.1 (Value.ref.inj q).symm
    have s3 : (Value.ref T3 = Value.ref T2) = False := eq_false fun q => nd.2.1.1 (Value.ref.inj q).symm
    have cm : ∀ a : Str, (a == op) = (op == a) := fun a => Bool.beq_comm
    show ([Value.ref T1, .ref T2, .ref T3].toArray.any _) = _
    rw [List.any_toArray]
    simp only [List.any_cons, List.any_nil, Bool.or_false, s1, s2, s3, if_true, if_false, c1, c2, cm]
    unfold opsOk
    rw [Bool.or_assoc]
theorem opsNotIn {T : Addr} {op : Str} {k : Nat} {t u : Tok} {k1 k2 k3 k4 k5 k6 k7 k8 k9 k10 : Nat} {p1 p2 p3 p4 p5 p6 p7 p8 p9 p10 : Pos} {Q : Value → Shared → Prop} (C : Cx h₀ L s.heap l n) (hT : n.lookup T = some (pairO op t (k : Nat) u 0)) (hu : A.units + 20 < cLine)
    (h : ∀ h' n' tk, Cx h₀ L h' l n' → (∀ b p, n.lookup b = some p → n'.lookup b = some p) → Q (.bool (!opsOk op k)) { s with heap := h', toks := tk }) :
    wpAny (model prog w) A (eval (.Tuple [.Tuple [.Constant (.str "add") k1 p1, .Constant (.int 2) k2 p2] k3 p3, .Tuple [.Constant (.str "mul") k4 p4, .Constant (.int 2) k5 p5] k6 p6, .Tuple [.Constant (.str "neg") k7 p7, .Constant (.int 1) k8 p8] k9 p9] k10 p10) env)
      (fun b s₁ => wpAny (model prog w) A (compareOp .NotIn (.ref T) b) Q E s₁) E s := by
  iterate 2 walk1
  refine pairE C fun T1 n1 h1 tk1 t1 u1 C1 N1 => ?_
  walk1
  refine pairE C1 fun T2 n2 h2 tk2 t2 u2 C2 N2 => ?_
  walk1
  refine pairE C2 fun T3 n3 h3 tk3 t3 u3 C3 N3 => ?_
  walk1
  refine newTupleR C3 (by simp [sizeLine_eq]) fun D n4 h4 C4 N4 => ?_
  have q0 := N3.le _ _ (N2.le _ _ (N1.le _ _ hT))
  have q1 := N3.le _ _ (N2.le _ _ N1.self)
  have q2 := N3.le _ _ N2.self
  obtain ⟨e, he, hany⟩ := opsEq (A := A.in1) (s := { s with heap := h4, toks := tk3 }) (C4.lk (N4.le _ _ q0)) (C4.lk (N4.le _ _ q1)) (C4.lk (N4.le _ _ q2)) (C4.lk (N4.le _ _ N3.self)) (by
    simp only [List.nodup_cons, List.mem_cons, List.not_mem_nil, or_false, not_or]
    exact ⟨⟨N2.ne _ _ N1.self, N3.ne _ _ (N2.le _ _ N1.self), Ne.symm (N1.ne _ _ hT)⟩, ⟨N3.ne _ _ N2.self, Ne.symm (N2.ne _ _ (N1.le _ _ hT))⟩, Ne.symm (N3.ne _ _ (N2.le _ _ (N1.le _ _ hT))), fun q => q, .nil⟩) (by show A.units + 1 + 10 < cLine; exact rm2)
  refine SeqAt.notIn_tupleAt e (isTup_obj (C4.lk N4.self)) he ?_
  rw [hany]
  exact h _ n4 _ C4 fun b p e => N4.le _ _ (N3.le _ _ (N2.le _ _ (N1.le _ _ e)))
end
end H6b
section H7
noncomputable def OpFor (op : Str) (k : Nat) : Prop := (k = 0 → (op, (leafs.lookup op).getD none) ∈ leafs) ∧ op.length ≤ 100
theorem reck_none {n : Nat} {op : Str} {xs : List Va} (h : none ∈ xs ∨ xs ≠ [] ∧ opsOk op xs.length = false) : reck n op xs = none := by
  cases xs with
  | nil => rcases h with h | h; cases h; exact absurd rfl h.1
  | cons a r => unfold reck; exact if_pos (h.imp id fun h => h.2)
theorem reck_clash {n : Nat} {op : Str} {xs : List Va} (h0 : xs.length ≠ 0) (h1 : none ∉ xs) (h2 : opsOk op xs.length = true) (h3 : some none ∈ xs) : reck n op xs = some none := by
  cases xs with
  | nil => exact absurd rfl h0
  | cons a r => unfold reck; dsimp only; rw [if_neg (by rw [h2]; simpa using h1), if_pos h3]
theorem reck_num {n : Nat} {op : Str} {xs : List Va} (h0 : xs.length ≠ 0) (h1 : none ∉ xs) (h2 : opsOk op xs.length = true) (h3 : some none ∉ xs) : reck n op xs = some (some (if op == "neg" then (n - numOf (xs.headD none)) % n else if op == "add" then (numOf (xs.headD none) + numOf (xs.tail.headD none)) % n else numOf (xs.headD none) * numOf (xs.tail.headD none) % n)) := by
  cases xs with
  | nil => exact absurd rfl h0
  | cons a r =>
    unfold reck; dsimp only
    rw [if_neg (by rw [h2]; simpa using h1), if_neg h3]
    split
    · rfl
    · split <;> rfl
theorem neg_mod {a n : Nat} (h : a ≤ n) : ((-(a : Int)) % (n : Int)).toNat = (n - a) % n := by
  have : (-(a : Int)) % (n : Int) = (((n - a) % n : Nat) : Int) := by
    rw [Int.natCast_emod, Int.ofNat_sub h, ← Int.add_emod_left (n : Int) (-(a : Int))]
    congr 1
  rw [this]; rfl
section
variable {w : World} {A : Around} {E : Value → Shared → Prop} {s : Shared}
set_option maxHeartbeats 1000000 in
theorem of_node_ok {X D : Addr} {op : Str} {n : Nat} {t u : Tok} {vs : List Value} {xs : List Va} {ep : Nat} {Q : Value → Shared → Prop} (W : Wd w s.heap) (I : Inst s.heap X 57 [("n", .int (n : Nat) u)]) (hD : s.heap.get? D = some (lst vs ep)) (hv : Vls vs xs)
    (hop : OpFor op xs.length) (hn : 0 < n) (hn1 : n ≤ 100) (hb : ∀ k, some (some k) ∈ xs → k < n) (h4 : xs.length ≤ 4) (hroom : A.depth + 10 < recursionLimit) (hh : A.handled = none) (hu : A.units + 200 < cLine)
    (post : ∀ v s', Ext s s' → VIs v (reck n op xs) → Q v s') :
    wpAny (model PySem.Challenge.pw_pq0072_01 w) A (call (.ref 47) [.ref X, .str op t, .ref D]) Q E s := by
  have hl := hv.length
  refine enterC (n := []) W (Own.nil _) (x := mth 3 1) rfl k_47 c_47 (by exact rm0) (binds := [("self", .ref X), ("op", .str op t), ("values", .ref D)]) rfl (locs rfl) (by decide) fun L h₁ W' C => ?_
  change Cx s.heap L h₁ [("values", .ref D), ("op", .str op t), ("self", .ref X)] [] at C
  change Wd w s.heap at W'
  walk_at "m go"
  refine lenL (C.keep _ _ hD) (by simp; exact ell) fun t1 tk1 => ?_
  walk_at "m go"
  by_cases h0 : xs.length = 0
  · obtain rfl : xs = [] := List.length_eq_zero_iff.mp h0
    obtain rfl : vs = [] := by cases hv; rfl
    walk1
    walk_at "m go"
    refine whole_ok (W'.keeps C.keep) (leaf_ok (hop.1 rfl)) (by show A.depth + 1 < recursionLimit; exact rm1) hh (by show A.units + 3 + 100 < cLine; exact rm2) fun v s2 X2 => X2.go fun h2 d2 tk2 k2 hv2 => ?_
    have C2 := C.grow k2
    walk_at "m go"
    have hrk : ∀ r, (leafs.lookup op).getD none = r → reck n op [] = r.map fun i => some (i % (n : Int)).toNat := fun r e => by unfold reck; rw [e]
    generalize hr : (leafs.lookup op).getD none = r at hv2
    cases r with
    | none =>
      cases hv2
      refine wpAny_is_self rfl ?_
      walk_at "m go"
      refine post _ _ (Ext.mk (Cx.keep (by assumption))) ?_
      rw [hrk _ hr]; rfl
    | some i =>
      refine elE hv2 fun t3 Xx1 => ?_
      obtain rfl := Xx1
      refine is_int_none ?_
      walk_at "m go"
      refine mod_int (by exact om110 hn hn1) ?_
      walk_at "m go"
      refine post _ _ (Ext.mk (Cx.keep (by assumption))) ?_
      rw [hrk _ hr]
      exact ⟨_, by rw [Int.fmod_eq_emod_of_nonneg _ (by exact z_), Int.toNat_of_nonneg (Int.emod_nonneg _ (by exact om110 hn hn1))]⟩
  · have h0' : xs.length ≠ 0 := h0
    iterate 3 walk1
    · rename_i h
      exact absurd (show vs.length = 0 by simp at h; rw [h]; rfl) (by exact om98 hl h0')
    walk_at "m go"
    refine inV (C.keep _ _ hD) hv (x := none) (by exact rfl) ?_
    by_cases hno : none ∈ xs
    · rw [decide_eq_true hno]
      walk_at "m go"
      refine post _ _ (Ext.mk C.keep) ?_
      rw [reck_none (.inl hno)]; rfl
    · rw [decide_eq_false hno]
      walk_at "m go"
      refine lenL (C.keep _ _ hD) (by simp; exact ell) fun t2 tk2 => ?_
      walk_at "m go"
      refine newTupleR C (by simp [sizeLine_eq]) fun T n2 h2 C2 N2 => ?_
      have hT := N2.self
      rw [show ([Value.str op t, Value.int (vs.toArray.size : Nat) t2].toArray : Array Value) = #[.str op t, .int (xs.length : Nat) t2] by simp [hl]] at hT
      refine opsNotIn C2 hT (by show A.units + 3 + 20 < cLine; exact rm2) fun h3 n3 tk3 C3 le3 => ?_
      cases hok : opsOk op xs.length with
      | false =>
        walk_at "m go"
        refine post _ _ (Ext.mk C3.keep) ?_
        rw [reck_none (.inr ⟨fun q => h0' (by rw [q]; rfl), hok⟩)]; rfl
      | true =>
        walk_at "m go"
        refine inV (C3.keep _ _ hD) hv (x := some none) ⟨_, rfl⟩ ?_
        by_cases hcl : some none ∈ xs
        · rw [decide_eq_true hcl]
          walk_at "m go"
          refine post _ _ (Ext.mk C3.keep) ?_
          rw [reck_clash h0' hno hok hcl]; exact ⟨_, rfl⟩
        · rw [decide_eq_false hcl]
          walk_at "m go"
          refine SeqAt.RcAt.str_str _ _ _ _ _ _ _ _ ?_
          have hnum : ∀ (i : Nat), i < xs.length → ∃ (k : Nat) (tk : Tok), vs[i]? = some (.int (k : Nat) tk) ∧ xs[i]? = some (some (some k)) := fun i hi => by
            refine elEA (hv.get (List.getElem?_eq_getElem hi)) fun v hv1 hv2 => ?_
            have hm : xs[i] ∈ xs := List.getElem_mem hi
            generalize hx : xs[i] = x at hv2 hm
            rcases x with _ | _ | k
            · exact absurd hm hno
            · exact absurd hm hcl
            · refine elE hv2 fun tk Xx2 => ?_
              obtain rfl := Xx2
              exact ⟨k, tk, hv1, by rw [List.getElem?_eq_getElem hi, hx]⟩
          refine elEEA (hnum 0 (by omega)) fun a ta hva hxa => ?_
          have hD3 : h3.get? D = some (seqObj "list" vs.toArray ep) := C3.keep _ _ hD
          have ha := hb a (List.mem_of_getElem? hxa)
          have hhd : numOf (xs.headD none) = a := by
            cases xs with
            | nil => exact absurd rfl h0'
            | cons x r => obtain rfl : x = some (some a) := by simpa using hxa
                          rfl
          have hfm : ∀ i : Int, i.fmod (n : Int) = ((i % (n : Int)).toNat : Nat) := fun i => by rw [Int.fmod_eq_emod_of_nonneg _ (by exact z_), Int.toNat_of_nonneg (Int.emod_nonneg _ (by exact om110 hn hn1))]
          have hrk := reck_num (n := n) (op := op) h0' hno hok hcl
          rw [hhd] at hrk
          cases hng : op == "neg" with
          | true =>
            rw [hng, if_pos rfl] at hrk
            walk_at "m go"
            refine itemO hD3 (k := 0) (by simpa using hva) (by exact tlt) ?_
            walk_at "m go"
            refine mod_int (by exact om110 hn hn1) ?_
            refine post _ _ (Ext.mk C3.keep) ?_
            rw [hrk, hfm, neg_mod (Nat.le_of_lt ha)]
            exact ⟨_, rfl⟩
          | false =>
            walk_at "m go"
            refine SeqAt.RcAt.str_str _ _ _ _ _ _ _ _ ?_
            rw [hng, if_neg (by walk_at "m sm")] at hrk
            obtain ⟨b, tb, hvb, hxb⟩ := hnum 1 (by
              unfold opsOk at hok
              rw [hng] at hok
              simp at hok; omega)
            have htl : numOf (xs.tail.headD none) = b := by
              cases xs with
              | nil => exact absurd rfl h0'
              | cons x r => cases r with
                | nil => simp at hxb
                | cons y r => obtain rfl : y = some (some b) := by simpa using hxb
                              rfl
            rw [htl] at hrk
            have hbb := hb b (List.mem_of_getElem? hxb)
            cases had : op == "add" with
            | true =>
              rw [had, if_pos rfl] at hrk
              walk_at "m go"
              refine itemO hD3 (k := 0) (by simpa using hva) (by exact tlt) ?_
              walk_at "m go"
              refine itemO hD3 (k := 1) (by simpa using hvb) (by decide) ?_
              walk1
              walk_at "m go"
              refine mod_int (by exact om110 hn hn1) ?_
              refine post _ _ (Ext.mk C3.keep) ?_
              rw [hrk, hfm]
              exact ⟨_, rfl⟩
            | false =>
              rw [had, if_neg (by walk_at "m sm")] at hrk
              walk_at "m go"
              refine itemO hD3 (k := 0) (by simpa using hva) (by exact tlt) ?_
              walk_at "m go"
              refine itemO hD3 (k := 1) (by simpa using hvb) (by decide) ?_
              refine mul_int ?_ ?_
              walk_at "m go"
              refine mod_int (by exact om110 hn hn1) ?_
              refine post _ _ (Ext.mk C3.keep) ?_
              rw [hrk, hfm]
              exact ⟨_, rfl⟩
              exact IntMulOk.of_left (intBits_le_64 (by exact om88 hhd) (by exact om208 hn hn1 ha hhd))
end
end H7
section P6
open PySem
structure HS.Reck (σ : HS) (n : Nat) (m : Nat → Va) (a : Nat) (x : Va) : Prop where
  own : vle (m a) x
  node : ∀ i, i < σ.N → root σ.U.ps i = root σ.U.ps a → vle (σ.fv n m i) x
  least : ∀ z, vle (m a) z → (∀ i, i < σ.N → root σ.U.ps i = root σ.U.ps a → vle (σ.fv n m i) z) → vle x z
  small : (∀ c k, m c = some (some k) → k < n) → 0 < n → ∀ k, x = some (some k) → k < n
theorem reck_small {n : Nat} {op : Str} {xs : List Va} {k : Nat} (hn : 0 < n) (h : reck n op xs = some (some k)) : k < n := by
  unfold reck at h
  split at h
  · refine elEA (Option.map_eq_some_iff.mp h) fun i hi e => ?_
    obtain rfl : (i % (n : Int)).toNat = k := by simpa using e
    have h1 := Int.emod_nonneg i (b := (n : Int)) (by exact om48 hn)
    have h2 := Int.emod_lt_of_pos i (b := (n : Int)) (by exact om38 hn)
    omega
  · split at h
    · cases h
    · split at h
      · cases h
      · split at h
        · obtain rfl := Option.some.inj (Option.some.inj h); exact Nat.mod_lt _ hn
        · split at h
          · obtain rfl := Option.some.inj (Option.some.inj h); exact Nat.mod_lt _ hn
          · obtain rfl := Option.some.inj (Option.some.inj h); exact Nat.mod_lt _ hn
theorem vj_small {n : Nat} {a b : Va} (ha : ∀ k, a = some (some k) → k < n) (hb : ∀ k, b = some (some k) → k < n) : ∀ k, vj a b = some (some k) → k < n := by
  intro k h
  unfold vj at h
  split at h
  · exact hb k h
  · split at h
    · exact ha k h
    · cases h
theorem foldl_vj {l : List Va} : ∀ {a : Va}, vle a (l.foldl vj a) ∧ (∀ x ∈ l, vle x (l.foldl vj a)) ∧ ∀ z, vle a z → (∀ x ∈ l, vle x z) → vle (l.foldl vj a) z := by
  induction l with
  | nil => exact fun {a} => ⟨vle.refl _, (fun _ h => nomatch h), fun z h _ => h⟩
  | cons y l ih =>
    intro a
    refine elAA (@ih (vj a y)) fun h1 h2 h3 => ?_
    refine ⟨(vle_left a y).trans h1, fun x hx => ?_, fun z ha hl => h3 z (vle_lub ha (hl y (.head _))) fun x hx => hl x (.tail _ hx)⟩
    rcases List.mem_cons.mp hx with rfl | hx
    · exact (vle_right a x).trans h1
    · exact h2 x hx
theorem foldl_small {n : Nat} {l : List Va} : ∀ {a : Va}, (∀ k, a = some (some k) → k < n) → (∀ x ∈ l, ∀ k, x = some (some k) → k < n) → ∀ k, l.foldl vj a = some (some k) → k < n := by
  induction l with
  | nil => exact fun h _ => h
  | cons y l ih => exact fun ha hl => ih (vj_small ha (hl y (.head _))) fun x hx => hl x (.tail _ hx)
theorem HS.Reck.of {σ : HS} {n a : Nat} {m : Nat → Va} {mds : List (Str × List Nat)} (h : ∀ y, y ∈ mds ↔ ∃ i, i < σ.N ∧ root σ.U.ps i = root σ.U.ps a ∧ y = σ.tup i) :
    σ.Reck n m a ((mds.map fun nd => reck n nd.1 (nd.2.map m)).foldl vj (m a)) := by
  refine elAA (@foldl_vj (mds.map fun nd => reck n nd.1 (nd.2.map m)) (m a)) fun h1 h2 h3 => ?_
  refine ⟨h1, fun i hi hr => h2 _ (List.mem_map.mpr ⟨_, (h _).mpr ⟨i, hi, hr, rfl⟩, rfl⟩), fun z hz hl => h3 z hz fun x hx => ?_, fun hs hn => foldl_small (hs a) fun x hx k e => ?_⟩
  · obtain ⟨nd, hnd, rfl⟩ := List.mem_map.mp hx
    obtain ⟨i, hi, hr, rfl⟩ := (h nd).mp hnd
    exact hl i hi hr
  · obtain ⟨nd, _, rfl⟩ := List.mem_map.mp hx
    exact reck_small hn e
noncomputable def HS.Ops (σ : HS) : Prop := ∀ nd ∈ σ.nodes, OpFor nd.1 nd.2.length
end P6
section J1
noncomputable abbrev kfs (hp an vd td : Addr) : Binds := [("heap", .ref hp), ("analysis", .ref an), ("values", .ref vd), ("told", .ref td)]
noncomputable def Small (n : Nat) (m : List (Nat × Va)) : Prop := ∀ c k, vget m c = some (some k) → k < n
theorem KV.h {w : World} {h₀ h : Heap} {L : Addr} {l : Binds} {n : Ents} {d : Addr} {m : List (Nat × Va)} (C : Cx h₀ L h l n) (V : KV w (n.lookup ·) d m) : KV w h.get? d m := V.mono fun _ e => C.lk e
section
variable {w : World} {A : Around} {E : Value → Shared → Prop} {s : Shared}
set_option maxHeartbeats 1000000 in
theorem value_ok {σ : HS} {kx an vd td : Addr} {a : Nat} {t : Tok} {m : List (Nat × Va)} {Q : Value → Shared → Prop} (W : Wd w s.heap) (I : σ.Ins s.heap) (J : Inst s.heap kx 114 (kfs σ.hp an vd td)) (V : KV w s.heap.get? vd m) (U : σ.U.On s.heap.get?) (O : σ.U.Ok) (ha : a < σ.U.ps.length) (hroom : A.depth + 20 < recursionLimit)
    (post : ∀ v s', Ext s s' → VIs v (vget m (root σ.U.ps a)) → Q v s') :
    wpAny (model PySem.Challenge.pw_pq0072_01 w) A (call (.ref 82) [.ref kx, .int (a : Nat) t]) Q E s := by
  have I1 := I.hp
  refine enterC (n := []) W (Own.nil _) (x := mth 4 1) rfl k_82 c_82 (by exact rm0) (binds := [("self", .ref kx), ("c", .int a t)]) rfl (locs rfl) (by decide) fun L h₁ W' C => ?_
  change Cx s.heap L h₁ [("c", .int a t), ("self", .ref kx)] [] at C
  change Wd w s.heap at W'
  iterate 4 walk1
  refine kvGm (V.mono fun _ e => C.keep _ _ e) ?_
  walk_at "m go"
  refine hfind_ok (W'.keeps C.keep) (I.keeps C.keep) (U.wider C.keep) O ha (by show A.depth + 1 + 10 < recursionLimit; exact rm2) fun s2 t2 X2 => X2.go fun h2 d2 tk2 k2 => ?_
  have C2 := C.grow k2
  walk_at "m go"
  refine kvGet (V.mono fun _ e => C2.keep _ _ e) fun v tk3 hv => ?_
  exact post v _ (Ext.mk C2.keep) hv
end
end J1
section J2
section
variable {w : World} {A : Around} {E : Value → Shared → Prop} {s : Shared}
set_option maxHeartbeats 1000000 in
theorem clashes_ok {σ : HS} {kx an vd td : Addr} {m : List (Nat × Va)} {Q : Value → Shared → Prop} (W : Wd w s.heap) (I : σ.Ins s.heap) (J : Inst s.heap kx 114 (kfs σ.hp an vd td)) (V : KV w s.heap.get? vd m) (U : σ.U.On s.heap.get?) (O : σ.U.Ok) (hroom : A.depth + 30 < recursionLimit) (hh : A.handled = none)
    (post : ∀ D vs ep s', Ext s s' → s.heap.get? D = none → s'.heap.get? D = some (seqObj "list" vs ep) → Nums vs.toList ((roots σ.U.ps).filter fun c => decide (vget m c = some none)) → Q (.ref D) s') :
    wpAny (model PySem.Challenge.pw_pq0072_01 w) A (call (.ref 104) [.ref kx]) Q E s := by
  have I1 := I.hp
  refine enterK (n := []) W (Own.nil _) (x := mth 4 5) rfl k_104 c_104 (by exact rm0) (binds := [("self", .ref kx)]) (l := []) rfl ⟨.inr ⟨rfl, rfl⟩, trivial⟩ (by decide) (List.forall_mem_nil _) (fun L h₁ tk cells W' X C => ?_) (fun L => show ([L + 1] : List Addr).Nodup by walk_at "m sm")
  refine elEA X.one fun o Xx1 ho => ?_
  obtain rfl := Xx1
  change o.data = .cell (some (.ref kx)) at ho
  change Cx s.heap L h₁ [] [(L + 1, o)] at C
  change Wd w s.heap at W'
  have hc : ([(L + 1, o)] : Ents).lookup (L + 1) = some o := by simp
  walk_at "m go"
  refine compX (L := L) (h₀ := s.heap) (cl := [(Str.ofString "self", L + 1)]) ?_
  walk_at "m go"
  refine hclasses_ok (W'.keeps C.keep) (I.keeps C.keep) (U.wider C.keep) O (by show A.depth + 1 + 20 < recursionLimit; exact rm2) hh fun D vs ep s2 X2 => X2.go fun h2 d2 tk2 k2 hD hDo hN => ?_
  have ap := Apart.fresh C hD
  have C2 := C.grow k2
  clear C
  have hvl := hN.length
  have hr20 : (roots σ.U.ps).length ≤ 20 := Nat.le_trans (Nat.le_trans (List.length_filter_le _ _) (by rw [List.length_range]; exact Nat.le_refl _)) O.sz
  refine ⟨fun i ys n => n = [(L + 1, o)] ∧ Nums ys.toList (((roots σ.U.ps).take i).filter fun c => decide (vget m c = some none)), [D], _, _, _, [(L + 1, o)], Up.mk, C2, ap, it_list hh (isList_obj hDo), by rw [Array.length_toList] at hvl; exact elt, ⟨rfl, .nil⟩, ?_, ?_⟩
  · rintro j v ys g Cl n ⟨rfl, hI⟩ h5 d5 tk5 hj hys hP kg C5
    have Wg := W'.keeps kg
    have I1g := I1.keeps kg
    have Jg := J.keeps kg
    refine elEAE (hN.get1 (by simpa using hP)) fun x hx t5 Xx2 => ?_
    obtain rfl := Xx2
    have ht : (roots σ.U.ps).take (j + 1) = (roots σ.U.ps).take j ++ [x] := by rw [List.take_add_one, hx]; simp
    refine wpAny_tests_one ?_
    iterate 3 walk1
    refine kvGm (V.mono fun _ e => C5.keep _ _ (kg _ _ e)) ?_
    walk_at "m go"
    refine kvGet (V.mono fun _ e => C5.keep _ _ (kg _ _ e)) fun v tk6 hv => ?_
    walk_at "m go"
    refine eqV2 hv (y := some none) ⟨_, rfl⟩ (fun hy => ?_) fun hy => ?_
    · walk_at "m go"
      refine Hold.mk ?_
      rw [if_pos rfl]
      walk_at "m go"
      try refine hQ _ _ ?_
      refine ⟨Up.mk, _, _, C5.grow (fun _ _ e => e), rfl, ?_⟩
      rw [ht, List.filter_append, List.filter_cons_of_pos (by simpa using hy)]
      exact nums_snoc hI
    · walk_at "m go"
      refine Hold.mk ?_
      rw [if_neg (by walk_at "m sm")]
      refine ⟨Up.mk, _, _, C5.grow (fun _ _ e => e), rfl, ?_⟩
      rw [ht, List.filter_append, List.filter_cons_of_neg (by simpa using hy)]
      simpa using hI
  · rintro D2 ys ep2 n ⟨rfl, hI⟩ - h5 d5 tk5 K
    rw [show (roots σ.U.ps).take vs.size = roots σ.U.ps from by rw [← Array.length_toList, hvl]; exact List.take_length] at hI
    exact post D2 ys ep2 _ (Ext.mk K.keep) (K.nw _ (.head _)).2.2 (K.nw _ (.head _)).1 hI
end
end J2
section J2b
theorem Cx.tuples {h₀ h : Heap} {L : Addr} {l : Binds} {n : Ents} (C : Cx h₀ L h l n) : ∃ g, Kp h₀ g ∧ Cx g L h l n ∧ ∀ T vs ep, (∀ p ∈ n, p.1 ≠ T) → h.get? T = some (seqObj "tuple" vs ep) → g.get? T = some (seqObj "tuple" vs ep) := by
  obtain ⟨g, kg, G, big⟩ := C.wide
  refine ⟨g, kg, G, fun T vs ep hm hT => big T _ (fun q => ?_) hm hT⟩
  obtain ⟨m, ⟨oL, es, ep', hL, r⟩, _⟩ := C.fr
  rw [q, hL] at hT; cases hT
  obtain ⟨r1, _⟩ := r
  cases r1
end J2b
section J3
section
variable {w : World} {A : Around} {E : Value → Shared → Prop} {s : Shared}
set_option maxHeartbeats 2000000 in
theorem reckoned_ok {σ : HS} {kx an vd td : Addr} {N a : Nat} {t u : Tok} {m : List (Nat × Va)} {Q : Value → Shared → Prop} (W : Wd w s.heap) (I : σ.Ins s.heap) (J : Inst s.heap kx 114 (kfs σ.hp an vd td)) (X : Inst s.heap an 57 [("n", .int (N : Nat) u)]) (V : KV w s.heap.get? vd m)
    (Nn : σ.Nodes s.heap.get?) (U : σ.U.On s.heap.get?) (O : σ.Ok) (Op : σ.Ops) (hs : Small N m) (hn : 0 < N) (hn1 : N ≤ 100) (ha : a < σ.N) (hr : root σ.U.ps a = a) (hroom : A.depth + 100 < recursionLimit) (hu : A.units + 400 < cLine) (hh : A.handled = none)
    (post : ∀ v x s', Ext s s' → VIs v x → σ.Reck N (vget m) a x → Q v s') :
    wpAny (model PySem.Challenge.pw_pq0072_01 w) A (call (.ref 94) [.ref kx, .int (a : Nat) t]) Q E s := by
  have I1 := I.hp
  refine enterK (n := []) W (Own.nil _) (x := mth 4 3) rfl k_94 c_94 (by exact rm0) (binds := [("self", .ref kx), ("c", .int a t)]) (l := [("c", .int a t)]) rfl ⟨.inr ⟨rfl, rfl⟩, .inl rfl, trivial⟩ (by decide) (List.forall_mem_cons.mpr ⟨rfl, List.forall_mem_nil _⟩) (fun L h₁ tk cells W' X' C => ?_) (fun L => show ([L + 1] : List Addr).Nodup by walk_at "m sm")
  refine elEA X'.one fun o Xx1 ho => ?_
  obtain rfl := Xx1
  change o.data = .cell (some (.ref kx)) at ho
  change Cx s.heap L h₁ [("c", .int a t)] [(L + 1, o)] at C
  change Wd w s.heap at W'
  have hc : ([(L + 1, o)] : Ents).lookup (L + 1) = some o := by simp
  have Vk : ∀ {h : Heap} {l : Binds} {L n} {g : Heap}, Kp s.heap g → Cx g L h l n → KV w h.get? vd m := fun kg C => V.mono fun _ e => C.keep _ _ (kg _ _ e)
  iterate 4 walk1
  refine kvGm (Vk (fun _ _ e => e) C) ?_
  walk_at "m go"
  refine kvGet (Vk (fun _ _ e => e) C) fun v0 tk0 hv0 => ?_
  walk_at "m go"
  rename_i h2 C2
  refine forG (L := L) ?_
  walk_at "m go"
  refine nodes_of_ok (W'.keeps C2.keep) (I.keeps C2.keep) (Nn.mono C2.keep) (U.wider C2.keep) O ha (by show A.depth + 1 + 50 < recursionLimit; exact rm2) (by show A.units + 3 + 200 < cLine; exact rm2) hh fun D us mds e s3 X3 => X3.go fun h3 d3 tk3 k3 hD hDo hpw hmem hlen => ?_
  have ap := Apart.fresh C2 hD
  have C3' := C2.grow k3
  refine elEAA C3'.tuples fun g₀ kg₀ C3 hgT => ?_
  clear C3' C2 C
  have hul := hpw.length
  have hus : ∀ T md, NodeAt h3.get? T md → ∃ tt vs ep, g₀.get? T = some (seqObj "tuple" (Value.str md.1 tt :: vs).toArray ep) ∧ Nums vs md.2 := fun T md ⟨tt, vs, ep, e, hv⟩ =>
    ⟨tt, vs, ep, hgT T _ _ (fun p hp q => by
      rw [List.mem_singleton.mp hp] at q
      have h1 := C3.get (.head _)
      have q' : L + 1 = T := q
      rw [q'] at h1
      rw [e] at h1
      obtain rfl := Option.some.inj h1
      cases ho) e, hv⟩
  refine ⟨fun i l n => ∃ v, l = ([("found", v), ("c", .int (a : Nat) t)] : Binds) ∧ n = [(L + 1, o)] ∧ VIs v (((mds.take i).map fun nd => reck N nd.1 (nd.2.map (vget m))).foldl vj (vget m a)), g₀, [D], _, _, _, _, Up.mk, C3, ap, it_list hh (isList_obj hDo), ⟨v0, rfl, rfl, hv0⟩, ?_, ?_⟩
  · intro i v g l n Z1 h4 d4 tk4 hi hP kg' C4
    refine genQ fun QQ hQ => ?_
    refine elEAA Z1 fun fv Xx2 Xx3 hfv => ?_
    obtain rfl := Xx2
    obtain rfl := Xx3
    have kg : Kp s.heap g := fun b o e => kg' _ _ (kg₀ _ _ e)
    have Wg := W'.keeps kg
    have I1g := I1.keeps kg
    have Jg := J.keeps kg
    have Xg := X.keeps kg
    have hi' : i < mds.length := by have : i < (List.map Value.ref us).toArray.size := hi; simp at this; exact tle
    refine elEA (hpw.get (List.getElem?_eq_getElem hi')) fun T hT hnd => ?_
    have hP' : (List.map Value.ref us)[i]? = some v := by simpa using hP
    rw [List.getElem?_map, hT] at hP'
    obtain rfl : Value.ref T = v := by simpa using hP'
    generalize hmd : mds[i] = md at hnd
    refine elEEEA (hus T md hnd) fun tt vs ep hTo hvs => ?_
    have hTg := kg' _ _ hTo
    refine elEAA ((hmem md).mp (hmd ▸ List.getElem_mem hi')) fun j0 hj0 _ hmj => ?_
    have hkl : md.2.length ≤ 2 := by rw [hmj, List.length_map]; exact (O.kids _ (List.mem_of_getElem? (HS.get hj0))).1
    have hvl := hvs.length
    walk1
    refine compAsg (L := L) (h₀ := g) (cl := [(Str.ofString "self", L + 1)]) ?_
    iterate 3 walk1
    rename_i sl n5 h5 tk5 u5 C5 N5
    refine sliceT (a := 1) C5 (by exact C5.keep _ _ hTg) (by exact C5.lk N5.self) (by decide) (by walk_at "m sm") (by rw [sizeLine_eq]; simp; exact ell) fun T2 n6 h6 C6 N6 => ?_
    have hT2 := N6.self
    rw [show (List.toArray ((Value.str md.1 tt :: vs).toArray.toList.drop 1)) = vs.toArray by simp] at hT2
    have le6 : ∀ b p, List.lookup b [(L + 1, o)] = some p → n6.lookup b = some p := fun b p e => N6.le _ _ (N5.le _ _ e)
    have C7 := C6.narrow C4.nd le6
    refine ⟨fun i ys n => n = [(L + 1, o)] ∧ Vls ys.toList ((md.2.take i).map (vget m)), [T2], _, _, _, [(L + 1, o)], Up.mk, C7, Apart.new C6 C4.nd ⟨le6, hT2, fun b p e => N6.ne _ _ (N5.le _ _ e)⟩, it_tuple hh (isTuple_obj (C6.lk hT2)), by rw [List.size_toArray]; exact elt, ⟨rfl, .nil⟩, ?_, ?_⟩
    · intro j v ys g1 Cl n Z2 h8 d8 tk8 hj hys hP8 kg1 C8
      refine stepC ?_
      refine genQ fun QQ hQ => ?_
      refine elA Z2 fun Xx4 hI => ?_
      obtain rfl := Xx4
      have Wg1 := Wg.keeps kg1
      have Jg1 := Jg.keeps kg1
      refine elEAE (hvs.get1 (show vs[j]? = some v by simpa using hP8)) fun x hx t5 Xx5 => ?_
      obtain rfl := Xx5
      have ht : md.2.take (j + 1) = md.2.take j ++ [x] := by rw [List.take_add_one, hx]; simp
      iterate 2 walk1
      have V8 := V.mono fun _ e => C8.keep _ _ (kg1 _ _ (kg _ _ e))
      refine kvGm V8 ?_
      walk_at "m go"
      refine kvGet V8 fun v9 tk9 hv9 => ?_
      try refine hQ _ _ ?_
      refine ⟨Up.mk, _, _, C8.grow (fun _ _ e => e), rfl, ?_⟩
      rw [ht, List.map_append, Array.toList_push]
      exact hI.app (.cons hv9 .nil)
    · rintro D8 ys ep8 n ⟨rfl, hI⟩ - h8 d8 tk8 C8
      rw [List.size_toArray, hvl, List.take_length] at hI
      have hc8 : List.lookup (L + 1) [(D8, seqObj "list" ys ep8), (L + 1, o)] = some o := C8.tail hc
      have hD8 : h8.get? D8 = some (lst ys.toList ep8) := by simpa using C8.get (.head _)
      walk_at "m go"
      refine itemT (C8.keep _ _ hTg) (k := 0) (v := .str md.1 tt) (by walk_at "m sm") (by exact tlt) ?_
      walk_at "m go"
      have hlen : (md.2.map (vget m)).length = (σ.nodes.getD j0 default).2.length := by rw [hmj]; simp
      have hnm := List.mem_of_getElem? (HS.get hj0)
      refine of_node_ok (Wg.keeps C8.keep) (Xg.keeps C8.keep) hD8 hI (by rw [hlen, hmj]; exact Op _ hnm) hn hn1 (fun k hk => ?_) (by rw [List.length_map]; exact ll) (by show A.depth + 1 + 10 < recursionLimit; exact rm2) hh (by show A.units + 3 + 200 < cLine; exact rm2) fun v9 s9 X9 => X9.go fun h9 d9 tk9 k9 hv9 => ?_
      · refine elEA (List.mem_map.mp hk) fun c _ hc' => ?_
        exact hs c k hc'
      have C9 := C8.grow k9
      walk_at "m go"
      refine joined_ok (Wg.keeps C9.keep) hfv hv9 (by show A.depth + 1 < recursionLimit; exact rm1) fun v10 s10 X10 => X10.go fun h10 d10 tk10 k10 hv10 => ?_
      have C10 := C9.grow k10
      walk_at "m go"
      rename_i h11 C11
      try refine hQ _ _ ?_
      refine ⟨.inl rfl, Up.mk, _, [(L + 1, o)], (C11.sub (List.sublist_cons_self _ _)).names (by walk_at "m names"), v10, rfl, rfl, ?_⟩
      rw [List.take_add_one, List.getElem?_eq_getElem hi', hmd]
      show VIs v10 (((mds.take i ++ [md]).map _).foldl vj _)
      rw [List.map_append, List.foldl_append]
      exact hv10
  · rintro l n ⟨fv, rfl, rfl, hfv⟩ h4 d4 tk4 C4
    walk_at "m go"
    rw [show mds.take (List.map Value.ref us).toArray.size = mds from by rw [show (List.map Value.ref us).toArray.size = mds.length by simp [hul]]; exact List.take_length] at hfv
    exact post fv _ _ (Ext.mk fun b o e => C4.keep _ _ (kg₀ _ _ e)) hfv (HS.Reck.of hmem)
end
end J3
section J4
section
variable {w : World} {A : Around} {E : Value → Shared → Prop} {s : Shared} {h₀ : Heap} {L d : Addr} {l : Binds} {n : Ents} {m : List (Nat × Va)}
theorem sortedKV {Q : Value → Shared → Prop} (C : Cx h₀ L s.heap l n) (V : KV w s.heap.get? d m) (hh : A.handled = none) (hz : m.length < 64)
    (h : ∀ D vs ys e n' h' dr tk, Cx h₀ L h' l n' → New n n' D (seqObj "list" (List.toArray vs) e) → Nums vs ys → ys.Perm (m.map (·.1)) → Q (.ref D) { s with heap := h', drawn := dr, toks := tk }) :
    wpAny (model pwp w) A (call (.builtin "sorted") [.ref d]) Q E s := by
  refine elEEAAA V fun o kvs ho hd hp lo => ?_
  refine elE ((dOf ho hd).dictAt) fun ep hat => ?_
  have hlen := hp.length
  refine sorted_gen (P := fun vs => Nums vs (m.map (·.1))) (fun Q' hq => kdu_collect (A := A.in1) (kdl_dict (knd := intKind pwp w) (kvs := kvs) (ep := ep) lo) hh hat (by rw [sizeLine_eq]; exact etl) fun h' tk acc hk hacc => hq _ _ ?_ (Ext.mk hk))
    (fun vs hv => by rw [hv.length, List.length_map]; exact hz) (fun vs hv h2 s' k => sortable_ints hv h2) fun vs out D e s' hv hp' hE hD hD0 => ?_
  · have hl : acc.toList.length = (m.map (·.1)).length := by rw [Array.length_toList, hacc.1, List.length_map]; exact hlen
    refine Pw.of_get hl fun i a b ha hb => ?_
    refine elEEA (hacc.2 i a (by rw [← Array.getElem?_toList]; exact ha)) fun k x hx hk => ?_
    refine elEAA (hp.get1 hx) fun q hq e1 _ => ?_
    rw [List.getElem?_map, hq] at hb
    obtain rfl : q.1 = b := by simpa using hb
    have e1' : k = (q.1 : Int) := e1
    subst e1'
    refine elE (Value.isInt_shape hk) fun t Xx1 => ?_
    obtain rfl := Xx1
    exact ⟨t, rfl⟩
  · refine elEA (Pw.perm hp' hv) fun zs hzp hz' => ?_
    refine elEEEA hE fun h' d' tk Xx2 k' => ?_
    obtain rfl := Xx2
    refine elEA (C.newN k' hD0 hD) fun n' C' N => ?_
    exact h D out zs e n' h' d' tk C' N hz' hzp
theorem kvItem {value slice : PySem.Expr} {c : Nat} {t : Tok} {Q : Value → Shared → Prop} (V : KV w s.heap.get? d m) (hc : c ∈ m.map (·.1)) (h : ∀ v tk, VIs v (vget m c) → Q v { s with toks := tk })
    (hs : subscripted slice false (.ref d) (.int (c : Nat) t) = operate [.ref d, .int (c : Nat) t] (getItem (.ref d) (.int (c : Nat) t)) := by with_unfolding_all rfl) :
    wpAny (model pwp w) A (subscriptTail value slice (.ref d) (.int (c : Nat) t)) Q E s := by
  refine elEEAAA V fun o kvs ho hd hp lo => ?_
  have hg := kv_get hp c
  obtain ⟨v, hv⟩ : ∃ v, valueAt kvs (c : Int) = some v := by
    have hk : (c : Int) ∈ kvs.map (·.1) := by
      rw [kv_keys hp]
      refine elEA (List.mem_map.mp hc) fun q hq e => ?_
      exact List.mem_map.mpr ⟨q, hq, by rw [e]⟩
    refine elEA (List.mem_map.mp hk) fun p hp1 hp2 => ?_
    unfold valueAt
    cases q : kvs.find? fun kv => decide (kv.1 = (c : Int)) with
    | none => exact absurd hp2 (by simpa using List.find?_eq_none.mp q p hp1)
    | some e => exact ⟨_, rfl⟩
  rw [hv] at hg
  exact dItem (knd := intKind pwp w) ho hd (intKind_is _ _ _ _) hv (fun tk => h v tk hg) hs
theorem KV.nodup {f : Look} (V : KV w f d m) : (m.map (·.1)).Nodup := by
  refine elEEAAA V fun o kvs ho hd hp lo => ?_
  have h1 := isDict_nodup hd
  rw [kv_keys hp] at h1
  have : (m.map fun q => (q.1 : Int)) = (m.map (·.1)).map fun (x : Nat) => (x : Int) := by rw [List.map_map]; rfl
  rw [this] at h1
  exact (List.pairwise_map.mp h1).imp fun h e => h (congrArg _ e)
theorem KV.len {f : Look} {N : Nat} (V : KV w f d m) (h : ∀ c ∈ m.map (·.1), c < N) : m.length ≤ N := by
  have := nodup_len N _ V.nodup h
  simpa using this
theorem below_put {σ : HS} {N c k : Nat} {x : Va} (O : σ.Ok) (hk : k = root σ.U.ps c) (hc : c < σ.N) {mf : List (Nat × Va)} (B : σ.Below N (vget mf)) (hx : ∀ u, σ.Post N u → vle x (u (root σ.U.ps c))) : σ.Below N (vget (vput mf k x)) := by
  intro u P c' hc'
  rw [vget_put]
  split
  · rename_i e
    rw [e, hk, root_idem O.u.le (O.len ▸ hc)]
    exact hx u P
  · exact B u P c' hc'
theorem small_put {N k : Nat} {x : Va} {mf : List (Nat × Va)} (S : Small N mf) (hx : ∀ j, x = some (some j) → j < N) : Small N (vput mf k x) := by
  intro c j e
  rw [vget_put] at e
  split at e
  · exact hx j e
  · exact S c j e
theorem keys_put {N k : Nat} {x : Va} {mf : List (Nat × Va)} (S : ∀ c ∈ mf.map (·.1), c < N) (hk : k < N) : ∀ c ∈ (vput mf k x).map (·.1), c < N := by
  intro c hc
  rcases (vput_keys _).mp hc with h | h
  · exact S c h
  · rw [h]; exact hk
end
section
variable {w : World} {A : Around} {E : Value → Shared → Prop} {s : Shared}
set_option maxHeartbeats 2000000 in
theorem begun_ok {σ : HS} {kx kd an vd td : Addr} {N : Nat} {u : Tok} {m : List (Nat × Va)} {Q : Value → Shared → Prop} {B : Heap} {n : Ents} (W : Wd w B) (Ow : Own B s.heap n) (I : σ.Ins B) (X : Inst B an 57 [("n", .int (N : Nat) u)]) (J : OI (n.lookup ·) kx kd 114 (kfs σ.hp an vd td)) (V : KV w (n.lookup ·) vd m) (U : σ.U.On (n.lookup ·)) (O : σ.Ok)
    (Bl : σ.Below N (vget m)) (hk : ∀ c ∈ m.map (·.1), c < σ.N) (hs : Small N m) (hroom : A.depth + 50 < recursionLimit) (hh : A.handled = none)
    (post : ∀ fd m' s' n', Mut s.heap n s'.heap n' [kd] → Up s s' → OI (n'.lookup ·) kx kd 114 (kfs σ.hp an fd td) → KV w (n'.lookup ·) fd m' → σ.Below N (vget m') → (∀ c ∈ m'.map (·.1), c < σ.N) → Small N m' → (∀ b p, n.lookup b = some p → b ≠ fd) → Q .none s') :
    wpAny (model PySem.Challenge.pw_pq0072_01 w) A (call (.ref 89) [.ref kx]) Q E s := by
  have IB := I.keeps Ow.bar
  have I1 := IB.hp
  have XB := X.keeps Ow.bar
  have hml := V.len hk
  have n11 := O.n11
  refine enterC (n := n) W Ow (x := mth 4 2) rfl k_89 c_89 (by exact rm0) (binds := [("self", .ref kx)]) rfl (locs rfl) (by decide) fun L h₁ W' C => ?_
  change Cx (bar s.heap n) L h₁ [("self", .ref kx)] n at C
  iterate 2 walk1
  refine dNew C W'.lim fun fd n2 h2 o2 C2 N2 lo2 ho2 => ?_
  walk_at "m go"
  rename_i h3 C3
  have J3 := J.mono N2.le
  have V3 : KV w (n2.lookup ·) vd m := V.mono fun o e => N2.le _ _ e
  have U3 : σ.U.On (n2.lookup ·) := U.mono fun a _ o e => N2.le _ _ e
  have F3 : KV w (n2.lookup ·) fd [] := ⟨_, [], N2.self, by rw [ho2]; exact isDict_new, .nil, lo2⟩
  have hne := N2.ne
  have hfdk : fd ≠ kd ∧ fd ≠ kx ∧ fd ≠ vd := by
    refine elEEA J.d fun _ _ e _ => ?_
    refine elEEA V fun _ _ e2 _ => ?_
    exact ⟨Ne.symm (hne _ _ e), Ne.symm (hne _ _ J.x), Ne.symm (hne _ _ e2)⟩
  have hfU : ∀ b ∈ σ.U.ks, b ≠ fd := fun b hb => let ⟨_, _, e⟩ := U.lists b hb; hne _ _ e
  clear C2
  refine forG (L := L) ?_
  walk_at "m go"
  refine sortedKV C3 (V3.h C3) hh (by exact llt) fun D vs ys e n4 h4 dr4 tk4 C4 N4 hN hperm => ?_
  have hvl := hN.length
  refine ⟨fun i l n' => l = ([("found", .ref fd), ("self", .ref kx)] : Binds) ∧ ∃ mf, KV w (n'.lookup ·) fd mf ∧ σ.Below N (vget mf) ∧ (∀ c ∈ mf.map (·.1), c < σ.N) ∧ Small N mf ∧ (∀ b p, b ≠ fd → n2.lookup b = some p → n'.lookup b = some p),
    bar s.heap n, [D], _, _, _, n2, Up.mk, C4.narrow C3.nd N4.le, Apart.new C4 C3.nd N4, it_list hh (isList_obj (C4.lk N4.self)), ⟨rfl, [], F3, HS.Below.zero σ N, (fun _ h => nomatch h), (fun _ _ h => nomatch h), fun _ _ _ e => e⟩, ?_, ?_⟩
  · intro i v g l n5 Z1 h5 d5 tk5 hi hP kg C5
    refine genQ fun QQ hQ => ?_
    refine elAEAAAA Z1 fun Xx3 mf F5 B5 K5 S5 le5 => ?_
    obtain rfl := Xx3
    have Wg := W'.keeps kg
    have Ig := IB.keeps kg
    have I1g := I1.keeps kg
    have Xg := XB.keeps kg
    refine elEAE (hN.get1 (show vs[i]? = some v by simpa using hP)) fun c hc tc Xx4 => ?_
    obtain rfl := Xx4
    have hcm : c ∈ m.map (·.1) := hperm.mem_iff.mp (List.mem_of_getElem? hc)
    have hcN := hk c hcm
    have J5 : OI (n5.lookup ·) kx kd 114 (kfs σ.hp an vd td) := ⟨le5 _ _ (Ne.symm hfdk.2.1) J3.x, let ⟨es, ep, e, r⟩ := J3.d; ⟨es, ep, le5 _ _ (Ne.symm hfdk.1) e, r⟩⟩
    have V5 : KV w (n5.lookup ·) vd m := V3.mono fun o e => le5 _ _ (Ne.symm hfdk.2.2) e
    have U5 : σ.U.On (n5.lookup ·) := U3.mono fun a ha o e => le5 _ _ (hfU a ha) e
    walk_at "m go"
    refine hfind_ok (Wg.keeps C5.keep) (Ig.keeps C5.keep) (U5.wider fun a o e => C5.lk e) O.u (O.len ▸ hcN) (by show A.depth + 1 + 10 < recursionLimit; exact rm2) fun s6 t6 X6 => X6.go fun h6 d6 tk6 k6 => ?_
    have C6 := C5.grow k6
    clear C5
    walk_at "m go"
    rename_i h7 C7
    refine kvGm (F5.h C7) ?_
    walk_at "m go"
    refine kvGet (F5.h C7) fun v8 tk8 hv8 => ?_
    walk_at "m go"
    refine kvItem (V5.h C7) hcm fun v9 tk9 hv9 => ?_
    walk_at "m go"
    refine joined_ok (Wg.keeps C7.keep) hv8 hv9 (by show A.depth + 1 < recursionLimit; exact rm1) fun v10 s10 X10 => X10.go fun h10 d10 tk10 k10 hv10 => ?_
    have C10 := C7.grow k10
    clear C7
    walk_at "m go"
    have hm5 := F5.len K5
    refine kvSet C10 F5 hv10 (by exact llt) fun h11 n11 tk11 C11 F11 off11 _ => ?_
    walk_at "m go"
    try refine hQ _ _ ?_
    refine ⟨.inl rfl, Up.mk, _, n11, C11.names (by walk_at "m names"), rfl, _, F11, below_put O rfl hcN B5 fun u P => ?_, keys_put K5 (O.len ▸ root_lt (O.len ▸ hcN)), small_put S5 (vj_small (S5 _) (hs _)), fun b p hb e => off11 b p hb (le5 b p hb e)⟩
    refine vle_lub ?_ (Bl u P c hcN)
    have := B5 u P _ (O.len ▸ root_lt (O.len ▸ hcN))
    rwa [root_idem O.u.le (O.len ▸ hcN)] at this
  · rintro l n5 ⟨rfl, mf, F5, B5, K5, S5, le5⟩ h5 d5 tk5 C5
    have J5 : OI (n5.lookup ·) kx kd 114 (kfs σ.hp an vd td) := ⟨le5 _ _ (Ne.symm hfdk.2.1) J3.x, let ⟨es, ep, e, r⟩ := J3.d; ⟨es, ep, le5 _ _ (Ne.symm hfdk.1) e, r⟩⟩
    walk1
    refine asgSelf (by with_unfolding_all rfl) (by rfl) (by rfl) (by rfl) (by decide) ?_
    walk1
    try refine hQ _ _ ?_
    refine ⟨_, kx, kd, 114, _, _, n5, W', C5, rfl, J5, of_all (so_114 w.params) (by walk_at "m sm"), by walk_at "m sm", fun h6 n6 t6 C6 I6 off6 k6 => ?_⟩
    change OI _ _ _ _ (kfs σ.hp an fd td) at I6
    walk1
    exact post fd mf _ n6 (C6.mut fun b p hb e => off6 b p (fun q => hb (by rw [q]; exact .head _)) (le5 b p (hne _ _ e) (N2.le _ _ e))) Up.mk I6 (F5.mono fun o e => off6 _ _ hfdk.1 e) B5 K5 S5 hne
end
end J4
section P7
open PySem
structure StInv (σ : HS) (N : Nat) (mf : List (Nat × Va)) (rows : List Nat) (i : Nat) : Prop where
  below : σ.Below N (vget mf)
  small : Small N mf
  keys : ∀ c ∈ mf.map (·.1), c < σ.N
  rts : ∀ r ∈ rows, r < σ.N ∧ root σ.U.ps r = r
  nd : (rows.drop i).Nodup
  done : ∀ j, j < σ.N → root σ.U.ps j ∉ rows.drop i → vle (σ.fv N (vget mf) j) (vget mf (root σ.U.ps j))
  le : i ≤ rows.length
  size : rows.length + 22 * slack (roots σ.U.ps) (vget mf) ≤ 700
structure UInv (σ : HS) (rows rows' : List Nat) (i : Nat) (us : List Nat) : Prop where
  ext : ∃ e, rows' = rows ++ e ∧ e.length ≤ us.length
  rts : ∀ r ∈ rows', r < σ.N ∧ root σ.U.ps r = r
  nd : (rows'.drop (i + 1)).Nodup
  has : ∀ j ∈ us, root σ.U.ps j ∈ rows'.drop (i + 1)
section
variable {σ : HS} {N i c : Nat} {mf : List (Nat × Va)} {rows rows' us : List Nat} {x : Va}
noncomputable def StInv.mu (σ : HS) (mf : List (Nat × Va)) (rows : List Nat) (i : Nat) : Nat := 23 * slack (roots σ.U.ps) (vget mf) + (rows.length - i)
theorem rest_cons (h : rows[i]? = some c) : rows.drop i = c :: rows.drop (i + 1) := by
  obtain ⟨hi, e⟩ := List.getElem?_eq_some_iff.mp h
  rw [List.drop_eq_getElem_cons hi, e]
theorem StInv.init {m : List (Nat × Va)} (O : σ.Ok) (B : σ.Below N (vget m)) (S : Small N m) (K : ∀ c ∈ m.map (·.1), c < σ.N) : StInv σ N m (roots σ.U.ps) 0 := by
  have hl : (roots σ.U.ps).length ≤ 11 := Nat.le_trans (Nat.le_trans (List.length_filter_le _ _) (by rw [List.length_range]; exact Nat.le_refl _)) O.u11
  refine ⟨B, S, K, fun r hr => ?_, List.nodup_range.sublist List.filter_sublist, fun j hj h => absurd (root_mem O.u.le (O.len ▸ hj)) h, Nat.zero_le _, ?_⟩
  · have := mem_roots.mp hr
    exact ⟨O.len ▸ this.1, root_self this.2⟩
  · have := slack_le (roots σ.U.ps) (vget m)
    exact om155 hl this
theorem StInv.post (V : StInv σ N mf rows i) (h : rows.length ≤ i) : σ.Post N (vget mf) := fun j hj => V.done j hj (by rw [List.drop_eq_nil_of_le h]; exact fun q => nomatch q)
theorem StInv.same (V : StInv σ N mf rows i) (hc : rows[i]? = some c) (R : σ.Reck N (vget mf) c x) (e : x = vget mf c) : StInv σ N mf rows (i + 1) ∧ StInv.mu σ mf rows (i + 1) < StInv.mu σ mf rows i := by
  obtain ⟨hi, _⟩ := List.getElem?_eq_some_iff.mp hc
  have hr := rest_cons hc
  have hnd := V.nd
  rw [hr, List.nodup_cons] at hnd
  have hcr := (V.rts c (List.mem_of_getElem? hc)).2
  refine ⟨⟨V.below, V.small, V.keys, V.rts, hnd.2, fun j hj h => ?_, hi, V.size⟩, ?_⟩
  · by_cases hjc : root σ.U.ps j = c
    · have := R.node j hj (hjc.trans hcr.symm)
      rw [hjc, ← e]; exact this
    · exact V.done j hj (by rw [hr, List.mem_cons, not_or]; exact ⟨hjc, h⟩)
  · unfold StInv.mu; exact om177 hi
theorem UInv.init (V : StInv σ N mf rows i) (hc : rows[i]? = some c) : UInv σ rows rows i [] := by
  have hnd := V.nd
  rw [rest_cons hc, List.nodup_cons] at hnd
  exact ⟨⟨[], by simp, Nat.le_refl _⟩, V.rts, hnd.2, fun _ h => nomatch h⟩
theorem UInv.skip {j : Nat} (U : UInv σ rows rows' i us) (h : root σ.U.ps j ∈ rows'.drop (i + 1)) : UInv σ rows rows' i (us ++ [j]) := by
  obtain ⟨⟨e, e1, e2⟩, r, nd, has⟩ := U
  refine ⟨⟨e, e1, by rw [List.length_append]; exact om36 e2⟩, r, nd, fun k hk => ?_⟩
  rcases List.mem_append.mp hk with hk | hk
  · exact has k hk
  · rw [List.mem_singleton.mp hk]; exact h
theorem drop_snoc {α : Type} {l : List α} {k : Nat} {a : α} (h : k ≤ l.length) : (l ++ [a]).drop k = l.drop k ++ [a] := by
  rw [List.drop_append_of_le_length h]
theorem UInv.add {j : Nat} (O : σ.Ok) (U : UInv σ rows rows' i us) (hi : i < rows.length) (hj : j < σ.N) (h : root σ.U.ps j ∉ rows'.drop (i + 1)) : UInv σ rows (rows' ++ [root σ.U.ps j]) i (us ++ [j]) := by
  obtain ⟨⟨e, rfl, e2⟩, r, nd, has⟩ := U
  have hd : ((rows ++ e) ++ [root σ.U.ps j]).drop (i + 1) = (rows ++ e).drop (i + 1) ++ [root σ.U.ps j] := drop_snoc (by rw [List.length_append]; exact om84 hi)
  refine ⟨⟨e ++ [root σ.U.ps j], by simp, by rw [List.length_append, List.length_append]; simp only [List.length_singleton]; exact om59 e2⟩, fun k hk => ?_, ?_, fun k hk => ?_⟩
  · rcases List.mem_append.mp hk with hk | hk
    · exact r k hk
    · rw [List.mem_singleton.mp hk]; exact ⟨O.len ▸ root_lt (O.len ▸ hj), root_idem O.u.le (O.len ▸ hj)⟩
  · rw [hd, List.nodup_append]
    exact ⟨nd, by simp, fun a ha b hb q => h (by rw [← List.mem_singleton.mp hb, ← q]; exact ha)⟩
  · rw [hd, List.mem_append]
    rcases List.mem_append.mp hk with hk | hk
    · exact .inl (has k hk)
    · rw [List.mem_singleton.mp hk]; exact .inr (by simp)
theorem StInv.rise (O : σ.Ok) (V : StInv σ N mf rows i) (hc : rows[i]? = some c) (hn : 0 < N) (R : σ.Reck N (vget mf) c x) (ne : x ≠ vget mf c) (U : UInv σ rows rows' i us) (hu : us.length ≤ 22)
    (hus : ∀ (j : Nat) nd, σ.nodes[j]? = some nd → ∀ k ∈ nd.2, root σ.U.ps k = root σ.U.ps c → j ∈ us) : StInv σ N (vput mf c x) rows' (i + 1) ∧ StInv.mu σ (vput mf c x) rows' (i + 1) < StInv.mu σ mf rows i := by
  obtain ⟨hi, _⟩ := List.getElem?_eq_some_iff.mp hc
  have hcm := V.rts c (List.mem_of_getElem? hc)
  have hr := rest_cons hc
  obtain ⟨⟨e, rfl, e2⟩, r, nd, has⟩ := U
  have hmono : ∀ r ∈ roots σ.U.ps, vle (vget mf r) (vget (vput mf c x) r) := fun r _ => by
    rw [vget_put]; split
    · rename_i q; rw [q]; exact R.own
    · exact vle.refl _
  have hcr : c ∈ roots σ.U.ps := by
    have := root_mem O.u.le (O.len ▸ hcm.1)
    rwa [hcm.2] at this
  have hsl : slack (roots σ.U.ps) (vget (vput mf c x)) < slack (roots σ.U.ps) (vget mf) := slack_lt hmono hcr (by rw [vget_put, if_pos rfl]; exact Ne.symm ne)
  have hlen : (rows ++ e).length = rows.length + e.length := List.length_append
  refine ⟨⟨below_put O hcm.2.symm hcm.1 V.below fun u P => ?_, small_put V.small (R.small V.small hn), keys_put V.keys hcm.1, r, nd, fun j hj h => ?_, by exact om221 hu hi e2 hlen, ?_⟩, ?_⟩
  · refine R.least _ (V.below u P c hcm.1) fun j hj hjr => ?_
    have := V.below.fv O P hj
    rwa [hjr] at this
  · have hnk : c ∉ (σ.tup j).2 := fun q => by
      refine elEAA (HS.tup_kids O hj q) fun k hk hkN e => ?_
      exact h (has j (hus j _ (HS.get hj) k hk (e.trans hcm.2.symm)))
    have hfv : σ.fv N (vget (vput mf c x)) j = σ.fv N (vget mf) j := HS.fv_congr fun k hk => by rw [vget_put, if_neg (fun (q : k = c) => hnk (q ▸ hk))]
    rw [hfv, vget_put]
    split
    · rename_i q
      exact R.node j hj (q.trans hcm.2.symm)
    · rename_i q
      refine V.done j hj ?_
      rw [hr, List.mem_cons, not_or]
      refine ⟨q, fun z => h ?_⟩
      rw [List.drop_append_of_le_length (by exact om139 hi hlen)]
      exact List.mem_append_left _ z
  · have := V.size; exact om259 hu hi e2 hsl hlen this
  · unfold StInv.mu; exact om258 hu hi e2 hsl hlen
end
end P7
section P8
open PySem
structure DInv (σ : HS) (N : Nat) (m0 mf : List (Nat × Va)) (b : Bool) (k : Nat) : Prop where
  below : σ.Below N (vget mf)
  small : Small N mf
  keys : ∀ c ∈ mf.map (·.1), c < σ.N
  rose : b = true → slack (roots σ.U.ps) (vget mf) < slack (roots σ.U.ps) (vget m0)
  same : b = false → mf = m0
  done : b = false → ∀ j, j < k → vle (σ.fv N (vget mf) j) (vget mf (root σ.U.ps j))
section
variable {σ : HS} {N k : Nat} {m0 mf : List (Nat × Va)} {b : Bool} {x : Va}
theorem fv_small (hn : 0 < N) {i : Nat} {u : Nat → Va} : ∀ j, σ.fv N u i = some (some j) → j < N := fun _ h => reck_small hn h
theorem DInv.keep (V : DInv σ N m0 mf b k) (h : vj (vget mf (root σ.U.ps k)) (σ.fv N (vget mf) k) = vget mf (root σ.U.ps k)) : DInv σ N m0 mf b (k + 1) := by
  refine ⟨V.below, V.small, V.keys, V.rose, V.same, fun hb j hj => ?_⟩
  by_cases e : j = k
  · subst e
    have := vle_right (vget mf (root σ.U.ps j)) (σ.fv N (vget mf) j)
    rwa [h] at this
  · exact V.done hb j (by exact om93 hj e)
theorem DInv.rise (O : σ.Ok) (hn : 0 < N) (hk : k < σ.N) (V : DInv σ N m0 mf b k) (h : vj (vget mf (root σ.U.ps k)) (σ.fv N (vget mf) k) ≠ vget mf (root σ.U.ps k)) :
    DInv σ N m0 (vput mf (root σ.U.ps k) (vj (vget mf (root σ.U.ps k)) (σ.fv N (vget mf) k))) true (k + 1) := by
  have hl := vle_left (vget mf (root σ.U.ps k)) (σ.fv N (vget mf) k)
  have hm : ∀ r ∈ roots σ.U.ps, vle (vget mf r) (vget (vput mf (root σ.U.ps k) (vj (vget mf (root σ.U.ps k)) (σ.fv N (vget mf) k))) r) := fun r _ => by
    rw [vget_put]; split
    · rename_i q; rw [q]; exact hl
    · exact vle.refl _
  have hs : slack (roots σ.U.ps) (vget (vput mf (root σ.U.ps k) (vj (vget mf (root σ.U.ps k)) (σ.fv N (vget mf) k)))) < slack (roots σ.U.ps) (vget mf) :=
    slack_lt hm (root_mem O.u.le (O.len ▸ hk)) (by rw [vget_put, if_pos rfl]; exact Ne.symm h)
  refine ⟨below_put O rfl hk V.below fun u P => vle_lub ?_ (V.below.fv O P hk), small_put V.small (vj_small (V.small _) (fv_small hn)), keys_put V.keys (O.len ▸ root_lt (O.len ▸ hk)), fun _ => ?_, (fun q => nomatch q), (fun q => nomatch q)⟩
  · have := V.below u P _ (O.len ▸ root_lt (O.len ▸ hk))
    rwa [root_idem O.u.le (O.len ▸ hk)] at this
  · cases hb : b with
    | true => exact Nat.lt_trans hs (V.rose hb)
    | false => rw [V.same hb] at hs ⊢; exact hs
theorem DInv.start (m0 : List (Nat × Va)) (B : σ.Below N (vget m0)) (S : Small N m0) (K : ∀ c ∈ m0.map (·.1), c < σ.N) : DInv σ N m0 m0 false 0 :=
  ⟨B, S, K, (fun q => nomatch q), fun _ => rfl, fun _ j hj => absurd hj (Nat.not_lt_zero _)⟩
end
end P8
section J5
theorem storedAll_nums : ∀ {vs : List Value} {kvs : List (Int × Value)}, StoredAll (fun v k => ∃ t, v = Value.int k t) (fun _ y => y = .bool true) vs kvs → ∀ {xs : List Nat}, Nums vs xs → xs.Nodup → kvs = xs.map fun (c : Nat) => (((c : Nat) : Int), Value.bool true) := by
  intro vs kvs h
  induction h with
  | nil => intro xs hN _; cases hN; rfl
  | @snoc l kvs v k y _ hk hy ih =>
    intro xs hN nd
    obtain ⟨ws, x, t, rfl, hw, rfl⟩ := nums_last hN
    refine elE hk fun t2 e => ?_
    cases e
    subst hy
    have nd' := List.nodup_append.mp nd
    rw [ih hw nd'.1, List.map_append]
    unfold stored
    rw [if_neg]
    · rfl
    · intro q
      refine elEA (List.any_eq_true.mp q) fun p hp e => ?_
      obtain ⟨c, hc, rfl⟩ := List.mem_map.mp hp
      have e' : (c : Int) = (x : Int) := of_decide_eq_true e
      exact nd'.2.2 c hc x (by walk_at "m sm") (by exact cst)
section
variable {prog : Program} {w : World} {A : Around} {E : Value → Shared → Prop} {s : Shared} {env : Env} {h₀ : Heap} {L : Addr} {l : Binds} {n : Ents}
theorem dictOnes {x y row : Str} {px p1 p2 p3 py : Pos} {kk : Nat} {scope : Scope} {cl : List (Str × Addr)} {pos spos : Pos} {R ep : Nat} {vs : List Value} {xs : List Nat} {Q : Flow → Shared → Prop} (C : Cx h₀ L s.heap l n) (hbig : h₀.NoLimit) (hrow : l.lookup row = some (.ref R)) (hR : s.heap.get? R = some (lst vs ep)) (hN : Nums vs xs) (nd : xs.Nodup) (hh : A.handled = none) (hz : xs.length < 1000)
    (done : ∀ D n' o s', Cx h₀ L s'.heap ((y, .ref D) :: l) n' → New n n' D o → Up s s' → o.IsDictOf (intKind prog w) (xs.map fun (c : Nat) => (((c : Nat) : Int), Value.bool true)) → (D == sysModules) = false → Q .next s')
    (hsw : swapsWith (.DictComp (.Name x p1) (.Constant (.bool true) kk p2) [⟨.Name x px, .Name row p3, [], 0⟩] scope pos) (some (.Name y py)) spos.line env = pure true := by rfl)
    (hclos : closureFor scope env = pure cl := by rfl) (hcell : ∀ y ∈ scope.names, y.2 ≠ .cell := by decide) (hkind : scope.kind = .function := by rfl)
    (hnames : ∀ y ∈ scope.names, y.2 = .local → scope.names.lookup y.1 = some .local := by decide) (hx : scope.names.lookup x = some .local := by rfl)
    (he : env.locals = L := by rfl) (hk : env.scope.kind = .function := by rfl) (hy : env.kindOf y = some .local := by rfl) (hrw : env.kindOf row = some .local := by rfl) (hd : (row == ("__debug__" : Str)) = false := by decide) (hd2 : (x == ("__debug__" : Str)) = false := by decide)
    (hs : ∀ x, foldedSetIterable (.Name row p3) env x = pure x := by intro _; rfl) :
    wpAny (model prog w) A (exec (.Assign [.Name y py] (.DictComp (.Name x p1) (.Constant (.bool true) kk p2) [⟨.Name x px, .Name row p3, [], 0⟩] scope pos) spos) env) Q E s := by
  rw [exec_Assign_Name_used _ _ _ _ hsw]
  refine wpAny_bind (wpAny_standAt (wpAny_bind ?_))
  show wpAny _ A (do let _ ← comprehension (.DictComp (.Name x p1) (.Constant (.bool true) kk p2) [⟨.Name x px, .Name row p3, [], 0⟩] scope pos) scope env _ newDict false (eval (.Name row p3) env) (some (assign (.Name y py) env))) _ _ s
  refine wpAny_bind (wpAny_mono (wpAny_comprehension_free (use := some (assign (.Name y py) env)) (Q := fun _ s' => Q .next s') rfl hs hclos hkind hnames
    (ldC C hrow ?_ he hk hrw hd)) (fun _ s' hq => wpAny_pure (wpAny_pure hq)) fun _ _ e => e)
  have hl := isList_obj hR
  have hlt := Heap.lt_size hR
  have hvl := hN.length
  have hlo := ne_modules (hbig.keeps C.keep)
  generalize hI : s.heap.objs.size = I at hlo
  have hRI : R < I := hI ▸ hlt
  refine wpAny_pyIter_list hl ?_
  rw [hI]
  have W := Walks.list (prog := prog) (w := w) hh I R (Nat.ne_of_lt hRI) vs.toArray
  have e1 : (s.heap.push { cls := .type "list_iterator", data := .fields #[.ref R, .int 0 0] }).objs.size = I + 1 := by rw [Heap.size_push, hI]
  have hIo : (s.heap.push { cls := .type "list_iterator", data := .fields #[.ref R, .int 0 0] }).get? I = some { cls := .type "list_iterator", data := .fields #[.ref R, .int 0 0] } := by rw [← hI]; exact Heap.get?_push_size _ rfl
  have k1 : Kp s.heap (s.heap.push { cls := .type "list_iterator", data := .fields #[.ref R, .int 0 0] }) := fun b o e => Heap.get?_push_of_some _ e
  generalize (s.heap.push { cls := .type "list_iterator", data := .fields #[.ref R, .int 0 0] }) = H1 at e1 hIo k1
  refine wpAny_newObj_type (wpAny_newFunctionEnv hcell (by intro y hy; simp at hy) (fun h₁ hns₁ hsb₁ => ?_) hkind)
  dsimp only at hns₁ hsb₁ ⊢
  rw [e1]
  have hnew : (H1.push { cls := .type "dict", dict := none, data := .dict #[] }).DictOf (intKind prog w) (I + 1) [] := e1 ▸ Heap.DictOf.new H1
  have e2 : (H1.push { cls := .type "dict", dict := none, data := .dict #[] }).objs.size = I + 2 := by rw [Heap.size_push, e1]
  have k2 : Kp H1 (H1.push { cls := .type "dict", dict := none, data := .dict #[] }) := fun b o e => Heap.get?_push_of_some _ e
  generalize (H1.push { cls := .type "dict", dict := none, data := .dict #[] }) = H2 at e2 hns₁ hsb₁ hnew k2 ⊢
  rw [e2] at hns₁ hsb₁ ⊢
  have k3 : ∀ b o, b ≠ I + 2 → H2.get? b = some o → h₁.get? b = some o := fun b o hb e => hsb₁.extBut b o hb (Heap.get?_push_of_some _ e)
  have low : ∀ (b : Nat) o, s.heap.get? b = some o → @LT.lt Nat _ b I := fun b o e => hI ▸ Heap.lt_size e
  have h1s : h₁.IsListIter I R 0 ∧ h₁.IsList R vs.toArray := ⟨⟨_, k3 _ _ (by exact om3) (k2 _ _ hIo), rfl, rfl⟩, isList_obj (k3 _ _ (by exact om199 hRI e1 e2) (k2 _ _ (k1 _ _ hR)))⟩
  have loop : codeAny (model prog w) A (.compLoop (.DictComp (.Name x p1) (.Constant (.bool true) kk p2) [⟨.Name x px, .Name row p3, [], 0⟩] scope pos) 0 (.ref I) (.ref (I + 1)) (compEnvC scope cl (I + 2) env))
      (compPost (model prog w) A E (some (assign (.Name y py) env)) (fun _ s' => Q .next s') (.ref (I + 1)) (I + 2)) { s with heap := h₁, toks := s.toks + ([] : List (Str × Value)).length } := by
    refine codeAny_compLoop_walkD (knd := intKind prog w) (cenv := compEnvC scope cl (I + 2) env) W (fun _ => true) (fun v k => ∃ t, v = Value.int k t) (fun _ y => y = .bool true) (lookup_relabel_local hx) (by simp [compEnvC, relabel, hkind]) (by show I + 1 ≠ I + 2; exact om15) ?_ ?_ h1s
      (hnew.at fun o e => k3 _ _ (by exact om15) e) hns₁ ?_ ?_ ?_ ?_ (by rw [List.size_toArray, sizeLine_eq]; exact etl)
    · intro q
      rcases List.mem_cons.mp q with q | q
      · have q' : (I + 1 : Nat) = I := q
        exact om7 q'
      · have q' : (I + 1 : Nat) = R := List.mem_singleton.mp q
        have hRI' : @LT.lt Nat _ R I := hRI
        exact om213 hRI e1 e2 q'
    · intro q
      rcases List.mem_cons.mp (show I + 2 ∈ [I, R] from q) with q | q
      · have q' : (I + 2 : Nat) = I := q
        exact om8 q
      · have q' : (I + 2 : Nat) = R := List.mem_singleton.mp q
        have hRI' : @LT.lt Nat _ R I := hRI
        exact om214 hRI e1 e2 q'
    · intro i v s₃ m₃ hP hn hm hk
      exact wpAny_tests_nil ⟨rfl, _, _, rfl, fun _ _ e => e⟩
    · intro i v s₃ m₃ hP hp' hn hm hk
      refine wpAny_Name (wpAny_loadName_local hkind (lookup_relabel_local hx) hn hm ⟨?_, _, _, rfl, fun _ _ e => e⟩) hd2
      refine elEAE (hN.mem1 (by simpa using Array.mem_of_getElem? hP)) fun c _ t Xx2 => ?_
      obtain rfl := Xx2
      exact ⟨c, intKind_is _ _ _ _, t, rfl⟩
    · intro i v s₃ m₃ hP hp' hn hm hk
      exact wpAny_Constant_bool ⟨rfl, _, _, rfl, fun _ _ e => e⟩
    · intro h' tk m' kvs vs' hnC hlD hlen hP hF hk'
      have e : vs' = vs := by simpa using list_of_places hlen hP
      subst e
      rw [List.filter_eq_self.mpr (fun _ _ => rfl)] at hF
      obtain rfl := storedAll_nums hF hN nd
      have k : Kp s.heap h' := fun (b : Nat) o e => by
        have hb := low b o e
        exact hk' b o (show (b : Nat) ≠ I + 2 by exact om202 e1 e2 hb) (fun q => by have q' : (b : Nat) = I := List.mem_singleton.mp q; exact om195 e1 e2 hb q') (show (b : Nat) ≠ I + 1 by exact om201 e1 e2 hb) (k3 _ _ (show (b : Nat) ≠ I + 2 by exact om202 e1 e2 hb) (k2 _ _ (k1 _ _ e)))
      refine elEA (Heap.dictOf_iff.mp hlD) fun o ho hdo => ?_
      have none_of : ∀ b : Nat, @LE.le Nat _ I b → s.heap.get? b = none := fun b hb => by
        cases q : s.heap.get? b with
        | none => rfl
        | some o => have := low b o q; omega
      have C1 := C.new k (none_of _ (Nat.le_succ I)) ho
      have hLC : L ≠ I + 2 := fun q => by obtain ⟨o, z⟩ := C.live; rw [q, none_of _ (by exact om2)] at z; cases z
      have hnC' : ∀ p ∈ ((I + 1, o) :: n : Ents), p.1 ≠ I + 2 := fun p hp q => by
        rcases List.mem_cons.mp hp with rfl | hp
        · have : I + 1 = I + 2 := q
          exact om25 this
        · have := (C.nw p hp).1
          rw [q, none_of _ (by exact om2)] at this; cases this
      show wpAny _ A (assign (.Name y py) env (.ref (I + 1))) _ _ _
      refine elEAA C1.wide fun g kg G big => ?_
      refine elEEEA hnC fun oC es epC eC rC => ?_
      refine wpAny_assign_Name (stC G (fun h₃ G₃ => ⟨m', ⟨oC, es, epC, G₃.keep _ _ (big (I + 2) _ (Ne.symm hLC) hnC' eC), rC⟩, fun h₄ hs₄ => ?_⟩) he hk hy)
      refine done (I + 1) _ o _ ((G₃.base kg).off (C.none_of (none_of _ (by exact om2))) hLC hnC' fun b o hb e => (hs₄.2 b hb).trans e) ⟨fun b p e => C.old e (none_of _ (Nat.le_succ I)), by rw [List.lookup_cons, beq_self_eq_true], fun b p e q => by
        have h1 := low _ _ (C.lk e); have h2 : @Eq Nat b (I + 1) := q; exact om215 e1 e2 h1 h2⟩ Up.mk hdo ?_
      have h0 := modules_low (hbig.keeps C.keep)
      rw [hI] at h0
      have h0' : @LT.lt Nat _ sysModules I := h0
      exact beq_eq_false_iff_ne.mpr (show (I + 1 : Nat) ≠ sysModules by exact om200 e1 e2 h0')
  exact codeAny_compStart_dict loop (W.self 0 _ _ _ h1s loop)
end
end J5
section J6
theorem HS.On.keepS {w : World} {σ : HS} {c ck : Nat} {n n' : Ents} {ch : Addr → Prop} (H : σ.On w c ck (n.lookup ·)) (S : Stay ch n n') (hks : ∀ b ∈ σ.ks, ¬ ch b) : σ.On w c ck (n'.lookup ·) := by
  have hh : ∀ b ∈ σ.hs, ¬ ch b := fun b hb => hks b (List.mem_append_right _ (List.mem_append_left _ hb))
  have hp : ∀ b ∈ σ.hs, ∀ p, n.lookup b = some p → n'.lookup b = some p := fun b hb p e => S.per b p (hh b hb) e
  refine elEA H.nu fun x1 b1 b2 => ?_
  refine elEEA H.ed fun v4 e4 h4 r4 => ?_
  refine elEEA H.fo fun v5 e5 h5 r5 => ?_
  refine elEA H.kn fun x6 k6 r6 => ?_
  refine elEA H.av fun o7 h7 d7 => ?_
  exact ⟨H.U.mono fun a ha o e => S.per _ _ (hks a (List.mem_append_left _ ha)) e, S.nodes H.N (hh _ (by walk_at "m sm")), ⟨x1, S.kd b1 (hh _ (by walk_at "m sm")), b2⟩, H.we.mono fun o e => hp _ (by walk_at "m sm") _ e, H.de.mono fun o e => hp _ (by walk_at "m sm") _ e,
    ⟨v4, e4, hp _ (by walk_at "m sm") _ h4, r4⟩, ⟨v5, e5, hp _ (by walk_at "m sm") _ h5, r5⟩, ⟨x6, S.kd k6 (hh _ (by walk_at "m sm")), r6⟩, ⟨o7, hp _ (by walk_at "m sm") _ h7, d7⟩,
    fun e he => (H.al e he).mono fun o q => S.per _ _ (hks _ (List.mem_append_right _ (List.mem_append_right _ (List.mem_map.mpr ⟨e, he, rfl⟩)))) q, H.wa.mono fun o e => hp _ (by walk_at "m sm") _ e⟩
section
variable {prog : Program} {w : World} {A : Around} {E : Value → Shared → Prop} {s : Shared} {h₀ : Heap} {L : Addr} {l : Binds} {n : Ents}
theorem swapT {x y : Str} {T : Addr} {v1 v2 : Value} {ep : Nat} {Q : Unit → Shared → Prop} {env : Env} {nm : List Str} (C : Cx h₀ L s.heap l n) (ho : s.heap.get? T = some (seqObj "tuple" #[v1, v2] ep)) (hh : A.handled = none) (hnm : nm = [x, y])
    (h : ∀ h' tk, Cx h₀ L h' ((x, v1) :: (y, v2) :: l) n → Q () { s with heap := h', toks := tk })
    (he : env.locals = L := by rfl) (hk : env.scope.kind = .function := by rfl) (hx : env.kindOf x = some .local := by rfl) (hy : env.kindOf y = some .local := by rfl) :
    wpAny (model prog w) A (unpackItems (.ref T) nm.length none) (fun items s₂ => wpAny (model prog w) A (assignInOrder (nm.reverse.map fun n => bindName env n) items.reverse) Q E s₂) E s := by
  subst hnm
  refine wpAny_unpackItems_tuple (items := #[v1, v2]) hh (isTuple_obj ho) fun h' k => ?_
  have C1 := C.ext (size_none _) k
  refine wpAny_assignInOrder_more (wpAny_bind (wpAny_holding (wpAny_point (wpAny_bind (stC C1 (fun h2 C2 => wpAny_point ?_) he hk hy)))))
  refine wpAny_assignInOrder_more (wpAny_bind (wpAny_holding (wpAny_point (wpAny_bind (stC C2 (fun h3 C3 => wpAny_point ?_) he hk hx)))))
  exact wpAny_assignInOrder_none (h _ _ C3)
theorem listR {D : Addr} {vs : Array Value} {ep : Nat} {Q : Value → Shared → Prop} (C : Cx h₀ L s.heap l n) (ho : s.heap.get? D = some (seqObj "list" vs ep)) (hsz : vs.size ≤ sizeLine)
    (h : ∀ R n' h' c, Cx h₀ L h' l n' → New n n' R (seqObj "list" vs c) → Q (.ref R) { s with heap := h' }) : wpAny (model prog w) A (call (.type "list") [.ref D]) Q E s := by
  refine call_list_seq (hsz := hsz) D (.inl rfl) ho rfl rfl fun h' c' hk hD => ?_
  refine elEA (C.newN hk (size_none _) hD) fun n' C' N => ?_
  exact h _ n' h' c' C' N
end
noncomputable abbrev ones (l : List Nat) : List (Int × Value) := l.map fun (c : Nat) => (((c : Nat) : Int), Value.bool true)
theorem ones_pop {c : Nat} {l : List Nat} (h : c ∉ l) : without (ones (c :: l)) (c : Int) = ones l := by
  show ((((c : Nat) : Int), Value.bool true) :: ones l).filter (fun kv => decide (kv.1 ≠ (c : Int))) = _
  rw [List.filter_cons_of_neg (by walk_at "m sm")]
  refine List.filter_eq_self.mpr fun p hp => ?_
  obtain ⟨x, hx, rfl⟩ := List.mem_map.mp hp
  have : x ≠ c := fun q => h (q ▸ hx)
  exact decide_eq_true (by show ¬ ((x : Int) = (c : Int)); exact om102 this)
theorem ones_at {c : Nat} {l : List Nat} : valueAt (ones (c :: l)) (c : Int) = some (.bool true) := by simp [valueAt]
theorem ones_some {c : Nat} {l : List Nat} : (valueAt (ones l) (c : Int)).isSome = decide (c ∈ l) := by
  unfold valueAt
  induction l with
  | nil => rfl
  | cons x l ih =>
    show (Option.map _ (List.find? _ ((((x : Nat) : Int), Value.bool true) :: ones l))).isSome = _
    rw [List.find?_cons]
    by_cases h : x = c
    · subst h; simp
    · have : ¬ ((x : Int) = (c : Int)) := by exact om102 h
      rw [decide_eq_false this]
      dsimp only
      rw [ih]; simp [Ne.symm h]
theorem ones_put {c : Nat} {l : List Nat} (h : c ∉ l) : stored (ones l) (c : Int) (.bool true) = ones (l ++ [c]) := by
  unfold stored
  rw [if_neg]
  · show ones l ++ ones [c] = _
    exact List.map_append.symm
  · intro q
    refine elEA (List.any_eq_true.mp q) fun p hp e => ?_
    obtain ⟨x, hx, rfl⟩ := List.mem_map.mp hp
    have e' : (x : Int) = (c : Int) := of_decide_eq_true e
    exact h ((by exact cst : x = c) ▸ hx)
structure StH (w : World) (n6 n' : Ents) (fd R WD : Addr) (mf : List (Nat × Va)) (rows rest : List Nat) : Prop where
  kv : KV w (n'.lookup ·) fd mf
  ln : LN (n'.lookup ·) R rows
  wd : ∃ ow, n'.lookup WD = some ow ∧ ow.IsDictOf (intKind pwp w) (ones rest)
  per : ∀ b p, b ≠ fd → b ≠ R → b ≠ WD → n6.lookup b = some p → n'.lookup b = some p
section
variable {w : World} {A : Around} {E : Value → Shared → Prop} {s : Shared}
inductive SettW (w : World) (σ : HS) (N : Nat) (kx : Addr) (n6 : Ents) (fd R WD : Addr) : Nat → Binds → Ents → Prop
  | mk (mf : List (Nat × Va)) (rows : List Nat) (i : Nat) (ti : Tok) {n' : Ents} (SV : StInv σ N mf rows i) (SH : StH w n6 n' fd R WD mf rows (rows.drop i)) :
    SettW w σ N kx n6 fd R WD (StInv.mu σ mf rows i) [("spot", .int (i : Nat) ti), ("waiting", .ref WD), ("row", .ref R), ("self", .ref kx)] n'
inductive SettF (w : World) (σ : HS) (cc : Nat) (tv : Tok) (i : Nat) (ts : Tok) (kx : Addr) (n6 : Ents) (fd R WD : Addr) (mf : List (Nat × Va)) (rows xs : List Nat) (k : Nat) : Binds → Ents → Prop
  | mk (rows' : List Nat) {n' : Ents} (UV : UInv σ rows rows' i (xs.take k)) (SH : StH w n6 n' fd R WD mf rows' (rows'.drop (i + 1))) :
    SettF w σ cc tv i ts kx n6 fd R WD mf rows xs k [("c", .int (cc : Nat) tv), ("spot", .int ((i + 1 : Nat) : Int) ts), ("waiting", .ref WD), ("row", .ref R), ("self", .ref kx)] n'
set_option maxHeartbeats 4000000 in
theorem ksettle_ok {σ : HS} {kx kd an vd td : Addr} {N c ck : Nat} {u : Tok} {m : List (Nat × Va)} {Q : Value → Shared → Prop} {B : Heap} {n : Ents} (W : Wd w B) (Ow : Own B s.heap n) (I : σ.Ins B) (X : Inst B an 57 [("n", .int (N : Nat) u)]) (J : OI (n.lookup ·) kx kd 114 (kfs σ.hp an vd td)) (V : KV w (n.lookup ·) vd m)
    (H : σ.On w c ck (n.lookup ·)) (O : σ.Ok) (Op : σ.Ops) (Bl : σ.Below N (vget m)) (hk : ∀ c ∈ m.map (·.1), c < σ.N) (hs : Small N m) (hn : 0 < N) (hn1 : N ≤ 100) (hdis : kd ∉ σ.ks) (hroom : A.depth + 200 < recursionLimit) (hu : A.units + 500 < cLine) (hh : A.handled = none)
    (post : ∀ fd m' s' n', Mut s.heap n s'.heap n' [kd] → Up s s' → OI (n'.lookup ·) kx kd 114 (kfs σ.hp an fd td) → KV w (n'.lookup ·) fd m' → σ.Below N (vget m') → σ.Post N (vget m') → (∀ c ∈ m'.map (·.1), c < σ.N) → Small N m' → (∀ b p, n.lookup b = some p → b ≠ fd) → Q .none s') :
    wpAny (model PySem.Challenge.pw_pq0072_01 w) A (call (.ref 99) [.ref kx]) Q E s := by
  have IB := I.keeps Ow.bar
  have I1 := IB.hp
  have XB := X.keeps Ow.bar
  refine enterC (n := n) W Ow (x := mth 4 4) rfl k_99 c_99 (by exact rm0) (binds := [("self", .ref kx)]) rfl (locs rfl) (by decide) fun L h₁ W' C => ?_
  change Cx (bar s.heap n) L h₁ [("self", .ref kx)] n at C
  walk_at "m go"
  refine begun_ok (W'.keeps C.own.bar) C.own.same (IB.keeps C.own.bar) (XB.keeps C.own.bar) J V H.U O Bl hk hs (by show A.depth + 1 + 50 < recursionLimit; exact rm2) hh fun fd m2 s2 n2 M2 X2 => X2.goM M2 fun h2 d2 tk2 M2 J2 V2 B2 K2 S2 hfd => ?_
  have C2 := C.after M2
  clear C
  refine elEEA J.d fun kes kep hkd _ => ?_
  have St2 : Stay (· = kd) n n2 := ⟨fun b p h e => M2.le b p (by simpa using h) e, fun b p h e => by subst h; rw [show n.lookup b = _ from hkd] at e; cases e; simp⟩
  have H2 := H.keepS St2 fun b hb q => hdis (q ▸ hb)
  have hne2 : ∀ b p, b ≠ kd → n.lookup b = some p → n2.lookup b = some p := fun b p h e => St2.per b p h e
  clear V M2
  walk_at "m go"
  refine hclasses_ok (W'.keeps C2.keep) (IB.keeps C2.keep) (H2.U.wider fun a o e => C2.lk e) O.u (by show A.depth + 1 + 20 < recursionLimit; exact rm2) hh fun D vs ep s3 X3 => X3.go fun h3 d3 tk3 k3 hD hDo hN => ?_
  have C3 := C2.grow k3
  clear C2
  have hvl := hN.length
  have hr11 : (roots σ.U.ps).length ≤ 11 := Nat.le_trans (Nat.le_trans (List.length_filter_le _ _) (by rw [List.length_range]; exact Nat.le_refl _)) O.u11
  walk_at "m go"
  refine listR C3 hDo (by rw [Array.length_toList] at hvl; rw [sizeLine_eq]; exact ell) fun R n4 h4 e4 C4 N4 => ?_
  walk_at "m go"
  rename_i h5 C5
  refine dictOnes (vs := vs.toList) C5 W'.lim rfl (by simpa using C5.lk N4.self) hN (List.nodup_range.sublist List.filter_sublist) hh (by exact lt_) fun WD n6 o6 s6 C6 N6 X6 hd6 lo6 => ?_
  refine elEEE X6.cut fun h6 d6 tk6 Xx1 => ?_
  obtain rfl := Xx1
  have J6 := (J2.mono N4.le).mono N6.le
  have H6 := (H2.mono N4.le).mono N6.le
  have V6 : KV w (n6.lookup ·) fd m2 := V2.mono fun _ e => N6.le _ _ (N4.le _ _ e)
  have hR6 := N6.le _ _ N4.self
  refine elEEA V2 fun _ _ hvd _ => ?_
  have dR : fd ≠ R := N4.ne _ _ hvd
  have dW : fd ≠ WD := N6.ne _ _ (N4.le _ _ hvd)
  have dRW : R ≠ WD := N6.ne _ _ N4.self
  have new6 : ∀ b p, b ≠ kd → n.lookup b = some p → b ≠ fd ∧ b ≠ R ∧ b ≠ WD := fun b p h e => ⟨hfd b p e, N4.ne _ _ (hne2 b p h e), N6.ne _ _ (N4.le _ _ (hne2 b p h e))⟩
  have kx2 : kx ≠ fd ∧ kx ≠ R ∧ kx ≠ WD := new6 _ _ (fun q => by have := J.x; rw [q] at this; rw [show n.lookup kd = _ from hkd] at this; cases this) J.x
  have kd2 : kd ≠ fd ∧ kd ≠ R ∧ kd ≠ WD := by
    refine elEEA J2.d fun _ _ e _ => ?_
    exact ⟨hfd _ _ hkd, N4.ne _ _ e, N6.ne _ _ (N4.le _ _ e)⟩
  have ks2 : ∀ b ∈ σ.ks, b ≠ fd ∧ b ≠ R ∧ b ≠ WD := fun b hb => by
    refine elE (H.has b hb) fun p e => ?_
    exact new6 b p (fun q => hdis (q ▸ hb)) e
  have N6self := N6.self
  have per26 : ∀ b p, b ≠ kd → n.lookup b = some p → n6.lookup b = some p := fun b p h e => N6.le _ _ (N4.le _ _ (hne2 b p h e))
  have hcl6 : ∀ b p, (b = fd ∨ b = R ∨ b = WD) → n6.lookup b = some p → p.cls ≠ .type "tuple" := fun b p h e => by
    rcases h with rfl | rfl | rfl
    · refine elEEAA V6 fun o _ e2 hd _ => ?_
      rw [show n6.lookup b = _ from e2] at e; cases e; rw [(isDict_type hd).1]; simp
    · rw [hR6] at e; cases e; simp
    · rw [N6self] at e; cases e; rw [(isDict_type hd6).1]; simp
  clear N4 N6 H2 J2 hne2 C3 k3 hD hDo X3 C4 C5 St2
  walk_at "m go"
  rename_i h7 C7
  refine whileG (SettW w σ N kx n6 fd R WD) _ Up.mk C7 (.mk m2 (roots σ.U.ps) 0 _ (StInv.init O B2 S2 K2) ⟨V6, ⟨_, _, hR6, hN⟩, ⟨o6, N6self, hd6⟩, fun _ _ _ _ _ e => e⟩) ?_
  rintro _ _ n' ⟨mf, rows, i, ti, SV, SH⟩ h d tk C'
  refine genQ fun QQ hQ => ?_
  refine elEEA SH.ln fun vr er hRo hRn => ?_
  have hrl : vr.size = rows.length := by have := hRn.length; simpa using this
  have hsz := SV.size
  walk_at "m go"
  refine lenL (C'.lk hRo) (by exact om158 hrl hsz) fun t8 tk8 => ?_
  iterate 2 walk1
  refine hQ _ _ ?_
  walk1
  · refine genQ fun QQ hQ => ?_
    rename_i hlt
    have hlt' : i < rows.length := by exact om138 hrl hlt
    obtain ⟨cc, hcc⟩ : ∃ cc, rows[i]? = some cc := ⟨_, List.getElem?_eq_getElem hlt'⟩
    refine elEAE (hRn.get hcc) fun v8 hv8 tv8 Xx3 => ?_
    obtain rfl := Xx3
    have hccm := SV.rts cc (List.mem_of_getElem? hcc)
    have hrest := rest_cons hcc
    have hnd := SV.nd
    rw [hrest, List.nodup_cons] at hnd
    walk_at "m go"
    refine itemO (C'.lk hRo) (k := i) (by rw [← Array.getElem?_toList]; exact hv8) (by exact om232 hrl hsz hlt) ?_
    walk_at "m go"
    walk1
    walk_at "m go"
    refine newTupleR C' (by simp [sizeLine_eq]) fun T n8 h8 C8 N8 => ?_
    refine swapT C8 (C8.lk N8.self) hh rfl fun h9 tk9 C9 => ?_
    have C10 : Cx (bar s.heap n) L h9 [("c", .int (cc : Nat) tv8), ("spot", .int ((i + 1 : Nat) : Int) (tk8 + 1)), ("waiting", .ref WD), ("row", .ref R), ("self", .ref kx)] n' := (C9.narrow C'.nd N8.le).names (by walk_at "m names")
    clear C9 C8 N8 C'
    refine elEA SH.wd fun ow how hod => ?_
    rw [hrest] at hod
    have J' : OI (n'.lookup ·) kx kd 114 (kfs σ.hp an fd td) := ⟨SH.per _ _ kx2.1 kx2.2.1 kx2.2.2 J6.x, let ⟨es, ep, e, r⟩ := J6.d; ⟨es, ep, SH.per _ _ kd2.1 kd2.2.1 kd2.2.2 e, r⟩⟩
    walk_at "m go"
    refine gm_dict (C10.lk how) PySem.F.slot_dict_pop PySem.F.type_dict_pop ?_ (isDict_type hod).1 (isDict_type hod).2
    walk_at "m go"
    have hlen1 : (rows.drop (i + 1)).length ≤ 700 := by rw [List.length_drop]; exact om241 hrl hsz hlt
    refine dPopX C10 how hod (intKind_is _ _ _ _) rfl ones_at (by rw [List.length_map, List.length_cons, sizeLine_eq]; exact ll1) fun h11 n11 o11 tk11 C11 hw11 hd11 off11 => ?_
    rw [ones_pop hnd.1] at hd11
    have per11 : ∀ b p, b ≠ fd → b ≠ R → b ≠ WD → n6.lookup b = some p → n11.lookup b = some p := fun b p q1 q2 q3 e => off11 _ _ q3 (SH.per _ _ q1 q2 q3 e)
    have J11 : OI (n11.lookup ·) kx kd 114 (kfs σ.hp an fd td) := ⟨per11 _ _ kx2.1 kx2.2.1 kx2.2.2 J6.x, let ⟨es, ep, e, r⟩ := J6.d; ⟨es, ep, per11 _ _ kd2.1 kd2.2.1 kd2.2.2 e, r⟩⟩
    have stay : ∀ {n' : Ents}, (∀ b p, b ≠ fd → b ≠ R → b ≠ WD → n6.lookup b = some p → n'.lookup b = some p) → σ.On w c ck (n'.lookup ·) := fun {n'} per => H6.keepS (ch := fun b => b = fd ∨ b = R ∨ b = WD) ⟨fun b p h e => by
      rw [not_or, not_or] at h; exact per b p h.1 h.2.1 h.2.2 e, hcl6⟩ fun b hb q => by
        rcases q with q | q | q
        · exact (ks2 b hb).1 q
        · exact (ks2 b hb).2.1 q
        · exact (ks2 b hb).2.2 q
    have H11 := stay per11
    have V11 : KV w (n11.lookup ·) fd mf := SH.kv.mono fun o e => off11 _ _ dW e
    have R11 := off11 _ _ dRW hRo
    clear C10 J'
    walk_at "m go"
    refine reckoned_ok (W'.keeps C11.keep) (IB.keeps C11.keep) (OI.inst (J11.mono fun _ _ e => C11.lk e)) (XB.keeps C11.keep) (V11.h C11) (H11.N.mono fun _ _ e => C11.lk e) (H11.U.wider fun _ _ e => C11.lk e) O Op SV.small hn hn1 hccm.1 hccm.2 (by show A.depth + 1 + 100 < recursionLimit; exact rm2) (by show A.units + 3 + 400 < cLine; exact rm2) hh fun v12 x12 s12 X12 => X12.go fun h12 d12 tk12 k12 hv12 hrk => ?_
    have C12 := C11.grow k12
    clear C11
    walk_at "m go"
    rename_i h13 C13
    refine kvGm (V11.h C13) ?_
    walk_at "m go"
    refine kvGet (V11.h C13) fun v14 tk14 hv14 => ?_
    walk_at "m go"
    refine neV2 hv12 hv14 (fun heq => ?_) fun hne' => ?_
    · walk_at "m go"
      refine elA (SV.same hcc hrk heq) fun S' mu' => ?_
      refine hQ _ _ ?_
      exact ⟨.inl rfl, Up.mk, _, _, n11, mu', C13.names (by walk_at "m names"), .mk mf rows (i + 1) _ S' ⟨V11, ⟨vr, er, R11, hRn⟩, ⟨o11, hw11, hd11⟩, per11⟩⟩
    · walk_at "m go"
      have hml := V11.len SV.keys
      have n11' := O.n11
      refine kvSet C13 V11 hv12 (by exact llt) fun h15 n15 tk15 C15 V15 off15 _ => ?_
      have per15 : ∀ b p, b ≠ fd → b ≠ R → b ≠ WD → n6.lookup b = some p → n15.lookup b = some p := fun b p q1 q2 q3 e => off15 _ _ q1 (per11 _ _ q1 q2 q3 e)
      have H15 := stay per15
      have C16 : Cx (bar s.heap n) L h15 [("c", .int (cc : Nat) tv8), ("spot", .int ((i + 1 : Nat) : Int) (tk8 + 1)), ("waiting", .ref WD), ("row", .ref R), ("self", .ref kx)] n15 := C15.names (by walk_at "m names")
      have J15 : OI (n15.lookup ·) kx kd 114 (kfs σ.hp an fd td) := ⟨per15 _ _ kx2.1 kx2.2.1 kx2.2.2 J6.x, let ⟨es, ep, e, r⟩ := J6.d; ⟨es, ep, per15 _ _ kd2.1 kd2.2.1 kd2.2.2 e, r⟩⟩
      clear C12 C13 C15 J11
      walk1
      refine forG (L := L) ?_
      walk_at "m go"
      refine users_ok (W'.keeps C16.keep) (IB.keeps C16.keep) (H15.mono fun _ _ e => C16.lk e) O hccm.1 (by show A.depth + 1 + 50 < recursionLimit; exact rm2) hh fun D us xs e17 s17 X17 => X17.go fun h17 d17 tk17 k17 hD hDo hN17 hxN hxs hxl => ?_
      have C17 := C16.grow k17
      have ap17 := Apart.fresh C16 hD
      have hul := hN17.length
      refine ⟨SettF w σ cc tv8 i (tk8 + 1) kx n6 fd R WD (vput mf cc x12) rows xs, bar s.heap n, [D], _, _, _, n15, Up.mk, C17, ap17, it_list hh (isList_obj hDo), .mk rows (UInv.init SV hcc) ⟨V15, ⟨vr, er, off15 _ _ (Ne.symm dR) R11, hRn⟩, ⟨o11, off15 _ _ (Ne.symm dW) hw11, hd11⟩, per15⟩, ?_, ?_⟩
      · rintro k v g _ n18 ⟨rows', UV, SH18⟩ h18 d18 tk18 hk18 hP kg C18
        refine genQ fun QQ hQ => ?_
        have Wg := W'.keeps kg
        have Ig := IB.keeps kg
        have I1g := I1.keeps kg
        refine elEAE (hN17.get1 (show us[k]? = some v by simpa using hP)) fun jj hjj tj Xx5 => ?_
        obtain rfl := Xx5
        have hjN := hxN jj (List.mem_of_getElem? hjj)
        have htk : xs.take (k + 1) = xs.take k ++ [jj] := by rw [List.take_add_one, hjj]; simp
        have H18 := stay SH18.per
        have J18 : OI (n18.lookup ·) kx kd 114 (kfs σ.hp an fd td) := ⟨SH18.per _ _ kx2.1 kx2.2.1 kx2.2.2 J6.x, let ⟨es, ep, e, r⟩ := J6.d; ⟨es, ep, SH18.per _ _ kd2.1 kd2.2.1 kd2.2.2 e, r⟩⟩
        walk_at "m go"
        refine hfind_ok (Wg.keeps C18.keep) (Ig.keeps C18.keep) (H18.U.wider fun _ _ e => C18.lk e) O.u (O.len ▸ hjN) (by show A.depth + 1 + 10 < recursionLimit; exact rm2) fun s19 t19 X19 => X19.go fun h19 d19 tk19 k19 => ?_
        have C19 := C18.grow k19
        clear C18
        walk_at "m go"
        rename_i h20 C20
        refine elEA SH18.wd fun ow how hod => ?_
        refine dNotIn (C20.lk how) hod lo6 (intKind_is _ _ _ _) fun tk21 => ?_
        rw [ones_some]
        by_cases hin : root σ.U.ps jj ∈ rows'.drop (i + 1)
        · rw [decide_eq_true hin]
          walk_at "m go"
          try refine hQ _ _ ?_
          exact ⟨.inl rfl, Up.mk, _, n18, C20.names (by walk_at "m names"), rows', htk ▸ UV.skip hin, SH18⟩
        · rw [decide_eq_false hin]
          walk_at "m go"
          have hrl' : rows'.length ≤ 730 := by
            obtain ⟨⟨e, e1, e2⟩, _⟩ := UV
            have : (xs.take k).length ≤ xs.length := by rw [List.length_take]; exact om40 hul
            rw [e1, List.length_append]; exact om245 hsz hxl hul e2 this
          refine dSetX (v := .bool true) C20 how hod (intKind_is _ _ _ _) (by rw [List.length_map, List.length_drop, sizeLine_eq]; exact om256 hrl hsz hlt hrl') fun h22 n22 o22 tk22 C22 hw22 hd22 off22 => ?_
          rw [ones_put hin] at hd22
          refine elEEA SH18.ln fun vr2 er2 hR2 hRn2 => ?_
          have hR22 := off22 _ _ dRW hR2
          clear C20
          walk_at "m go"
          have hv2 := hRn2.length
          refine appendX C22 hR22 (by rw [Array.length_toList] at hv2; rw [sizeLine_eq]; exact ell) fun h23 n23 e23 C23 hR23 off23 => ?_
          walk_at "m go"
          obtain ⟨⟨e, e1, _⟩, _⟩ := id UV
          try refine hQ _ _ ?_
          refine ⟨.inl rfl, Up.mk, _, n23, C23.names (by walk_at "m names"), rows' ++ [root σ.U.ps jj], htk ▸ UV.add O hlt' hjN hin, ⟨SH18.kv.mono fun o q => off23 _ _ dR (off22 _ _ dW q), ⟨_, e23, hR23, nums_snoc hRn2⟩, ⟨o22, off23 _ _ (Ne.symm dRW) hw22, ?_⟩, fun b p q1 q2 q3 q => off23 _ _ q2 (off22 _ _ q3 (SH18.per _ _ q1 q2 q3 q))⟩⟩
          rw [drop_snoc (by rw [e1, List.length_append]; exact om190 hrl hlt)]
          exact hd22
      · rintro _ n18 ⟨rows', UV, SH18⟩ h18 d18 tk18 C18
        rw [show xs.take us.toArray.size = xs from by rw [List.size_toArray, hul]; exact List.take_length] at UV
        walk_at "m go"
        refine elA (SV.rise O hcc hn hrk hne' UV hxl hxs) fun S' mu' => ?_
        refine hQ _ _ ?_
        exact ⟨.inl rfl, Up.mk, _, _, n18, mu', C18.names (by walk_at "m names"), .mk _ rows' (i + 1) _ S' SH18⟩
  · rename_i hlt
    have := SV.post (by exact om146 hrl hlt)
    walk_at "m go"
    exact post fd mf _ n' (C'.mut fun b p hb e => (let ⟨q1, q2, q3⟩ := new6 b p (by simpa using hb) e; SH.per b p q1 q2 q3 (per26 b p (by simpa using hb) e))) Up.mk ⟨SH.per _ _ kx2.1 kx2.2.1 kx2.2.2 J6.x, let ⟨es, ep, e, r⟩ := J6.d; ⟨es, ep, SH.per _ _ kd2.1 kd2.2.1 kd2.2.2 e, r⟩⟩ SH.kv SV.below this SV.keys SV.small hfd
end
end J6
section L1
structure SrcOn (w : World) (sd rw : Addr) (a : Nat) (f : Look) : Prop where
  d : ∃ o t, f sd = some o ∧ o.IsDictOf (strKind pwp w) [("row", .ref rw), ("at", .int (a : Nat) t)]
  r : ∃ m, LI f rw m ∧ m ≤ 48
theorem SrcOn.mono {w : World} {sd rw : Addr} {a : Nat} {f g : Look} (S : SrcOn w sd rw a f) (k : ∀ b p, f b = some p → g b = some p) : SrcOn w sd rw a g := by
  obtain ⟨⟨o, t, e, h⟩, m, ⟨vs, ep, e', r⟩, hm⟩ := S
  exact ⟨⟨o, t, k _ _ e, h⟩, m, ⟨vs, ep, k _ _ e', r⟩, hm⟩
theorem fmod_nat (i : Int) {m : Nat} (hm : 0 < m) : ∃ j : Nat, i.fmod (m : Int) = (j : Nat) ∧ j < m := by
  refine ⟨(i.fmod (m : Int)).toNat, ?_, ?_⟩
  · rw [Int.fmod_eq_emod_of_nonneg _ (by exact z_), Int.toNat_of_nonneg (Int.emod_nonneg _ (by exact om48 hm))]
  · rw [Int.fmod_eq_emod_of_nonneg _ (by exact z_)]
    have h1 := Int.emod_nonneg i (b := (m : Int)) (by exact om48 hm)
    have h2 := Int.emod_lt_of_pos i (b := (m : Int)) (by exact om38 hm)
    omega
section
variable {w : World} {A : Around} {E : Value → Shared → Prop} {s : Shared}
set_option maxHeartbeats 2000000 in
theorem next_ok {sd rw : Addr} {a m : Nat} {t : Tok} {Q : Value → Shared → Prop} {B : Heap} {n : Ents} (W : Wd w B) (Ow : Own B s.heap n) (S : SrcOn w sd rw a (n.lookup ·)) (ha : a ≤ 1000) (hm : 0 < m) (hroom : A.depth + 10 < recursionLimit)
    (post : ∀ j t' s' n', j < m → Mut s.heap n s'.heap n' [sd] → Up s s' → SrcOn w sd rw (a + 1) (n'.lookup ·) → Off sd n n' → Q (.int (j : Nat) t') s') :
    wpAny (model PySem.Challenge.pw_pq0072_01 w) A (call (.ref 513) [.ref sd, .int (m : Nat) t]) Q E s := by
  obtain ⟨⟨o, ta, ho, hd⟩, mm, ⟨vs, ep, hr, hvs, hi⟩, hmm⟩ := S
  refine enterC (n := n) W Ow (x := dfn 18) rfl k_513 c_513 (by exact rm0) (binds := [("src", .ref sd), ("many", .int m t)]) rfl (locs rfl) (by decide) fun L h₁ W' C => ?_
  change Cx (bar s.heap n) L h₁ [("many", .int (m : Nat) t), ("src", .ref sd)] n at C
  walk_at "m go"
  refine dItem (knd := strKind pwp w) (k := ("at" : Str)) (v := .int (a : Nat) ta) (C.lk ho) hd (strKind_is _ _ _ _) rfl fun tk1 => ?_
  walk_at "m go"
  rename_i h2 C2
  walk1
  walk_at "m go"
  refine dSetX (knd := strKind pwp w) (k := ("at" : Str)) C2 ho hd (strKind_is _ _ _ _) (by simp [sizeLine_eq]) fun h3 n3 o3 tk3 C3 ho3 hd3 off3 => ?_
  have hd3' : ∃ t', o3.IsDictOf (strKind pwp w) [("row", .ref rw), ("at", .int ((a + 1 : Nat) : Int) t')] := ⟨_, hd3⟩
  have hne : rw ≠ sd := fun q => by
    have hr' : n.lookup rw = _ := hr
    rw [q, ho] at hr'
    obtain rfl := Option.some.inj hr'
    exact absurd (isDict_type hd).1 (by walk_at "m sm")
  have hr3 : n3.lookup rw = some (seqObj "list" vs ep) := off3 _ _ hne hr
  have fin : ∀ j t' h' tk', j < m → Cx (bar s.heap n) L h' [("at", .int (a : Nat) ta), ("many", .int (m : Nat) t), ("src", .ref sd)] n3 → Q (.int (j : Nat) t') { s with heap := h', toks := tk' } := fun j t' h' tk' hj C' =>
    post j t' _ n3 hj (C'.mut fun b p hb e => off3 b p (by simpa using hb) e) Up.mk ⟨let ⟨t', h⟩ := hd3'; ⟨o3, t', ho3, h⟩, mm, ⟨vs, ep, hr3, hvs, hi⟩, hmm⟩ off3
  walk_at "m go"
  refine dItem (knd := strKind pwp w) (k := ("row" : Str)) (v := .ref rw) (C3.lk ho3) hd3 (strKind_is _ _ _ _) rfl fun tk4 => ?_
  walk_at "m go"
  refine lenL (C3.lk hr3) (by exact ell) fun t5 tk5 => ?_
  walk_at "m go"
  iterate 3 walk1
  · rename_i hlt
    walk_at "m go"
    refine dItem (knd := strKind pwp w) (k := ("row" : Str)) (v := .ref rw) (C3.lk ho3) hd3 (strKind_is _ _ _ _) rfl fun tk6 => ?_
    walk_at "m go"
    have hlt' : a < vs.size := by exact om81 hlt
    refine elEE (hi vs[a] (by walk_at "m sm")) fun i ti hvi => ?_
    refine itemO (C3.lk hr3) (k := a) (v := .int i ti) (by rw [Array.getElem?_eq_getElem hlt', hvi]) (by exact lt_) ?_
    walk_at "m go"
    refine mod_int (by exact om48 hm) ?_
    refine elEA (fmod_nat i hm) fun j ej hj => ?_
    rw [ej]
    exact fin j _ _ _ hj C3
  · walk_at "m go"
    refine mul_int ?_ (IntMulOk.of_left (intBits_le_64 (by decide) (by decide)))
    walk_at "m go"
    refine mul_int ?_ (IntMulOk.of_right (intBits_le_64 (by exact om77 ha) (by exact om67 ha)))
    walk_at "m go"
    refine floordiv_int (by decide) ?_
    walk_at "m go"
    walk1
    walk_at "m go"
    walk1
    walk_at "m go"
    refine mod_int (by exact om48 hm) ?_
    refine elEA (fmod_nat (7 * (a : Int) * a + (a : Int).fdiv 3 + 3) hm) fun j ej hj => ?_
    rw [ej]
    exact fin j _ _ _ hj C3
end
end L1
section L2
theorem miss_keys : typeLookup (.type "tuple") "keys" = pure none := by rw [typeLookup_type, builtinLookup_eq_fast]; kernel_rfl
set_option maxHeartbeats 2000000 in
theorem keys_none {prog : Program} {w : World} {A : Around} {E : Value → Shared → Prop} {s : Shared} {a : Addr} {xs : Array Value} {k : Nat} {Q : Option Value → Shared → Prop} (hx : s.heap.get? a = some (seqObj "tuple" xs k)) (hA : A.handled = none)
    (h : ∀ h' tk, Kp s.heap h' → Q none { s with heap := h', toks := tk }) : wpAny (model prog w) A (getAttr? (.ref a) "keys") Q E s := by
  obtain ⟨hp, g, d, tk, os⟩ := s
  have hT : ∀ tk', (⟨hp, g, d, tk', os⟩ : Shared).TypeIs (.ref a) "tuple" := fun _ => ⟨_, hx, rfl⟩
  have f1 := sub_AttributeError
  have f3 := F.slot_tuple_getattribute.lookup
  have f4 := F.slot_tuple_getattribute.bind (.ref a)
  have f5 := am_tuple_getattr_none
  have hm := miss_keys
  unfold getAttr? getAttrBy? getAttrBy
  repeat (any_goals (first | assumption | exact hT _ | ((with_reducible show wpAny _ _ (call (Value.builtin "tuple.__getattribute__") _ _) _ _ _); refine call_meets F.slot_tuple_getattribute (hT _) am_entry_tuple_getattribute (F.args_tuple_getattribute_2 _ _) (meets_getattribute_miss_tuple a xs k _ ("keys" : Str) _ hm (by decide +kernel)) ⟨hx, hA, fun h' tk' e hx' => ?_⟩) | wp_step))
  refine elEE hx'.there fun t' u' he => ?_
  have hE : ∀ tk', (⟨h', g, d, tk', os⟩ : Shared).TypeIs (.ref e) "AttributeError" := fun _ => ⟨_, he, rfl⟩
  show wpAny _ _ (getattributeRaised _ _ _ _ _ _ _) _ _ _
  unfold getattributeRaised
  repeat (any_goals (first | assumption | exact hE _ | wp_step))
  exact h _ _ hx'.keeps
theorem entry_update_loop : entryFor table "dict.update.loop" = some Builtin.«dict.update.loop» := entryFor_of_tree (by kernel_rfl)
theorem plain_update_loop : plainId "dict.update.loop" = true := by decide +kernel
noncomputable abbrev PairsAt (f : Look) (ps : List Addr) (kvs : List (Str × Value)) : Prop := Pw (fun p kv => ∃ t ep, f p = some (seqObj "tuple" #[.str kv.1 t, kv.2] ep)) ps kvs
theorem PairsAt.mono {f g : Look} {ps : List Addr} {kvs : List (Str × Value)} (h : PairsAt f ps kvs) : (∀ a ∈ ps, ∀ o, f a = some o → o.cls = .type "tuple" → g a = some o) → PairsAt g ps kvs := by
  induction h with
  | nil => exact fun _ => .nil
  | cons h _ ih => exact fun k => .cons (let ⟨t, ep, e⟩ := h; ⟨t, ep, k _ (.head _) _ e rfl⟩) (ih fun a ha => k a (.tail _ ha))
section
variable {prog : Program} {w : World} {A : Around} {R : Result → Shared → Prop} {I D T : Addr} {fp : List Addr} {items : Array Value} {ps : List Addr} {kvs : List (Str × Value)} {St : Nat → Heap → Prop} {res : Value}
theorem update_loop (W : Walks prog w A.in1 I fp [I] ps.length (fun i v => (ps.map Value.ref)[i]? = some v) St) (hD : D ∉ fp) (hI : ∀ p ∈ ps, p ≠ I) (nd : (kvs.map (·.1)).Nodup) (hz : kvs.length < 1000) :
    ∀ (k i : Nat) (s : Shared), ps.length - i = k → i ≤ ps.length → St i s.heap → s.heap.DictOf (strKind prog w) D (kvs.take i) → PairsAt s.heap.get? ps kvs →
      (∀ h' tk, (∀ b o, b ≠ D → b ≠ I → s.heap.get? b = some o → h'.get? b = some o) → h'.DictOf (strKind prog w) D kvs → R (.ok (.ret res)) { s with heap := h', toks := tk }) →
      codeAny (model prog w) A (.builtin "dict.update.loop" ⟨[.ref D, .ref I, rawInt (i : Nat), res], []⟩) R s := by
  have hDI : D ≠ I := fun q => hD (q ▸ W.sub _ (.head _))
  intro k
  induction k with
  | zero =>
    intro i s hk hi hst hd hp hR
    have hin : i = ps.length := by exact om71 hk hi
    subst hin
    refine codeAny_builtin entry_update_loop ?_
    rw [Around.under_plainId plain_update_loop _]
    show wpAny _ A.in1 (pyNext (.ref I) >>= _) _ _ s
    refine wpAny_bind (W.done _ _ _ hst fun h' tk' k' => ?_)
    refine wpAny_bind (m := Builtin.Dict.addKeywords D []) (wpAny_pure ?_)
    refine wpAny_pure (hR h' tk' (fun b o _ hb e => k' b o (by simpa using hb) e) ?_)
    rw [hp.length, List.take_length] at hd
    exact hd.at fun o e => k' _ _ (by simpa using hDI) e
  | succ k ih =>
    intro i s hk hi hst hd hp hR
    have hlt : i < ps.length := by exact om111 hk hi
    refine codeAny_builtin entry_update_loop ?_
    rw [Around.under_plainId plain_update_loop _]
    show wpAny _ A.in1 (pyNext (.ref I) >>= _) _ _ s
    refine wpAny_bind (W.item i _ _ _ hlt hst fun v h1 tk1 hP hst1 k1 => ?_)
    refine elEAEE (hp.get1 (List.getElem?_eq_getElem hlt)) fun kv hkv t ep ho => ?_
    rw [List.getElem?_map, List.getElem?_eq_getElem hlt] at hP
    obtain rfl : Value.ref ps[i] = v := by simpa using hP
    have ho1 := k1 _ _ (by simpa using hI _ (List.getElem_mem hlt)) ho
    have hd1 := hd.at fun o e => k1 _ _ (by simpa using hDI) e
    have hty : (⟨h1, s.gens, s.drawn, tk1, s.os⟩ : Shared).TypeIs (.ref ps[i]) "tuple" := ⟨_, ho1, rfl⟩
    have hnotin : kv.1 ∉ (kvs.take i).map (·.1) := fun q => by
      refine elEA (List.mem_map.mp q) fun e he e2 => ?_
      obtain ⟨j, hj, e3⟩ := List.mem_iff_getElem.mp he
      rw [List.length_take] at hj
      rw [List.getElem_take] at e3
      have hi' : i < kvs.length := by have := hp.length; exact tle
      have e4 : kvs[i] = kv := by have := List.getElem?_eq_getElem hi'; rw [hkv] at this; exact (Option.some.inj this).symm
      have hj' : j < kvs.length := by exact om96 hj hi'
      have := (List.getElem_inj (h₀ := by simpa using hj') (h₁ := by simpa using hi') nd).mp (by simp [e3, e2, e4])
      exact om115 hj hj' this
    have hst' : stored (kvs.take i) kv.1 kv.2 = kvs.take (i + 1) := by
      unfold stored
      rw [if_neg, List.take_add_one, hkv]
      · rfl
      · intro q
        refine elEA (List.any_eq_true.mp q) fun e he e2 => ?_
        exact hnotin (List.mem_map.mpr ⟨e, he, of_decide_eq_true e2⟩)
    refine wpAny_bind (wpAny_holding (wpAny_bind (wpAny_tryCatch (wpAny_bind (wpAny_typeOf hty ?_)))))
    rw [if_pos (by decide)]
    refine wpAny_bind (wpAny_seqItems ho1 rfl (wpAny_pure (wpAny_holding ?_)))
    refine wpAny_dictSet_pairs (knd := strKind prog w) (hsz := by rw [List.length_take, sizeLine_eq]; exact om87 hz) (strKind_is _ _ _ _) hd1 fun h2 hd2 hs2 => ?_
    rw [hst'] at hd2
    refine wpAny_pure ⟨plainId_quiet plain_update_loop _, ?_⟩
    refine ih (i + 1) _ (by exact om156 hk hlt) hlt (W.frame _ _ _ hst1 fun b hb o e => (hs2.2 b fun q => hD (q ▸ hb)).trans e) hd2 (hp.mono fun b hb o e hc => ?_) fun h' tk' k' hd' => hR h' tk' (fun b o hb1 hb2 e => k' b o hb1 hb2 ((hs2.2 b hb1).trans (k1 b o (by simpa using hb2) e))) hd'
    have hbD : b ≠ D := fun q => by
      refine elEA (Heap.dictOf_iff.mp hd) fun o' ho' hd' => ?_
      rw [q, ho'] at e
      obtain rfl := Option.some.inj e
      rw [(isDict_type hd').1] at hc; exact absurd hc (by walk_at "m sm")
    exact (hs2.2 b hbD).trans (k1 b o (by simpa using hI b hb) e)
end
end L2
section L2b
section
variable {prog : Program} {w : World} {A : Around} {T : Addr} {ps : List Addr} {kvs : List (Str × Value)}
set_option maxHeartbeats 2000000 in
theorem dictPairs {E : Value → Shared → Prop} {s : Shared} {h₀ : Heap} {L : Addr} {l : Binds} {n : Ents} {ep : Nat} {Q : Value → Shared → Prop} (C : Cx h₀ L s.heap l n) (hh : A.handled = none) (hT : s.heap.get? T = some (seqObj "tuple" (ps.map Value.ref).toArray ep)) (hp : PairsAt s.heap.get? ps kvs) (nd : (kvs.map (·.1)).Nodup) (hz : kvs.length < 1000)
    (h : ∀ D n' o h' tk, Cx h₀ L h' l n' → New n n' D o → o.IsDictOf (strKind prog w) kvs → Q (.ref D) { s with heap := h', toks := tk }) :
    wpAny (model prog w) A (call (.type "dict") [.ref T]) Q E s := by
  refine callType_codes (Q₁ := fun obj s₁ => obj = .ref s.heap.objs.size ∧ s₁ = { s with heap := s.heap.push { cls := .type "dict", data := .dict #[] } }) F.kt_called_dict (F.kt_typeCall_dict_1 _) F.entry_dict_init (kt_code_dict_new _ ⟨rfl, rfl⟩) ?_
  rintro obj s₁ ⟨rfl, rfl⟩
  have hnew : (s.heap.push { cls := .type "dict", data := .dict #[] }).DictOf (strKind prog w) s.heap.objs.size [] := Heap.DictOf.new s.heap
  have k0 : Kp s.heap (s.heap.push { cls := .type "dict", data := .dict #[] }) := fun b o e => Heap.get?_push_of_some _ e
  have hsz := Heap.size_push s.heap { cls := .type "dict", data := .dict #[] }
  have low : ∀ b o, s.heap.get? b = some o → b ≠ s.heap.objs.size := fun b o e => Nat.ne_of_lt (Heap.lt_size e)
  have none_of := size_none s.heap
  generalize s.heap.objs.size = D at hnew hsz low none_of ⊢
  generalize s.heap.push { cls := .type "dict", data := .dict #[] } = H at hnew hsz k0 ⊢
  refine ⟨hnew.typeIs, F.args_dict_init_2 _ _, ?_⟩
  unfold Builtin.«dict.__init__»
  refine wpAny_bind ?_
  unfold Builtin.Dict.selfAndRest
  refine wpAny_bind (wpAny_notOrdered_dict hnew.typeIs ?_)
  show wpAny _ _ (pure (D, [Value.ref T])) _ _ _
  refine wpAny_pure ?_
  show wpAny _ _ (Builtin.Dict.updateFrom "dict.__init__" D (.ref T) [] .none) _ _ _
  unfold Builtin.Dict.updateFrom
  have hT1 := k0 _ _ hT
  refine wpAny_bind (wpAny_typeOf (T := "tuple") ⟨_, hT1, rfl⟩ ?_)
  rw [if_pos (by decide)]
  refine wpAny_bind (keys_none (s := { s with heap := H }) hT1 (by simp [hh]) fun h2 tk2 k2 => ?_)
  rw [if_pos (show (none : Option Value).isNone = true from rfl)]
  have hT2 := k2 _ _ hT1
  refine wpAny_bind (wpAny_rule (wpAny_bind (wpAny_pyIter_tuple (s := { s with heap := h2, toks := tk2 }) (isTuple_obj hT2) ?_)))
  have hI0 := size_none h2
  have hTI : T ≠ h2.objs.size := Nat.ne_of_lt (Heap.lt_size hT2)
  have k3 : Kp h2 (h2.push { cls := .type "tuple_iterator", data := .fields #[.ref T, .int 0 0] }) := fun b o e => Heap.get?_push_of_some _ e
  have hIo : (h2.push { cls := .type "tuple_iterator", data := .fields #[.ref T, .int 0 0] }).get? h2.objs.size = some { cls := .type "tuple_iterator", data := .fields #[.ref T, .int 0 0] } := Heap.get?_push_size _ rfl
  dsimp only
  generalize h2.objs.size = I at hI0 hTI k3 hIo ⊢
  generalize (h2.push { cls := .type "tuple_iterator", data := .fields #[.ref T, .int 0 0] }) = H3 at k3 hIo ⊢
  have kA : Kp s.heap h2 := fun b o e => k2 _ _ (k0 _ _ e)
  have kB : Kp s.heap H3 := fun b o e => k3 _ _ (kA _ _ e)
  have nI : ∀ b o, s.heap.get? b = some o → b ≠ I := fun b o e q => by rw [q] at e; rw [kA _ _ e] at hI0; cases hI0
  have hlp := hp.length
  refine elEA (Heap.dictOf_iff.mp hnew) fun oD hoD hdD => ?_
  have hDT : D ≠ T := fun q => by rw [q] at hoD; rw [hT1] at hoD; obtain rfl := Option.some.inj hoD; exact absurd (isDict_type hdD).1 (by walk_at "m sm")
  have hDI : D ≠ I := fun q => by have := k2 _ _ hoD; rw [q] at this; rw [hI0] at this; cases this
  have W := Walks.tuple (prog := prog) (w := w) (A := A.in1.in1) (by simp [hh]) I T hTI (ps.map Value.ref).toArray
  refine wpAny_pure ⟨plainId_quiet plain_update_loop _, ?_⟩
  refine update_loop (A := A.in1) (fp := [I, T]) (ps := ps) (kvs := kvs) (St := fun i h => h.IsTupleIter I T i ∧ h.IsTuple T (ps.map Value.ref).toArray) (by simpa using W) (by simp [hDI, hDT]) (fun p hp' => ?_) nd hz ps.length 0 _ (by exact om103 hz hlp) (Nat.zero_le _) ⟨⟨_, hIo, rfl, rfl⟩, isTuple_obj (k3 _ _ hT2)⟩
    (Heap.dictOf_iff.mpr ⟨oD, k3 _ _ (k2 _ _ hoD), hdD⟩) (hp.mono fun a _ o e _ => kB _ _ e) fun h' tk' k' hd' => ?_
  · refine elEAEE (hp.mem1 hp') fun kv _ t ep' e => ?_
    exact nI _ _ e
  · refine elEA (Heap.dictOf_iff.mp hd') fun o ho hd => ?_
    refine elEA (C.newN (fun b o e => k' b o (low b o e) (nI b o e) (kB _ _ e)) none_of ho) fun n' C' N => ?_
    exact ⟨rfl, h D n' o h' tk' C' N hd⟩
end
end L2b
section L3
noncomputable def leafAds : List Addr := [487, 488, 489, 490, 491, 492, 493, 494, 495, 496]
noncomputable def leafVals : List (Str × Value) := [("0", .int 0 794), ("1", .int 1 796), ("x", .none), ("-1", .int (-1) 800), ("10", .int 10 802), ("007", .int 7 804), ("--1", .none), ("1x", .none), ("-0", .int 0 808), ("-", .none)]
theorem k_497 (p : Params) : (K p).lookup 497 = some (seqObj "tuple" (leafAds.map Value.ref).toArray 0) := by kernel_rfl
theorem k_487 (p : Params) : (K p).lookup 487 = some (seqObj "tuple" #[.str "0" 793, .int 0 794] 0) := by kernel_rfl
theorem k_488 (p : Params) : (K p).lookup 488 = some (seqObj "tuple" #[.str "1" 795, .int 1 796] 0) := by kernel_rfl
theorem k_489 (p : Params) : (K p).lookup 489 = some (seqObj "tuple" #[.str "x" 797, .none] 0) := by kernel_rfl
theorem k_490 (p : Params) : (K p).lookup 490 = some (seqObj "tuple" #[.str "-1" 798, .int (-1) 800] 0) := by kernel_rfl
theorem k_491 (p : Params) : (K p).lookup 491 = some (seqObj "tuple" #[.str "10" 801, .int 10 802] 0) := by kernel_rfl
theorem k_492 (p : Params) : (K p).lookup 492 = some (seqObj "tuple" #[.str "007" 803, .int 7 804] 0) := by kernel_rfl
theorem k_493 (p : Params) : (K p).lookup 493 = some (seqObj "tuple" #[.str "--1" 805, .none] 0) := by kernel_rfl
theorem k_494 (p : Params) : (K p).lookup 494 = some (seqObj "tuple" #[.str "1x" 806, .none] 0) := by kernel_rfl
theorem k_495 (p : Params) : (K p).lookup 495 = some (seqObj "tuple" #[.str "-0" 807, .int 0 808] 0) := by kernel_rfl
theorem k_496 (p : Params) : (K p).lookup 496 = some (seqObj "tuple" #[.str "-" 809, .none] 0) := by kernel_rfl
theorem leaf_pairs {w : World} {h : Heap} (W : Wd w h) : PairsAt h.get? leafAds leafVals :=
  .cons ⟨_, _, W.k _ _ (k_487 _)⟩ (.cons ⟨_, _, W.k _ _ (k_488 _)⟩ (.cons ⟨_, _, W.k _ _ (k_489 _)⟩ (.cons ⟨_, _, W.k _ _ (k_490 _)⟩ (.cons ⟨_, _, W.k _ _ (k_491 _)⟩ (.cons ⟨_, _, W.k _ _ (k_492 _)⟩ (.cons ⟨_, _, W.k _ _ (k_493 _)⟩ (.cons ⟨_, _, W.k _ _ (k_494 _)⟩ (.cons ⟨_, _, W.k _ _ (k_495 _)⟩ (.cons ⟨_, _, W.k _ _ (k_496 _)⟩ .nil)))))))))
noncomputable def isW (o : Option Value) (r : Option Int) : Bool := match o with
  | none => false
  | some v => match r with
    | none => isNo v
    | some j => intB v j
theorem isW_of {o : Option Value} {r : Option Int} (h : isW o r = true) : ∃ v, o = some v ∧ WIs v r := by
  cases o with
  | none => cases h
  | some v => cases r with
    | none => exact ⟨v, rfl, isNo_of h⟩
    | some j => exact ⟨v, rfl, intB_of h⟩
theorem leaf_vals : leafs.all (fun p => isW (valueAt leafVals p.1) p.2) = true := by decide +kernel
theorem leaf_nd : (leafVals.map (·.1)).Nodup := by decide +kernel
section
variable {prog : Program} {w : World} {A : Around} {E : Value → Shared → Prop} {s : Shared} {h₀ : Heap} {L : Addr} {l : Binds} {n : Ents} {env : Env}
theorem opsNotInL {T : Addr} {op : Str} {k : Nat} {t u : Tok} {k1 k2 k3 k4 k5 k6 k7 k8 k9 : Nat} {p1 p2 p3 p4 p5 p6 p7 p8 p9 p10 : Pos} {Q : Value → Shared → Prop} (C : Cx h₀ L s.heap l n) (hT : n.lookup T = some (pairO op t (k : Nat) u 0)) (hu : A.units + 20 < cLine)
    (h : ∀ h' n' tk, Cx h₀ L h' l n' → (∀ b p, n.lookup b = some p → n'.lookup b = some p) → Q (.bool (!opsOk op k)) { s with heap := h', toks := tk }) :
    wpAny (model prog w) A (eval (.List [.Tuple [.Constant (.str "add") k1 p1, .Constant (.int 2) k2 p2] k3 p3, .Tuple [.Constant (.str "mul") k4 p4, .Constant (.int 2) k5 p5] k6 p6, .Tuple [.Constant (.str "neg") k7 p7, .Constant (.int 1) k8 p8] k9 p9] p10) env)
      (fun b s₁ => wpAny (model prog w) A (compareOp .NotIn (.ref T) b) Q E s₁) E s := by
  iterate 2 walk1
  refine pairE C fun T1 n1 h1 tk1 t1 u1 C1 N1 => ?_
  walk1
  refine pairE C1 fun T2 n2 h2 tk2 t2 u2 C2 N2 => ?_
  walk1
  refine pairE C2 fun T3 n3 h3 tk3 t3 u3 C3 N3 => ?_
  walk1
  refine newListR C3 (by simp [sizeLine_eq]) fun D n4 h4 C4 N4 => ?_
  have q0 := N3.le _ _ (N2.le _ _ (N1.le _ _ hT))
  have q1 := N3.le _ _ (N2.le _ _ N1.self)
  have q2 := N3.le _ _ N2.self
  obtain ⟨e, he, hany⟩ := opsEq (A := A.in1) (s := { s with heap := h4, toks := tk3 }) (C4.lk (N4.le _ _ q0)) (C4.lk (N4.le _ _ q1)) (C4.lk (N4.le _ _ q2)) (C4.lk (N4.le _ _ N3.self)) (by
    simp only [List.nodup_cons, List.mem_cons, List.not_mem_nil, or_false, not_or]
    exact ⟨⟨N2.ne _ _ N1.self, N3.ne _ _ (N2.le _ _ N1.self), Ne.symm (N1.ne _ _ hT)⟩, ⟨N3.ne _ _ N2.self, Ne.symm (N2.ne _ _ (N1.le _ _ hT))⟩, Ne.symm (N3.ne _ _ (N2.le _ _ (N1.le _ _ hT))), fun q => q, .nil⟩) (by show A.units + 1 + 10 < cLine; exact rm2)
  refine SeqAt.notIn_listAt e (isList_obj (C4.lk N4.self)) he ?_
  rw [hany]
  exact h _ n4 _ C4 fun b p e => N4.le _ _ (N3.le _ _ (N2.le _ _ (N1.le _ _ e)))
end
section
variable {w : World} {A : Around} {E : Value → Shared → Prop} {s : Shared}
set_option maxHeartbeats 1000000 in
theorem lreck_ok {D : Addr} {op : Str} {n : Nat} {t u : Tok} {vs : List Value} {xs : List Va} {ep : Nat} {Q : Value → Shared → Prop} (W : Wd w s.heap) (hD : s.heap.get? D = some (lst vs ep)) (hv : Vls vs xs)
    (hop : OpFor op xs.length) (hn : 0 < n) (hn1 : n ≤ 100) (hb : ∀ k, some (some k) ∈ xs → k < n) (h4 : xs.length ≤ 4) (hroom : A.depth + 10 < recursionLimit) (hh : A.handled = none) (hu : A.units + 200 < cLine)
    (post : ∀ v s', Ext s s' → VIs v (reck n op xs) → Q v s') :
    wpAny (model PySem.Challenge.pw_pq0072_01 w) A (call (.ref 520) [.int (n : Nat) u, .str op t, .ref D]) Q E s := by
  have hl := hv.length
  refine enterC (n := []) W (Own.nil _) (x := dfn 19) rfl k_520 c_520 (by exact rm0) (binds := [("n", .int n u), ("op", .str op t), ("values", .ref D)]) rfl (locs rfl) (by decide) fun L h₁ W' C => ?_
  change Cx s.heap L h₁ [("values", .ref D), ("op", .str op t), ("n", .int (n : Nat) u)] [] at C
  change Wd w s.heap at W'
  walk_at "m go"
  refine newListR (vs := []) C (Nat.zero_le _) fun D2 n2 h2 C2 N2 => ?_
  refine eqEmpty (C2.keep _ _ hD) (C2.lk N2.self) (by show A.units + 3 < cLine; exact rm1) (fun h0 => ?_) fun h0 => ?_
  · have h0v : vs = [] := List.length_eq_zero_iff.mp (by simpa using h0)
    subst h0v
    obtain rfl : xs = [] := by cases hv; rfl
    walk_at "m go"
    have hlf := hop.1 rfl
    refine elEA (isW_of (List.all_eq_true.mp leaf_vals _ hlf)) fun v0 hv0 hw0 => ?_
    refine dictPairs C2 hh (C2.keep _ _ (W'.k _ _ (k_497 _))) (leaf_pairs (W'.keeps C2.keep)) leaf_nd (by decide) fun D3 n3 o3 h3 tk3 C3 N3 hd3 => ?_
    walk_at "m go"
    refine dItem (knd := strKind pwp w) (k := op) (v := v0) (C3.lk N3.self) hd3 (strKind_is _ _ _ _) hv0 fun tk4 => ?_
    walk_at "m go"
    have hrk : ∀ r, (leafs.lookup op).getD none = r → reck n op [] = r.map fun i => some (i % (n : Int)).toNat := fun r e => by unfold reck; rw [e]
    have hw0' : WIs v0 ((leafs.lookup op).getD none) := hw0
    clear hv0 hw0
    generalize hr : (leafs.lookup op).getD none = r at hw0'
    cases r with
    | none =>
      cases hw0'
      refine wpAny_is_self rfl ?_
      walk_at "m go"
      refine post _ _ (Ext.mk (Cx.keep (by assumption))) ?_
      rw [hrk _ hr]; rfl
    | some i =>
      refine elE hw0' fun t3 Xx1 => ?_
      obtain rfl := Xx1
      refine is_int_none ?_
      walk_at "m go"
      refine mod_int (by exact om110 hn hn1) ?_
      refine post _ _ (Ext.mk (Cx.keep (by assumption))) ?_
      rw [hrk _ hr]
      exact ⟨_, by rw [Int.fmod_eq_emod_of_nonneg _ (by exact z_), Int.toNat_of_nonneg (Int.emod_nonneg _ (by exact om110 hn hn1))]⟩
  · have h0' : xs.length ≠ 0 := by simp at h0; intro q; exact h0 (List.length_eq_zero_iff.mp (by exact om72 hl q))
    walk_at "m go"
    refine inV (C2.keep _ _ hD) hv (x := none) (by exact rfl) ?_
    by_cases hno : none ∈ xs
    · rw [decide_eq_true hno]
      walk_at "m go"
      refine post _ _ (Ext.mk C2.keep) ?_
      rw [reck_none (.inl hno)]; rfl
    · rw [decide_eq_false hno]
      walk_at "m go"
      refine lenL (C2.keep _ _ hD) (by simp; exact ell) fun t2 tk2 => ?_
      walk_at "m go"
      refine newTupleR C2 (by simp [sizeLine_eq]) fun T n4 h4 C4 N4 => ?_
      have hT := N4.self
      rw [show ([Value.str op t, Value.int (vs.toArray.size : Nat) t2].toArray : Array Value) = #[.str op t, .int (xs.length : Nat) t2] by simp [hl]] at hT
      refine opsNotInL C4 hT (by show A.units + 3 + 20 < cLine; exact rm2) fun h3 n3 tk3 C3 le3 => ?_
      clear C4 C2
      cases hok : opsOk op xs.length with
      | false =>
        walk_at "m go"
        refine post _ _ (Ext.mk C3.keep) ?_
        rw [reck_none (.inr ⟨fun q => h0' (by rw [q]; rfl), hok⟩)]; rfl
      | true =>
        walk_at "m go"
        refine inV (C3.keep _ _ hD) hv (x := some none) ⟨_, rfl⟩ ?_
        by_cases hcl : some none ∈ xs
        · rw [decide_eq_true hcl]
          walk_at "m go"
          refine post _ _ (Ext.mk C3.keep) ?_
          rw [reck_clash h0' hno hok hcl]; exact ⟨_, rfl⟩
        · rw [decide_eq_false hcl]
          walk_at "m go"
          refine SeqAt.RcAt.str_str _ _ _ _ _ _ _ _ ?_
          have hnum : ∀ (i : Nat), i < xs.length → ∃ (k : Nat) (tk : Tok), vs[i]? = some (.int (k : Nat) tk) ∧ xs[i]? = some (some (some k)) := fun i hi => by
            refine elEA (hv.get (List.getElem?_eq_getElem hi)) fun v hv1 hv2 => ?_
            have hm : xs[i] ∈ xs := List.getElem_mem hi
            generalize hx : xs[i] = x at hv2 hm
            rcases x with _ | _ | k
            · exact absurd hm hno
            · exact absurd hm hcl
            · refine elE hv2 fun tk Xx2 => ?_
              obtain rfl := Xx2
              exact ⟨k, tk, hv1, by rw [List.getElem?_eq_getElem hi, hx]⟩
          refine elEEA (hnum 0 (by omega)) fun a ta hva hxa => ?_
          have hD3 : h3.get? D = some (seqObj "list" vs.toArray ep) := C3.keep _ _ hD
          have ha := hb a (List.mem_of_getElem? hxa)
          have hhd : numOf (xs.headD none) = a := by
            cases xs with
            | nil => exact absurd rfl h0'
            | cons x r => obtain rfl : x = some (some a) := by simpa using hxa
                          rfl
          have hfm : ∀ i : Int, i.fmod (n : Int) = ((i % (n : Int)).toNat : Nat) := fun i => by rw [Int.fmod_eq_emod_of_nonneg _ (by exact z_), Int.toNat_of_nonneg (Int.emod_nonneg _ (by exact om110 hn hn1))]
          have hrk := reck_num (n := n) (op := op) h0' hno hok hcl
          rw [hhd] at hrk
          cases hng : op == "neg" with
          | true =>
            rw [hng, if_pos rfl] at hrk
            walk_at "m go"
            refine itemO hD3 (k := 0) (by simpa using hva) (by exact tlt) ?_
            walk_at "m go"
            walk1
            walk_at "m go"
            refine mod_int (by exact om110 hn hn1) ?_
            refine post _ _ (Ext.mk C3.keep) ?_
            rw [hrk, hfm]
            exact ⟨_, by rw [show ((n : Int) - (a : Int)) = ((n - a : Nat) : Int) by exact om186 ha hhd, ← Int.natCast_emod]; rfl⟩
          | false =>
            walk_at "m go"
            refine SeqAt.RcAt.str_str _ _ _ _ _ _ _ _ ?_
            rw [hng, if_neg (by walk_at "m sm")] at hrk
            obtain ⟨b, tb, hvb, hxb⟩ := hnum 1 (by
              unfold opsOk at hok
              rw [hng] at hok
              simp at hok; omega)
            have htl : numOf (xs.tail.headD none) = b := by
              cases xs with
              | nil => exact absurd rfl h0'
              | cons x r => cases r with
                | nil => simp at hxb
                | cons y r => obtain rfl : y = some (some b) := by simpa using hxb
                              rfl
            rw [htl] at hrk
            have hbb := hb b (List.mem_of_getElem? hxb)
            cases had : op == "add" with
            | true =>
              rw [had, if_pos rfl] at hrk
              walk_at "m go"
              refine itemO hD3 (k := 0) (by simpa using hva) (by exact tlt) ?_
              walk_at "m go"
              refine itemO hD3 (k := 1) (by simpa using hvb) (by decide) ?_
              walk1
              walk_at "m go"
              refine mod_int (by exact om110 hn hn1) ?_
              refine post _ _ (Ext.mk C3.keep) ?_
              rw [hrk, hfm]
              exact ⟨_, rfl⟩
            | false =>
              rw [had, if_neg (by walk_at "m sm")] at hrk
              walk_at "m go"
              refine itemO hD3 (k := 0) (by simpa using hva) (by exact tlt) ?_
              walk_at "m go"
              refine itemO hD3 (k := 1) (by simpa using hvb) (by decide) ?_
              refine mul_int ?_ ?_
              walk_at "m go"
              refine mod_int (by exact om110 hn hn1) ?_
              refine post _ _ (Ext.mk C3.keep) ?_
              rw [hrk, hfm]
              exact ⟨_, rfl⟩
              exact IntMulOk.of_left (intBits_le_64 (by exact om88 hhd) (by exact om208 hn hn1 ha hhd))
end
end L3
section L4
section
variable {w : World} {A : Around} {E : Value → Shared → Prop} {s : Shared}
set_option maxHeartbeats 1000000 in
theorem lboth_ok {a b : Value} {x y : Va} {Q : Value → Shared → Prop} (W : Wd w s.heap) (ha : VIs a x) (hb : VIs b y) (hroom : A.depth < recursionLimit)
    (post : ∀ v s', Ext s s' → VIs v (vj x y) → Q v s') :
    wpAny (model PySem.Challenge.pw_pq0072_01 w) A (call (.ref 527) [a, b]) Q E s := by
  refine enterC (n := []) W (Own.nil _) (x := dfn 20) rfl k_527 c_527 hroom (binds := [("here", a), ("there", b)]) rfl (locs rfl) (by decide) fun L h₁ W' C => ?_
  change Cx s.heap L h₁ [("there", b), ("here", a)] [] at C
  change Wd w s.heap at W'
  walk_at "m go"
  refine isV ha (fun hx => ?_) fun hx => ?_
  · walk_at "m go"
    refine isV ha (fun _ => ?_) fun h => absurd hx h
    walk_at "m go"
    exact post _ _ (Ext.mk C.keep) (by unfold vj; rw [if_pos (.inl hx)]; exact hb)
  · walk_at "m go"
    refine isV hb (fun hy => ?_) fun hy => ?_
    · walk_at "m go"
      refine isV ha (fun h => absurd h hx) fun _ => ?_
      walk_at "m go"
      refine post _ _ (Ext.mk C.keep) ?_
      unfold vj
      by_cases h : x = y
      · rw [if_pos (.inr h), ← h]; exact ha
      · rw [if_neg (by rintro (q | q); exact hx q; exact h q), if_pos hy]; exact ha
    · walk_at "m go"
      refine eqV2 ha hb (fun hxy => ?_) fun hxy => ?_
      · walk_at "m go"
        exact post _ _ (Ext.mk C.keep) (by unfold vj; rw [if_pos (.inr hxy), ← hxy]; exact ha)
      · walk_at "m go"
        exact post _ _ (Ext.mk C.keep) (by unfold vj; rw [if_neg (by rintro (q | q); exact hx q; exact hxy q), if_neg hy]; exact ⟨_, rfl⟩)
end
end L4
section L5
section
variable {prog : Program} {w : World} {A : Around} {E : Value → Shared → Prop} {s : Shared} {h₀ : Heap} {L : Addr} {l : Binds} {n : Ents} {env : Env}
theorem unpackK {x y : Str} {px py pos : Pos} {k : Nat} {a c : Addr} {ep : Nat} {v1 v2 : Value} {v₀ : Option Value} {o : Obj} {Q : Unit → Shared → Prop} (C : Cx h₀ L s.heap l n) (ho : s.heap.get? a = some (seqObj "tuple" #[v1, v2] ep)) (hh : A.handled = none)
    (hc : n.lookup c = some o) (hd : o.data = .cell v₀) (h : ∀ h' tk o', o'.data = .cell (some v1) → Cx h₀ L h' ((y, v2) :: l) (put n c o') → Q () { s with heap := h', toks := tk })
    (hcl : env.cells.lookup x = some c := by rfl) (he : env.locals = L := by rfl) (hk : env.scope.kind = .function := by rfl) (hx : env.kindOf x = some .cell := by rfl) (hy : env.kindOf y = some .local := by rfl) :
    wpAny (model prog w) A (assign (.Tuple [.Name x px, .Name y py] k pos) env (.ref a)) Q E s := by
  rw [arm_assign_Tuple]
  refine wpAny_bind (wpAny_standAt ?_)
  unfold unpack
  rw [show (assignEach [.Name x px, .Name y py] env).length = (#[v1, v2] : Array Value).size by rfl, show (assignEach [.Name x px, .Name y py] env).findIdx? (·.1) = none by rfl]
  refine wpAny_bind (wpAny_holding (wpAny_unpackItems_tuple hh (isTuple_obj ho) fun h' k => ?_))
  have C1 := C.ext (size_none _) k
  have e : (assignEach [.Name x px, .Name y py] env).map (·.2) = [assign (.Name x px) env, assign (.Name y py) env] := by rfl
  show wpAny _ _ (assignInOrder ((assignEach [.Name x px, .Name y py] env).map (·.2)) [v1, v2]) _ _ _
  rw [e]
  refine assignInOrder_cons (wpAny_assign_Name ?_)
  refine wpAny_storeName_cell hk hx hcl ⟨o, C1.lk hc, hd⟩ fun h2 hv hs => ?_
  refine elEA hv fun o' ho' hd' => ?_
  have C2 := C1.put hc (fun b ob hb e => (hs.2 b hb).trans e) ho'
  exact assignInOrder_cons (wpAny_assign_Name (stC C2 (fun h3 C3 => assignInOrder_nil (h _ _ o' hd' C3)) he hk hy))
theorem asgSub {M : Model} {o i : PySem.Expr} {pos : Pos} {v : Value} {Q : Unit → Shared → Prop} (h : wpAny M A (eval o env) (fun ov s₁ => wpAny M A (eval i env) (fun iv s₂ => wpAny M A (setItem ov iv v) Q E s₂) E s₁) E s) : wpAny M A (assign (.Subscript o i pos) env v) Q E s := by
  rw [assign_Subscript]
  refine wpAny_bind (wpAny_holding (wpAny_mono h (fun ov s1 h1 => wpAny_bind (wpAny_holding (wpAny_mono h1 (fun iv s2 h2 => wpAny_bind (wpAny_standAt (wpAny_bind (wpAny_holding (wpAny_mono h2 (fun _ s3 h3 => wpAny_release h3) fun _ _ e => e))))) fun _ _ e => e))) fun _ _ e => e))
theorem unpackG {t1 t2 : PySem.Expr} {pos : Pos} {k : Nat} {a : Addr} {ep : Nat} {v1 v2 : Value} {Q : Unit → Shared → Prop} (C : Cx h₀ L s.heap l n) (ho : s.heap.get? a = some (seqObj "tuple" #[v1, v2] ep)) (hh : A.handled = none)
    (h : ∀ h' tk, Cx h₀ L h' l n → wpAny (model prog w) A (assign t1 env v1) (fun _ s₁ => wpAny (model prog w) A (assign t2 env v2) Q E s₁) E { s with heap := h', toks := tk })
    (he : assignEach [t1, t2] env = [(false, assign t1 env), (false, assign t2 env)] := by rfl) :
    wpAny (model prog w) A (assign (.Tuple [t1, t2] k pos) env (.ref a)) Q E s := by
  rw [arm_assign_Tuple]
  refine wpAny_bind (wpAny_standAt ?_)
  unfold unpack
  rw [he]
  refine wpAny_bind (wpAny_holding (wpAny_unpackItems_tuple (items := #[v1, v2]) hh (isTuple_obj ho) fun h' k => ?_))
  have C1 := C.ext (size_none _) k
  refine assignInOrder_cons (wpAny_mono (h h' _ C1) (fun _ s1 h1 => ?_) fun _ _ e => e)
  exact assignInOrder_cons (wpAny_mono h1 (fun _ s2 h2 => assignInOrder_nil h2) fun _ _ e => e)
end
section
variable {w : World} {A : Around} {E : Value → Shared → Prop} {s : Shared}
inductive DueW (w : World) (σ : HS) (N : Nat) (u : Tok) (fd : Addr) (n4 : Ents) : Nat → Binds → Ents → Prop
  | mk (b : Bool) (mf : List (Nat × Va)) {n' : Ents} (F : KV w (n'.lookup ·) fd mf) (B : σ.Below N (vget mf)) (S : Small N mf) (K : ∀ c ∈ mf.map (·.1), c < σ.N) (P : b = false → σ.Post N (vget mf)) (per : ∀ a p, a ≠ fd → n4.lookup a = some p → n'.lookup a = some p) :
    DueW w σ N u fd n4 (2 * slack (roots σ.U.ps) (vget mf) + (if b then 1 else 0)) [("is_new", .bool b), ("n", .int (N : Nat) u)] n'
inductive DueF (w : World) (σ : HS) (N : Nat) (u : Tok) (fd : Addr) (n4 : Ents) (mf : List (Nat × Va)) (k : Nat) : Binds → Ents → Prop
  | mk (b : Bool) (m1 : List (Nat × Va)) {n' : Ents} (F : KV w (n'.lookup ·) fd m1) (V : DInv σ N mf m1 b k) (per : ∀ a p, a ≠ fd → n4.lookup a = some p → n'.lookup a = some p) : DueF w σ N u fd n4 mf k [("is_new", .bool b), ("n", .int (N : Nat) u)] n'
set_option maxHeartbeats 4000000 in
theorem due_ok {σ : HS} {N : Nat} {u : Tok} {Q : Value → Shared → Prop} (W : Wd w s.heap) (I : σ.Ins s.heap) (Nn : σ.Nodes s.heap.get?) (U : σ.U.On s.heap.get?) (O : σ.Ok) (Op : σ.Ops) (hn : 0 < N) (hn1 : N ≤ 100) (hroom : A.depth + 100 < recursionLimit) (hu : A.units + 400 < cLine) (hh : A.handled = none)
    (post : ∀ fd m s', Ext s s' → s.heap.get? fd = none → KV w s'.heap.get? fd m → σ.Below N (vget m) → σ.Post N (vget m) → Q (.ref fd) s') :
    wpAny (model PySem.Challenge.pw_pq0072_01 w) A (call (.ref 532) [.ref σ.hp, .int (N : Nat) u]) Q E s := by
  have I1 := I.hp
  have I2 := I.bk
  refine enterK (n := []) W (Own.nil _) (x := dfn 21) rfl k_532 c_532 (by exact rm0) (binds := [("one", .ref σ.hp), ("n", .int (N : Nat) u)]) (l := [("n", .int (N : Nat) u)]) rfl ⟨.inr ⟨rfl, rfl⟩, .inl rfl, trivial⟩ (by decide) (List.forall_mem_cons.mpr ⟨rfl, List.forall_mem_nil _⟩) (fun L h₁ tk cells W' X C => ?_) (fun L => show ([_, _] : List Addr).Nodup by walk_at "m sm")
  refine elEEAA X.two fun o1 o2 Xx1 hc1 hc2 => ?_
  obtain rfl := Xx1
  change Wd w s.heap at W'
  change o1.data = .cell none at hc1
  change o2.data = .cell (some (.ref σ.hp)) at hc2
  change Cx s.heap L h₁ [("n", .int (N : Nat) u)] [(L + 1 + 1, o1), (L + 1, o2)] at C
  walk_at "m go"
  refine dNewK C W'.lim fun fd n2 h2 C2 N2 k2 lo2 => ?_
  walk_at "m go"
  refine newTupleR C2 (by simp [sizeLine_eq]) fun T n3 h3 C3 N3 => ?_
  refine unpackK C3 (C3.lk N3.self) hh (N3.le _ _ (N2.le _ _ (by rw [List.lookup_cons, beq_self_eq_true]))) hc1 fun h4 tk4 o1' hc1' C4 => ?_
  have hcf := lookup_put_self (o := o1') (N3.le _ _ (N2.le _ _ (show List.lookup (L + 1 + 1) [(L + 1 + 1, o1), (L + 1, o2)] = some o1 by rw [List.lookup_cons, beq_self_eq_true])))
  have hl2 : List.lookup (L + 1) [(L + 1 + 1, o1), (L + 1, o2)] = some o2 := C.tail (n := [(L + 1, o2)]) (by rw [List.lookup_cons, beq_self_eq_true])
  have hneL : L + 1 ≠ L + 1 + 1 := Nat.ne_of_lt (Nat.lt_succ_self _)
  have hco := lookup_put_ne (o := o1') (N3.le _ _ (N2.le _ _ hl2)) hneL
  have hfdL : fd ≠ L + 1 + 1 := Ne.symm (N2.ne _ _ (show List.lookup (L + 1 + 1) [(L + 1 + 1, o1), (L + 1, o2)] = some o1 by rw [List.lookup_cons, beq_self_eq_true]))
  have hfdL1 : fd ≠ L + 1 := Ne.symm (N2.ne _ _ hl2)
  have hfd := lookup_put_ne (o := o1') (N3.le _ _ N2.self) hfdL
  clear C C2 C3 N3 N2 k2 hl2
  generalize put n3 (L + 1 + 1) o1' = n4 at C4 hcf hco hfd
  have F4 : KV w (n4.lookup ·) fd [] := ⟨_, [], hfd, isDict_new, .nil, lo2⟩
  walk1
  refine whileG (DueW w σ N u fd n4) _ Up.mk C4 (.mk true [] F4 (HS.Below.zero σ N) (fun _ _ h => nomatch h) (fun _ h => nomatch h) (fun q => nomatch q) fun _ _ _ e => e) ?_
  rintro _ _ n' ⟨b, mf, F', B', S', K', P', per'⟩ h d tk5 C'
  refine genQ fun QQ hQ => ?_
  have hcf' := per' _ _ (Ne.symm hfdL) hcf
  have hco' := per' _ _ (Ne.symm hfdL1) hco
  cases b with
  | false =>
    walk_at "m go"
    refine hQ _ _ ?_
    walk_at "m go"
    have hfd0 : s.heap.get? fd = none := by
      refine elEEA F' fun _ _ e _ => ?_
      exact (C'.nw _ (mem_of_lookup e)).2.2
    exact post fd mf _ (Ext.mk C'.keep) hfd0 (F'.h C') B' (P' rfl)
  | true =>
    walk_at "m go"
    refine hQ _ _ ?_
    refine (if_pos rfl).mpr ?_
    refine genQ fun QQ hQ => ?_
    walk_at "m go"
    rename_i h6 C6
    have C7 : Cx s.heap L h6 [("is_new", .bool false), ("n", .int (N : Nat) u)] n' := C6.names (by walk_at "m names")
    clear C6 C'
    refine forG (L := L) ?_
    walk_at "m go"
    refine hsize_ok (W'.keeps C7.keep) (I.keeps C7.keep) (Nn.mono C7.keep) O.n20 (by show A.depth + 1 + 10 < recursionLimit; exact rm2) fun s8 t8 X8 => X8.go fun h8 d8 tk8 k8 => ?_
    have C8 := C7.grow k8
    clear C7
    walk_at "m go"
    refine rangeR C8 fun r h9 tk9 t9 u9 C9 hr => ?_
    have hNl := O.n11
    refine ⟨DueF w σ N u fd n4 mf, s.heap, [], _, _, _, n', Up.mk, C9, Apart.nil, it_range hh hr (by exact lt_), .mk false mf F' (DInv.start mf B' S' K') per', ?_, ?_⟩
    · rintro k v g _ n10 ⟨b, m1, F10, V10, per10⟩ h10 d10 tk10 hk Z1 kg C10
      refine genQ fun QQ hQ => ?_
      refine elE Z1 fun tv Xx3 => ?_
      obtain rfl := Xx3
      have Wg := W'.keeps kg
      have Ig := I.keeps kg
      have Ng := Nn.mono kg
      have Ug := U.wider kg
      have I1g := I1.keeps kg
      have I2g := I2.keeps kg
      have hcf10 := per10 _ _ (Ne.symm hfdL) hcf
      have hco10 := per10 _ _ (Ne.symm hfdL1) hco
      have hnd := O.kids _ (List.mem_of_getElem? (HS.get hk))
      have hnk := Op _ (List.mem_of_getElem? (HS.get hk))
      walk_at "m go"
      refine hfind_ok (Wg.keeps C10.keep) (Ig.keeps C10.keep) (Ug.wider C10.keep) O.u (O.len ▸ hk) (by show A.depth + 1 + 10 < recursionLimit; exact rm2) fun s11 t11 X11 => X11.go fun h11 d11 tk11 k11 => ?_
      have C11 := C10.grow k11
      clear C10
      walk_at "m go"
      rename_i h12 C12
      refine compAsg (L := L) (h₀ := g) (cl := [(Str.ofString "one", L + 1), (Str.ofString "found", L + 1 + 1)]) ?_
      walk_at "m go"
      refine kids_ok (Wg.keeps C12.keep) (Ig.keeps C12.keep) (Ng.mono C12.keep) (HS.get hk) O.n20 (by omega) (by show A.depth + 1 + 10 < recursionLimit; exact rm2) fun T2 vs ep2 s13 X13 => X13.go fun h13 d13 tk13 k13 hT2 ho2 hv => ?_
      have ap := Apart.fresh C12 hT2
      have C13 := C12.grow k13
      clear C12
      have hvl := hv.length
      refine ⟨fun i ys n => n = n10 ∧ Vls ys.toList (((σ.tup k).2.take i).map (vget m1)), [T2], _, _, _, n10, Up.mk, C13, ap, it_tuple hh (isTuple_obj ho2), by rw [List.size_toArray]; omega, ⟨rfl, .nil⟩, ?_, ?_⟩
      · intro j v ys g1 Cl n Z3 h14 d14 tk14 hj hys hP kg1 C14
        refine stepC ?_
        refine genQ fun QQ hQ => ?_
        refine elA Z3 fun Xx5 hI => ?_
        obtain rfl := Xx5
        have Wg1 := Wg.keeps kg1
        have Ig1 := Ig.keeps kg1
        have I1g1 := I1g.keeps kg1
        refine elEAE (hv.get1 (show vs[j]? = some v by simpa using hP)) fun x hx t5 Xx6 => ?_
        obtain rfl := Xx6
        have hxN := hnd.2 x (List.mem_of_getElem? hx)
        have ht : (σ.tup k).2.take (j + 1) = (σ.tup k).2.take j ++ [root σ.U.ps x] := by
          rw [List.take_add_one]
          show _ ++ ((List.map (root σ.U.ps) (σ.nodes.getD k default).2)[j]?).toList = _
          rw [List.getElem?_map, hx]; rfl
        iterate 2 walk1
        refine kvGm (F10.h C14) ?_
        walk_at "m go"
        refine hfind_ok (Wg1.keeps C14.keep) (Ig1.keeps C14.keep) ((Ug.wider kg1).wider C14.keep) O.u (O.len ▸ hxN) (by show A.depth + 1 + 10 < recursionLimit; exact rm2) fun s15 t15 X15 => X15.go fun h15 d15 tk15 k15 => ?_
        have C15 := C14.grow k15
        clear C14
        walk_at "m go"
        refine kvGet (F10.h C15) fun v16 tk16 hv16 => ?_
        try refine hQ _ _ ?_
        refine ⟨Up.mk, _, _, C15.grow (fun _ _ e => e), rfl, ?_⟩
        rw [ht, List.map_append, Array.toList_push]
        exact hI.app (.cons hv16 .nil)
      · rintro D8 ys ep8 n ⟨rfl, hI⟩ - h14 d14 tk14 C14
        rw [show (σ.tup k).2.take vs.toArray.size = (σ.tup k).2 from by rw [List.size_toArray, hvl, ← List.length_map (f := root σ.U.ps)]; exact List.take_length] at hI
        have hD8 : h14.get? D8 = some (lst ys.toList ep8) := by simpa using C14.get (.head _)
        have hle8 : ∀ b p, n.lookup b = some p → List.lookup b ((D8, seqObj "list" ys ep8) :: n) = some p := fun b p e => C14.tail e
        have C15 : Cx g L h14 _ n := C14.sub (List.sublist_cons_self _ _)
        clear C14
        walk_at "m go"
        refine kvGm (F10.h C15) ?_
        walk_at "m go"
        refine kvGet (F10.h C15) fun v16 tk16 hv16 => ?_
        walk_at "m go"
        refine op_ok (Wg.keeps C15.keep) (Ig.keeps C15.keep) (Ng.mono C15.keep) (HS.get hk) O.n20 (by show A.depth + 1 + 10 < recursionLimit; exact rm2) fun s17 t17 X17 => X17.go fun h17 d17 tk17 k17 => ?_
        have C17 := C15.grow k17
        clear C15
        walk_at "m go"
        have hlen : ((σ.tup k).2.map (vget m1)).length = (σ.nodes.getD k default).2.length := by simp
        refine lreck_ok (Wg.keeps C17.keep) (k17 _ _ hD8) hI (by rw [hlen]; exact hnk) hn hn1 (fun i hi => ?_) (by rw [hlen]; omega) (by show A.depth + 1 + 10 < recursionLimit; exact rm2) hh (by show A.units + 3 + 200 < cLine; exact rm2) fun v18 s18 X18 => X18.go fun h18 d18 tk18 k18 hv18 => ?_
        · refine elEA (List.mem_map.mp hi) fun c _ hc' => ?_
          exact V10.small c i hc'
        have C18 := C17.grow k18
        clear C17
        walk_at "m go"
        refine lboth_ok (Wg.keeps C18.keep) hv16 hv18 (by show A.depth + 1 < recursionLimit; exact rm1) fun v19 s19 X19 => X19.go fun h19 d19 tk19 k19 hv19 => ?_
        have C19 := C18.grow k19
        clear C18
        walk_at "m go"
        rename_i h20 C20
        refine kvGm (F10.h C20) ?_
        walk_at "m go"
        refine kvGet (F10.h C20) fun v21 tk21 hv21 => ?_
        walk_at "m go"
        refine neV2 hv19 hv21 (fun heq => ?_) fun hne => ?_
        · walk_at "m go"
          try refine hQ _ _ ?_
          exact ⟨.inl rfl, Up.mk, _, n, C20.names (by walk_at "m names"), b, m1, F10, V10.keep heq, per10⟩
        · walk_at "m go"
          refine newTupleR C20 (by simp [sizeLine_eq]) fun T n22 h22 C22 N22 => ?_
          refine unpackG C22 (C22.lk N22.self) hh fun h23 tk23 C23' => ?_
          have C23 := C23'.narrow C20.nd N22.le
          clear C22 C23' C20
          refine asgSub ?_
          walk_at "m go"
          have hm1 := F10.len V10.keys
          refine kvSet C23 F10 hv19 (by exact llt) fun h24 n24 tk24 C24 F24 off24 _ => ?_
          refine wpAny_assign_Name ?_
          walk_at "m go"
          rename_i h25 C25
          try refine hQ _ _ ?_
          exact ⟨.inl rfl, Up.mk, _, n24, C25.names (by walk_at "m names"), true, _, F24, V10.rise O hn hk hne, fun a p q e => off24 _ _ q (per10 _ _ q e)⟩
    · rintro _ n10 ⟨b, m1, F10, V10, per10⟩ h10 d10 tk10 C10
      walk_at "m go"
      refine hQ _ _ ?_
      refine ⟨.inl rfl, Up.mk, _, _, n10, ?_, C10, .mk b m1 F10 V10.below V10.small V10.keys (fun hb j hj => V10.done hb j hj) per10⟩
      cases b with
      | true => have := V10.rose rfl; simp; exact om10 this
      | false => rw [V10.same rfl]; simp
end
end L5
section L6
section
variable {prog : Program} {w : World} {A : Around} {E : Value → Shared → Prop} {s : Shared} {h₀ : Heap} {L : Addr} {l : Binds} {n : Ents} {env : Env}
theorem stCell {x : Str} {c : Addr} {v : Value} {v₀ : Option Value} {o : Obj} {Q : Unit → Shared → Prop} (C : Cx h₀ L s.heap l n)
    (hc : n.lookup c = some o) (hd : o.data = .cell v₀) (h : ∀ h' o', o'.data = .cell (some v) → Cx h₀ L h' l (put n c o') → Q () { s with heap := h' })
    (hcl : env.cells.lookup x = some c := by rfl) (hk : env.scope.kind = .function := by rfl) (hx : env.kindOf x = some .cell := by rfl) :
    wpAny (model prog w) A (storeName env x v) Q E s := by
  refine wpAny_storeName_cell hk hx hcl ⟨o, C.lk hc, hd⟩ fun h2 hv hs => ?_
  refine elEA hv fun o' ho' hd' => ?_
  exact h _ o' hd' (C.put hc (fun b ob hb e => (hs.2 b hb).trans e) ho')
theorem Cx.table {fd : Addr} {m : List (Nat × Va)} {h : Heap} (C : Cx h₀ L h l n) (hL : fd ≠ L) (hn : ∀ p ∈ n, p.1 ≠ fd) (V : KV w h.get? fd m) : ∃ g, Kp h₀ g ∧ Cx g L h l n ∧ KV w g.get? fd m := by
  refine elEAA C.wide fun g kg G big => ?_
  refine ⟨g, kg, G, ?_⟩
  refine elEEAA V fun o kvs ho hd r => ?_
  exact ⟨o, kvs, big fd _ hL hn ho, hd, r⟩
theorem eqNums {D D2 : Addr} {vs vs2 : Array Value} {xs : List Nat} {ep ep2 : Nat} {Q : Value → Shared → Prop} (h1 : s.heap.get? D = some (seqObj "list" vs ep)) (h2 : s.heap.get? D2 = some (seqObj "list" vs2 ep2)) (hn1 : Nums vs.toList xs) (hn2 : Nums vs2.toList xs) (hu : A.units < cLine)
    (h : Q (.bool true) s) : wpAny (model prog w) A (compareOp .Eq (.ref D) (.ref D2)) Q E s := by
  have l1 := hn1.length
  have l2 := hn2.length
  rw [Array.length_toList] at l1 l2
  refine SeqAt.RcAt.lists (e := fun _ => true) (isList_obj h1) (isList_obj h2) (l1.trans l2.symm) hu (fun j j1 j2 => ?_) prog w E Q ?_
  · refine elEAE (hn1.get1 (show vs.toList[j]? = some vs[j] by walk_at "m sm")) fun x hx t e => ?_
    refine elEAE (hn2.get1 (show vs2.toList[j]? = some vs2[j] by walk_at "m sm")) fun y hy t2 e2 => ?_
    rw [hx] at hy
    obtain rfl := Option.some.inj hy
    rw [e, e2]
    have := SeqAt.EqAt.int_int (A := A.in1) (s := s) (x : Int) t (x : Int) t2
    rwa [beq_self_eq_true] at this
  · rw [List.all_eq_true.mpr fun _ _ => rfl]; exact h
end
section
variable {w : World} {A : Around} {E : Value → Shared → Prop} {s : Shared}
set_option maxHeartbeats 4000000 in
theorem is_kept_ok {σ : HS} {kx an vd td : Addr} {N : Nat} {u : Tok} {m : List (Nat × Va)} {Q : Value → Shared → Prop} (W : Wd w s.heap) (I : σ.Ins s.heap) (J : Inst s.heap kx 114 (kfs σ.hp an vd td)) (V : KV w s.heap.get? vd m) (Nn : σ.Nodes s.heap.get?) (U : σ.U.On s.heap.get?) (O : σ.Ok) (Op : σ.Ops)
    (Bl : σ.Below N (vget m)) (P : σ.Post N (vget m)) (hn : 0 < N) (hn1 : N ≤ 100) (hroom : A.depth + 200 < recursionLimit) (hu : A.units + 500 < cLine) (hh : A.handled = none)
    (post : ∀ s', Ext s s' → Q (.bool true) s') :
    wpAny (model PySem.Challenge.pw_pq0072_01 w) A (call (.ref 537) [.ref σ.hp, .ref kx, .int (N : Nat) u]) Q E s := by
  have I1 := I.hp
  have I2 := I.bk
  refine enterK (n := []) W (Own.nil _) (x := dfn 22) rfl k_537 c_537 (by exact rm0) (binds := [("one", .ref σ.hp), ("keeper", .ref kx), ("n", .int (N : Nat) u)]) (l := [("n", .int (N : Nat) u)]) rfl ⟨.inr ⟨rfl, rfl⟩, .inr ⟨rfl, rfl⟩, .inl rfl, trivial⟩ (by decide) (List.forall_mem_cons.mpr ⟨rfl, List.forall_mem_nil _⟩) (fun L h₁ tk cells W' X C => ?_) (fun L => show ([L + 1 + 1 + 1, L + 1 + 1, L + 1] : List Addr).Nodup by
    simp
    exact Nat.ne_of_gt (Nat.lt_succ_of_lt (Nat.lt_succ_self L)))
  refine elEEEAAA X.three fun o1 o2 o3 Xx1 hc1 hc2 hc3 => ?_
  obtain rfl := Xx1
  change Wd w s.heap at W'
  change o1.data = .cell none at hc1
  change o2.data = .cell (some (.ref kx)) at hc2
  change o3.data = .cell (some (.ref σ.hp)) at hc3
  change Cx s.heap L h₁ [("n", .int (N : Nat) u)] [(L + 1 + 1 + 1, o1), (L + 1 + 1, o2), (L + 1, o3)] at C
  have hl1 : List.lookup (L + 1 + 1 + 1) [(L + 1 + 1 + 1, o1), (L + 1 + 1, o2), (L + 1, o3)] = some o1 := by rw [List.lookup_cons, beq_self_eq_true]
  have hl2 : List.lookup (L + 1 + 1) [(L + 1 + 1 + 1, o1), (L + 1 + 1, o2), (L + 1, o3)] = some o2 := C.tail (n := [(L + 1 + 1, o2), (L + 1, o3)]) (by rw [List.lookup_cons, beq_self_eq_true])
  have hl3 : List.lookup (L + 1) [(L + 1 + 1 + 1, o1), (L + 1 + 1, o2), (L + 1, o3)] = some o3 := C.tail (n := [(L + 1 + 1, o2), (L + 1, o3)]) ((C.sub (List.sublist_cons_self _ _)).tail (n := [(L + 1, o3)]) (by rw [List.lookup_cons, beq_self_eq_true]))
  have hne2 : L + 1 + 1 ≠ L + 1 + 1 + 1 := Nat.ne_of_lt (Nat.lt_succ_self _)
  have hne3 : L + 1 ≠ L + 1 + 1 + 1 := Nat.ne_of_lt (Nat.lt_succ_of_lt (Nat.lt_succ_self _))
  walk_at "m go"
  refine due_ok (W'.keeps C.keep) (I.keeps C.keep) (Nn.mono C.keep) (U.wider C.keep) O Op hn hn1 (by show A.depth + 1 + 100 < recursionLimit; exact rm2) (by show A.units + 3 + 400 < cLine; exact rm2) hh fun fd md s2 X2 => X2.go fun h2 d2 tk2 k2 hfd F2 B2 P2 => ?_
  have C2 := C.grow k2
  have hfdn : ∀ p ∈ [(L + 1 + 1 + 1, o1), (L + 1 + 1, o2), (L + 1, o3)], p.1 ≠ fd := fun p hp q => by
    have := (C.nw p hp).1
    rw [q] at this; exact nomatch (this.symm.trans hfd)
  have hfdL : fd ≠ L := fun q => by
    refine elE C.live fun o e => ?_
    rw [← q] at e; exact nomatch (e.symm.trans hfd)
  refine elEAA (C2.table hfdL hfdn F2) fun g kg C3 F3 => ?_
  have Wg := W'.keeps kg
  have Ig := I.keeps kg
  have I1g := I1.keeps kg
  have I2g := I2.keeps kg
  have Ng := Nn.mono kg
  have Ug := U.wider kg
  have Jg := J.keeps kg
  have Vg := V.mono fun _ e => kg _ _ e
  clear C C2
  walk_at "m go"
  refine stCell C3 hl1 hc1 fun h4 o1' hc1' C4 => ?_
  have hcf := lookup_put_self (o := o1') hl1
  have hck := lookup_put_ne (o := o1') hl2 hne2
  have hco := lookup_put_ne (o := o1') hl3 hne3
  generalize put _ (L + 1 + 1 + 1) o1' = n4 at C4 hcf hck hco
  clear C3
  walk_at "m go"
  have hNl := O.n11
  have hlen := O.len
  refine compX (L := L) (h₀ := g) (cl := [(Str.ofString "one", L + 1), (Str.ofString "keeper", L + 1 + 1), (Str.ofString "due", L + 1 + 1 + 1)]) ?_
  walk_at "m go"
  refine hsize_ok (Wg.keeps C4.keep) (Ig.keeps C4.keep) (Ng.mono C4.keep) O.n20 (by show A.depth + 1 + 10 < recursionLimit; exact rm2) fun s8 t8 X8 => X8.go fun h8 d8 tk8 k8 => ?_
  have C8 := C4.grow k8
  clear C4
  walk_at "m go"
  refine rangeR C8 fun r h9 tk9 t9 u9 C9 hr => ?_
  refine ⟨fun i ys n => n = n4 ∧ ys = #[], [], _, _, _, n4, Up.mk, C9, Apart.nil, it_range hh hr (by exact lt_), by exact lt_, ⟨rfl, rfl⟩, ?_, ?_⟩
  · rintro k v ys g2 Cl n ⟨rfl, rfl⟩ h10 d10 tk10 hk hys ⟨tv, rfl⟩ kg2 C10
    have W2 := Wg.keeps kg2
    have I2' := Ig.keeps kg2
    have I12 := I1g.keeps kg2
    have J2 := Jg.keeps kg2
    refine wpAny_tests_one ?_
    walk_at "m go"
    refine value_ok (W2.keeps C10.keep) (I2'.keeps C10.keep) (J2.keeps C10.keep) (Vg.mono fun _ e => C10.keep _ _ (kg2 _ _ e)) ((Ug.wider kg2).wider C10.keep) O.u (O.len ▸ hk) (by show A.depth + 1 + 20 < recursionLimit; exact rm2) fun v11 s11 X11 => X11.go fun h11 d11 tk11 k11 hv11 => ?_
    have C11 := C10.grow k11
    clear C10
    walk_at "m go"
    refine kvGm (F3.mono fun _ e => C11.keep _ _ (kg2 _ _ e)) ?_
    walk_at "m go"
    refine hfind_ok (W2.keeps C11.keep) (I2'.keeps C11.keep) ((Ug.wider kg2).wider C11.keep) O.u (O.len ▸ hk) (by show A.depth + 1 + 10 < recursionLimit; exact rm2) fun s12 t12 X12 => X12.go fun h12 d12 tk12 k12 => ?_
    have C12 := C11.grow k12
    clear C11
    walk_at "m go"
    refine kvGet (F3.mono fun _ e => C12.keep _ _ (kg2 _ _ e)) fun v13 tk13 hv13 => ?_
    walk_at "m go"
    refine neV2 hv11 hv13 (fun heq => ?_) fun hne => ?_
    · walk_at "m go"
      refine Hold.mk ?_
      rw [if_neg (by walk_at "m sm")]
      exact ⟨Up.mk, _, _, C12.grow (fun _ _ e => e), rfl, ⟨⟩⟩
    · exact absurd (Bl.same P B2 P2 (O.len ▸ root_lt (O.len ▸ hk)) (root_idem O.u.le (O.len ▸ hk))) hne
  · rintro D8 ys ep8 n ⟨rfl, rfl⟩ - h14 d14 tk14 C14
    have hD8 : List.lookup D8 ((D8, seqObj "list" #[] ep8) :: n) = some (seqObj "list" #[] ep8) := by rw [List.lookup_cons, beq_self_eq_true]
    walk_at "m go"
    refine newListR C14 (Nat.zero_le _) fun D9 n15 h15 C15 N15 => ?_
    refine neEmpty (C15.lk (N15.le _ _ hD8)) (C15.lk N15.self) (by show A.units + 3 < cLine; exact rm1) (fun _ => ?_) (fun q => absurd rfl q)
    have C15' := (C15.narrow C14.nd N15.le).sub (List.sublist_cons_self _ _)
    clear C15 N15 C14
    have C15 := C15'
    clear C15'
    walk_at "m go"
    refine clashes_ok (Wg.keeps C15.keep) (Ig.keeps C15.keep) (Jg.keeps C15.keep) (Vg.mono fun _ e => C15.keep _ _ e) (Ug.wider C15.keep) O.u (by show A.depth + 1 + 30 < recursionLimit; exact rm2) hh fun D10 vs10 ep10 s16 X16 => X16.go fun h16 d16 tk16 k16 hD10 ho10 hv10 => ?_
    have C16 := C15.grow k16
    clear C15
    walk_at "m go"
    have hr20 : (roots σ.U.ps).length ≤ 20 := Nat.le_trans (Nat.le_trans (List.length_filter_le _ _) (by rw [List.length_range]; exact Nat.le_refl _)) O.u.sz
    have hl10 := hv10.length
    have hf10 := List.length_filter_le (fun c => decide (vget m c = some none)) (roots σ.U.ps)
    rw [Array.length_toList] at hl10
    refine listR C16 ho10 (by rw [sizeLine_eq]; exact om149 hr20 hl10 hf10) fun R n17 h17 ep17 C17 N17 => ?_
    have hcf17 := N17.le _ _ hcf
    have hco17 := N17.le _ _ hco
    have hR := N17.self
    clear C16 N17
    refine compX (L := L) (h₀ := g) (cl := [(Str.ofString "due", L + 1 + 1 + 1)]) ?_
    walk_at "m go"
    refine hclasses_ok (Wg.keeps C17.keep) (Ig.keeps C17.keep) (Ug.wider C17.keep) O.u (by show A.depth + 1 + 20 < recursionLimit; exact rm2) hh fun D18 vs18 ep18 s18 X18 => X18.go fun h18 d18 tk18 k18 hD18 ho18 hv18 => ?_
    have ap := Apart.fresh C17 hD18
    have C18 := C17.grow k18
    clear C17
    have hvl := hv18.length
    refine ⟨fun i ys n => n = n17 ∧ Nums ys.toList (((roots σ.U.ps).take i).filter fun c => decide (vget md c = some none)), [D18], _, _, _, n17, Up.mk, C18, ap, it_list hh (isList_obj ho18), by rw [Array.length_toList] at hvl; exact elt, ⟨rfl, .nil⟩, ?_, ?_⟩
    · rintro j v ys g2 Cl n ⟨rfl, hI⟩ h5 d5 tk5 hj hys hP kg2 C5
      have W2 := Wg.keeps kg2
      refine elEAE (hv18.get1 (by simpa using hP)) fun x hx t5 Xx2 => ?_
      obtain rfl := Xx2
      have ht : (roots σ.U.ps).take (j + 1) = (roots σ.U.ps).take j ++ [x] := by rw [List.take_add_one, hx]; simp
      refine wpAny_tests_one ?_
      walk_at "m go"
      refine kvGm (F3.mono fun _ e => C5.keep _ _ (kg2 _ _ e)) ?_
      walk_at "m go"
      refine kvGet (F3.mono fun _ e => C5.keep _ _ (kg2 _ _ e)) fun v tk6 hv => ?_
      walk_at "m go"
      refine eqV2 hv (y := some none) ⟨_, rfl⟩ (fun hy => ?_) fun hy => ?_
      · walk_at "m go"
        refine Hold.mk ?_
        rw [if_pos rfl]
        walk_at "m go"
        try refine hQ _ _ ?_
        refine ⟨Up.mk, _, _, C5.grow (fun _ _ e => e), rfl, ?_⟩
        rw [ht, List.filter_append, List.filter_cons_of_pos (by simpa using hy)]
        exact nums_snoc hI
      · walk_at "m go"
        refine Hold.mk ?_
        rw [if_neg (by walk_at "m sm")]
        refine ⟨Up.mk, _, _, C5.grow (fun _ _ e => e), rfl, ?_⟩
        rw [ht, List.filter_append, List.filter_cons_of_neg (by simpa using hy)]
        simpa using hI
    · rintro D2 ys ep2 n ⟨rfl, hI⟩ - h5 d5 tk5 K
      rw [show (roots σ.U.ps).take vs18.size = roots σ.U.ps from by rw [← Array.length_toList, hvl]; exact List.take_length] at hI
      have e : (roots σ.U.ps).filter (fun c => decide (vget md c = some none)) = (roots σ.U.ps).filter (fun c => decide (vget m c = some none)) := by
        refine List.filter_congr fun c hc => ?_
        refine elA (mem_roots.mp hc) fun h1 h2 => ?_
        rw [Bl.same P B2 P2 (O.len ▸ h1) (root_self h2)]
      rw [e] at hI
      walk_at "m go"
      refine eqNums (K.lk (K.tail hR)) (K.get (.head _)) hv10 hI (by show A.units + 3 < cLine; exact rm1) ?_
      walk_at "m go"
      exact post _ (Ext.mk (fun _ _ e => K.keep _ _ (kg _ _ e)))
end
end L6
section L7
theorem SrcOn.off {w : World} {sd rw : Addr} {a : Nat} {n n' : Ents} {ks : List Addr} {h h' : Heap} (S : SrcOn w sd rw a (n.lookup ·)) (M : Mut h n h' n' ks) (h1 : sd ∉ ks) (h2 : rw ∉ ks) : SrcOn w sd rw a (n'.lookup ·) := by
  obtain ⟨⟨o, t, ho, hd⟩, m, ⟨vs, ep, hr, x⟩, hm⟩ := S
  exact ⟨⟨o, t, M.le _ _ h1 ho, hd⟩, m, ⟨vs, ep, M.le _ _ h2 hr, x⟩, hm⟩
theorem HS.On.src {w : World} {σ : HS} {c ck a : Nat} {n n' : Ents} {sd rw : Addr} (H : σ.On w c ck (n.lookup ·)) (S : SrcOn w sd rw a (n.lookup ·)) (off : Off sd n n') (hk : sd ∉ σ.ks) : σ.On w c ck (n'.lookup ·) := by
  refine H.keepS (ch := (· = sd)) ⟨fun b p h e => off b p h e, fun b p h e q => ?_⟩ fun b hb e => hk (e ▸ hb)
  obtain ⟨⟨o, t, ho, hd⟩, _⟩ := S
  rw [h] at e
  obtain rfl := Option.some.inj (ho.symm.trans e)
  exact absurd ((isDict_type hd).1.symm.trans q) (by walk_at "m sm")
section
variable {w : World} {A : Around} {E : Value → Shared → Prop} {s : Shared}
inductive MergF (w : World) (σ : HS) (M : Nat) (t : Tok) (sd rw : Addr) (c ck a : Nat) (n : Ents) (k : Nat) : Binds → Ents → Prop
  | mk (ps : List Nat) (lots : List (List Nat)) (abv : List (Nat × Addr × List Nat)) (wait : List Nat) {n' : Ents} (H : (σ.upd ps lots abv wait).On w (c + k) ck (n'.lookup ·)) (O : (σ.upd ps lots abv wait).Ok) (S : SrcOn w sd rw (a + 2 * k) (n'.lookup ·))
    (hm : ∀ x y, x < σ.N → y < σ.N → root σ.U.ps x = root σ.U.ps y → root ps x = root ps y) (hf : ∀ b p, n.lookup b = some p → b ∉ σ.ks → b ∉ (σ.upd ps lots abv wait).ks) (per : ∀ b p, b ∉ sd :: σ.ks → n.lookup b = some p → n'.lookup b = some p) :
    MergF w σ M t sd rw c ck a n k [("many", .int (M : Nat) t), ("one", .ref σ.hp), ("src", .ref sd)] n'
set_option maxHeartbeats 4000000 in
theorem merged_ok {σ : HS} {sd rw : Addr} {a M c ck : Nat} {t : Tok} {Q : Value → Shared → Prop} {B : Heap} {n : Ents} (W : Wd w B) (Ow : Own B s.heap n) (I : σ.Ins B) (H : σ.On w c ck (n.lookup ·)) (O : σ.Ok) (S : SrcOn w sd rw a (n.lookup ·)) (h1 : sd ∉ σ.ks) (h2 : rw ∉ σ.ks) (hN : 0 < σ.N) (hM : M ≤ 10) (ha : a ≤ 500) (hc : c ≤ 1000) (hck : ck ≤ 1000)
    (hroom : A.depth + 200 < recursionLimit) (hu : A.units + 500 < cLine) (hh : A.handled = none)
    (post : ∀ ps lots abv wait s' n', Mut s.heap n s'.heap n' (sd :: σ.ks) → Up s s' → (σ.upd ps lots abv wait).On w (c + M) ck (n'.lookup ·) → (σ.upd ps lots abv wait).Ok → SrcOn w sd rw (a + 2 * M) (n'.lookup ·) →
      (∀ x y, x < σ.N → y < σ.N → root σ.U.ps x = root σ.U.ps y → root ps x = root ps y) → (∀ b p, n.lookup b = some p → b ∉ σ.ks → b ∉ (σ.upd ps lots abv wait).ks) → Q .none s') :
    wpAny (model PySem.Challenge.pw_pq0072_01 w) A (call (.ref 544) [.ref sd, .ref σ.hp, .int (M : Nat) t]) Q E s := by
  have IB := I.keeps Ow.bar
  have I1 := IB.hp
  have hsd : ∃ p, n.lookup sd = some p := (let ⟨⟨o, _, e, _⟩, _⟩ := S; ⟨o, e⟩)
  have hrw : ∃ p, n.lookup rw = some p := (let ⟨_, _, ⟨_, _, e, _⟩, _⟩ := S; ⟨_, e⟩)
  refine enterC (n := n) W Ow (x := dfn 23) rfl k_544 c_544 (by exact rm0) (binds := [("src", .ref sd), ("one", .ref σ.hp), ("many", .int (M : Nat) t)]) rfl (locs rfl) (by decide) fun L h₁ W' C => ?_
  change Cx (bar s.heap n) L h₁ [("many", .int (M : Nat) t), ("one", .ref σ.hp), ("src", .ref sd)] n at C
  walk_at "m go"
  refine forG (L := L) ?_
  walk_at "m go"
  refine rangeR C fun r hp2 tk2 t2 u2 C2 hr => ?_
  clear C
  refine ⟨MergF w σ M t sd rw c ck a n, bar s.heap n, [], _, _, _, n, Up.mk, C2, Apart.nil, it_range hh hr (by exact lt_), .mk σ.U.ps σ.U.lots σ.abv σ.wait H O S (fun _ _ _ _ e => e) (fun _ _ _ h => h) fun _ _ _ e => e, ?_, ?_⟩
  · rintro k v g _ n10 ⟨ps, lots, abv, wait, H10, O10, S10, hmono, hfr, per⟩ h10 d10 tk10 hk Z1 kg C10
    refine genQ fun QQ hQ => ?_
    refine elE Z1 fun tv Xx1 => ?_
    obtain rfl := Xx1
    generalize hσ : σ.upd ps lots abv wait = σ1 at H10 O10 hfr
    have Wg : Wd w g := W'.keeps kg
    have Ig : σ1.Ins g := by subst hσ; exact ⟨IB.hp.keeps kg, IB.bk.keeps kg, IB.un.keeps kg⟩
    have I1g := I1.keeps kg
    have e1 : σ1.hp = σ.hp := by subst hσ; rfl
    have e2 : σ1.N = σ.N := by subst hσ; rfl
    rw [← e1] at C10 I1g
    have hs1 : sd ∉ σ1.ks := (let ⟨p, e⟩ := hsd; hfr _ _ e h1)
    have hr1 : rw ∉ σ1.ks := (let ⟨p, e⟩ := hrw; hfr _ _ e h2)
    walk_at "m go"
    refine hsize_ok (Wg.keeps C10.keep) (Ig.keeps C10.keep) (H10.N.mono fun _ _ e => C10.lk e) O10.n20 (by show A.depth + 1 + 10 < recursionLimit; exact rm2) fun s11 t11 X11 => X11.go fun h11 d11 tk11 k11 => ?_
    have C11 := C10.grow k11
    clear C10
    walk_at "m go"
    refine next_ok Wg C11.own S10 (by exact om191 hM ha hk) (by exact om68 hN e2) (by show A.depth + 1 + 10 < recursionLimit; exact rm2) fun j1 t12 s12 n12 hj1 M12 X12 => X12.goM M12 fun h12 d12 tk12 M12 S12 off12 => ?_
    have C12 := C11.after M12
    have H12 := H10.src S10 off12 hs1
    have per12 : ∀ b p, b ∉ sd :: σ.ks → n.lookup b = some p → n12.lookup b = some p := fun b p hb e => off12 b p (fun q => hb (q ▸ .head _)) (per b p hb e)
    clear C11 M12 off12 S10 H10 per
    walk_at "m go"
    refine hsize_ok (Wg.keeps C12.keep) (Ig.keeps C12.keep) (H12.N.mono fun _ _ e => C12.lk e) O10.n20 (by show A.depth + 1 + 10 < recursionLimit; exact rm2) fun s13 t13 X13 => X13.go fun h13 d13 tk13 k13 => ?_
    have C13 := C12.grow k13
    clear C12
    walk_at "m go"
    refine next_ok Wg C13.own S12 (by exact om207 hM ha hk) (by exact pos_) (by show A.depth + 1 + 10 < recursionLimit; exact rm2) fun j2 t14 s14 n14 hj2 M14 X14 => X14.goM M14 fun h14 d14 tk14 M14 S14 off14 => ?_
    have C14 := C13.after M14
    have H14 := H12.src S12 off14 hs1
    have per14 : ∀ b p, b ∉ sd :: σ.ks → n.lookup b = some p → n14.lookup b = some p := fun b p hb e => off14 b p (fun q => hb (q ▸ .head _)) (per12 b p hb e)
    clear C13 M14 off14 S12 H12 per12
    walk_at "m go"
    refine newTupleR C14 (by simp [sizeLine_eq]) fun T n15 h15 C15 N15 => ?_
    refine swapT C15 (C15.lk N15.self) hh rfl fun h16 tk16 C16' => ?_
    have C16 := C16'.narrow C14.nd N15.le
    clear C14 C15 C16' N15
    walk_at "m go"
    refine P.str_of_int (shown (N := 2 ^ 1920) (by exact om22) (by exact om132 hM hk) (Int.le_refl _)) ?_
    walk_at "m go"
    refine PyProof.Rows.add_str (fun t17 tk17 => ?_) (by
      have h1 := len_str_of_int ((k : Nat) : Int)
      have h2 : (Str.ofString "m").length = 1 := by rfl
      rw [sizeLine_eq, h2]; omega)
    walk_at "m go"
    refine newTupleR C16 (by simp [sizeLine_eq]) fun T2 n17 h17 C17' N17 => ?_
    have C17 := C17'.narrow C16.nd N17.le
    clear C16 C17' N17
    walk_at "m go"
    refine hmerge_ok Wg C17.own Ig H14 O10 (by exact om10 hj1) (by exact om10 hj2) (by exact om171 hM hc hk) (by exact ll) (by show A.depth + 1 + 60 < recursionLimit; exact rm2) hh fun bv ps2 lots2 abv2 wait2 s18 n18 M18 X18 => X18.goM M18 fun h18 d18 tk18 M18 H18 O18 hm18 hfr18 => ?_
    have C18 := C17.after M18
    clear C17
    walk_at "m go"
    rw [e1] at C18
    try refine hQ _ _ ?_
    refine ⟨.inl rfl, Up.mk, [("many", .int (M : Nat) t), ("one", .ref σ.hp), ("src", .ref sd)], n18, C18.names (by walk_at "m names"), ?_⟩
    have S18 := S14.off M18 hs1 hr1
    subst hσ
    refine MergF.mk (σ := σ) ps2 lots2 abv2 wait2 H18 O18 S18 (fun x y hx hy e => hm18 x y hx hy (hmono x y hx hy e)) (fun b p e hb => ?_) fun b p hb e => M18.le b p (hfr b p e fun q => hb (.tail _ q)) (per14 b p hb e)
    by_cases q : b = sd
    · subst q
      obtain ⟨⟨o, _, e', _⟩, _⟩ := S14
      exact hfr18 _ o e' hs1
    · exact hfr18 b p (per14 b p (fun z => by rcases List.mem_cons.mp z with z | z; exact q z; exact hb z) e) (hfr b p e hb)
  · rintro _ n10 ⟨ps, lots, abv, wait, H10, O10, S10, hmono, hfr, per⟩ h10 d10 tk10 C10
    walk_at "m go"
    refine hsettle_ok (σ := σ.upd ps lots abv wait) W' C10.own ⟨IB.hp, IB.bk, IB.un⟩ H10 O10 (by exact om117 hM hc) (by exact ll) (by show A.depth + 1 + 150 < recursionLimit; exact rm2) (by show A.units + 3 + 400 < cLine; exact rm2) hh fun ps2 lots2 abv2 wait2 s11 n11 M11 X11 => X11.goM M11 fun h11 d11 tk11 M11 H11 O11 hmono2 hfr2 => ?_
    have C11 := C10.after M11
    have fr : ∀ b p, n.lookup b = some p → b ∉ σ.ks → (∃ p, n10.lookup b = some p) → b ∉ (σ.upd ps2 lots2 abv2 wait2).ks := fun b p e hb ⟨q, e'⟩ => hfr2 b q e' (hfr b p e hb)
    walk_at "m go"
    refine post ps2 lots2 abv2 wait2 _ n11 (C11.mut fun b p hb e => M11.le b p (hfr b p e fun q => hb (.tail _ q)) (per b p hb e)) Up.mk H11 O11 (S10.off M11 (let ⟨p, e⟩ := hsd; hfr _ _ e h1) (let ⟨p, e⟩ := hrw; hfr _ _ e h2)) (fun x y hx hy e => hmono2 x y hx hy (hmono x y hx hy e)) fun b p e hb => ?_
    by_cases q : b = sd
    · subst q
      obtain ⟨⟨o, _, e', _⟩, _⟩ := S10
      exact fr _ p e hb ⟨o, e'⟩
    · exact fr b p e hb ⟨p, per b p (fun z => by rcases List.mem_cons.mp z with z | z; exact q z; exact hb z) e⟩
end
end L7
section L7b
theorem Cx.settle {h₀ h : Heap} {L : Addr} {l : Binds} {n : Ents} (C : Cx h₀ L h l n) (xs : List Addr) : ∃ g n'', Kp h₀ g ∧ Cx g L h l n'' ∧ (∀ b p, b ∉ xs → n.lookup b = some p → n''.lookup b = some p) ∧ (∀ b p, b ∈ xs → n.lookup b = some p → g.get? b = some p) ∧
    (∀ b o, b ≠ L → (∀ p ∈ n, p.1 ≠ b) → h.get? b = some o → g.get? b = some o) ∧ (∀ p ∈ n'', p.1 ∉ xs ∧ p ∈ n) := by
  have hs : (n.filter fun p => decide (p.1 ∉ xs)).Sublist n := List.filter_sublist
  have hm : ∀ p ∈ n.filter (fun p => decide (p.1 ∉ xs)), p.1 ∉ xs ∧ p ∈ n := fun p hp => ⟨of_decide_eq_true (List.mem_filter.mp hp).2, (List.mem_filter.mp hp).1⟩
  refine elEAA ((C.sub hs).wide) fun g kg G big => ?_
  refine ⟨g, _, kg, G, fun b p hb e => ?_, fun b p hb e => ?_, fun b o h1 h2 e => big b o h1 (fun p hp => h2 p (hm p hp).2) e, hm⟩
  · exact lookup_of_mem G.nd (List.mem_filter.mpr ⟨mem_of_lookup e, decide_eq_true hb⟩)
  · have := C.nw _ (mem_of_lookup e)
    exact big b p this.2.1 (fun p hp q => (hm p hp).1 (q ▸ hb)) this.1
theorem HS.On.per {w : World} {σ : HS} {c ck : Nat} {n n' : Ents} (H : σ.On w c ck (n.lookup ·)) (k : ∀ b ∈ σ.ks, ∀ p, n.lookup b = some p → n'.lookup b = some p) (tup : ∀ b vs ep, n.lookup b = some (seqObj "tuple" vs ep) → n'.lookup b = some (seqObj "tuple" vs ep)) : σ.On w c ck (n'.lookup ·) := by
  have hp : ∀ b ∈ σ.hs, ∀ p, n.lookup b = some p → n'.lookup b = some p := fun b hb p e => k b (List.mem_append_right _ (List.mem_append_left _ hb)) p e
  have kd : ∀ d ∈ σ.hs, ∀ xs, KDx pwp w (n.lookup ·) d xs → KDx pwp w (n'.lookup ·) d xs := fun d hd xs x => by
    obtain ⟨⟨o, es, ep, h1, r⟩, q, nd⟩ := x
    exact ⟨⟨o, es, ep, hp d hd _ h1, r⟩, fun y hy => (let ⟨vs, e2, y1, y2⟩ := q y hy; ⟨vs, e2, tup _ _ _ y1, y2⟩), nd⟩
  refine elEA H.nu fun x1 b1 b2 => ?_
  refine elEEA H.ed fun v4 e4 h4 r4 => ?_
  refine elEEA H.fo fun v5 e5 h5 r5 => ?_
  refine elEA H.kn fun x6 k6 r6 => ?_
  refine elEA H.av fun o7 h7 d7 => ?_
  exact ⟨H.U.mono fun a ha o e => k _ (List.mem_append_left _ ha) _ e, ⟨let ⟨ep, e⟩ := H.N.no; ⟨ep, hp _ (by walk_at "m sm") _ e⟩, Pw.mono (fun _ _ ⟨t, v, e, o, m⟩ => ⟨t, v, e, tup _ _ _ o, m⟩) H.N.ta⟩, ⟨x1, kd _ (by walk_at "m sm") _ b1, b2⟩, H.we.mono fun o e => hp _ (by walk_at "m sm") _ e, H.de.mono fun o e => hp _ (by walk_at "m sm") _ e,
    ⟨v4, e4, hp _ (by walk_at "m sm") _ h4, r4⟩, ⟨v5, e5, hp _ (by walk_at "m sm") _ h5, r5⟩, ⟨x6, kd _ (by walk_at "m sm") _ k6, r6⟩, ⟨o7, hp _ (by walk_at "m sm") _ h7, d7⟩,
    fun e he => (H.al e he).mono fun o q => k _ (List.mem_append_right _ (List.mem_append_right _ (List.mem_map.mpr ⟨e, he, rfl⟩))) _ q, H.wa.mono fun o e => hp _ (by walk_at "m sm") _ e⟩
theorem fresh_apart {σ : HS} {ud bd hd : Addr} {r : List Addr} (nd : ([σ.wa, σ.av, σ.kn, σ.fo, σ.ed, σ.U.me, σ.U.lo, σ.U.ab, σ.U.u, ud, σ.de, σ.we, σ.nu, σ.no, σ.bk, bd, σ.hp, hd] ++ r).Nodup) (ha : σ.abv = []) (hl : σ.U.la = []) :
    (∀ b ∈ σ.ks, b ∉ [σ.U.u, ud, σ.bk, bd, σ.hp, hd]) ∧ (∀ b ∈ σ.ks, b ∉ r) ∧ ∀ b ∈ [σ.U.u, ud, σ.bk, bd, σ.hp, hd], b ∉ r := by
  refine elAA (List.nodup_append.mp nd) fun nd1 _ nd3 => ?_
  rw [show [σ.wa, σ.av, σ.kn, σ.fo, σ.ed, σ.U.me, σ.U.lo, σ.U.ab, σ.U.u, ud, σ.de, σ.we, σ.nu, σ.no, σ.bk, bd, σ.hp, hd] = [σ.wa, σ.av, σ.kn, σ.fo, σ.ed, σ.U.me, σ.U.lo, σ.U.ab] ++ ([σ.U.u, ud] ++ ([σ.de, σ.we, σ.nu, σ.no] ++ [σ.bk, bd, σ.hp, hd])) from rfl] at nd1 nd3
  refine elAA (List.nodup_append.mp nd1) fun _ n2 n3 => ?_
  refine elAA (List.nodup_append.mp n2) fun _ n4 n5 => ?_
  refine elAA (List.nodup_append.mp n4) fun _ _ n6 => ?_
  have hk : ∀ b ∈ σ.ks, b ∈ [σ.wa, σ.av, σ.kn, σ.fo, σ.ed, σ.U.me, σ.U.lo, σ.U.ab] ∨ b ∈ [σ.de, σ.we, σ.nu, σ.no] := fun b hb => by
    simp only [HS.ks, HS.hs, ha, hl, List.map_nil, List.append_nil, List.mem_append, List.mem_cons, List.not_mem_nil, or_false] at hb ⊢
    rcases hb with (h | h | h) | h | h | h | h | h | h | h | h | h <;> simp [h]
  have hx : ∀ b ∈ [σ.U.u, ud, σ.bk, bd, σ.hp, hd], b ∈ [σ.U.u, ud] ∨ b ∈ [σ.bk, bd, σ.hp, hd] := fun b hb => by
    simp only [List.mem_cons, List.not_mem_nil, or_false] at hb ⊢
    rcases hb with h | h | h | h | h | h <;> simp [h]
  refine ⟨fun b hb q => ?_, fun b hb q => ?_, fun b hb q => ?_⟩
  · rcases hk b hb with h | h <;> rcases hx b q with h' | h'
    · exact n3 _ h _ (List.mem_append_left _ h') rfl
    · exact n3 _ h _ (List.mem_append_right _ (List.mem_append_right _ h')) rfl
    · exact n5 _ h' _ (List.mem_append_left _ h) rfl
    · exact n6 _ h _ h' rfl
  · rcases hk b hb with h | h
    · exact nd3 _ (List.mem_append_left _ h) _ q rfl
    · exact nd3 _ (List.mem_append_right _ (List.mem_append_right _ (List.mem_append_left _ h))) _ q rfl
  · rcases hx b hb with h | h
    · exact nd3 _ (List.mem_append_right _ (List.mem_append_left _ h)) _ q rfl
    · exact nd3 _ (List.mem_append_right _ (List.mem_append_right _ (List.mem_append_right _ h))) _ q rfl
section
variable {prog : Program} {w : World} {A : Around} {E : Value → Shared → Prop} {s : Shared} {h₀ : Heap} {L : Addr} {l : Binds} {n : Ents} {env : Env}
inductive DictI (prog : Program) (w : World) (h₀ : Heap) (L d : Addr) (Q : Value → Shared → Prop) (vs : List (Value × Value)) : Shared → Prop
  | mk {h : Heap} {ge : Array GenState} {dr : Drawn} {t : Nat} {os : OsState} (l2 : Binds) (n2 : Ents) (kvs : List (Str × Value)) (hc : Carries (strKind prog w) vs kvs) (C : Cx h₀ L h l2 n2) (ho : n2.lookup d = some emptyDict)
    (k : ∀ h' o tk, o.IsDictOf (strKind prog w) (merged [] kvs) → Cx h₀ L h' l2 (put n2 d o) → Q (.ref d) ⟨h', ge, dr, tk, os⟩) : DictI prog w h₀ L d Q vs ⟨h, ge, dr, t, os⟩
theorem dictD {keys : List (Option PySem.Expr)} {values : List PySem.Expr} {pos : Pos} {Q : Value → Shared → Prop} (C : Cx h₀ L s.heap l n) (hall : keys.all (·.isSome) = true) (hl : keys.length = values.length) (h0 : keys ≠ []) (hlen : keys.length ≤ 15)
    (h : ∀ d n1 h1, Cx h₀ L h1 l n1 → New n n1 d emptyDict → wpAny (model prog w) A (evalPairs (pairTrees keys values env pos)) (DictI prog w h₀ L d Q) E { s with heap := h1 }) :
    wpAny (model prog w) A (eval (.Dict keys values pos) env) Q E s := by
  refine wpAny_Dict_walk (knd := strKind prog w) hall hl h0 hlen (wpAny_mono (h s.heap.objs.size _ _ (C.push emptyDict) ⟨fun b p e => C.old e (size_none _), by rw [List.lookup_cons, beq_self_eq_true], fun b p e q => (by have := C.lk e; rw [q, size_none] at this; cases this)⟩) (fun vs s₁ hh => ?_) fun _ _ e => e)
  obtain ⟨l2, n2, kvs, hc, C2, ho, k⟩ := hh
  refine ⟨kvs, hc, dOf (C2.lk ho) isDict_new, fun h' hmm hs => ?_⟩
  refine elEA (Heap.dictOf_iff.mp hmm) fun o' ho' hd' => ?_
  exact k h' o' _ hd' (C2.put ho (fun b o hb e => (hs.2 b hb).trans e) ho')
theorem pick_mem {items : Array Value} {lo hi st : Option Int} {v : Value} (h : v ∈ (slicePick items lo hi st).toList) : v ∈ items.toList := by
  unfold slicePick at h
  refine elEA (List.mem_filterMap.mp (by simpa using h)) fun i _ e => ?_
  obtain ⟨hi, e⟩ := Array.getElem?_eq_some_iff.mp e
  exact e ▸ Array.getElem_mem_toList hi
theorem pick_size {items : Array Value} {k : Nat} : (slicePick items none (some (k : Int)) none).size ≤ k := by
  by_cases h : k ≤ items.size
  · rw [slicePick_upto items k h]; simp
    exact Nat.min_le_left _ _
  · exact Nat.le_trans (slicePick_size_le _ _ _ _) (by exact om18 h)
theorem ints_mem {vs : List Value} {xs : List Int} (h : IntsAre vs xs) {v : Value} (hv : v ∈ vs) : ∃ i t, v = .int i t := by
  induction h with
  | nil => cases hv
  | cons n t _ ih =>
    rcases List.mem_cons.mp hv with rfl | hv
    · exact ⟨_, _, rfl⟩
    · exact ih hv
theorem cutL {value : PySem.Expr} {k : Nat} {j : Int} {p p2 pos : Pos} {a : Addr} {items : Array Value} {Q : Value → Shared → Prop}
    (hv : wpAny (model prog w) A (eval value env) (fun v s₁ => v = .ref a ∧ s₁ = s) NoE s) (C : Cx h₀ L s.heap l n) (hL : s.heap.IsList a items) (hsz : items.size ≤ sizeLine)
    (h : ∀ D h' tk, Cx h₀ L h' l n → (∀ b o, s.heap.get? b = some o → b ≠ D) → s.heap.get? D = none → h'.get? D = some (seqObj "list" (slicePick items none (some j) none) 0) → Q (.ref D) { s with heap := h', toks := tk }) (ht : ∀ o r, letTemporaryGo value o r = pure () := by intro _ _; rfl) :
    wpAny (model prog w) A (eval (.Subscript value (.Slice none (some (.Constant (.int j) k p)) none p2) pos) env) Q E s := by
  refine wpAny_Subscript_list_slice (liftE (wpAny_mono hv ?_ fun _ _ e => e)) ht
  rintro _ s' ⟨rfl, rfl⟩
  rw [evalPart_none]
  refine wpAny_pure ?_
  show wpAny _ A (eval (.Constant (.int j) k p) env) _ E _
  refine wpAny_Constant_int ⟨a, items, none, some j, rfl, hL, hsz, .none, .int _ _, ?_⟩
  have k1 : s'.heap.get? (s'.heap.objs.size + 1) = none := by
    cases q : s'.heap.get? (s'.heap.objs.size + 1) with
    | none => rfl
    | some o => exact absurd (Heap.lt_size q) (Nat.not_lt.mpr (Nat.le_succ _))
  refine h _ _ _ (C.grow fun b o e => Heap.get?_push_of_some _ (Heap.get?_push_of_some _ e)) (fun b o e q => ?_) k1 ?_
  · rw [q, k1] at e; cases e
  · have := Heap.get?_push_size (s'.heap.push { cls := .type "slice", data := .fields #[.none, .int j s'.toks, .none] }) (o := seqObj "list" (slicePick items none (some j) none) 0) rfl
    rwa [Heap.size_push] at this
end
end L7b
section L7c
structure LK (w : World) (x : Addr) (g0 : Heap) (sd rw : Addr) (cs : Ents) (σ : HS) (c ck a : Nat) (n : Ents) : Prop where
  hp : σ.hp = x
  I : σ.Ins g0
  H : σ.On w c ck (n.lookup ·)
  O : σ.Ok
  Op : σ.Ops
  aw : sd ∉ σ.ks ∧ rw ∉ σ.ks ∧ ∀ p ∈ cs, p.1 ∉ σ.ks ∧ p.1 ≠ sd
  S : SrcOn w sd rw a (n.lookup ·)
  cs : ∀ p ∈ cs, n.lookup p.1 = some p.2
section
variable {w : World} {x sd rw : Addr} {g0 : Heap} {cs : Ents} {σ : HS} {c ck a : Nat} {n n' : Ents}
theorem LK.le (K : LK w x g0 sd rw cs σ c ck a n) (k : ∀ b p, n.lookup b = some p → n'.lookup b = some p) : LK w x g0 sd rw cs σ c ck a n' :=
  ⟨K.hp, K.I, K.H.mono fun _ _ e => k _ _ e, K.O, K.Op, K.aw, K.S.mono k, fun p hp => k _ _ (K.cs p hp)⟩
theorem LK.base {g1 : Heap} (K : LK w x g0 sd rw cs σ c ck a n) (k : Kp g0 g1) : LK w x g1 sd rw cs σ c ck a n := ⟨K.hp, K.I.keeps k, K.H, K.O, K.Op, K.aw, K.S, K.cs⟩
theorem LK.next {a' : Nat} (K : LK w x g0 sd rw cs σ c ck a n) (S : SrcOn w sd rw a' (n'.lookup ·)) (off : Off sd n n') : LK w x g0 sd rw cs σ c ck a' n' :=
  ⟨K.hp, K.I, K.H.src K.S off K.aw.1, K.O, K.Op, K.aw, S, fun p hp => off _ _ (K.aw.2.2 p hp).2 (K.cs p hp)⟩
theorem LK.has (K : LK w x g0 sd rw cs σ c ck a n) : (∃ p, n.lookup sd = some p) ∧ ∃ p, n.lookup rw = some p :=
  let ⟨⟨o, _, e, _⟩, _, ⟨_, _, e', _⟩, _⟩ := K.S; ⟨⟨o, e⟩, ⟨_, e'⟩⟩
theorem LK.add {op : Str} {ks : List Nat} {τ : HS} {h h' : Heap} {c' ck' : Nat} (K : LK w x g0 sd rw cs σ c ck a n) (M : Mut h n h' n' σ.ks) (G : HS.Grew σ τ (op, ks)) (H : τ.On w c' ck' (n'.lookup ·)) (O : τ.Ok) (hf : ∀ b p, n.lookup b = some p → b ∉ σ.ks → b ∉ τ.ks) (hop : OpFor op ks.length) :
    LK w x g0 sd rw cs τ c' ck' a n' ∧ τ.N ≤ σ.N + 1 := by
  obtain ⟨⟨p1, e1⟩, ⟨p2, e2⟩⟩ := K.has
  refine ⟨⟨G.same.1.trans K.hp, G.ins K.I, H, O, fun nd hnd => ?_, ⟨hf _ _ e1 K.aw.1, hf _ _ e2 K.aw.2.1, fun p hp => ⟨hf _ _ (K.cs p hp) (K.aw.2.2 p hp).1, (K.aw.2.2 p hp).2⟩⟩, K.S.off M K.aw.1 K.aw.2.1, fun p hp => M.le _ _ (K.aw.2.2 p hp).1 (K.cs p hp)⟩, ?_⟩
  · rcases G.nodes with e | e <;> rw [e] at hnd
    · exact K.Op nd hnd
    · rcases List.mem_append.mp hnd with h | h
      · exact K.Op nd h
      · rw [List.mem_singleton.mp h]; exact hop
  · show τ.nodes.length ≤ σ.nodes.length + 1
    rcases G.nodes with e | e <;> rw [e]
    · exact Nat.le_succ _
    · simp
theorem LK.upd {ps : List Nat} {lots : List (List Nat)} {abv : List (Nat × Addr × List Nat)} {wait : List Nat} {h h' : Heap} {c' a' : Nat} (K : LK w x g0 sd rw cs σ c ck a n) (M : Mut h n h' n' (sd :: σ.ks)) (H : (σ.upd ps lots abv wait).On w c' ck (n'.lookup ·)) (O : (σ.upd ps lots abv wait).Ok)
    (S : SrcOn w sd rw a' (n'.lookup ·)) (hf : ∀ b p, n.lookup b = some p → b ∉ σ.ks → b ∉ (σ.upd ps lots abv wait).ks) : LK w x g0 sd rw cs (σ.upd ps lots abv wait) c' ck a' n' := by
  obtain ⟨⟨p1, e1⟩, ⟨p2, e2⟩⟩ := K.has
  exact ⟨K.hp, ⟨K.I.hp, K.I.bk, K.I.un⟩, H, O, K.Op, ⟨hf _ _ e1 K.aw.1, hf _ _ e2 K.aw.2.1, fun p hp => ⟨hf _ _ (K.cs p hp) (K.aw.2.2 p hp).1, (K.aw.2.2 p hp).2⟩⟩, S, fun p hp => M.le _ _ (fun q => by
    rcases List.mem_cons.mp q with q | q
    · exact (K.aw.2.2 p hp).2 q
    · exact (K.aw.2.2 p hp).1 q) (K.cs p hp)⟩
end
end L7c
section L7d
structure Named (op : Str) (k : Nat) : Prop where
  f : OpFor op k
  g : GoodOp op
  q : ∃ c, op.cps[0]? = some c ∧ c ≠ 63
noncomputable def namedB (op : Str) (k : Nat) : Bool := (!(k == 0) || leafs.contains (op, (leafs.lookup op).getD none)) && decide (op.length ≤ 100) && !(op == "") && op.cps.toList.all goodc && decide (op.cps.size < 100) && op.cps[0]?.any (fun c => !(c == 63))
theorem named_of {op : Str} {k : Nat} (h : namedB op k = true) : Named op k := by
  simp only [namedB, Bool.and_eq_true, decide_eq_true_eq, Bool.or_eq_true, Bool.not_eq_true', beq_eq_false_iff_ne, List.all_eq_true] at h
  refine elA h fun Xx1 h6 => ?_
  refine elA Xx1 fun Xx2 h5 => ?_
  refine elA Xx2 fun Xx3 h4 => ?_
  refine elA Xx3 fun Xx4 h3 => ?_
  refine elA Xx4 fun h1 h2 => ?_
  refine ⟨⟨fun hk => ?_, h2⟩, ⟨h3, h4, h5⟩, ?_⟩
  · rcases h1 with h | h
    · exact absurd hk h
    · exact List.contains_iff_mem.mp h
  · cases q : op.cps[0]? with
    | none => rw [q] at h6; cases h6
    | some c => rw [q] at h6; exact ⟨c, rfl, by simpa using h6⟩
noncomputable def pairL (l : List Value) (op : Str) (k : Int) : Bool := match l with
  | [] => false
  | a :: r => match r with
    | [] => false
    | b :: q => strB a op && intB b k && q.isEmpty
noncomputable def seqB (d : Data) (f : List Value → Bool) : Bool := match d with
  | .seq its ep => ep == 0 && f its.toList
  | _ => false
theorem seqB_of {d : Data} {f : List Value → Bool} (h : seqB d f = true) : ∃ l, d = .seq (List.toArray l) 0 ∧ f l = true := by
  cases d with
  | seq its ep =>
    have h := (Bool.and_eq_true _ _).mp h
    obtain rfl := beq_iff_eq.mp h.1
    exact ⟨its.toList, rfl, h.2⟩
  | _ => cases h
noncomputable def tupO (o : Option Obj) (f : List Value → Bool) : Bool := match o with
  | none => false
  | some o => typB o.cls "tuple" && o.dict.isNone && seqB o.data f && o.slots.isEmpty
theorem tup_of {o : Option Obj} {f : List Value → Bool} (h : tupO o f = true) : ∃ l, o = some (seqObj "tuple" (List.toArray l) 0) ∧ f l = true := by
  cases o with
  | none => cases h
  | some o =>
    obtain ⟨c, d, x, sl⟩ := o
    have h := (Bool.and_eq_true _ _).mp h
    have h1 := (Bool.and_eq_true _ _).mp h.1
    have h2 := (Bool.and_eq_true _ _).mp h1.1
    obtain rfl := typB_of h2.1
    obtain rfl := Option.isNone_iff_eq_none.mp h2.2
    obtain rfl := Array.isEmpty_iff.mp h.2
    refine elEA (seqB_of h1.2) fun l e q => ?_
    exact ⟨l, congrArg (fun x => some (⟨.type "tuple", none, x, #[]⟩ : Obj)) e, q⟩
noncomputable def isPair (o : Option Obj) (op : Str) (k : Int) : Bool := tupO o fun l => pairL l op k
theorem pair_of {o : Option Obj} {op : Str} {k : Int} (h : isPair o op k = true) : ∃ t u, o = some (seqObj "tuple" #[.str op t, .int k u] 0) := by
  refine elEA (tup_of h) fun l Xx8 h1 => ?_
  obtain rfl := Xx8
  clear h
  have h : pairL l op k = true := h1
  clear h1
  cases l with
  | nil => cases h
  | cons a r => cases r with
    | nil => cases h
    | cons b q =>
      have h := (Bool.and_eq_true _ _).mp h
      have h1 := (Bool.and_eq_true _ _).mp h.1
      obtain ⟨t, rfl⟩ := strB_of h1.1
      obtain ⟨u, rfl⟩ := intB_of h1.2
      obtain rfl := List.isEmpty_iff.mp h.2
      exact ⟨t, u, rfl⟩
noncomputable def opAds : List Addr := [498, 499, 500, 501, 502, 503, 504, 505]
noncomputable def opTab : List (Str × Nat) := [("add", 2), ("mul", 2), ("neg", 1), ("add", 2), ("neg", 2), ("add", 1), ("mul", 2), ("sub", 2)]
theorem k_506 (p : Params) : (K p).lookup 506 = some (seqObj "tuple" (opAds.map Value.ref).toArray 0) := by kernel_rfl
theorem ops_at (p : Params) : (List.zip opAds opTab).all (fun x => isPair ((K p).lookup x.1) x.2.1 (x.2.2 : Nat) && namedB x.2.1 x.2.2 && decide (x.2.2 ≤ 2) && decide (0 < x.2.2)) = true := by kernel_rfl
theorem op_item {w : World} {h : Heap} (W : Wd w h) {k : Nat} (hk : k < 8) : ∃ ad op m t u, (opAds.map Value.ref).toArray[k]? = some (.ref ad) ∧ h.get? ad = some (seqObj "tuple" #[.str op t, .int (m : Nat) u] 0) ∧ Named op m ∧ m ≤ 2 ∧ 0 < m := by
  have e : (List.zip opAds opTab)[k]? = some ((List.zip opAds opTab)[k]'hk) := List.getElem?_eq_getElem _
  generalize hx : (List.zip opAds opTab)[k]'hk = x at e
  have h1 := List.all_eq_true.mp (ops_at w.params) x (List.mem_of_getElem? e)
  simp only [Bool.and_eq_true, decide_eq_true_eq] at h1
  refine elA h1 fun Xx11 h4 => ?_
  refine elA Xx11 fun Xx12 h3 => ?_
  refine elA Xx12 fun h1 h2 => ?_
  refine elEE (pair_of h1) fun t u h1 => ?_
  refine ⟨x.1, x.2.1, x.2.2, t, u, ?_, W.k _ _ h1, named_of h2, h3, h4⟩
  have e1 : opAds = (List.zip opAds opTab).map (·.1) := rfl
  simp only [List.getElem?_toArray, List.getElem?_map]
  rw [e1, List.getElem?_map, e]; rfl
noncomputable def leafL (l : List Value) (op : Str) : Bool := match l with
  | [] => false
  | a :: r => match r with
    | [] => false
    | _ :: q => strB a op && q.isEmpty
noncomputable def isLeaf (o : Option Obj) (op : Str) : Bool := tupO o fun l => leafL l op
theorem leaf_of {o : Option Obj} {op : Str} (h : isLeaf o op = true) : ∃ t v, o = some (seqObj "tuple" #[.str op t, v] 0) := by
  refine elEA (tup_of h) fun l Xx13 h1 => ?_
  obtain rfl := Xx13
  clear h
  have h : leafL l op = true := h1
  clear h1
  cases l with
  | nil => cases h
  | cons a r => cases r with
    | nil => cases h
    | cons b q =>
      have h := (Bool.and_eq_true _ _).mp h
      obtain ⟨t, rfl⟩ := strB_of h.1
      obtain rfl := List.isEmpty_iff.mp h.2
      exact ⟨t, b, rfl⟩
theorem leaves_at (p : Params) : (List.zip leafAds (leafs.map (·.1))).all (fun x => isLeaf ((K p).lookup x.1) x.2 && namedB x.2 0) = true := by kernel_rfl
theorem leaf_item {w : World} {h : Heap} (W : Wd w h) {k : Nat} (hk : k < 10) : ∃ ad op t v, (leafAds.map Value.ref).toArray[k]? = some (.ref ad) ∧ h.get? ad = some (seqObj "tuple" #[.str op t, v] 0) ∧ Named op 0 := by
  have e : (List.zip leafAds (leafs.map (·.1)))[k]? = some ((List.zip leafAds (leafs.map (·.1)))[k]'hk) := List.getElem?_eq_getElem _
  generalize hx : (List.zip leafAds (leafs.map (·.1)))[k]'hk = x at e
  have h1 := List.all_eq_true.mp (leaves_at w.params) x (List.mem_of_getElem? e)
  simp only [Bool.and_eq_true] at h1
  refine elA h1 fun h1 h2 => ?_
  refine elEE (leaf_of h1) fun t v h1 => ?_
  refine ⟨x.1, x.2, t, v, ?_, W.k _ _ h1, named_of h2⟩
  have e1 : leafAds = (List.zip leafAds (leafs.map (·.1))).map (·.1) := rfl
  simp only [List.getElem?_toArray, List.getElem?_map]
  rw [e1, List.getElem?_map, e]; rfl
end L7d
section L7e
structure KK (w : World) (σ : HS) (an : Addr) (N : Nat) (kx kd td sd rw : Addr) (cs : Ents) (n : Ents) (fd : Addr) (m : List (Nat × Va)) : Prop where
  J : OI (n.lookup ·) kx kd 114 (kfs σ.hp an fd td)
  V : KV w (n.lookup ·) fd m
  Bl : σ.Below N (vget m)
  ky : ∀ c ∈ m.map (·.1), c < σ.N
  sm : Small N m
  ap : kx ∉ σ.ks ∧ kd ∉ σ.ks ∧ fd ∉ σ.ks
  as : kx ≠ sd ∧ kd ≠ sd ∧ fd ≠ sd ∧ kd ≠ rw ∧ kx ≠ kd ∧ ∀ p ∈ cs, p.1 ≠ kd
section
variable {w : World} {x sd rw an kx kd td fd : Addr} {g0 : Heap} {cs : Ents} {σ : HS} {c ck a N : Nat} {n n' : Ents} {m : List (Nat × Va)}
theorem KK.upd {ps : List Nat} {lots : List (List Nat)} {abv : List (Nat × Addr × List Nat)} {wait : List Nat} {h h' : Heap} (K : KK w σ an N kx kd td sd rw cs n fd m) (M : Mut h n h' n' (sd :: σ.ks)) (O : σ.Ok) (O' : (σ.upd ps lots abv wait).Ok)
    (hm : ∀ x y, x < σ.N → y < σ.N → root σ.U.ps x = root σ.U.ps y → root ps x = root ps y) (hf : ∀ b p, n.lookup b = some p → b ∉ σ.ks → b ∉ (σ.upd ps lots abv wait).ks) : KK w (σ.upd ps lots abv wait) an N kx kd td sd rw cs n' fd m := by
  have ne : ∀ b, b ≠ sd → b ∉ σ.ks → b ∉ sd :: σ.ks := fun b h1 h2 q => by
    rcases List.mem_cons.mp q with q | q
    · exact h1 q
    · exact h2 q
  obtain ⟨es, ep, e, r⟩ := K.J.d
  obtain ⟨o, kvs, e', r'⟩ := K.V
  exact ⟨⟨M.le _ _ (ne _ K.as.1 K.ap.1) K.J.x, es, ep, M.le _ _ (ne _ K.as.2.1 K.ap.2.1) e, r⟩, ⟨o, kvs, M.le _ _ (ne _ K.as.2.2.1 K.ap.2.2) e', r'⟩, K.Bl.merged O O' rfl hm, K.ky, K.sm, ⟨hf _ _ K.J.x K.ap.1, hf _ _ e K.ap.2.1, hf _ _ e' K.ap.2.2⟩, K.as⟩
theorem LK.kept {h h' : Heap} (K : LK w x g0 sd rw cs σ c ck a n) (Y : KK w σ an N kx kd td sd rw cs n fd m) (M : Mut h n h' n' [kd]) : LK w x g0 sd rw cs σ c ck a n' := by
  have le : ∀ b p, b ≠ kd → n.lookup b = some p → n'.lookup b = some p := fun b p h e => M.le b p (fun q => h (List.mem_singleton.mp q)) e
  refine ⟨K.hp, K.I, K.H.per (fun b hb p e => le b p (fun q => Y.ap.2.1 (q ▸ hb)) e) fun b vs ep e => le b _ (fun q => ?_) e, K.O, K.Op, K.aw, K.S.off M (fun q => Y.as.2.1 (List.mem_singleton.mp q).symm) (fun q => Y.as.2.2.2.1 (List.mem_singleton.mp q).symm), fun p hp => le _ _ (Y.as.2.2.2.2.2 p hp) (K.cs p hp)⟩
  obtain ⟨es, ep, e', _⟩ := Y.J.d
  subst q
  have := e.symm.trans e'
  simp at this
theorem KK.kept {fd' : Addr} {m' : List (Nat × Va)} (K : LK w x g0 sd rw cs σ c ck a n) (Y : KK w σ an N kx kd td sd rw cs n fd m) (J : OI (n'.lookup ·) kx kd 114 (kfs σ.hp an fd' td)) (V : KV w (n'.lookup ·) fd' m') (B : σ.Below N (vget m')) (ky : ∀ c ∈ m'.map (·.1), c < σ.N) (sm : Small N m')
    (hf : ∀ b p, n.lookup b = some p → b ≠ fd') : KK w σ an N kx kd td sd rw cs n' fd' m' :=
  ⟨J, V, B, ky, sm, ⟨Y.ap.1, Y.ap.2.1, fun q => (let ⟨p, e⟩ := K.H.has _ q; hf _ _ e rfl)⟩, ⟨Y.as.1, Y.as.2.1, fun q => (let ⟨⟨p, e⟩, _⟩ := K.has; hf _ _ (q ▸ e) rfl), Y.as.2.2.2⟩⟩
end
end L7e
section L7f
theorem five {P : Nat → Prop} {j : Nat} (hj : j < 5) (h0 : P 0) (h1 : P 1) (h2 : P 2) (h3 : P 3) (h4 : P 4) : P j := by
  cases j with
  | zero => exact h0
  | succ j => cases j with
    | zero => exact h1
    | succ j => cases j with
      | zero => exact h2
      | succ j => cases j with
        | zero => exact h3
        | succ j => cases j with
          | zero => exact h4
          | succ j => exact absurd hj (Nat.not_lt.mpr (Nat.le_add_left 5 j))
section
variable {prog : Program} {w : World} {A : Around} {E : Value → Shared → Prop} {s : Shared}
theorem itemFive {value slice : PySem.Expr} {D : Addr} {ep N j : Nat} {t1 t2 t3 t4 u : Tok} {Q : Value → Shared → Prop} (ho : s.heap.get? D = some (seqObj "list" #[.none, .str "clash" t1, .int 0 t2, .int 1 t3, .int ((N - 1 : Nat) : Int) t4] ep)) (hN : 2 ≤ N) (hj : j < 5)
    (h : ∀ v y, VIs v y → (∀ k, y = some (some k) → k < N) → Q v s)
    (hs : subscripted slice false (.ref D) (.int (j : Int) u) = operate [.ref D, .int (j : Int) u] (getItem (.ref D) (.int (j : Int) u)) := by with_unfolding_all rfl) :
    wpAny (model prog w) A (subscriptTail value slice (.ref D) (.int (j : Int) u)) Q E s := by
  have key : ∃ v y, (#[.none, .str "clash" t1, .int 0 t2, .int 1 t3, .int ((N - 1 : Nat) : Int) t4] : Array Value)[j]? = some v ∧ VIs v y ∧ ∀ k, y = some (some k) → k < N := by
    refine five (P := fun j => ∃ v y, (#[.none, .str "clash" t1, .int 0 t2, .int 1 t3, .int ((N - 1 : Nat) : Int) t4] : Array Value)[j]? = some v ∧ VIs v y ∧ ∀ k, y = some (some k) → k < N) hj ⟨_, none, rfl, rfl, fun k q => (by cases q)⟩ ⟨_, some none, rfl, ⟨_, rfl⟩, fun k q => (by cases q)⟩
      ⟨_, some (some 0), rfl, ⟨_, rfl⟩, fun k q => om69 hN (Option.some.inj (Option.some.inj q))⟩ ⟨_, some (some 1), rfl, ⟨_, rfl⟩, fun k q => om70 hN (Option.some.inj (Option.some.inj q))⟩ ⟨_, some (some (N - 1)), rfl, ⟨_, rfl⟩, fun k q => om97 hN (Option.some.inj (Option.some.inj q))⟩
  refine elEEAA key fun v y e h1 h2 => ?_
  exact itemO ho e (by exact tt) (h v y h1 h2) hs
end
end L7f
section L8
inductive LawA (w : World) (x : Addr) (g : Heap) (sd rw : Addr) (cs : Ents) (a : Addr) (k : Nat) : Binds → Ents → Prop
  | mk (σ : HS) {n : Ents} (K : LK w x g sd rw cs σ k (23 * k) 2 n) (h1 : σ.N ≤ k) (h2 : 0 < k → 0 < σ.N) : LawA w x g sd rw cs a k [("script", .ref a)] n
inductive LawB (w : World) (x : Addr) (g : Heap) (sd rw : Addr) (cs : Ents) (a : Addr) (k : Nat) : Binds → Ents → Prop
  | mk (σ : HS) (aa : Nat) {n : Ents} (K : LK w x g sd rw cs σ (3 + k) (23 * (3 + k)) aa n) (h1 : σ.N ≤ 3 + k) (h2 : 0 < σ.N) (h3 : aa ≤ 3 + 3 * k) : LawB w x g sd rw cs a k [("script", .ref a)] n
inductive LawC (w : World) (x : Addr) (g : Heap) (sd rw : Addr) (cs : Ents) (σ : HS) (c ck aa i : Nat) (ys : Array Value) (n : Ents) : Prop
  | mk (zs : List Nat) (K : LK w x g sd rw cs σ c ck (aa + 1 + i) n) (hz : Nums ys.toList zs) (hl : zs.length = i) (hN : ∀ z ∈ zs, z < σ.N)
inductive LawD (w : World) (x : Addr) (g : Heap) (sd rw : Addr) (cs : Ents) (an : Addr) (N : Nat) (kx kd td a : Addr) (j k : Nat) : Binds → Ents → Prop
  | mk (σ : HS) (aa c : Nat) (fd : Addr) (m : List (Nat × Va)) {n : Ents} (K : LK w x g sd rw cs σ c (23 * (3 + j)) aa n) (Y : KK w σ an N kx kd td sd rw cs n fd m) (h1 : 0 < σ.N) (h2 : c ≤ 20 + 4 * k) (h3 : aa ≤ 40 + 10 * k) :
    LawD w x g sd rw cs an N kx kd td a j k [("keeper", .ref kx), ("analysis", .ref an), ("script", .ref a)] n
inductive LawE (w : World) (x : Addr) (g : Heap) (sd rw : Addr) (cs : Ents) (σ : HS) (c ck : Nat) (kx an a : Addr) (k : Nat) : Binds → Ents → Prop
  | mk (aa : Nat) {n : Ents} (K : LK w x g sd rw cs σ c ck aa n) (h : aa ≤ 60 + 4 * k) : LawE w x g sd rw cs σ c ck kx an a k [("keeper", .ref kx), ("analysis", .ref an), ("script", .ref a)] n
inductive LawF (w : World) (x : Addr) (g : Heap) (sd rw : Addr) (cs : Ents) (σ : HS) (c ck aa N i : Nat) (ys : Array Value) (n : Ents) : Prop
  | mk (zs : List Va) (K : LK w x g sd rw cs σ c ck (aa + 1 + i) n) (hz : Vls ys.toList zs) (hl : zs.length = i) (hN : ∀ k, some (some k) ∈ zs → k < N)
section
variable {w : World} {A : Around} {E : Value → Shared → Prop} {s : Shared}
set_option maxHeartbeats 4000000 in
theorem law_ok {a : Addr} {vs : List Value} {xs : List Int} {Q : Value → Shared → Prop} (W : Wd w s.heap) (hL : s.heap.IsList a vs.toArray) (hI : IntsAre vs xs) (hlen : xs.length ≤ 63)
    (hroom : A.depth + 300 < recursionLimit) (hu : A.units + 600 < cLine) (hh : A.handled = none)
    (post : ∀ s', Ext s s' → Q (.bool true) s') :
    wpAny (model PySem.Challenge.pw_pq0072_01 w) A (call (.ref 549) [.ref a]) Q E s := by
  refine enterK (n := []) W (Own.nil _) (x := dfn 24) rfl k_549 c_549 (by exact rm0) (binds := [("script", .ref a)]) (l := [("script", .ref a)]) rfl ⟨.inl rfl, trivial⟩ (by decide) (List.forall_mem_cons.mpr ⟨rfl, List.forall_mem_nil _⟩) (fun L h₁ tk cells W' X C => ?_) (fun L => show ([L + 1 + 1 + 1, L + 1 + 1, L + 1] : List Addr).Nodup by
    simp
    exact Nat.ne_of_gt (Nat.lt_succ_of_lt (Nat.lt_succ_self L)))
  refine elEEEAAA X.three fun o1 o2 o3 Xx1 hc1 hc2 hc3 => ?_
  obtain rfl := Xx1
  change Wd w s.heap at W'
  change o1.data = .cell none at hc1
  change o2.data = .cell none at hc2
  change o3.data = .cell none at hc3
  change Cx s.heap L h₁ [("script", .ref a)] [(L + 1 + 1 + 1, o1), (L + 1 + 1, o2), (L + 1, o3)] at C
  have hl1 : List.lookup (L + 1 + 1 + 1) [(L + 1 + 1 + 1, o1), (L + 1 + 1, o2), (L + 1, o3)] = some o1 := by rw [List.lookup_cons, beq_self_eq_true]
  have hl2 : List.lookup (L + 1 + 1) [(L + 1 + 1 + 1, o1), (L + 1 + 1, o2), (L + 1, o3)] = some o2 := C.tail (n := [(L + 1 + 1, o2), (L + 1, o3)]) (by rw [List.lookup_cons, beq_self_eq_true])
  have hl3 : List.lookup (L + 1) [(L + 1 + 1 + 1, o1), (L + 1 + 1, o2), (L + 1, o3)] = some o3 := C.tail (n := [(L + 1 + 1, o2), (L + 1, o3)]) ((C.sub (List.sublist_cons_self _ _)).tail (n := [(L + 1, o3)]) (by rw [List.lookup_cons, beq_self_eq_true]))
  have hne2 : L + 1 + 1 ≠ L + 1 + 1 + 1 := Nat.ne_of_lt (Nat.lt_succ_self _)
  have hne3 : L + 1 ≠ L + 1 + 1 + 1 := Nat.ne_of_lt (Nat.lt_succ_of_lt (Nat.lt_succ_self _))
  have hne4 : L + 1 ≠ L + 1 + 1 := Nat.ne_of_lt (Nat.lt_succ_self _)
  walk_at "m go"
  refine dictD C rfl rfl (by walk_at "m sm") (by walk_at "m sm") fun sd n2 h2 C2 N2 => ?_
  refine pairTrees_cons_walk ?_
  walk_at "m go"
  refine compX (L := L) (h₀ := s.heap) (cl := []) ?_
  have hL2 : h2.IsList a vs.toArray := (let ⟨o, e, r⟩ := hL; ⟨o, C2.keep _ _ e, r⟩)
  have hvl := hI.length
  have hNs : (vs.toArray).size ≤ sizeLine := by rw [sizeLine_eq]; simp; exact ell
  refine cutL (by walk_at "m go" <;> rfl) C2 hL2 hNs fun D3 h3 tk3 C3 ne3 hD3 ho3 => ?_
  have ap := Apart.fresh C2 hD3
  have hps : (slicePick vs.toArray none (some 48) none).size ≤ 48 := pick_size (k := 48)
  have hpm : ∀ v ∈ (slicePick vs.toArray none (some 48) none).toList, ∃ i t, v = .int i t := fun v hv => by
    have := pick_mem hv
    exact ints_mem hI (by simpa using this)
  generalize slicePick vs.toArray none (some 48) none = pk at ho3 hps hpm
  refine ⟨fun i ys n => n = n2 ∧ ys.size = i ∧ ∀ v ∈ ys.toList, ∃ i t, v = .int i t, [D3], _, _, _, n2, Up.mk, C3, ap, it_list hh (isList_obj ho3), by exact lt_, ⟨rfl, rfl, fun _ h => nomatch h⟩, ?_, ?_⟩
  · intro j v ys g Cl n Z1 h5 d5 tk5 hj hys hP kg C5
    refine stepC ?_
    refine genQ fun QQ hQ => ?_
    refine elAA Z1 fun Xx2 hsz hI => ?_
    obtain rfl := Xx2
    refine elEE (hpm v (by obtain ⟨hi, e⟩ := Array.getElem?_eq_some_iff.mp hP; exact e ▸ Array.getElem_mem_toList hi)) fun i ti Xx3 => ?_
    obtain rfl := Xx3
    have Wg := W'.keeps kg
    walk_at "m go"
    refine call_abs_int fun u6 tk6 => ?_
    walk_at "m go"
    refine mod_int (by decide) ?_
    try refine hQ _ _ ?_
    refine ⟨Up.mk, _, _, C5.grow (fun _ _ e => e), rfl, by rw [Array.size_push, hsz], fun v hv => ?_⟩
    rw [Array.toList_push] at hv
    rcases List.mem_append.mp hv with hv | hv
    · exact hI v hv
    · exact ⟨_, _, List.mem_singleton.mp hv⟩
  · rintro rw ys ep3 n ⟨rfl, hsz, hI4⟩ - h4 d4 tk4 C4
    walk_at "m go"
    have hsd := C4.tail N2.self
    have hrw : List.lookup rw ((rw, seqObj "list" ys ep3) :: n) = some (seqObj "list" ys ep3) := by rw [List.lookup_cons, beq_self_eq_true]
    have hnr : rw ≠ sd := fun q => by subst q; rw [hrw] at hsd; simp [emptyDict] at hsd
    have hcl : ∀ b o v, List.lookup b [(L + 1 + 1 + 1, o1), (L + 1 + 1, o2), (L + 1, o3)] = some o → o.data = .cell v → List.lookup b ((rw, seqObj "list" ys ep3) :: n) = some o ∧ b ≠ sd ∧ b ≠ rw := fun b o v e hd => ⟨C4.tail (N2.le _ _ e), N2.ne _ _ e, fun q => by
      have := C4.tail (N2.le _ _ e)
      rw [q, hrw] at this; cases this; cases hd⟩
    try refine hQ _ _ ?_
    refine ⟨_, _, [("row", .ref rw), ("at", .int 0 _)], ⟨strKind_is _ _ _ _, rfl, strKind_is _ _ _ _, rfl, trivial⟩, C4, hsd, fun h5 od tk5 hod C5 => ?_⟩
    refine elAA (hcl _ _ _ hl3 hc3) fun e3 f3 g3 => ?_
    refine elAA (hcl _ _ _ hl2 hc2) fun e2 f2 g2 => ?_
    refine elAA (hcl _ _ _ hl1 hc1) fun e1 f1 g1 => ?_
    refine stCell C5 (lookup_put_ne e3 f3) hc3 fun h6 o3' hc3' C6 => ?_
    have hsd6 := lookup_put_ne (o := o3') (lookup_put_self (o := od) hsd) (Ne.symm f3)
    have hrw6 := lookup_put_ne (o := o3') (lookup_put_ne (o := od) hrw hnr) (Ne.symm g3)
    have hk1 := lookup_put_self (o := o3') (lookup_put_ne (o := od) e3 f3)
    have hk2 := lookup_put_ne (o := o3') (lookup_put_ne (o := od) e2 f2) (Ne.symm hne4)
    have hk3 := lookup_put_ne (o := o3') (lookup_put_ne (o := od) e1 f1) (Ne.symm hne3)
    have S6 : SrcOn w sd rw 0 ((put (put ((rw, seqObj "list" ys ep3) :: n) sd od) (L + 1) o3').lookup ·) := ⟨⟨od, _, hsd6, hod⟩, ys.size, ⟨ys, ep3, hrw6, rfl, hI4⟩, by exact ell⟩
    generalize put (put ((rw, seqObj "list" ys ep3) :: n) sd od) (L + 1) o3' = n6 at C6 S6 hsd6 hrw6 hk1 hk2 hk3
    clear C4 C5 e3 e2 e1 hcl C3 C2 C hl1 hl2 hl3 N2 hsd hrw
    walk_at "m go"
    refine next_ok (m := 6) W' C6.own S6 (by decide) (by decide) (by show A.depth + 1 + 10 < recursionLimit; exact rm2) fun j7 t7 s7 n7 hj7 M7 X7 => X7.goM M7 fun h7 d7 tk7 M7 S7 off7 => ?_
    have C7 := C6.after M7
    have hk1 := off7 _ _ f3 hk1
    have hk2 := off7 _ _ f2 hk2
    have hk3 := off7 _ _ f1 hk3
    clear M7 off7 S6 C6
    walk_at "m go"
    refine add_int ?_
    rw [show (2 + (j7 : Int)) = ((2 + j7 : Nat) : Int) by exact om80]
    have hN0 : 2 ≤ 2 + j7 := by exact om33 hj7
    have hN1 : 2 + j7 ≤ 7 := by exact om32 hj7
    generalize 2 + j7 = N at hN0 hN1
    walk_at "m go"
    refine heap_new W' C7 (by show A.depth + 1 + 20 < recursionLimit; exact rm2) fun σ hd bd ud s8 n8 C8 X8 => X8.goC C8 fun h8 d8 tk8 C8 J1 J2 J3 H8 O8 nod8 le8 key8 abv8 la8 => ?_
    have hap := fresh_apart (r := n7.map (·.1)) (key8 ▸ C8.nd) abv8 la8
    refine elAA hap fun ap1 ap2 ap3 => ?_
    have hin7 : ∀ b p, n7.lookup b = some p → b ∈ n7.map (·.1) := fun b p e => List.mem_map.mpr ⟨_, mem_of_lookup e, rfl⟩
    refine elEEAAAAA (C8.settle [σ.U.u, ud, σ.bk, bd, σ.hp, hd]) fun g n9 kg C9 off9 in9 _ _ => ?_
    have Wg := W'.keeps kg
    have Ig : σ.Ins g := ⟨OI.inst ⟨in9 _ _ (by walk_at "m sm") J1.x, (let ⟨es, ep, e, r⟩ := J1.d; ⟨es, ep, in9 _ _ (by walk_at "m sm") e, r⟩)⟩, OI.inst ⟨in9 _ _ (by walk_at "m sm") J2.x, (let ⟨es, ep, e, r⟩ := J2.d; ⟨es, ep, in9 _ _ (by walk_at "m sm") e, r⟩)⟩, OI.inst ⟨in9 _ _ (by walk_at "m sm") J3.x, (let ⟨es, ep, e, r⟩ := J3.d; ⟨es, ep, in9 _ _ (by walk_at "m sm") e, r⟩)⟩⟩
    have H9 : σ.On w 0 0 (n9.lookup ·) := H8.per (fun b hb p e => off9 _ _ (ap1 b hb) e) fun b vs ep e => off9 _ _ (fun hb => by
      have hx : ∀ x dx C fs, OI (n8.lookup ·) x dx C fs → b ≠ x ∧ b ≠ dx := fun x dx C fs J => ⟨fun q => by
        have := J.x
        subst q
        have := e.symm.trans this
        simp [instObj] at this, fun q => by
        refine elEEA J.d fun es ep e' _ => ?_
        subst q
        have := e.symm.trans e'
        simp at this⟩
      simp only [List.mem_cons, List.not_mem_nil, or_false] at hb
      rcases hb with h | h | h | h | h | h
      · exact (hx _ _ _ _ J3).1 h
      · exact (hx _ _ _ _ J3).2 h
      · exact (hx _ _ _ _ J2).1 h
      · exact (hx _ _ _ _ J2).2 h
      · exact (hx _ _ _ _ J1).1 h
      · exact (hx _ _ _ _ J1).2 h) e
    have up9 : ∀ b p, n7.lookup b = some p → n9.lookup b = some p ∧ b ∉ σ.ks := fun b p e => ⟨off9 _ _ (fun hb => ap3 b hb (hin7 b p e)) (le8 _ _ e), fun hb => ap2 b hb (hin7 b p e)⟩
    have S9 : SrcOn w sd rw 1 (n9.lookup ·) := (let ⟨⟨o, t, e, h⟩, m, ⟨vs, ep, e', r⟩, hm⟩ := S7; ⟨⟨o, t, (up9 _ _ e).1, h⟩, m, ⟨vs, ep, (up9 _ _ e').1, r⟩, hm⟩)
    have as : sd ∉ σ.ks := (let ⟨⟨o, t, e, h⟩, _⟩ := S7; (up9 _ _ e).2)
    have ar : rw ∉ σ.ks := (let ⟨_, m, ⟨vs, ep, e', r⟩, hm⟩ := S7; (up9 _ _ e').2)
    refine elA (up9 _ _ hk1) fun hk1 a1 => ?_
    refine elA (up9 _ _ hk2) fun hk2 a2 => ?_
    refine elA (up9 _ _ hk3) fun hk3 a3 => ?_
    clear up9 hin7 ap1 ap2 ap3 off9 in9 J1 J2 J3 key8 le8 H8 C8 S7 C7 X8 X7 abv8 la8
    walk_at "m go"
    refine newTupleR C9 (by simp [sizeLine_eq]) fun T n10 h10 C10 N10 => ?_
    refine unpackG C10 (C10.lk N10.self) hh fun h11 tk11 C11' => ?_
    have C11 := C11'.narrow C9.nd N10.le
    clear C10 C11' N10 C9
    refine wpAny_assign_Name ?_
    refine stCell C11 hk2 hc2 fun h12 o2' hc2' C12 => ?_
    refine wpAny_assign_Name ?_
    refine stCell C12 (lookup_put_ne hk3 (Ne.symm hne2)) hc1 fun h13 o1' hc1' C13 => ?_
    have K0 : LK w σ.hp g sd rw [(L + 1, o3'), (L + 1 + 1, o2'), (L + 1 + 1 + 1, o1')] σ 0 0 1 (put (put n9 (L + 1 + 1) o2') (L + 1 + 1 + 1) o1') := by
      have pp : ∀ b p, b ≠ L + 1 + 1 → b ≠ L + 1 + 1 + 1 → n9.lookup b = some p → (put (put n9 (L + 1 + 1) o2') (L + 1 + 1 + 1) o1').lookup b = some p := fun b p h1 h2 e => lookup_put_ne (lookup_put_ne e h1) h2
      refine ⟨rfl, Ig, H9.per (fun b hb p e => pp b p (fun q => a2 (q ▸ hb)) (fun q => a3 (q ▸ hb)) e) fun b vs ep e => pp b _ (fun q => ?_) (fun q => ?_) e, O8, fun nd hnd => ?_, ⟨as, ar, fun p hp => ?_⟩, ?_, fun p hp => ?_⟩
      · subst q
        have := hk2.symm.trans e
        rw [Option.some.inj this] at hc2; cases hc2
      · subst q
        have := hk3.symm.trans e
        rw [Option.some.inj this] at hc1; cases hc1
      · rw [nod8] at hnd; cases hnd
      · simp only [List.mem_cons, List.not_mem_nil, or_false] at hp
        rcases hp with rfl | rfl | rfl
        · exact ⟨a1, f3⟩
        · exact ⟨a2, f2⟩
        · exact ⟨a3, f1⟩
      · obtain ⟨⟨o, t, e, h⟩, m, ⟨vs, ep, e', r⟩, hm⟩ := S9
        exact ⟨⟨o, t, pp _ _ (Ne.symm f2) (Ne.symm f1) e, h⟩, m, ⟨vs, ep, pp _ _ (Ne.symm g2) (Ne.symm g1) e', r⟩, hm⟩
      · simp only [List.mem_cons, List.not_mem_nil, or_false] at hp
        rcases hp with rfl | rfl | rfl
        · exact pp _ _ hne4 hne3 hk1
        · exact lookup_put_ne (lookup_put_self hk2) hne2
        · exact lookup_put_self (lookup_put_ne hk3 (Ne.symm hne2))
    generalize put (put n9 (L + 1 + 1) o2') (L + 1 + 1 + 1) o1' = n13 at C13 K0
    generalize hcs : ([(L + 1, o3'), (L + 1 + 1, o2'), (L + 1 + 1 + 1, o1')] : Ents) = cs at K0
    have cm1 : (L + 1, o3') ∈ cs := hcs ▸ .head _
    have cm2 : (L + 1 + 1, o2') ∈ cs := hcs ▸ .tail _ (.head _)
    have cm3 : (L + 1 + 1 + 1, o1') ∈ cs := hcs ▸ .tail _ (.tail _ (.head _))
    clear hcs
    clear C11 C12 S9 H9 hk1 hk2 hk3 a1 a2 a3 as ar Ig
    generalize hx : σ.hp = x at K0 hc1'
    have hN00 : σ.N = 0 := by show σ.nodes.length = 0; rw [nod8]; rfl
    clear O8 nod8
    have hk1 : n13.lookup (L + 1) = some o3' := K0.cs _ cm1
    have hk2 : n13.lookup (L + 1 + 1) = some o2' := K0.cs _ cm2
    have hk3 : n13.lookup (L + 1 + 1 + 1) = some o1' := K0.cs _ cm3
    walk_at "m go"
    refine forG (L := L) ?_
    refine compX (L := L) (h₀ := g) (cl := []) ?_
    walk_at "m go"
    refine next_ok (m := 10) Wg C13.own K0.S (by decide) (by decide) (by show A.depth + 1 + 10 < recursionLimit; exact rm2) fun j14 t14 s14 n14 hj14 M14 X14 => X14.goM M14 fun h14 d14 tk14 M14 S14 off14 => ?_
    have C14 := C13.after M14
    have K1 := K0.next S14 off14
    clear K0 C13 M14 X14 S14 off14 hk1 hk2 hk3
    walk_at "m go"
    refine newTupleR C14 (by simp [sizeLine_eq]) fun T n15 h15 C15' N15 => ?_
    have ap := Apart.new C15' C14.nd N15
    have hT := C15'.lk N15.self
    have C15 := C15'.narrow C14.nd N15.le
    clear C14 C15' N15
    have hPk : ∀ i v, (#[Value.int 1 tk11, Value.int 2 (tk11 + 1), Value.int (j14 : Nat) t14] : Array Value)[i]? = some v → ∃ (k : Nat) (t : Tok), v = Value.int (k : Nat) t ∧ k < 10 := fun i v e => by
      have := Array.mem_of_getElem? e
      simp only [List.mem_toArray, List.mem_cons, List.not_mem_nil, or_false] at this
      rcases this with rfl | rfl | rfl
      · exact ⟨1, _, rfl, by decide⟩
      · exact ⟨2, _, rfl, by exact llt⟩
      · exact ⟨j14, _, rfl, hj14⟩
    refine ⟨fun i ys n => n = n14 ∧ ys.size = i ∧ ∀ v ∈ ys.toList, ∃ op t, v = .str op t ∧ Named op 0, [T], _, _, _, n14, Up.mk, C15, ap, it_tuple hh (isTuple_obj hT), by walk_at "m sm", ⟨rfl, rfl, fun _ h => nomatch h⟩, ?_, ?_⟩
    · intro j v ys g2 Cl n Z2 h5 d5 tk5 hj hys hP kg2 C5
      refine stepC ?_
      refine genQ fun QQ hQ => ?_
      refine elAA Z2 fun Xx4 hsz hI => ?_
      obtain rfl := Xx4
      have W2 := Wg.keeps kg2
      refine elEEA (hPk _ _ hP) fun k t Xx5 hk => ?_
      obtain rfl := Xx5
      refine elEEEEAA (leaf_item (W2.keeps C5.keep) hk) fun ad op t2 v2 hl1 hl2 hnm => ?_
      walk_at "m go"
      refine itemT (C5.keep _ _ (W2.k _ _ (k_497 _))) hl1 (by exact tt) ?_
      walk_at "m go"
      refine itemT hl2 (k := 0) rfl (by decide) ?_
      try refine hQ _ _ ?_
      refine ⟨Up.mk, _, _, C5.grow (fun _ _ e => e), rfl, by rw [Array.size_push, hsz], fun v hv => ?_⟩
      rw [Array.toList_push] at hv
      rcases List.mem_append.mp hv with hv | hv
      · exact hI v hv
      · exact ⟨_, _, List.mem_singleton.mp hv, hnm⟩
    · rintro D16 ys ep16 n ⟨rfl, hsz, hI16⟩ - h16 d16 tk16 C16
      have hD16 := C16.get (.head _)
      have ap16 : Apart [D16] L n := fun b hb => by
        rw [List.mem_singleton.mp hb]
        exact ⟨(C16.nw _ (.head _)).2.1, fun p hp q => (List.nodup_cons.mp C16.nd).1 (List.mem_map.mpr ⟨p, hp, q⟩)⟩
      have C17 := C16.sub (List.sublist_cons_self _ _)
      clear C16 C15
      refine ⟨LawA w x g sd rw cs a, g, [D16], _, _, _, n, Up.mk, C17, ap16, it_list hh (isList_obj hD16), .mk σ K1 (by exact om13 hN00) fun q => absurd q (by decide), ?_, ?_⟩
      · rintro k v g2 _ n18 ⟨σ1, K18, hN1, hN2⟩ h18 d18 tk18 hk hv kg2 C18
        refine genQ fun QQ hQ => ?_
        refine elEEA (hI16 v (Array.mem_def.mp (Array.mem_of_getElem? hv))) fun op t18 Xx7 hnm => ?_
        obtain rfl := Xx7
        have W2 := Wg.keeps kg2
        obtain rfl := K18.hp
        have I2 := K18.I.hp.keeps kg2
        have hk1 : n18.lookup (L + 1) = some o3' := K18.cs _ cm1
        have hk2 : n18.lookup (L + 1 + 1) = some o2' := K18.cs _ cm2
        have hk3 : n18.lookup (L + 1 + 1 + 1) = some o1' := K18.cs _ cm3
        walk_at "m go"
        refine newTupleR C18 (Nat.zero_le _) fun T n19 h19 C19' N19 => ?_
        have hT1 := (C19'.nw _ (mem_of_lookup N19.self)).2.1
        have hT := C19'.lk N19.self
        have hTn : ∀ p ∈ n18, p.1 ≠ T := fun p hp => N19.ne _ _ (lookup_of_mem C18.nd hp)
        have C18b := C19'.narrow C18.nd N19.le
        clear C18 C19' N19
        walk_at "m go"
        refine elEAA C18b.wide fun g3 kg3 C19 big => ?_
        have hT3 := big T _ hT1 (fun p hp => hTn p hp) hT
        clear C18b big hT hTn hT1
        have hk3' : k < 3 := (by have : ys.size = 3 := hsz; exact tle)
        refine hadd_ok (σ := σ1) (ks := []) (vs := []) (W2.keeps kg3) C19.own (K18.I.keeps fun _ _ e => kg3 _ _ (kg2 _ _ e)) K18.H K18.O (by exact ltl) hT3 .nil (by walk_at "m sm") (fun _ h => nomatch h) hnm.g hnm.q (by exact tl) (by exact om41 hk3') (by show A.depth + 1 + 200 < recursionLimit; exact rm2) (by show A.units + 3 + 500 < cLine; exact rm2) hh fun j20 t20 τ s20 n20 M20 X20 => X20.goM M20 fun h20 d20 tk20 M20 G20 H20 O20 hf20 hp20 => ?_
        have C20 := (C19.after M20).base kg3
        refine elA (K18.add M20 G20 H20 O20 hf20 hnm.f) fun K20 hle => ?_
        walk_at "m go"
        try refine hQ _ _ ?_
        exact ⟨.inl rfl, Up.mk, _, n20, C20.names (by walk_at "m names"), τ, K20, by exact om126 hN1 hle, fun _ => hp20⟩
      · rintro _ n21 ⟨σ1, K21, hN1, hN2⟩ h21 d21 tk21 C21
        have hys : ys.size = 3 := hsz
        rw [hys] at K21 hN1 hN2
        have hN2 := hN2 (by decide)
        have hk1 : n21.lookup (L + 1) = some o3' := K21.cs _ cm1
        have hk2 : n21.lookup (L + 1 + 1) = some o2' := K21.cs _ cm2
        have hk3 : n21.lookup (L + 1 + 1 + 1) = some o1' := K21.cs _ cm3
        clear K1 hI16 hD16 ap16 C17
        walk_at "m go"
        refine forG (L := L) ?_
        walk_at "m go"
        refine next_ok (m := 9) Wg C21.own K21.S (by exact lll) (by exact tlt) (by show A.depth + 1 + 10 < recursionLimit; exact rm2) fun j22 t22 s22 n22 hj22 M22 X22 => X22.goM M22 fun h22 d22 tk22 M22 S22 off22 => ?_
        have C22 := C21.after M22
        have K22 := K21.next S22 off22
        clear K21 C21 M22 X22 S22 off22 hk1 hk2 hk3
        walk_at "m go"
        refine rangeR C22 fun r h23 tk23 t23 u23 C23 hr => ?_
        clear C22
        refine ⟨LawB w x g sd rw cs a, g, [], _, _, _, n22, Up.mk, C23, Apart.nil, it_range hh hr (by exact tt), .mk σ1 _ K22 hN1 hN2 (by decide), ?_, ?_⟩
        · rintro k v g2 _ n24 ⟨σ2, aa, K24, hM1, hM2, haa⟩ h24 d24 tk24 hk Z4 kg2 C24
          refine genQ fun QQ hQ => ?_
          refine elE Z4 fun tv Xx8 => ?_
          obtain rfl := Xx8
          obtain rfl := K24.hp
          have W2 := Wg.keeps kg2
          have hk1 : n24.lookup (L + 1) = some o3' := K24.cs _ cm1
          have hk2 : n24.lookup (L + 1 + 1) = some o2' := K24.cs _ cm2
          have hk3 : n24.lookup (L + 1 + 1 + 1) = some o1' := K24.cs _ cm3
          walk_at "m go"
          refine next_ok (m := 8) W2 C24.own K24.S (by exact om185 hj22 haa hk) (by decide) (by show A.depth + 1 + 10 < recursionLimit; exact rm2) fun j25 t25 s25 n25 hj25 M25 X25 => X25.goM M25 fun h25 d25 tk25 M25 S25 off25 => ?_
          have C25 := C24.after M25
          have K25 := K24.next S25 off25
          clear K24 C24 M25 X25 S25 off25 hk1 hk2 hk3
          refine elEEEEEAAAA (op_item (W2.keeps C25.keep) hj25) fun ad op m t26 u26 hl1 hl2 hnm hm2 hm0 => ?_
          walk_at "m go"
          refine itemT (C25.keep _ _ (W2.k _ _ (k_506 _))) hl1 (by exact tt) ?_
          refine unpackG C25 hl2 hh fun h26 tk26 C26 => ?_
          clear C25 hl1 hl2
          have hk1 : n25.lookup (L + 1) = some o3' := K25.cs _ cm1
          have hk2 : n25.lookup (L + 1 + 1) = some o2' := K25.cs _ cm2
          have hk3 : n25.lookup (L + 1 + 1 + 1) = some o1' := K25.cs _ cm3
          have I25 := K25.I.hp.keeps kg2
          walk_at "m go"
          rename_i h27 C27
          refine compX (L := L) (h₀ := g2) (cl := [(Str.ofString "src", L + 1), (Str.ofString "one", L + 1 + 1 + 1)]) ?_
          walk_at "m go"
          refine rangeR C27 fun r2 h28 tk28 t28 u28 C28 hr2 => ?_
          clear C27 C26
          refine ⟨LawC w σ2.hp g sd rw cs σ2 (3 + k) (23 * (3 + k)) aa, [], _, _, _, n25, Up.mk, C28, Apart.nil, it_range hh hr2 (by exact lt_), by exact lt_, ⟨[], K25, .nil, rfl, fun _ h => nomatch h⟩, ?_, ?_⟩
          · rintro i v ys g3 Cl n29 ⟨zs, K29, hz, hzl, hzN⟩ h29 d29 tk29 hi hys Z6 kg3 C29
            refine stepC ?_
            refine genQ fun QQ hQ => ?_
            refine elE Z6 fun tv2 Xx10 => ?_
            obtain rfl := Xx10
            have W3 := W2.keeps kg3
            have I3 := I25.keeps kg3
            have hk1 : n29.lookup (L + 1) = some o3' := K29.cs _ cm1
            have hk3 : n29.lookup (L + 1 + 1 + 1) = some o1' := K29.cs _ cm3
            walk_at "m go"
            refine hsize_ok (W3.keeps C29.keep) ((K29.I.keeps fun _ _ e => kg3 _ _ (kg2 _ _ e)).keeps C29.keep) (K29.H.N.mono fun _ _ e => C29.lk e) K29.O.n20 (by show A.depth + 1 + 10 < recursionLimit; exact rm2) fun s30 t30 X30 => X30.go fun h30 d30 tk30 k30 => ?_
            have C30 := C29.grow k30
            clear C29
            walk_at "m go"
            refine next_ok W3 C30.own K29.S (by exact om261 hj22 haa hk hm2 hm0 hzl hi) hM2 (by show A.depth + 1 + 10 < recursionLimit; exact rm2) fun j31 t31 s31 n31 hj31 M31 X31 => X31.goM M31 fun h31 d31 tk31 M31 S31 off31 => ?_
            have C31 := C30.after M31
            have K31 := K29.next S31 off31
            try refine hQ _ _ ?_
            refine ⟨Up.mk, _, _, C31, zs ++ [j31], K31, nums_snoc hz, by simp [hzl], fun z hz' => ?_⟩
            rcases List.mem_append.mp hz' with h | h
            · exact hzN z h
            · rw [List.mem_singleton.mp h]; exact hj31
          · rintro D32 ys ep32 n ⟨zs, K32, hz, hzl, hzN⟩ - h32 d32 tk32 C32
            walk_at "m go"
            have hyl := hz.length
            rw [Array.length_toList] at hyl
            refine tupleR C32 (C32.get (.head _)) (by rw [sizeLine_eq]; exact om187 hm2 hm0 hzl hyl) fun T n33 h33 C33' N33 => ?_
            have hT1 := (C33'.nw _ (mem_of_lookup N33.self)).2.1
            have hT := C33'.lk N33.self
            have hTn : ∀ p ∈ n, p.1 ≠ T := fun p hp => N33.ne _ _ (lookup_of_mem C32.nd (.tail _ hp))
            have C33 := (C33'.narrow C32.nd N33.le).sub (List.sublist_cons_self _ _)
            clear C32 C33' N33
            walk_at "m go"
            refine elEAA C33.wide fun g3 kg3 C34 big => ?_
            have hT3 := big T _ hT1 (fun p hp => hTn p hp) hT
            clear C33 big hT hTn hT1
            have hk6 : k < 8 := by exact om73 hj22 hk
            have hys : ys = List.toArray ys.toList := by simp
            rw [hys] at hT3
            refine hadd_ok (σ := σ2) (ks := zs) (W2.keeps kg3) C34.own (K32.I.keeps fun _ _ e => kg3 _ _ (kg2 _ _ e)) K32.H K32.O (by exact om109 hM1 hk6) hT3 hz (by exact ell) hzN hnm.g hnm.q (by exact om39 hk6) (by exact om90 hk6) (by show A.depth + 1 + 200 < recursionLimit; exact rm2) (by show A.units + 3 + 500 < cLine; exact rm2) hh fun j20 t20 τ s20 n20 M20 X20 => X20.goM M20 fun h20 d20 tk20 M20 G20 H20 O20 hf20 hp20 => ?_
            have C20 := (C34.after M20).base kg3
            refine elA (K32.add M20 G20 H20 O20 hf20 (by rw [hzl]; exact hnm.f)) fun K20 hle => ?_
            walk_at "m go"
            try refine hQ _ _ ?_
            exact ⟨.inl rfl, Up.mk, _, n20, C20.names (by walk_at "m names"), τ, _, K20, by exact om179 hM1 hle, hp20, by exact om257 haa hm2 hm0 hzl hyl⟩
        · rintro _ n40 ⟨σ2, aa, K40, hM1, hM2, haa⟩ h40 d40 tk40 C40
          obtain rfl := K40.hp
          have hk1 : n40.lookup (L + 1) = some o3' := K40.cs _ cm1
          have hk2 : n40.lookup (L + 1 + 1) = some o2' := K40.cs _ cm2
          have hk3 : n40.lookup (L + 1 + 1 + 1) = some o1' := K40.cs _ cm3
          clear K22 C23
          walk_at "m go"
          refine consts_new Wg C40 (by show A.depth + 1 + 20 < recursionLimit; exact rm2) fun an ad s41 n41 C41 X41 => X41.goC C41 fun h41 d41 tk41 C41 J41 le41 key41 => ?_
          refine elEEAAAAA (C41.settle [an, ad]) fun g4 n42 kg4 C42 off42 in42 _ _ => ?_
          have K42 : LK w σ2.hp g4 sd rw cs σ2 (3 + j22) (23 * (3 + j22)) aa n42 := (K40.le fun b p e => off42 b p (fun q => by
            simp only [List.mem_cons, List.not_mem_nil, or_false] at q
            rcases q with q | q
            · exact ne_new C41 key41 (by walk_at "m sm") e q
            · exact ne_new C41 key41 (by walk_at "m sm") e q) (le41 b p e)).base kg4
          have W4 := Wg.keeps kg4
          have Y4 : Inst g4 an 57 [("n", .int (N : Nat) tk7)] := OI.inst ⟨in42 _ _ (by walk_at "m sm") J41.x, (let ⟨es, ep, e, r⟩ := J41.d; ⟨es, ep, in42 _ _ (by walk_at "m sm") e, r⟩)⟩
          have hk1 : n42.lookup (L + 1) = some o3' := K42.cs _ cm1
          have hk2 : n42.lookup (L + 1 + 1) = some o2' := K42.cs _ cm2
          have hk3 : n42.lookup (L + 1 + 1 + 1) = some o1' := K42.cs _ cm3
          clear K40 C40 C41 X41 J41 le41 key41 off42 in42
          walk_at "m go"
          rename_i h43 C43
          refine keeper_new W4 C43 (by show A.depth + 1 + 20 < recursionLimit; exact rm2) fun kx kd vd td s44 n44 C44 X44 => X44.goC C44 fun h44 d44 tk44 C44 J44 hvd hlo le44 key44 => ?_
          have nn : ∀ b ∈ [td, vd, kx, kd], ∀ p q, n42.lookup p = some q → p ≠ b := fun b hb p q e => ne_new C44 key44 hb e
          have nk : ∀ b ∈ [td, vd, kx, kd], b ∉ σ2.ks := fun b hb q => (let ⟨p, e⟩ := K42.H.has b q; nn b hb _ _ e rfl)
          have ns : ∀ b ∈ [td, vd, kx, kd], b ≠ sd := fun b hb q => (let ⟨⟨p, e⟩, _⟩ := K42.has; nn b hb _ _ e q.symm)
          have nr : ∀ b ∈ [td, vd, kx, kd], b ≠ rw := fun b hb q => (let ⟨_, ⟨p, e⟩⟩ := K42.has; nn b hb _ _ e q.symm)
          have hkk : kx ≠ kd := fun q => by
            have := (key44 ▸ C44.nd : ([td, vd, kx, kd] ++ n42.map (·.1)).Nodup)
            rw [q] at this
            simp at this
          have K44 := K42.le le44
          have Y44 : KK w σ2 an N kx kd td sd rw cs n44 vd [] :=
            ⟨J44, ⟨_, [], hvd, isDict_new, .nil, hlo⟩, HS.Below.zero σ2 N, (fun _ h => nomatch h), (fun _ _ h => nomatch h), ⟨nk _ (by walk_at "m sm"), nk _ (by walk_at "m sm"), nk _ (by walk_at "m sm")⟩, ⟨ns _ (by walk_at "m sm"), ns _ (by walk_at "m sm"), ns _ (by walk_at "m sm"), nr _ (by walk_at "m sm"), hkk, fun p hp => nn kd (by walk_at "m sm") _ _ (K42.cs p hp)⟩⟩
          clear nn nk ns nr hkk hlo hvd J44 le44 key44 X44 K42 C42
          have hk1 : n44.lookup (L + 1) = some o3' := K44.cs _ cm1
          have hk2 : n44.lookup (L + 1 + 1) = some o2' := K44.cs _ cm2
          have hk3 : n44.lookup (L + 1 + 1 + 1) = some o1' := K44.cs _ cm3
          walk_at "m go"
          rename_i h45 C45
          refine forG (L := L) ?_
          walk_at "m go"
          refine next_ok (m := 4) W4 C45.own K44.S (by exact om140 hj22 haa) (by decide) (by show A.depth + 1 + 10 < recursionLimit; exact rm2) fun j46 t46 s46 n46 hj46 M46 X46 => X46.goM M46 fun h46 d46 tk46 M46 S46 off46 => ?_
          have C46 := C45.after M46
          have K46 := K44.next S46 off46
          have Y46 : KK w σ2 an N kx kd td sd rw cs n46 vd [] := by
            refine elEEA Y44.J.d fun es ep e r => ?_
            refine elEEA Y44.V fun o kvs e' r' => ?_
            exact ⟨⟨off46 _ _ Y44.as.1 Y44.J.x, es, ep, off46 _ _ Y44.as.2.1 e, r⟩, ⟨o, kvs, off46 _ _ Y44.as.2.2.1 e', r'⟩, Y44.Bl, Y44.ky, Y44.sm, Y44.ap, Y44.as⟩
          clear C43 C44 C45 K44 Y44 M46 X46 S46 off46 hk1 hk2 hk3
          walk_at "m go"
          refine newTupleR C46 (by simp [sizeLine_eq]) fun T n47 h47 C47' N47 => ?_
          have ap := Apart.new C47' C46.nd N47
          have hT := C47'.lk N47.self
          have C47 := C47'.narrow C46.nd N47.le
          clear C46 C47' N47
          have hPm : ∀ i v, (#[Value.int (j46 : Nat) t46, Value.int 2 tk46] : Array Value)[i]? = some v → ∃ (k : Nat) (t : Tok), v = Value.int (k : Nat) t ∧ k ≤ 4 := fun i v e => by
            have := Array.mem_of_getElem? e
            simp only [List.mem_toArray, List.mem_cons, List.not_mem_nil, or_false] at this
            rcases this with rfl | rfl
            · exact ⟨j46, _, rfl, by exact tl⟩
            · exact ⟨2, _, rfl, by decide⟩
          generalize hx2 : σ2.hp = x2 at K46 hc1'
          refine ⟨LawD w x2 g4 sd rw cs an N kx kd td a j22, g4, [T], _, _, _, n46, Up.mk, C47, ap, it_tuple hh (isTuple_obj hT), .mk σ2 _ _ vd [] K46 Y46 hM2 (by exact om108 hj22) (by exact om203 hj22 haa), ?_, ?_⟩
          · rintro k v g5 _ n50 ⟨σ3, aa3, c3, fd, m3, K50, Y50, hN3, hc3, ha3⟩ h50 d50 tk50 hk hv kg5 C50
            refine genQ fun QQ hQ => ?_
            obtain rfl := K50.hp
            refine elEEA (hPm _ _ hv) fun M tM Xx12 hM => ?_
            obtain rfl := Xx12
            have hk2 : k < 2 := hk
            have W5 := W4.keeps kg5
            have hk1 : n50.lookup (L + 1) = some o3' := K50.cs _ cm1
            have hkn : n50.lookup (L + 1 + 1) = some o2' := K50.cs _ cm2
            have hk3 : n50.lookup (L + 1 + 1 + 1) = some o1' := K50.cs _ cm3
            walk_at "m go"
            refine merged_ok (σ := σ3) W5 C50.own (K50.I.keeps kg5) K50.H K50.O K50.S K50.aw.1 K50.aw.2.1 hN3 (by exact ll) (by exact om142 ha3 hk2) (by exact om141 hc3 hk2) (by exact om91 hj22) (by show A.depth + 1 + 200 < recursionLimit; exact rm2) (by show A.units + 3 + 500 < cLine; exact rm2) hh fun ps lots abv wait s51 n51 M51 X51 => X51.goM M51 fun h51 d51 tk51 M51 H51 O51 S51 hm51 hf51 => ?_
            have C51 := C50.after M51
            have Y51 := Y50.upd M51 K50.O O51 hm51 hf51
            have K51 := K50.upd M51 H51 O51 S51 hf51
            clear C50 M51 H51 O51 S51 hm51 hf51 K50 Y50 X51 hk1 hkn hk3
            have hN4 : 0 < (σ3.upd ps lots abv wait).N := hN3
            have e4 : (σ3.upd ps lots abv wait).hp = σ3.hp := rfl
            generalize σ3.upd ps lots abv wait = σ4 at K51 Y51 hN4 e4
            have hk1 : n51.lookup (L + 1) = some o3' := K51.cs _ cm1
            have hkn : n51.lookup (L + 1 + 1) = some o2' := K51.cs _ cm2
            have hk3 : n51.lookup (L + 1 + 1 + 1) = some o1' := K51.cs _ cm3
            have J51 := Y51.J
            walk_at "m go"
            refine ksettle_ok (σ := σ4) W5 C51.own (K51.I.keeps kg5) (Y4.keeps kg5) J51 Y51.V K51.H K51.O K51.Op Y51.Bl Y51.ky Y51.sm (by omega) (by exact ll) Y51.ap.2.1 (by show A.depth + 1 + 200 < recursionLimit; exact rm2) (by show A.units + 3 + 500 < cLine; exact rm2) hh fun fd5 m5 s52 n52 M52 X52 => X52.goM M52 fun h52 d52 tk52 M52 J52 V52 B52 P52 ky52 sm52 hf52 => ?_
            have C52 := C51.after M52
            have Y52 := KK.kept K51 Y51 J52 V52 B52 ky52 sm52 hf52
            have K52 := K51.kept Y51 M52
            clear C51 M52 K51 Y51 X52 hk1 hkn hk3 J51 J52 V52 B52 ky52 sm52 hf52
            have hk1 : n52.lookup (L + 1) = some o3' := K52.cs _ cm1
            have hkn : n52.lookup (L + 1 + 1) = some o2' := K52.cs _ cm2
            have hk3 : n52.lookup (L + 1 + 1 + 1) = some o1' := K52.cs _ cm3
            walk_at "m go"
            rw [← e4] at K52 ⊢
            refine is_kept_ok (σ := σ4) (W5.keeps C52.keep) ((K52.I.keeps kg5).keeps C52.keep) (OI.inst (Y52.J.mono fun _ _ e => C52.lk e)) (KV.h C52 Y52.V) (K52.H.N.mono fun _ _ e => C52.lk e) (K52.H.U.mono fun _ _ _ e => C52.lk e) K52.O K52.Op Y52.Bl P52 (by omega) (by exact ll) (by show A.depth + 1 + 200 < recursionLimit; exact rm2) (by show A.units + 3 + 500 < cLine; exact rm2) hh fun s53 X53 => X53.go fun h53 d53 tk53 k53 => ?_
            have C53 := C52.grow k53
            clear C52
            walk_at "m go"
            try refine hQ _ _ ?_
            exact ⟨.inl rfl, Up.mk, _, n52, C53.names (by walk_at "m names"), σ4, _, _, fd5, m5, e4 ▸ K52, Y52, hN4, by exact om222 hc3 hM, by exact om230 ha3 hM⟩
          · rintro _ n60 ⟨σ3, aa3, c3, fd, m3, K60, Y60, hN3, hc3, ha3⟩ h60 d60 tk60 C60
            have ha3 : aa3 ≤ 60 := ha3
            clear C47 K46 Y46 ap hT
            walk_at "m go"
            refine forG (L := L) ?_
            walk_at "m go"
            refine rangeR (m := 6) C60 fun r h62 tk62 t62 u62 C62 hr => ?_
            refine ⟨LawE w x2 g4 sd rw cs σ3 c3 (23 * (3 + j22)) kx an a, g4, [], _, _, _, n60, Up.mk, C62, Apart.nil, it_range hh hr (by decide), .mk _ K60 (by exact ll), ?_, ?_⟩
            · rintro k v g5 _ n70 ⟨aa, K70, haa⟩ h70 d70 tk70 hk Z9 kg5 C70
              refine genQ fun QQ hQ => ?_
              refine elE Z9 fun tv Xx13 => ?_
              obtain rfl := Xx13
              have W5 := W4.keeps kg5
              have Y5 := Y4.keeps kg5
              have hk1 : n70.lookup (L + 1) = some o3' := K70.cs _ cm1
              have hkn : n70.lookup (L + 1 + 1) = some o2' := K70.cs _ cm2
              walk_at "m go"
              refine next_ok (m := 8) W5 C70.own K70.S (by exact om143 haa hk) (by decide) (by show A.depth + 1 + 10 < recursionLimit; exact rm2) fun j71 t71 s71 n71 hj71 M71 X71 => X71.goM M71 fun h71 d71 tk71 M71 S71 off71 => ?_
              have C71 := C70.after M71
              have K71 := K70.next S71 off71
              clear K70 C70 M71 X71 S71 off71 hk1 hkn
              refine elEEEEEAAAA (op_item (W5.keeps C71.keep) hj71) fun ad op m t72 u72 hl1 hl2 hnm hm2 hm0 => ?_
              walk_at "m go"
              refine itemT (C71.keep _ _ (W5.k _ _ (k_506 _))) hl1 (by exact tt) ?_
              refine unpackG C71 hl2 hh fun h72 tk72 C72 => ?_
              clear C71 hl1 hl2
              have hk1 : n71.lookup (L + 1) = some o3' := K71.cs _ cm1
              have hkn : n71.lookup (L + 1 + 1) = some o2' := K71.cs _ cm2
              walk_at "m go"
              rename_i h73 C73
              refine compAsg (L := L) (h₀ := g5) (cl := [(Str.ofString "src", L + 1), (Str.ofString "n", L + 1 + 1)]) ?_
              walk_at "m go"
              refine rangeR C73 fun r2 h74 tk74 t74 u74 C74 hr2 => ?_
              clear C73 C72
              refine ⟨LawF w x2 g4 sd rw cs σ3 c3 (23 * (3 + j22)) aa N, [], _, _, _, n71, Up.mk, C74, Apart.nil, it_range hh hr2 (by exact lt_), by exact lt_, ⟨[], K71, .nil, rfl, fun _ h => nomatch h⟩, ?_, ?_⟩
              · rintro i v ys g6 Cl n75 ⟨zs, K75, hz, hzl, hzN⟩ h75 d75 tk75 hi hys Z11 kg6 C75
                refine stepC ?_
                refine genQ fun QQ hQ => ?_
                refine elE Z11 fun tv2 Xx15 => ?_
                obtain rfl := Xx15
                have W6 := W5.keeps kg6
                have hk1 : n75.lookup (L + 1) = some o3' := K75.cs _ cm1
                have hkn : n75.lookup (L + 1 + 1) = some o2' := K75.cs _ cm2
                walk_at "m go"
                refine sub_int ?_
                rw [show ((N : Int) - 1) = ((N - 1 : Nat) : Int) by omega]
                walk_at "m go"
                refine newListR C75 (by simp [sizeLine_eq]) fun D n76 h76 C76 N76 => ?_
                have K76 := K75.le N76.le
                have hD := N76.self
                have hDs : D ≠ sd := fun q => (let ⟨⟨p, e⟩, _⟩ := K75.has; N76.ne _ _ e q.symm)
                clear hk1 hkn C75 K75 N76
                have hk1 : n76.lookup (L + 1) = some o3' := K76.cs _ cm1
                have hkn : n76.lookup (L + 1 + 1) = some o2' := K76.cs _ cm2
                walk_at "m go"
                refine next_ok (m := 5) W6 C76.own K76.S (by exact om248 haa hk hm2 hm0 hi) (by exact tlt) (by show A.depth + 1 + 10 < recursionLimit; exact rm2) fun j77 t77 s77 n77 hj77 M77 X77 => X77.goM M77 fun h77 d77 tk77 M77 S77 off77 => ?_
                have C77 := C76.after M77
                have K77 := K76.next S77 off77
                have hD77 := off77 _ _ hDs hD
                walk_at "m go"
                refine itemFive (C77.lk hD77) hN0 hj77 fun v y hvy hvk => ?_
                try refine hQ _ _ ?_
                refine ⟨Up.mk, _, _, C77.grow (fun _ _ e => e), zs ++ [y], K77, ?_, by simp [hzl], fun k h => ?_⟩
                · rw [Array.toList_push]
                  exact hz.app (.cons hvy .nil)
                · rcases List.mem_append.mp h with h | h
                  · exact hzN k h
                  · exact hvk k (List.mem_singleton.mp h).symm
              · --DONE
                rintro D78 ys ep78 n78 ⟨zs, K78, hz, hzl, hzN⟩ - h78 d78 tk78 C78
                have hD78 : h78.get? D78 = some (lst ys.toList ep78) := by simpa using C78.get (.head _)
                have C79 := C78.sub (List.sublist_cons_self _ _)
                have hkn : n78.lookup (L + 1 + 1) = some o2' := K78.cs _ cm2
                clear C78 C74
                walk_at "m go"
                refine of_node_ok (W5.keeps C79.keep) (Y5.keeps C79.keep) hD78 hz (by rw [hzl]; exact hnm.f) (by omega) (by exact ll) hzN (by exact ell) (by show A.depth + 1 + 10 < recursionLimit; exact rm2) hh (by show A.units + 3 + 200 < cLine; exact rm2) fun v80 s80 X80 => X80.go fun h80 d80 tk80 k80 hv80 => ?_
                have C80 := C79.grow k80
                clear C79
                walk_at "m go"
                refine lreck_ok (W5.keeps C80.keep) (k80 _ _ hD78) hz (by rw [hzl]; exact hnm.f) (by omega) (by exact ll) hzN (by exact ell) (by show A.depth + 1 + 10 < recursionLimit; exact rm2) hh (by show A.units + 3 + 200 < cLine; exact rm2) fun v81 s81 X81 => X81.go fun h81 d81 tk81 k81 hv81 => ?_
                have C81 := C80.grow k81
                clear C80
                walk_at "m go"
                refine neV2 hv80 hv81 (fun _ => ?_) fun q => absurd rfl q
                walk_at "m go"
                try refine hQ _ _ ?_
                exact ⟨.inl rfl, Up.mk, _, n78, C81.names (by walk_at "m names"), _, K78, by exact om253 haa hm2 hm0 hzl⟩
            · rintro _ n90 ⟨aa, K90, haa⟩ h90 d90 tk90 C90
              walk_at "m go"
              exact post _ (Ext.mk fun _ _ e => C90.keep _ _ (kg4 _ _ (kg _ _ e)))
end
end L8
section L9
open PySem PySem.W PyProof.Rows
theorem said : PySem.Challenge.rw_pq0072_01.wellSaid = true := by kernel_rfl
theorem fin {w : World} {s : Shared} {mg mb : Str → Option Value} {fa a : Addr} {vs : List Value} {xs : List Int} {q : Program} {lo : List Str} {mean : ExcName → Option Value} {cl : Str → Option Addr} {m2 : ExcName → Option Value} {y : WData}
    (KX : (K w.params).In s.heap) (T : Top q lo mean mg mb s.heap) (hmg : mg (Str.ofString "law") = some (.ref fa)) (hg : s.gens = #[]) (hL : s.heap.IsList a vs.toArray) (hI : IntsAre vs xs) (hl : ¬ ((63 : Int) < (xs.length : Int))) :
    wpAny (model PySem.Challenge.pw_pq0072_01 w) callerA (call (.ref fa) [.ref a])
      (fun v s' => GoodWG PySem.Challenge.rw_pq0072_01.row.claim cl m2 [y] s (.ok (.ret v)) s') (fun e s' => GoodWG PySem.Challenge.rw_pq0072_01.row.claim cl m2 [y] s (.error e) s') s := by
  have W : Wd w s.heap := ⟨KX, ⟨_, T.g⟩, ⟨_, T.b, T.builtins⟩, T.nolimit, T.nodigits⟩
  have hfa := Option.some.inj (hmg.symm.trans (mg_of (n := Str.ofString "law") (v := Value.ref 549) KX T.g rfl))
  injection hfa with hfa
  subst hfa
  refine law_ok W hL hI (by exact om52 hl) (by decide) (by decide) rfl fun s' X => X.go fun h d tk k => ?_
  refine ⟨.inl ⟨_, .bool true, [], rfl, fun _ => rfl, ?_, ?_, ?_⟩, OldK.of_keep k, rfl, ?_⟩
  · exact ReadsW.bool _
  · first | rfl | wrow_post
  · exact fun _ => ⟨.nil, fun _ h => nomatch h⟩
  · rw [show _ = _ from hg]; exact AllBare.empty
end L9
end Mine
open PySem PySem.W PyProof.Rows
set_option maxHeartbeats 8000000 in
theorem PySem.Challenge.cw_pq0072_01_holds : PySem.Challenge.rw_pq0072_01.Holds := by
  w_on
  refine holds_law Mine.said fun _ => ?_
  refine holds_open (q := Mine.vw) (loose := Mine.loose) (Xt := fun s => xlAt Mine.vw [] s && recOk [] s) (XP := XL Mine.vw []) (Yf := Mine.hook.obs) (Ya := Mine.hook.val) (YP := Mine.hook.says) (N := 7156) Mine.left Mine.hook.of Mine.hook.keeps (fun s e => xl_of s (Bool.and_eq_true_iff.mp e).1) XL.keeps (by rfl) (by rfl) (by rfl) (fun s e => recFacts_of (Bool.and_eq_true_iff.mp e).2) (by rfl) (by first | assumption | decide +kernel) (by decide +kernel) ⟨rfl, rfl, rfl, rfl, rfl, by decide +kernel⟩ ?hw ?hc
  case hw => w_witness2
  case hc =>
    intro w s₀ s₁ mg mb G Y fa o pm cd doc dV kV ho hd hcd hD hmg hg args vals as hpre hlay hrd hwl hlo
    have KX := kIn_of Y
    refine Ground.open G ?_
    intro T B D TE TW
    wrow_args hpre hlay hrd hwl hlo
    all_goals (clear hD)
    rename (IntsAre _ _) => hI
    rename (Heap.IsList _ _ _) => hL
    rename (¬ (_ : Int) < _) => hl
    exact Mine.fin KX T hmg hg hL hI hl
