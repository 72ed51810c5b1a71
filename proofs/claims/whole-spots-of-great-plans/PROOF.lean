import PyProof.Rows.All
import Wide.All
import OpenK.AllK
import Wide.FinOn
import HandS.ForMost
import HandS.Wide
import HandS.IsInst
import HandS.NoneIn
import HandS.EndBits
import HandS.Flow
import HandS.Evl
import HandS.Walk
import HandS.TupAny
import HandS.Ends
import PySem.Challenge.RW_matefloors_k60_whole_spots_of_great_plan
set_option Elab.async false
set_option linter.all false
set_option maxRecDepth 100000
set_option maxHeartbeats 0
namespace MF

/-- a root: from 2 to 30, no square -/
structure Root where
  d : Int
  lo : 2 ≤ d
  hi : d ≤ 30
  nsq : ∀ k : Int, k * k ≠ d

/-- a number: r and s times the root -/
structure QD (D : Root) where
  r : Rat
  s : Rat
deriving DecidableEq

variable {D : Root}
namespace QD
@[ext] theorem ext' {x y : QD D} (h1 : x.r = y.r) (h2 : x.s = y.s) : x = y := by
  cases x; cases y; simp only at h1 h2; subst h1; subst h2; rfl

def dd (D : Root) : Rat := (D.d : Rat)
instance : Add (QD D) := ⟨fun x y => ⟨x.r + y.r, x.s + y.s⟩⟩
instance : Sub (QD D) := ⟨fun x y => ⟨x.r - y.r, x.s - y.s⟩⟩
instance : Neg (QD D) := ⟨fun x => ⟨-x.r, -x.s⟩⟩
instance : Mul (QD D) := ⟨fun x y => ⟨x.r * y.r + dd D * x.s * y.s, x.r * y.s + x.s * y.r⟩⟩
instance : NatCast (QD D) := ⟨fun n => ⟨n, 0⟩⟩
instance : IntCast (QD D) := ⟨fun n => ⟨n, 0⟩⟩
instance (n : Nat) : OfNat (QD D) n := ⟨⟨n, 0⟩⟩
instance : SMul Nat (QD D) := ⟨fun n x => (n : QD D) * x⟩
instance : SMul Int (QD D) := ⟨fun n x => (n : QD D) * x⟩
def npow (x : QD D) : Nat → QD D
  | 0 => 1
  | n + 1 => npow x n * x
instance : HPow (QD D) Nat (QD D) := ⟨npow⟩
@[simp] theorem add_r (x y : QD D) : (x + y).r = x.r + y.r := rfl
@[simp] theorem add_s (x y : QD D) : (x + y).s = x.s + y.s := rfl
@[simp] theorem sub_r (x y : QD D) : (x - y).r = x.r - y.r := rfl
@[simp] theorem sub_s (x y : QD D) : (x - y).s = x.s - y.s := rfl
@[simp] theorem neg_r (x : QD D) : (-x).r = -x.r := rfl
@[simp] theorem neg_s (x : QD D) : (-x).s = -x.s := rfl
@[simp] theorem mul_r (x y : QD D) : (x * y).r = x.r * y.r + dd D * x.s * y.s := rfl
@[simp] theorem mul_s (x y : QD D) : (x * y).s = x.r * y.s + x.s * y.r := rfl
@[simp] theorem nat_r (n : Nat) : ((n : QD D)).r = n := rfl
@[simp] theorem nat_s (n : Nat) : ((n : QD D)).s = 0 := rfl
@[simp] theorem int_r (n : Int) : ((n : QD D)).r = n := rfl
@[simp] theorem int_s (n : Int) : ((n : QD D)).s = 0 := rfl
@[simp] theorem of_r (n : Nat) : ((OfNat.ofNat n : QD D)).r = (n : Rat) := rfl
@[simp] theorem of_s (n : Nat) : ((OfNat.ofNat n : QD D)).s = 0 := rfl
@[simp] theorem zero_r : ((0 : QD D)).r = 0 := rfl
@[simp] theorem zero_s : ((0 : QD D)).s = 0 := rfl
@[simp] theorem one_r : ((1 : QD D)).r = 1 := rfl
@[simp] theorem one_s : ((1 : QD D)).s = 0 := rfl

/-- the norm -/
def nm (x : QD D) : Rat := x.r * x.r - dd D * x.s * x.s
instance : Inv (QD D) := ⟨fun x => ⟨x.r * (nm x)⁻¹, -x.s * (nm x)⁻¹⟩⟩
instance : Div (QD D) := ⟨fun x y => x * y⁻¹⟩
@[simp] theorem inv_r (x : QD D) : (x⁻¹).r = x.r * (nm x)⁻¹ := rfl
@[simp] theorem inv_s (x : QD D) : (x⁻¹).s = -x.s * (nm x)⁻¹ := rfl

theorem d_irr {p : Int} {q : Int} (hq : q ≠ 0) (h : p * p = D.d * (q * q)) : False := by
  have h1 : q * q ∣ p * p := ⟨D.d, by rw [h, Int.mul_comm]⟩
  have h2 : q ∣ p := by
    have h3 : q.natAbs ^ 2 ∣ p.natAbs ^ 2 := by
      have := Int.natAbs_dvd_natAbs.mpr h1
      rw [Int.natAbs_mul, Int.natAbs_mul] at this
      rw [Nat.pow_two, Nat.pow_two]; exact this
    have h4 : q.natAbs ∣ p.natAbs := (Nat.pow_dvd_pow_iff (by decide)).mp h3
    exact Int.natAbs_dvd_natAbs.mp h4
  obtain ⟨k, hk⟩ := h2
  subst hk
  have h5 : (q * q) * (k * k) = (q * q) * D.d := by
    have e1 : q * k * (q * k) = (q * q) * (k * k) := by grind
    rw [e1, Int.mul_comm D.d] at h; exact h
  have hqq : q * q ≠ 0 := Int.mul_ne_zero hq hq
  exact D.nsq k (Int.eq_of_mul_eq_mul_left hqq h5)

theorem nm_ne {x : QD D} (h : x ≠ 0) : nm x ≠ 0 := by
  intro hn
  have hd : dd D ≠ 0 := by
    intro e
    have e' : D.d = 0 := by
      unfold dd at e
      exact_mod_cast e
    have := D.lo; omega
  by_cases hs : x.s = 0
  · have hr : x.r = 0 := by
      unfold nm at hn; rw [hs] at hn; grind
    exact h (ext' hr hs)
  · -- r / s = p / q
    have e : x.r / x.s * (x.r / x.s) = dd D := by unfold nm at hn; grind
    let t := x.r / x.s
    have e1 : t * t = dd D := e
    have hden : (t.den : Rat) ≠ 0 := by
      have := t.den_nz
      intro z
      exact this (by exact_mod_cast z)
    have et : t * (t.den : Rat) = (t.num : Rat) := by
      have h1 : (t.num : Rat) / (t.den : Rat) = t := by rw [← Rat.mkRat_eq_div, Rat.mkRat_self]
      have h2 : (t.num : Rat) / (t.den : Rat) * (t.den : Rat) = (t.num : Rat) := by grind
      rw [h1] at h2; exact h2
    have e2 : ((t.num : Int) : Rat) * (t.num : Int) = dd D * ((t.den : Rat) * t.den) := by
      rw [← et, ← e1]; grind
    have e3 : t.num * t.num = D.d * ((t.den : Int) * t.den) := by
      unfold dd at e2
      exact_mod_cast e2
    exact d_irr (by have := t.den_nz; omega) e3

theorem mul_inv {x : QD D} (h : x ≠ 0) : x * x⁻¹ = 1 := by
  have hn := nm_ne h
  have e : x.r * x.r - dd D * x.s * x.s = nm x := rfl
  apply ext'
  · simp only [mul_r, inv_r, inv_s, one_r]
    have : x.r * (x.r * (nm x)⁻¹) + dd D * x.s * (-x.s * (nm x)⁻¹) = (x.r * x.r - dd D * x.s * x.s) * (nm x)⁻¹ := by grind
    rw [this, e]; grind
  · simp only [mul_s, inv_r, inv_s, one_s]; grind

def zpow (x : QD D) : Int → QD D
  | .ofNat n => npow x n
  | .negSucc n => (npow x (n + 1))⁻¹
instance : HPow (QD D) Int (QD D) := ⟨zpow⟩

protected theorem mul_comm (x y : QD D) : x * y = y * x := by apply ext' <;> simp <;> grind
protected theorem left_distrib (x y z : QD D) : x * (y + z) = x * y + x * z := by apply ext' <;> simp <;> grind
instance instCR : Lean.Grind.CommRing (QD D) where
  add_zero x := by apply ext' <;> simp <;> grind
  add_comm x y := by apply ext' <;> simp <;> grind
  add_assoc x y z := by apply ext' <;> simp <;> grind
  mul_assoc x y z := by apply ext' <;> simp <;> grind
  mul_comm := QD.mul_comm
  mul_one x := by apply ext' <;> simp <;> grind
  one_mul x := by apply ext' <;> simp <;> grind
  left_distrib := QD.left_distrib
  right_distrib x y z := by apply ext' <;> simp <;> grind
  zero_mul x := by apply ext' <;> simp <;> grind
  mul_zero x := by apply ext' <;> simp <;> grind
  pow_zero x := rfl
  pow_succ x n := rfl
  ofNat_succ n := by
    apply ext'
    · show ((n + 1 : Nat) : Rat) = (n : Rat) + ((1 : Nat) : Rat)
      exact_mod_cast rfl
    · simp <;> grind
  ofNat_eq_natCast n := rfl
  nsmul_eq_natCast_mul n x := rfl
  neg_add_cancel x := by apply ext' <;> simp <;> grind
  sub_eq_add_neg x y := by apply ext' <;> simp <;> grind
  neg_zsmul i x := by
    show ((-i : Int) : QD D) * x = -((i : QD D) * x)
    apply ext' <;> simp <;> grind
  zsmul_natCast_eq_nsmul n x := rfl
  intCast_ofNat n := rfl
  intCast_neg i := by
    apply ext'
    · show ((-i : Int) : Rat) = -((i : Int) : Rat)
      exact_mod_cast rfl
    · show (0 : Rat) = -0
      grind
theorem zero_ne : (0 : QD D) ≠ 1 := fun h => by
  have : (0 : QD D).r = (1 : QD D).r := by rw [h]
  simp at this
theorem inv_zero' : (0 : QD D)⁻¹ = 0 := by apply ext' <;> simp <;> grind
theorem inv_inv' (x : QD D) : (x⁻¹)⁻¹ = x := by
  by_cases h : x = 0
  · subst h; rw [inv_zero', inv_zero']
  · have h1 := mul_inv h
    have h2 : x⁻¹ ≠ 0 := fun e => by
      rw [e] at h1
      exact zero_ne (D := D) (by rw [← h1]; grind)
    have h3 := mul_inv h2
    grind
instance instF : Lean.Grind.Field (QD D) where
  div_eq_mul_inv x y := rfl
  zero_ne_one := zero_ne
  inv_zero := inv_zero'
  mul_inv_cancel := mul_inv
  zpow_zero x := rfl
  zpow_succ x n := rfl
  zpow_neg x n := by
    cases n with
    | ofNat n =>
      cases n with
      | zero => show npow x 0 = (npow x 0)⁻¹; show (1 : QD D) = (1 : QD D)⁻¹; have := mul_inv (D := D) (x := 1) (fun h => zero_ne h.symm); grind
      | succ n => rfl
    | negSucc n => show npow x (n + 1) = ((npow x (n + 1))⁻¹)⁻¹; rw [inv_inv']
example (x y : QD D) (h : x ≠ 0) : (x + y) * (x - y) / x = x - y * y / x := by grind

/-! ### the order -/
/-- above nought -/
def Pos (x : QD D) : Prop := (0 < x.r ∧ 0 < nm x) ∨ (0 < x.s ∧ nm x < 0)
theorem dd_pos : 0 < dd D := by
  unfold dd
  have := D.lo
  exact Rat.intCast_pos.mpr (by omega)
theorem sq_pos {a : Rat} (h : a ≠ 0) : 0 < a * a := by
  rcases Std.lt_trichotomy a 0 with h1 | h1 | h1
  · have : 0 < (-a) * (-a) := Rat.mul_pos (by grind) (by grind)
    grind
  · exact absurd h1 h
  · exact Rat.mul_pos h1 h1
theorem sq_nn (a : Rat) : 0 ≤ a * a := by
  by_cases h : a = 0
  · subst h; grind
  · have := sq_pos h; grind
/-- from A above 0 and its square the greater one: A + B above 0 -/
theorem sum_pos {a b : Rat} (ha : 0 < a) (h : b * b < a * a) : 0 < a + b := by
  rcases Std.lt_trichotomy (a + b) 0 with h1 | h1 | h1
  · -- -b > a > 0
    have e1 : 0 < (-b - a) * (-b - a) := Rat.mul_pos (by grind) (by grind)
    have e2 : 0 < (-b - a) * a := Rat.mul_pos (by grind) ha
    grind
  · have : b = -a := by grind
    subst this; grind
  · exact h1
theorem nm_mul (x y : QD D) : nm (x * y) = nm x * nm y := by unfold nm; simp; grind
theorem mul_lt2 {a b c e : Rat} (h0 : 0 ≤ a) (h1 : a < b) (h2 : 0 ≤ c) (h3 : c < e) : a * c < b * e := by
  have e1 : 0 < (b - a) * e := Rat.mul_pos (by grind) (by grind)
  have e2 : 0 ≤ a * (e - c) := Rat.mul_nonneg h0 (by grind)
  grind
theorem Pos.mul {x y : QD D} (hx : Pos x) (hy : Pos y) : Pos (x * y) := by
  have hd := dd_pos (D := D)
  have sx := sq_nn x.s
  have sy := sq_nn y.s
  have rx := sq_nn x.r
  have ry := sq_nn y.r
  have dsx : 0 ≤ dd D * (x.s * x.s) := Rat.mul_nonneg (by grind) sx
  have dsy : 0 ≤ dd D * (y.s * y.s) := Rat.mul_nonneg (by grind) sy
  have n0 : nm (x * y) = nm x * nm y := nm_mul x y
  have nx : nm x = x.r * x.r - dd D * (x.s * x.s) := by unfold nm; grind
  have ny : nm y = y.r * y.r - dd D * (y.s * y.s) := by unfold nm; grind
  rcases hx with ⟨hx1, hx2⟩ | ⟨hx1, hx2⟩ <;> rcases hy with ⟨hy1, hy2⟩ | ⟨hy1, hy2⟩
  · left
    refine ⟨?_, by rw [n0]; exact Rat.mul_pos hx2 hy2⟩
    have := mul_lt2 dsx (show dd D * (x.s * x.s) < x.r * x.r by grind) dsy (show dd D * (y.s * y.s) < y.r * y.r by grind)
    simp only [mul_r]
    exact sum_pos (Rat.mul_pos hx1 hy1) (by grind)
  · right
    refine ⟨?_, by rw [n0]; have := Rat.mul_pos hx2 (show 0 < - nm y by grind); grind⟩
    simp only [mul_s]
    refine sum_pos (Rat.mul_pos hx1 hy1) ?_
    have h1 := mul_lt2 dsx (show dd D * (x.s * x.s) < x.r * x.r by grind) ry (show y.r * y.r < dd D * (y.s * y.s) by grind)
    have h2 : dd D * ((x.s * y.r) * (x.s * y.r)) < dd D * ((x.r * y.s) * (x.r * y.s)) := by grind
    rcases Std.lt_trichotomy ((x.s * y.r) * (x.s * y.r)) ((x.r * y.s) * (x.r * y.s)) with h3 | h3 | h3
    · exact h3
    · rw [h3] at h2; grind
    · have := Rat.mul_pos hd (show 0 < (x.s * y.r) * (x.s * y.r) - (x.r * y.s) * (x.r * y.s) by grind)
      grind
  · right
    refine ⟨?_, by rw [n0]; have := Rat.mul_pos (show 0 < - nm x by grind) hy2; grind⟩
    simp only [mul_s]
    have h1 := mul_lt2 rx (show x.r * x.r < dd D * (x.s * x.s) by grind) dsy (show dd D * (y.s * y.s) < y.r * y.r by grind)
    have h2 : dd D * ((x.r * y.s) * (x.r * y.s)) < dd D * ((x.s * y.r) * (x.s * y.r)) := by grind
    have h4 : (x.r * y.s) * (x.r * y.s) < (x.s * y.r) * (x.s * y.r) := by
      rcases Std.lt_trichotomy ((x.r * y.s) * (x.r * y.s)) ((x.s * y.r) * (x.s * y.r)) with h3 | h3 | h3
      · exact h3
      · rw [h3] at h2; grind
      · have := Rat.mul_pos hd (show 0 < (x.r * y.s) * (x.r * y.s) - (x.s * y.r) * (x.s * y.r) by grind)
        grind
    have := sum_pos (Rat.mul_pos hx1 hy1) h4
    grind
  · left
    refine ⟨?_, by rw [n0]; have := Rat.mul_pos (show 0 < - nm x by grind) (show 0 < - nm y by grind); grind⟩
    simp only [mul_r]
    have h1 := mul_lt2 rx (show x.r * x.r < dd D * (x.s * x.s) by grind) ry (show y.r * y.r < dd D * (y.s * y.s) by grind)
    have h5 : 0 < dd D * x.s * y.s := by
      have := Rat.mul_pos hd (Rat.mul_pos hx1 hy1)
      grind
    have := sum_pos (b := x.r * y.r) h5 (by grind)
    grind
theorem Pos.one : Pos (1 : QD D) := by
  left; unfold nm; simp; grind
theorem Pos.sq {x : QD D} (h : x ≠ 0) : Pos (x * x) := by
  left
  have hn := nm_ne h
  refine ⟨?_, by rw [nm_mul]; exact sq_pos hn⟩
  simp only [mul_r]
  have h1 := sq_nn x.r
  have h2 := sq_nn x.s
  have hd := dd_pos (D := D)
  by_cases hs : x.s = 0
  · have hr : x.r ≠ 0 := fun e => h (ext' e hs)
    have := sq_pos hr
    rw [hs]; grind
  · have := Rat.mul_pos hd (sq_pos hs)
    grind
theorem not_pos_zero : ¬ Pos (0 : QD D) := by
  unfold Pos; simp
theorem Pos.ne {x : QD D} (h : Pos x) : x ≠ 0 := fun e => by subst e; exact not_pos_zero h
theorem Pos.one_add {z : QD D} (h : Pos z) : Pos (1 + z) := by
  have hd := dd_pos (D := D)
  have ss := sq_nn z.s
  have dss : 0 ≤ dd D * (z.s * z.s) := Rat.mul_nonneg (by grind) ss
  have nz : nm z = z.r * z.r - dd D * (z.s * z.s) := by unfold nm; grind
  have n1 : nm (1 + z) = (1 + z.r) * (1 + z.r) - dd D * (z.s * z.s) := by unfold nm; simp; grind
  rcases h with ⟨h1, h2⟩ | ⟨h1, h2⟩
  · left
    refine ⟨by simp; grind, by rw [n1]; grind⟩
  · -- z.s > 0
    have hne : nm (1 + z) ≠ 0 := nm_ne fun e => by
      have : (1 + z).s = 0 := by rw [e]; rfl
      simp at this; grind
    rcases Std.lt_trichotomy (nm (1 + z)) 0 with h3 | h3 | h3
    · right; refine ⟨by simp; grind, h3⟩
    · exact absurd h3 hne
    · left
      refine ⟨?_, h3⟩
      simp only [add_r, one_r]
      rcases Std.lt_trichotomy (1 + z.r) 0 with h4 | h4 | h4
      · -- (1+r)^2 < r^2 < d s^2
        have := mul_lt2 (a := -(1 + z.r)) (b := - z.r) (c := -(1 + z.r)) (e := -z.r) (by grind) (by grind) (by grind) (by grind)
        grind
      · rw [n1, h4] at h3
        grind
      · exact h4
theorem Pos.inv {x : QD D} (h : Pos x) : Pos x⁻¹ := by
  have hx := h.ne
  have h2 : x⁻¹ ≠ 0 := by grind
  have e : x⁻¹ = x * (x⁻¹ * x⁻¹) := by grind
  rw [e]
  exact h.mul (Pos.sq h2)
theorem Pos.add {x y : QD D} (hx : Pos x) (hy : Pos y) : Pos (x + y) := by
  have e : x + y = x * (1 + y * x⁻¹) := by have := hx.ne; grind
  rw [e]
  exact hx.mul (hy.mul hx.inv).one_add
theorem Pos.tri (x : QD D) : Pos x ∨ x = 0 ∨ Pos (-x) := by
  by_cases h : x = 0
  · exact .inr (.inl h)
  · have hn := nm_ne h
    have e : nm (-x) = nm x := by unfold nm; simp; grind
    rcases Std.lt_trichotomy (nm x) 0 with h1 | h1 | h1
    · rcases Std.lt_trichotomy x.s 0 with h2 | h2 | h2
      · right; right; right; rw [e]; exact ⟨by simp; grind, h1⟩
      · have := sq_nn x.r
        unfold nm at h1; rw [h2] at h1; grind
      · left; right; exact ⟨h2, h1⟩
    · exact absurd h1 hn
    · rcases Std.lt_trichotomy x.r 0 with h2 | h2 | h2
      · right; right; left; rw [e]; exact ⟨by simp; grind, h1⟩
      · have := Rat.mul_nonneg (Rat.le_of_lt (dd_pos (D := D))) (sq_nn x.s)
        unfold nm at h1; rw [h2] at h1; grind
      · left; left; exact ⟨h2, h1⟩
theorem Pos.asymm {x : QD D} (h : Pos x) (h' : Pos (-x)) : False := by
  have := h.add h'
  rw [show x + -x = 0 by grind] at this
  exact not_pos_zero this
instance : LT (QD D) := ⟨fun x y => Pos (y - x)⟩
instance : LE (QD D) := ⟨fun x y => ¬ Pos (x - y)⟩
theorem lt_def (x y : QD D) : x < y ↔ Pos (y - x) := Iff.rfl
theorem le_def (x y : QD D) : x ≤ y ↔ ¬ Pos (x - y) := Iff.rfl
theorem le_iff {x y : QD D} : x ≤ y ↔ Pos (y - x) ∨ x = y := by
  rw [le_def]
  constructor
  · intro h
    rcases Pos.tri (x - y) with h1 | h1 | h1
    · exact absurd h1 h
    · right; grind
    · left; rw [show y - x = -(x - y) by grind]; exact h1
  · rintro (h | h) h'
    · exact Pos.asymm h (by rw [show -(y - x) = x - y by grind]; exact h')
    · subst h; rw [show x - x = 0 by grind] at h'; exact not_pos_zero h'
instance : Std.IsLinearOrder (QD D) where
  le_refl x := by rw [le_iff]; right; rfl
  le_trans x y z h1 h2 := by
    rw [le_iff] at *
    rcases h1 with h1 | h1 <;> rcases h2 with h2 | h2
    · left; rw [show z - x = (y - x) + (z - y) by grind]; exact h1.add h2
    · subst h2; left; exact h1
    · subst h1; left; exact h2
    · right; rw [h1, h2]
  le_antisymm x y h1 h2 := by
    rw [le_iff] at h1 h2
    rcases h1 with h1 | h1
    · rcases h2 with h2 | h2
      · exact (Pos.asymm h1 (by rw [show -(y - x) = x - y by grind]; exact h2)).elim
      · exact h2.symm
    · exact h1
  le_total x y := by
    rw [le_iff, le_iff]
    rcases Pos.tri (x - y) with h1 | h1 | h1
    · right; left; exact h1
    · left; right; grind
    · left; left; rw [show y - x = -(x - y) by grind]; exact h1
instance : Std.LawfulOrderLT (QD D) where
  lt_iff x y := by
    rw [lt_def, le_iff, le_def]
    constructor
    · intro h
      exact ⟨.inl h, fun h' => h' h⟩
    · rintro ⟨h | h, h'⟩
      · exact h
      · exact Classical.byContradiction fun hc => h' hc
instance : Lean.Grind.OrderedRing (QD D) where
  add_le_left_iff {a b} c := by
    rw [le_def, le_def, show a + c - (b + c) = a - b by grind]
  zero_lt_one := by rw [lt_def, show (1 : QD D) - 0 = 1 by grind]; exact Pos.one
  mul_lt_mul_of_pos_left {a b c} h1 h2 := by
    rw [lt_def] at *
    rw [show c * b - c * a = (c - 0) * (b - a) by grind]
    exact h2.mul h1
  mul_lt_mul_of_pos_right {a b c} h1 h2 := by
    rw [lt_def] at *
    rw [show b * c - a * c = (b - a) * (c - 0) by grind]
    exact h1.mul h2
example (x y z : QD D) (h : x < y) (h2 : y ≤ z) : x + 1 < z + 2 := by grind
theorem mul_pos {x y : QD D} (hx : 0 < x) (hy : 0 < y) : 0 < x * y := by
  have := Lean.Grind.OrderedRing.mul_lt_mul_of_pos_left hy hx
  grind
theorem inv_pos {x : QD D} (hx : 0 < x) : 0 < x⁻¹ := by
  rw [lt_def, show x - 0 = x by grind] at hx
  rw [lt_def, show x⁻¹ - 0 = x⁻¹ by grind]
  exact hx.inv
theorem div_pos {x y : QD D} (hx : 0 < x) (hy : 0 < y) : 0 < x / y := by
  have := mul_pos hx (inv_pos hy)
  grind
end QD
end MF

namespace MF
variable {D : Root}
namespace QD
/-! ### the triple of a number -/
/-- the number of three whole numbers -/
def ofT (a b c : Int) : QD D := ⟨(a : Rat) / c, (b : Rat) / c⟩
structure IsTri (a b c : Int) (x : QD D) : Prop where
  pos : 0 < c
  one : Int.gcd (Int.gcd a b) c = 1
  ea : (a : Rat) = x.r * c
  eb : (b : Rat) = x.s * c
theorem ne_of_pos {c : Int} (h : 0 < c) : (c : Rat) ≠ 0 := fun e => by
  have : c = 0 := by exact_mod_cast e
  omega
theorem cast_ne {c : Int} (h : c ≠ 0) : (c : Rat) ≠ 0 := fun e => h (by exact_mod_cast e)
theorem dvd_of {a b c k : Int} (one : Int.gcd (Int.gcd a b) c = 1) (h1 : c ∣ a * k) (h2 : c ∣ b * k) : c ∣ k := by
  have h3 : c ∣ c * k := Int.dvd_mul_right c k
  have e1 : c ∣ (Int.gcd a b : Int) * k := by
    have : c.natAbs ∣ Int.gcd (a * k) (b * k) := Int.dvd_gcd (Int.natAbs_dvd.mpr h1) (Int.natAbs_dvd.mpr h2)
    rw [Int.gcd_mul_right] at this
    have := Int.ofNat_dvd.mpr this
    have h4 : c ∣ ((Int.gcd a b * k.natAbs : Nat) : Int) := Int.natAbs_dvd.mp this
    rw [Int.natCast_mul] at h4
    rcases Int.natAbs_eq k with e | e
    · rw [e]; exact h4
    · rw [e, Int.mul_neg]; exact Int.dvd_neg.mpr h4
  have : c.natAbs ∣ Int.gcd ((Int.gcd a b : Int) * k) (c * k) := Int.dvd_gcd (Int.natAbs_dvd.mpr e1) (Int.natAbs_dvd.mpr h3)
  rw [Int.gcd_mul_right, one, Nat.one_mul] at this
  exact Int.natAbs_dvd_natAbs.mp this
theorem IsTri.dvd {a b c A B N : Int} {x : QD D} (h : IsTri a b c x) (h1 : x.r * N = A) (h2 : x.s * N = B) : c ∣ N := by
  refine dvd_of h.one ⟨A, ?_⟩ ⟨B, ?_⟩
  · have : ((a * N : Int) : Rat) = ((c * A : Int) : Rat) := by
      rw [Rat.intCast_mul, Rat.intCast_mul, h.ea, ← h1]; grind
    exact_mod_cast this
  · have : ((b * N : Int) : Rat) = ((c * B : Int) : Rat) := by
      rw [Rat.intCast_mul, Rat.intCast_mul, h.eb, ← h2]; grind
    exact_mod_cast this
theorem IsTri.same {a b c a' b' c' : Int} {x : QD D} (h : IsTri a b c x) (h' : IsTri a' b' c' x) : a = a' ∧ b = b' ∧ c = c' := by
  have d1 : c ∣ c' := h.dvd h'.ea.symm h'.eb.symm
  have d2 : c' ∣ c := h'.dvd h.ea.symm h.eb.symm
  have e : c = c' := Int.dvd_antisymm (Int.le_of_lt h.pos) (Int.le_of_lt h'.pos) d1 d2
  subst e
  refine ⟨?_, ?_, rfl⟩
  · have := h.ea.trans h'.ea.symm
    exact_mod_cast this
  · have := h.eb.trans h'.eb.symm
    exact_mod_cast this
/-- the whole number by which three are made lowest, with the third's sign -/
def com (a b c : Int) : Int := if c < 0 then -(Int.gcd (Int.gcd a b) c : Int) else (Int.gcd (Int.gcd a b) c : Int)
theorem gcd3_pos {a b c : Int} (h : c ≠ 0) : 0 < Int.gcd (Int.gcd a b) c := Int.gcd_pos_of_ne_zero_right _ h
theorem gcd3_dvd (a b c : Int) : (Int.gcd (Int.gcd a b) c : Int) ∣ a ∧ (Int.gcd (Int.gcd a b) c : Int) ∣ b ∧ (Int.gcd (Int.gcd a b) c : Int) ∣ c := by
  have h1 : (Int.gcd (Int.gcd a b) c : Int) ∣ (Int.gcd a b : Int) := Int.gcd_dvd_left ..
  exact ⟨Int.dvd_trans h1 (Int.gcd_dvd_left ..), Int.dvd_trans h1 (Int.gcd_dvd_right ..), Int.gcd_dvd_right ..⟩
theorem com_dvd (a b c : Int) : com a b c ∣ a ∧ com a b c ∣ b ∧ com a b c ∣ c := by
  obtain ⟨h1, h2, h3⟩ := gcd3_dvd a b c
  unfold com
  split
  · exact ⟨Int.neg_dvd.mpr h1, Int.neg_dvd.mpr h2, Int.neg_dvd.mpr h3⟩
  · exact ⟨h1, h2, h3⟩
theorem com_ne {a b c : Int} (h : c ≠ 0) : com a b c ≠ 0 := by
  have := gcd3_pos (a := a) (b := b) h
  unfold com; split <;> omega
theorem tri_low {a b c : Int} (h : c ≠ 0) : IsTri (a / com a b c) (b / com a b c) (c / com a b c) (ofT a b c : QD D) := by
  obtain ⟨⟨u, hu⟩, ⟨v, hv⟩, ⟨w, hw⟩⟩ := com_dvd a b c
  have hk := com_ne (a := a) (b := b) h
  have hg := gcd3_pos (a := a) (b := b) h
  generalize hkk : com a b c = k at *
  have ea : a / k = u := by rw [hu]; exact Int.mul_ediv_cancel_left _ hk
  have eb : b / k = v := by rw [hv]; exact Int.mul_ediv_cancel_left _ hk
  have ec : c / k = w := by rw [hw]; exact Int.mul_ediv_cancel_left _ hk
  have hkabs : k.natAbs = Int.gcd (Int.gcd a b) c := by
    rw [← hkk]; unfold com; split <;> omega
  have hw0 : w ≠ 0 := fun e => by rw [e] at hw; omega
  rw [ea, eb, ec]
  have hkr := cast_ne hk
  have hwr := cast_ne hw0
  refine ⟨?_, ?_, ?_, ?_⟩
  · by_cases hc : c < 0
    · have : k < 0 := by rw [← hkk]; unfold com; rw [if_pos hc]; omega
      rcases Int.lt_trichotomy w 0 with z | z | z
      · have := Int.mul_pos_of_neg_of_neg this z; omega
      · omega
      · exact z
    · have : 0 < k := by rw [← hkk]; unfold com; rw [if_neg hc]; omega
      rcases Int.lt_trichotomy w 0 with z | z | z
      · have := Int.mul_neg_of_pos_of_neg this z; omega
      · omega
      · exact z
  · have e1 : Int.gcd a b = k.natAbs * Int.gcd u v := by rw [hu, hv, Int.gcd_mul_left]
    have e2 : Int.gcd (Int.gcd a b) c = k.natAbs * Int.gcd (Int.gcd u v) w := by
      rw [e1]
      have : ((k.natAbs * Int.gcd u v : Nat) : Int).gcd c = Int.gcd (k * (Int.gcd u v : Int)) c := by
        unfold Int.gcd
        rw [Int.natAbs_mul, Int.natAbs_natCast, Int.natAbs_natCast]
      rw [this, hw, Int.gcd_mul_left]
    rw [← hkabs] at e2
    have hkp : 0 < k.natAbs := by omega
    have : k.natAbs * Int.gcd (Int.gcd u v) w = k.natAbs * 1 := by omega
    exact Nat.eq_of_mul_eq_mul_left hkp this
  · show (u : Rat) = (a : Rat) / c * w
    rw [hu, hw, Rat.intCast_mul, Rat.intCast_mul]; grind
  · show (v : Rat) = (b : Rat) / c * w
    rw [hv, hw, Rat.intCast_mul, Rat.intCast_mul]; grind
theorem rat_div (t : Rat) : (t.num : Rat) / ((t.den : Int) : Rat) = t := by
  have := Rat.mkRat_eq_div t.num t.den
  rw [Rat.mkRat_self] at this
  exact this.symm
def T0 (x : QD D) : Int × Int × Int := (x.r.num * x.s.den, x.s.num * x.r.den, x.r.den * x.s.den)
theorem T0_ne (x : QD D) : (T0 x).2.2 ≠ 0 := by
  have h1 := x.r.den_nz
  have h2 := x.s.den_nz
  exact Int.mul_ne_zero (by omega) (by omega)
theorem T0_of (x : QD D) : (ofT (T0 x).1 (T0 x).2.1 (T0 x).2.2 : QD D) = x := by
  have h1 : (((x.r.den : Int)) : Rat) ≠ 0 := cast_ne (by have := x.r.den_nz; omega)
  have h2 : (((x.s.den : Int)) : Rat) ≠ 0 := cast_ne (by have := x.s.den_nz; omega)
  have e1 := rat_div x.r
  have e2 := rat_div x.s
  apply ext'
  · show ((x.r.num * x.s.den : Int) : Rat) / ((x.r.den * x.s.den : Int) : Rat) = x.r
    rw [Rat.intCast_mul, Rat.intCast_mul]
    generalize x.r = t at *
    rw [← e1]; grind
  · show ((x.s.num * x.r.den : Int) : Rat) / ((x.r.den * x.s.den : Int) : Rat) = x.s
    rw [Rat.intCast_mul, Rat.intCast_mul]
    generalize x.s = t at *
    rw [← e2]; grind
/-- the number's triple -/
def a (x : QD D) : Int := (T0 x).1 / com (T0 x).1 (T0 x).2.1 (T0 x).2.2
def b (x : QD D) : Int := (T0 x).2.1 / com (T0 x).1 (T0 x).2.1 (T0 x).2.2
def c (x : QD D) : Int := (T0 x).2.2 / com (T0 x).1 (T0 x).2.1 (T0 x).2.2
theorem tri (x : QD D) : IsTri x.a x.b x.c x := by
  have h := tri_low (D := D) (a := (T0 x).1) (b := (T0 x).2.1) (T0_ne x)
  rw [T0_of] at h
  exact h
theorem c_pos (x : QD D) : 0 < x.c := x.tri.pos
theorem cr_ne (x : QD D) : (x.c : Rat) ≠ 0 := ne_of_pos x.c_pos
theorem of_tri {a b c : Int} {x : QD D} (h : IsTri a b c x) : x.a = a ∧ x.b = b ∧ x.c = c := x.tri.same h
/-- what lowest makes -/
theorem low_eq {a b c : Int} (h : c ≠ 0) {x : QD D} (e : ofT a b c = x) : a / com a b c = x.a ∧ b / com a b c = x.b ∧ c / com a b c = x.c := by
  subst e
  obtain ⟨h1, h2, h3⟩ := of_tri (tri_low (D := D) (a := a) (b := b) h)
  exact ⟨h1.symm, h2.symm, h3.symm⟩
theorem tri_inj {x y : QD D} (h1 : x.a = y.a) (h2 : x.b = y.b) (h3 : x.c = y.c) : x = y := by
  have hx := x.tri
  have hy := y.tri
  have hc := cr_ne x
  rw [← h1, ← h2, ← h3] at hy
  have e1 := hx.ea.symm.trans hy.ea
  have e2 := hx.eb.symm.trans hy.eb
  apply ext' <;> grind
theorem ra (x : QD D) : (x.a : Rat) = x.r * x.c := x.tri.ea
theorem rb (x : QD D) : (x.b : Rat) = x.s * x.c := x.tri.eb
theorem ofT_self (x : QD D) : (ofT x.a x.b x.c : QD D) = x := by
  have := cr_ne x
  apply ext'
  · show (x.a : Rat) / x.c = x.r
    rw [ra]; grind
  · show (x.b : Rat) / x.c = x.s
    rw [rb]; grind
theorem of_plus (x y : QD D) : (ofT (x.a * y.c + y.a * x.c) (x.b * y.c + y.b * x.c) (x.c * y.c) : QD D) = x + y := by
  have h1 := cr_ne x
  have h2 := cr_ne y
  apply ext'
  · show ((x.a * y.c + y.a * x.c : Int) : Rat) / ((x.c * y.c : Int) : Rat) = x.r + y.r
    simp only [Rat.intCast_mul, Rat.intCast_add, ra]; grind
  · show ((x.b * y.c + y.b * x.c : Int) : Rat) / ((x.c * y.c : Int) : Rat) = x.s + y.s
    simp only [Rat.intCast_mul, Rat.intCast_add, rb]; grind
theorem of_times (x y : QD D) : (ofT (x.a * y.a + D.d * x.b * y.b) (x.a * y.b + x.b * y.a) (x.c * y.c) : QD D) = x * y := by
  have h1 := cr_ne x
  have h2 := cr_ne y
  apply ext'
  · show ((x.a * y.a + D.d * x.b * y.b : Int) : Rat) / ((x.c * y.c : Int) : Rat) = x.r * y.r + dd D * x.s * y.s
    unfold dd
    simp only [Rat.intCast_mul, Rat.intCast_add, ra, rb]; grind
  · show ((x.a * y.b + x.b * y.a : Int) : Rat) / ((x.c * y.c : Int) : Rat) = x.r * y.s + x.s * y.r
    simp only [Rat.intCast_mul, Rat.intCast_add, ra, rb]; grind
theorem cc_ne (x y : QD D) : x.c * y.c ≠ 0 := Int.mul_ne_zero (by have := x.c_pos; omega) (by have := y.c_pos; omega)
theorem nm_tri (x : QD D) : ((x.a * x.a - D.d * x.b * x.b : Int) : Rat) = nm x * (x.c * x.c) := by
  unfold nm dd
  simp only [Rat.intCast_mul, Rat.intCast_sub, ra, rb]; grind
theorem inv_ne {x : QD D} (h : x ≠ 0) : x.a * x.a - D.d * x.b * x.b ≠ 0 := fun e => by
  have h1 := nm_tri x
  rw [e] at h1
  have h2 := nm_ne h
  have h3 := cr_ne x
  have : nm x * (x.c * x.c) ≠ 0 := by grind
  exact this h1.symm
theorem of_inv {x : QD D} (h : x ≠ 0) : (ofT (x.a * x.c) (0 - x.b * x.c) (x.a * x.a - D.d * x.b * x.b) : QD D) = x⁻¹ := by
  have h1 := cr_ne x
  have h2 := nm_ne h
  apply ext'
  · show ((x.a * x.c : Int) : Rat) / ((x.a * x.a - D.d * x.b * x.b : Int) : Rat) = x.r * (nm x)⁻¹
    rw [nm_tri]
    simp only [Rat.intCast_mul, ra]; grind
  · show ((0 - x.b * x.c : Int) : Rat) / ((x.a * x.a - D.d * x.b * x.b : Int) : Rat) = -x.s * (nm x)⁻¹
    rw [nm_tri]
    simp only [Rat.intCast_mul, Rat.intCast_sub, rb]; grind
theorem tri_neg (x : QD D) : (-x).a = 0 - x.a ∧ (-x).b = 0 - x.b ∧ (-x).c = x.c := by
  have h := x.tri
  refine of_tri ⟨h.pos, ?_, ?_, ?_⟩
  · have e : Int.gcd (0 - x.a) (0 - x.b) = Int.gcd x.a x.b := by unfold Int.gcd; simp
    rw [e]; exact h.one
  · simp only [Rat.intCast_sub, neg_r, h.ea]; grind
  · simp only [Rat.intCast_sub, neg_s, h.eb]; grind
theorem tri_int (n : Int) : ((n : QD D)).a = n ∧ ((n : QD D)).b = 0 ∧ ((n : QD D)).c = 1 :=
  of_tri ⟨by decide, by simp, by simp, by simp⟩
theorem tri_zero : ((0 : QD D)).a = 0 ∧ ((0 : QD D)).b = 0 ∧ ((0 : QD D)).c = 1 :=
  of_tri ⟨by decide, by decide, by simp, by simp⟩
theorem tri_one : ((1 : QD D)).a = 1 ∧ ((1 : QD D)).b = 0 ∧ ((1 : QD D)).c = 1 :=
  of_tri ⟨by decide, by decide, by simp, by simp⟩
theorem of_frac (m n : Int) : (ofT m 0 n : QD D) = (m : QD D) / (n : QD D) := by
  show (⟨(m : Rat) / n, ((0 : Int) : Rat) / n⟩ : QD D) = (m : QD D) * (n : QD D)⁻¹
  by_cases h : n = 0
  · subst h
    apply ext' <;> simp [nm] <;> grind
  · have h1 := cast_ne h
    apply ext'
    · simp [nm]; grind
    · simp [nm]; grind
end QD
end MF

namespace MF
variable {D : Root}
namespace QD
theorem lt_pos {x : QD D} : 0 < x ↔ Pos x := by rw [lt_def, show x - 0 = x by grind]
theorem pos_of_s0 {x : QD D} (h : x.s = 0) : Pos x ↔ 0 < x.r := by
  unfold Pos nm
  rw [h]
  constructor
  · rintro (⟨h1, _⟩ | ⟨h1, _⟩)
    · exact h1
    · grind
  · intro h1
    left
    refine ⟨h1, ?_⟩
    have := Rat.mul_pos h1 h1
    grind
theorem int_lt {m n : Int} : ((m : QD D)) < n ↔ m < n := by
  rw [lt_def, pos_of_s0 (by simp; grind)]
  simp only [sub_r, int_r]
  rw [← Rat.intCast_sub, Rat.intCast_pos]; omega
theorem int_le {m n : Int} : ((m : QD D)) ≤ n ↔ m ≤ n := by
  have := int_lt (D := D) (m := n) (n := m)
  constructor
  · intro h
    by_cases hc : n < m
    · have := this.mpr hc; grind
    · omega
  · intro h
    by_cases hc : (n : QD D) < m
    · have := this.mp hc; omega
    · grind
theorem int_inj {m n : Int} : ((m : QD D)) = n ↔ m = n := by
  constructor
  · intro h
    have h1 := int_le (D := D) (m := m) (n := n)
    have h2 := int_le (D := D) (m := n) (n := m)
    have := h1.mp (by grind)
    have := h2.mp (by grind)
    omega
  · intro h; rw [h]
theorem int_add (m n : Int) : ((m + n : Int) : QD D) = m + n := by apply ext' <;> simp <;> grind
theorem int_sub (m n : Int) : ((m - n : Int) : QD D) = m - n := by apply ext' <;> simp <;> grind
theorem int_mul (m n : Int) : ((m * n : Int) : QD D) = m * n := by apply ext' <;> simp <;> grind
theorem int_neg (m : Int) : ((-m : Int) : QD D) = -m := by apply ext' <;> simp
theorem int_zero : ((0 : Int) : QD D) = 0 := by apply ext' <;> simp
theorem int_one : ((1 : Int) : QD D) = 1 := by apply ext' <;> simp
theorem int_pos {m : Int} : (0 : QD D) < m ↔ 0 < m := by rw [← int_zero, int_lt]
theorem floor_one {m n : Int} {x : QD D} (h1 : (m : QD D) ≤ x) (h2 : x < m + 1) (h3 : (n : QD D) ≤ x) (h4 : x < n + 1) : m = n := by
  have e1 : (m : QD D) < ((n + 1 : Int) : QD D) := by rw [int_add, int_one]; grind
  have e2 : (n : QD D) < ((m + 1 : Int) : QD D) := by rw [int_add, int_one]; grind
  have := int_lt.mp e1
  have := int_lt.mp e2
  omega
/-! ### the sign -/
theorem pos_scale {x : QD D} {c : Rat} (hc : 0 < c) : Pos x ↔ Pos (⟨x.r * c, x.s * c⟩ : QD D) := by
  have hp : Pos (⟨c, 0⟩ : QD D) := (pos_of_s0 rfl).mpr hc
  have hi : Pos (⟨c⁻¹, 0⟩ : QD D) := (pos_of_s0 rfl).mpr (by have := Rat.inv_pos.mpr hc; exact this)
  have e : (⟨x.r * c, x.s * c⟩ : QD D) = x * ⟨c, 0⟩ := by apply ext' <;> simp <;> grind
  have e2 : x = (⟨x.r * c, x.s * c⟩ : QD D) * ⟨c⁻¹, 0⟩ := by apply ext' <;> simp <;> grind
  constructor
  · intro h; rw [e]; exact h.mul hp
  · intro h; rw [e2]; exact h.mul hi
def sgn (z : Int) : Int := (if 0 < z then 1 else 0) - (if z < 0 then 1 else 0)
/-- a times |a| and d b times |b| -/
def two (d a b : Int) : Int := a * (if a < 0 then -a else a) + d * b * (if b < 0 then -b else b)
theorem pos_int {a b : Int} : Pos (⟨(a : Rat), (b : Rat)⟩ : QD D) ↔ (0 < a ∧ 0 < a * a - D.d * b * b) ∨ (0 < b ∧ a * a - D.d * b * b < 0) := by
  unfold Pos nm dd
  simp only
  have e : (a : Rat) * a - (D.d : Rat) * b * b = ((a * a - D.d * b * b : Int) : Rat) := by
    simp only [Rat.intCast_mul, Rat.intCast_sub]
  rw [e, Rat.intCast_pos, Rat.intCast_pos, Rat.intCast_pos, Rat.intCast_neg_iff]
theorem sq_facts {a : Int} : (a = 0 ∧ a * a = 0) ∨ (a ≠ 0 ∧ 0 < a * a) := by
  rcases Int.lt_trichotomy a 0 with z | z | z
  · exact .inr ⟨by omega, Int.mul_pos_of_neg_of_neg z z⟩
  · exact .inl ⟨z, by rw [z]; rfl⟩
  · exact .inr ⟨by omega, Int.mul_pos z z⟩
theorem two_facts (D : Root) (a b : Int) : ∃ A B : Int, a * a = A ∧ D.d * b * b = B ∧ ((a = 0 ∧ A = 0) ∨ (a ≠ 0 ∧ 0 < A)) ∧ ((b = 0 ∧ B = 0) ∨ (b ≠ 0 ∧ 0 < B)) ∧ (A ≠ B ∨ b = 0) ∧
    two D.d a b = (if a < 0 then -A else A) + (if b < 0 then -B else B) := by
  refine ⟨a * a, D.d * (b * b), rfl, Int.mul_assoc .., sq_facts, ?_, ?_, ?_⟩
  · rcases sq_facts (a := b) with ⟨h, h'⟩ | ⟨h, h'⟩
    · exact .inl ⟨h, by rw [h']; simp⟩
    · exact .inr ⟨h, Int.mul_pos (by have := D.lo; omega) h'⟩
  · by_cases h : b = 0
    · exact .inr h
    · exact .inl fun e => d_irr h e
  · unfold two
    have e2 : D.d * b * (if b < 0 then -b else b) = (if b < 0 then -(D.d * (b * b)) else D.d * (b * b)) := by
      split <;> grind
    have e3 : a * (if a < 0 then -a else a) = (if a < 0 then -(a * a) else a * a) := by
      split <;> grind
    rw [e2, e3]
theorem two_pos {a b : Int} : Pos (⟨(a : Rat), (b : Rat)⟩ : QD D) ↔ 0 < two D.d a b := by
  obtain ⟨A, B, e1, e2, h1, h2, h3, e3⟩ := two_facts D a b
  rw [pos_int, e1, e2, e3]
  repeat' split
  all_goals omega
theorem two_neg (d a b : Int) : two d (-a) (-b) = - two d a b := by
  unfold two
  by_cases h1 : a < 0 <;> by_cases h2 : b < 0 <;> by_cases h3 : a = 0 <;> by_cases h4 : b = 0 <;> grind
theorem pos_two (x : QD D) : 0 < x ↔ 0 < two D.d x.a x.b := by
  rw [lt_pos, pos_scale (c := x.c) (Rat.intCast_pos.mpr x.c_pos), ← ra, ← rb, two_pos]
theorem neg_two (x : QD D) : x < 0 ↔ two D.d x.a x.b < 0 := by
  have h := pos_two (-x)
  obtain ⟨h1, h2, _⟩ := tri_neg x
  rw [h1, h2, show 0 - x.a = -x.a by omega, show 0 - x.b = -x.b by omega, two_neg] at h
  constructor
  · intro h3; have := h.mp (by grind); omega
  · intro h3; have := h.mpr (by omega); grind
/-- what sign_of tells -/
def sg (x : QD D) : Int := sgn (two D.d x.a x.b)
theorem sg_pos (x : QD D) : 0 < sg x ↔ 0 < x := by
  rw [pos_two]; unfold sg sgn; split <;> split <;> omega
theorem sg_neg (x : QD D) : sg x < 0 ↔ x < 0 := by
  rw [neg_two]; unfold sg sgn; split <;> split <;> omega
theorem sg_zero (x : QD D) : sg x = 0 ↔ x = 0 := by
  have h1 := sg_pos x
  have h2 := sg_neg x
  constructor
  · intro h
    have : ¬ 0 < x := fun z => by have := h1.mpr z; omega
    have : ¬ x < 0 := fun z => by have := h2.mpr z; omega
    grind
  · intro h
    have : ¬ 0 < sg x := fun z => by have := h1.mp z; grind
    have : ¬ sg x < 0 := fun z => by have := h2.mp z; grind
    omega
theorem sg_cases (x : QD D) : sg x = 1 ∧ 0 < x ∨ sg x = 0 ∧ x = 0 ∨ sg x = -1 ∧ x < 0 := by
  have h1 := sg_pos x
  have h2 := sg_neg x
  have h3 := sg_zero x
  have h4 : sg x = 1 ∨ sg x = 0 ∨ sg x = -1 := by unfold sg sgn; split <;> split <;> omega
  rcases h4 with h | h | h
  · exact .inl ⟨h, h1.mp (by omega)⟩
  · exact .inr (.inl ⟨h, h3.mp h⟩)
  · exact .inr (.inr ⟨h, h2.mp (by omega)⟩)
/-- the law's own sign, by squares -/
def lsg (d a b : Int) : Int :=
  if 0 ≤ sgn a * sgn b then (if sgn a ≠ 0 then sgn a else sgn b) else (if d * b * b < a * a then sgn a else sgn b)
theorem sgn_p {z : Int} (h : 0 < z) : sgn z = 1 := by unfold sgn; rw [if_pos h, if_neg (by omega)]; rfl
theorem sgn_n {z : Int} (h : z < 0) : sgn z = -1 := by unfold sgn; rw [if_neg (by omega), if_pos h]; rfl
theorem sgn_z : sgn 0 = 0 := by decide
theorem lsg_eq (x : QD D) : lsg D.d x.a x.b = sg x := by
  unfold sg lsg
  obtain ⟨A, B, e1, e2, hA, hB, hAB, e3⟩ := two_facts D x.a x.b
  generalize x.a = a at *
  generalize x.b = b at *
  rw [e1, e2, e3]
  have ha : a < 0 ∧ sgn a = -1 ∨ a = 0 ∧ sgn a = 0 ∨ 0 < a ∧ sgn a = 1 := by unfold sgn; repeat' split <;> omega
  have hb : b < 0 ∧ sgn b = -1 ∨ b = 0 ∧ sgn b = 0 ∨ 0 < b ∧ sgn b = 1 := by unfold sgn; repeat' split <;> omega
  generalize sgn a = u at *
  generalize sgn b = v at *
  rcases ha with ⟨h1, rfl⟩ | ⟨h1, rfl⟩ | ⟨h1, rfl⟩ <;> rcases hb with ⟨h2, rfl⟩ | ⟨h2, rfl⟩ | ⟨h2, rfl⟩ <;> unfold sgn <;> repeat' split
  all_goals omega
end QD
end MF

namespace MF
variable {D : Root}
namespace QD
theorem le_of_mul {x y c : QD D} (hc : 0 < c) (h : x * c ≤ y * c) : x ≤ y := by
  by_cases h1 : y < x
  · have := Lean.Grind.OrderedRing.mul_lt_mul_of_pos_right h1 hc
    grind
  · grind
theorem lt_of_mul {x y c : QD D} (hc : 0 < c) (h : x * c < y * c) : x < y := by
  by_cases h1 : y ≤ x
  · by_cases h2 : y = x
    · subst h2; grind
    · have := Lean.Grind.OrderedRing.mul_lt_mul_of_pos_right (show y < x by grind) hc
      grind
  · grind
theorem mul_lt {x y c : QD D} (hc : 0 < c) (h : x < y) : x * c < y * c := Lean.Grind.OrderedRing.mul_lt_mul_of_pos_right h hc
theorem mul_le {x y c : QD D} (hc : 0 < c) (h : x ≤ y) : x * c ≤ y * c := by
  by_cases h2 : x = y
  · subst h2; grind
  · have := mul_lt hc (show x < y by grind); grind
/-! ### the greatest whole number beneath -/
/-- the whole number beneath b times the root, from the root beneath of d b b -/
def wb (d b w : Int) : Int := if b < 0 then 0 - w - (if w * w < d * b * b then 1 else 0) else w
theorem wb_is {b w : Int} (h0 : 0 ≤ w) (h1 : w * w ≤ D.d * b * b) (h2 : D.d * b * b < (w + 1) * (w + 1)) :
    ((wb D.d b w : Int) : QD D) ≤ ⟨0, (b : Rat)⟩ ∧ (⟨0, (b : Rat)⟩ : QD D) < ((wb D.d b w : Int) : QD D) + 1 := by
  have hd := D.lo
  have e1 : D.d * b * b = D.d * (b * b) := Int.mul_assoc ..
  by_cases hb : b < 0
  · have hlt : w * w < D.d * b * b := by
      by_cases h : w * w = D.d * (b * b)
      · exact (d_irr (D := D) (by omega) h).elim
      · omega
    unfold wb
    rw [if_pos hb, if_pos hlt]
    constructor
    · have : Pos ((⟨0, (b : Rat)⟩ : QD D) - ((0 - w - 1 : Int) : QD D)) := by
        have e : (⟨0, (b : Rat)⟩ : QD D) - ((0 - w - 1 : Int) : QD D) = ⟨((w + 1 : Int) : Rat), ((b : Int) : Rat)⟩ := by
          apply ext' <;> simp only [sub_r, sub_s, int_r, int_s, Rat.intCast_sub, Rat.intCast_add] <;> grind
        rw [e, two_pos]
        unfold two
        rw [if_neg (by omega), if_pos hb]
        have : D.d * b * -b = -(D.d * b * b) := by grind
        omega
      rw [← lt_def] at this
      grind
    · have : Pos (((0 - w - 1 : Int) : QD D) + 1 - (⟨0, (b : Rat)⟩ : QD D)) := by
        have e : ((0 - w - 1 : Int) : QD D) + 1 - (⟨0, (b : Rat)⟩ : QD D) = ⟨((-w : Int) : Rat), ((-b : Int) : Rat)⟩ := by
          apply ext' <;> simp only [sub_r, sub_s, add_r, add_s, one_r, one_s, int_r, int_s, Rat.intCast_sub, Rat.intCast_neg] <;> grind
        rw [e, two_pos]
        unfold two
        rw [if_neg (show ¬ -b < 0 by omega)]
        have e2 : D.d * -b * -b = D.d * b * b := by grind
        have e3 : -w * (if -w < 0 then - -w else -w) = -(w * w) := by
          split
          · grind
          · have : w = 0 := by omega
            subst this; rfl
        omega
      exact this
  · unfold wb
    rw [if_neg hb]
    constructor
    · rw [le_def]
      have e : ((w : Int) : QD D) - (⟨0, (b : Rat)⟩ : QD D) = ⟨((w : Int) : Rat), ((-b : Int) : Rat)⟩ := by
        apply ext' <;> simp only [sub_r, sub_s, int_r, int_s, Rat.intCast_neg] <;> grind
      rw [e, two_pos]
      unfold two
      rw [if_neg (show ¬ w < 0 by omega)]
      have e3 : D.d * -b * (if -b < 0 then - -b else -b) = -(D.d * b * b) := by
        split
        · grind
        · have : b = 0 := by omega
          subst this; simp
      omega
    · rw [lt_def]
      have e : ((w : Int) : QD D) + 1 - (⟨0, (b : Rat)⟩ : QD D) = ⟨((w + 1 : Int) : Rat), ((-b : Int) : Rat)⟩ := by
        apply ext' <;> simp only [sub_r, sub_s, add_r, add_s, one_r, one_s, int_r, int_s, Rat.intCast_neg, Rat.intCast_add] <;> grind
      rw [e, two_pos]
      unfold two
      rw [if_neg (show ¬ w + 1 < 0 by omega)]
      have e3 : D.d * -b * (if -b < 0 then - -b else -b) = -(D.d * b * b) := by
        split
        · grind
        · have : b = 0 := by omega
          subst this; simp
      omega
theorem split_tri (x : QD D) : x * ((x.c : Int) : QD D) = ((x.a : Int) : QD D) + ⟨0, (x.b : Rat)⟩ := by
  apply ext'
  · simp [ra]
  · simp [rb]
/-- whole_beneath -/
theorem floor_is (x : QD D) {w : Int} (h0 : 0 ≤ w) (h1 : w * w ≤ D.d * x.b * x.b) (h2 : D.d * x.b * x.b < (w + 1) * (w + 1)) :
    (((x.a + wb D.d x.b w) / x.c : Int) : QD D) ≤ x ∧ x < (((x.a + wb D.d x.b w) / x.c : Int) : QD D) + 1 := by
  obtain ⟨g1, g2⟩ := wb_is (D := D) h0 h1 h2
  generalize wb D.d x.b w = v at *
  have hc := x.c_pos
  have hcq : (0 : QD D) < ((x.c : Int) : QD D) := int_pos.mpr hc
  have e := split_tri x
  have k1 : (x.a + v) / x.c * x.c ≤ x.a + v := Int.ediv_mul_le _ (by omega)
  have k2 : x.a + v < ((x.a + v) / x.c + 1) * x.c := Int.lt_ediv_add_one_mul_self _ hc
  generalize (x.a + v) / x.c = n at *
  have k1' := (int_le (D := D)).mpr k1
  have k2' := (int_le (D := D)).mpr (show x.a + v + 1 ≤ (n + 1) * x.c by omega)
  simp only [int_mul, int_add, int_one] at k1' k2'
  constructor
  · refine le_of_mul hcq ?_
    rw [e]; grind
  · refine lt_of_mul hcq ?_
    rw [e]; grind

/-! ### sizes -/
def wt (p q : Int) : Nat := p.natAbs + 6 * q.natAbs
/-- whole numbers of the field -/
def zi (p q : Int) : QD D := ⟨(p : Rat), (q : Rat)⟩
theorem zi_mul (p q u v : Int) : (zi p q * zi u v : QD D) = zi (p * u + D.d * q * v) (p * v + q * u) := by
  unfold zi
  apply ext'
  · simp only [mul_r, dd, Rat.intCast_mul, Rat.intCast_add]
  · simp only [mul_s, Rat.intCast_mul, Rat.intCast_add]
theorem zi_add (p q u v : Int) : (zi p q + zi u v : QD D) = zi (p + u) (q + v) := by
  unfold zi
  apply ext'
  · simp only [add_r, Rat.intCast_add]
  · simp only [add_s, Rat.intCast_add]
theorem zi_neg (p q : Int) : (- zi p q : QD D) = zi (-p) (-q) := by
  unfold zi
  apply ext'
  · simp only [neg_r, Rat.intCast_neg]
  · simp only [neg_s, Rat.intCast_neg]
theorem wt_mul (p q u v : Int) : wt (p * u + D.d * q * v) (p * v + q * u) ≤ wt p q * wt u v := by
  unfold wt
  have h1 : (p * u + D.d * q * v).natAbs ≤ p.natAbs * u.natAbs + 36 * (q.natAbs * v.natAbs) := by
    have a1 := Int.natAbs_add_le (p * u) (D.d * q * v)
    rw [Int.natAbs_mul p u, Int.natAbs_mul (D.d * q) v, Int.natAbs_mul D.d q] at a1
    have hd : D.d.natAbs ≤ 36 := by have := D.lo; have := D.hi; omega
    have a2 : D.d.natAbs * q.natAbs * v.natAbs ≤ 36 * (q.natAbs * v.natAbs) := by
      rw [Nat.mul_assoc]; exact Nat.mul_le_mul_right _ hd
    omega
  have h2 : (p * v + q * u).natAbs ≤ p.natAbs * v.natAbs + q.natAbs * u.natAbs := by
    have a1 := Int.natAbs_add_le (p * v) (q * u)
    rw [Int.natAbs_mul p v, Int.natAbs_mul q u] at a1
    exact a1
  generalize p.natAbs = a at *
  generalize q.natAbs = b at *
  generalize u.natAbs = c at *
  generalize v.natAbs = e at *
  have : (a + 6 * b) * (c + 6 * e) = a * c + 36 * (b * e) + 6 * (a * e + b * c) := by grind
  omega
theorem wt_add (p q u v : Int) : wt (p + u) (q + v) ≤ wt p q + wt u v := by
  unfold wt
  have := Int.natAbs_add_le p u
  have := Int.natAbs_add_le q v
  omega
theorem wt_neg (p q : Int) : wt (-p) (-q) = wt p q := by unfold wt; omega
/-- x is p over q, both whole and of weights at most 2 ^ n -/
def Sz (n : Nat) (x : QD D) : Prop := ∃ p q u v : Int, (zi u v : QD D) ≠ 0 ∧ x * zi u v = zi p q ∧ wt p q ≤ 2 ^ n ∧ wt u v ≤ 2 ^ n
theorem Sz.mono {m n : Nat} {x : QD D} (h : Sz m x) (hm : m ≤ n) : Sz n x := by
  obtain ⟨p, q, u, v, h1, h2, h3, h4⟩ := h
  have := Nat.pow_le_pow_right (show 0 < 2 by decide) hm
  exact ⟨p, q, u, v, h1, h2, Nat.le_trans h3 this, Nat.le_trans h4 this⟩
theorem pow_mul {a b m n : Nat} (h1 : a ≤ 2 ^ m) (h2 : b ≤ 2 ^ n) : a * b ≤ 2 ^ (m + n) := by
  rw [Nat.pow_add]; exact Nat.mul_le_mul h1 h2
theorem mul_ne {x y : QD D} (h1 : x ≠ 0) (h2 : y ≠ 0) : x * y ≠ 0 := by grind
theorem Sz.add {m n : Nat} {x y : QD D} (hx : Sz m x) (hy : Sz n y) : Sz (m + n + 1) (x + y) := by
  obtain ⟨p, q, u, v, h1, h2, h3, h4⟩ := hx
  obtain ⟨p', q', u', v', h1', h2', h3', h4'⟩ := hy
  refine ⟨p * u' + D.d * q * v' + (u * p' + D.d * v * q'), p * v' + q * u' + (u * q' + v * p'), u * u' + D.d * v * v', u * v' + v * u', (by rw [← zi_mul (D := D) u v u' v']; exact mul_ne h1 h1'), (by
    rw [← zi_mul]
    have : (x + y) * (zi u v * zi u' v') = (x * zi u v) * zi u' v' + zi u v * (y * zi u' v') := by grind
    rw [this, h2, h2', zi_mul, zi_mul, zi_add]), ?_, ?_⟩
  · refine Nat.le_trans (wt_add ..) ?_
    have k1 := Nat.le_trans (wt_mul (D := D) p q u' v') (pow_mul h3 h4')
    have k2 := Nat.le_trans (wt_mul (D := D) u v p' q') (pow_mul h4 h3')
    rw [Nat.pow_succ]; omega
  · have k1 := Nat.le_trans (wt_mul (D := D) u v u' v') (pow_mul h4 h4')
    rw [Nat.pow_succ]; omega
theorem Sz.mul {m n : Nat} {x y : QD D} (hx : Sz m x) (hy : Sz n y) : Sz (m + n) (x * y) := by
  obtain ⟨p, q, u, v, h1, h2, h3, h4⟩ := hx
  obtain ⟨p', q', u', v', h1', h2', h3', h4'⟩ := hy
  refine ⟨p * p' + D.d * q * q', p * q' + q * p', u * u' + D.d * v * v', u * v' + v * u', (by rw [← zi_mul (D := D) u v u' v']; exact mul_ne h1 h1'), (by
    rw [← zi_mul]
    have : (x * y) * (zi u v * zi u' v') = (x * zi u v) * (y * zi u' v') := by grind
    rw [this, h2, h2', zi_mul]), ?_, ?_⟩
  · exact Nat.le_trans (wt_mul (D := D) p q p' q') (pow_mul h3 h3')
  · exact Nat.le_trans (wt_mul (D := D) u v u' v') (pow_mul h4 h4')
theorem Sz.inv {n : Nat} {x : QD D} (hx : Sz n x) (h0 : x ≠ 0) : Sz n x⁻¹ := by
  obtain ⟨p, q, u, v, h1, h2, h3, h4⟩ := hx
  refine ⟨u, v, p, q, (by rw [← h2]; exact mul_ne h0 h1), (by rw [← h2]; grind), h4, h3⟩
theorem Sz.div {m n : Nat} {x y : QD D} (hx : Sz m x) (hy : Sz n y) (h0 : y ≠ 0) : Sz (m + n) (x / y) := by
  have := hx.mul (hy.inv h0)
  rw [show x / y = x * y⁻¹ from rfl]; exact this
theorem Sz.neg {n : Nat} {x : QD D} (hx : Sz n x) : Sz n (-x) := by
  obtain ⟨p, q, u, v, h1, h2, h3, h4⟩ := hx
  refine ⟨-p, -q, u, v, h1, ?_, by rw [wt_neg]; exact h3, h4⟩
  rw [← zi_neg, ← h2]; grind
theorem Sz.sub {m n : Nat} {x y : QD D} (hx : Sz m x) (hy : Sz n y) : Sz (m + n + 1) (x - y) := by
  have := hx.add hy.neg
  rw [show x - y = x + -y by grind]; exact this
theorem zi_one : (zi 1 0 : QD D) = 1 := by unfold zi; apply ext' <;> simp
theorem zi_int (k : Int) : (zi k 0 : QD D) = (k : QD D) := by unfold zi; apply ext' <;> simp
theorem one_ne' : (1 : QD D) ≠ 0 := fun h => zero_ne h.symm
theorem Sz.int {n : Nat} {k : Int} (h : k.natAbs ≤ 2 ^ n) : Sz n (k : QD D) :=
  ⟨k, 0, 1, 0, by rw [zi_one]; exact one_ne', by rw [zi_one, zi_int]; grind, by unfold wt; simpa using h, by unfold wt; simp; exact Nat.one_le_two_pow⟩
theorem Sz.zero : Sz 0 (0 : QD D) := by rw [← int_zero]; exact Sz.int (by decide)
theorem Sz.one : Sz 0 (1 : QD D) := by rw [← int_one]; exact Sz.int (by decide)
/-- .. of three whole numbers -/
theorem Sz.ofT {n : Nat} {a b c : Int} (h : c ≠ 0) (h1 : a.natAbs + 6 * b.natAbs ≤ 2 ^ n) (h2 : c.natAbs ≤ 2 ^ n) : Sz n (QD.ofT a b c : QD D) := by
  refine ⟨a, b, c, 0, ?_, ?_, h1, by unfold wt; simpa using h2⟩
  · rw [zi_int, ← int_zero]; exact fun e => h (int_inj.mp e)
  · have := cast_ne h
    unfold zi QD.ofT
    apply ext'
    · simp; grind
    · simp; grind
theorem natAbs_of_dvd {a k A : Int} (e : A = a * k) (hk : k ≠ 0) : a.natAbs ≤ A.natAbs := by
  rw [e, Int.natAbs_mul]
  exact Nat.le_mul_of_pos_right _ (by omega)
/-- the triple's size -/
theorem Sz.tri {n : Nat} {x : QD D} (h : Sz n x) : x.a.natAbs ≤ 2 ^ (2 * n) ∧ x.b.natAbs ≤ 2 ^ (2 * n) ∧ x.c.natAbs ≤ 2 ^ (2 * n) := by
  obtain ⟨p, q, u, v, h1, h2, h3, h4⟩ := h
  have e1 : x * (zi u v * zi u (-v)) = zi (p * u + D.d * q * (-v)) (p * (-v) + q * u) := by
    rw [← zi_mul, ← h2]; grind
  have e2 : (zi u v * zi u (-v) : QD D) = zi (u * u + D.d * v * (-v)) 0 := by
    rw [zi_mul]; congr 1; grind
  have hne2 : (zi u (-v) : QD D) ≠ 0 := fun e => h1 (by
    have er : (zi u (-v) : QD D).r = 0 := by rw [e]; rfl
    have es : (zi u (-v) : QD D).s = 0 := by rw [e]; rfl
    unfold zi at er es ⊢
    simp only at er es
    apply ext'
    · exact er
    · simp only [Rat.intCast_neg] at es
      show (v : Rat) = 0
      grind)
  have hNq := mul_ne h1 hne2
  rw [e2] at e1 hNq
  have w1 : wt (p * u + D.d * q * (-v)) (p * (-v) + q * u) ≤ 2 ^ (2 * n) := by
    have := wt_mul (D := D) p q u (-v)
    have k := pow_mul h3 (show wt u (-v) ≤ 2 ^ n by unfold wt at *; omega)
    rw [show n + n = 2 * n by omega] at k
    exact Nat.le_trans this k
  have w2 : wt (u * u + D.d * v * (-v)) 0 ≤ 2 ^ (2 * n) := by
    have := wt_mul (D := D) u v u (-v)
    have k := pow_mul h4 (show wt u (-v) ≤ 2 ^ n by unfold wt at *; omega)
    rw [show n + n = 2 * n by omega] at k
    have e0 : u * -v + v * u = 0 := by grind
    rw [e0] at this
    exact Nat.le_trans this k
  generalize hA : p * u + D.d * q * (-v) = A at *
  generalize hB : p * (-v) + q * u = B at *
  generalize hN : u * u + D.d * v * (-v) = N at *
  have hN0 : N ≠ 0 := fun e => hNq (by rw [e, zi_int, int_zero])
  rw [zi_int] at e1
  have r1 : x.r * N = A := by
    have : (x * ((N : Int) : QD D)).r = A := by rw [e1]; rfl
    simp at this; grind
  have r2 : x.s * N = B := by
    have : (x * ((N : Int) : QD D)).s = B := by rw [e1]; rfl
    simp at this; grind
  have ht := x.tri
  obtain ⟨k, hk⟩ := ht.dvd r1 r2
  have hk0 : k ≠ 0 := fun e => hN0 (by rw [hk, e]; simp)
  have hcr := cr_ne x
  have eA : A = x.a * k := by
    have : (A : Rat) = ((x.a * k : Int) : Rat) := by
      rw [← r1, hk, Rat.intCast_mul, Rat.intCast_mul, ra]; grind
    exact_mod_cast this
  have eB : B = x.b * k := by
    have : (B : Rat) = ((x.b * k : Int) : Rat) := by
      rw [← r2, hk, Rat.intCast_mul, Rat.intCast_mul, rb]; grind
    exact_mod_cast this
  have b1 := natAbs_of_dvd eA hk0
  have b2 := natAbs_of_dvd eB hk0
  have b3 := natAbs_of_dvd hk hk0
  unfold wt at w1 w2
  omega
end QD
end MF

namespace MF
variable {D : Root}
open QD
inductive Plan where
  | kind (k : Nat)
  | turn (p : Plan)
  | upon (ps : List Plan)
  | beside (ps : List Plan)
  | grid (u v : Int) (p : Plan)

mutual
def Plan.size : Plan → Nat
  | .kind _ => 1
  | .turn p => 1 + p.size
  | .upon ps => 1 + Plan.sizes ps
  | .beside ps => 1 + Plan.sizes ps
  | .grid _ _ p => 1 + p.size
def Plan.sizes : List Plan → Nat
  | [] => 0
  | p :: ps => p.size + Plan.sizes ps
end
theorem Plan.size_pos (p : Plan) : 1 ≤ p.size := by cases p <;> unfold Plan.size <;> omega
/-- a plan for so many kinds, so many within one another -/
def Wf (many : Nat) : Nat → Plan → Prop
  | 0, _ => False
  | _ + 1, .kind k => k < many
  | n + 1, .turn p => Wf many n p
  | n + 1, .upon ps => 2 ≤ ps.length ∧ ps.length ≤ 8 ∧ ∀ p ∈ ps, Wf many n p
  | n + 1, .beside ps => 2 ≤ ps.length ∧ ps.length ≤ 8 ∧ ∀ p ∈ ps, Wf many n p
  | n + 1, .grid u v p => 1 ≤ u ∧ u ≤ 1000000 ∧ 1 ≤ v ∧ v ≤ 1000000 ∧ Wf many n p
theorem Wf.mono {many : Nat} : ∀ {n m : Nat} {p : Plan}, Wf many n p → n ≤ m → Wf many m p
  | 0, _, _, h, _ => h.elim
  | n + 1, 0, _, _, h => by omega
  | n + 1, m + 1, .kind k, h, _ => h
  | n + 1, m + 1, .turn p, h, hm => Wf.mono (n := n) (m := m) h (by omega)
  | n + 1, m + 1, .upon ps, h, hm => ⟨h.1, h.2.1, fun p hp => Wf.mono (n := n) (m := m) (h.2.2 p hp) (by omega)⟩
  | n + 1, m + 1, .beside ps, h, hm => ⟨h.1, h.2.1, fun p hp => Wf.mono (n := n) (m := m) (h.2.2 p hp) (by omega)⟩
  | n + 1, m + 1, .grid u v p, h, hm => ⟨h.1, h.2.1, h.2.2.1, h.2.2.2.1, Wf.mono (n := n) (m := m) h.2.2.2.2 (by omega)⟩
/-- the sum of numbers, from the left -/
def sumQ (xs : List (QD D)) : QD D := xs.foldl (· + ·) 0
theorem foldl_add (xs : List (QD D)) : ∀ a : QD D, xs.foldl (· + ·) a = a + sumQ xs := by
  induction xs with
  | nil => intro a; show a = a + 0; grind
  | cons x r ih =>
    intro a
    unfold sumQ
    rw [List.foldl_cons, List.foldl_cons, ih, ih (0 + x)]
    grind
theorem sumQ_nil : sumQ ([] : List (QD D)) = 0 := rfl
theorem sumQ_cons (x : QD D) (r : List (QD D)) : sumQ (x :: r) = x + sumQ r := by
  unfold sumQ
  rw [List.foldl_cons, foldl_add]
  unfold sumQ
  grind
theorem sumQ_append (a b : List (QD D)) : sumQ (a ++ b) = sumQ a + sumQ b := by
  induction a with
  | nil => rw [List.nil_append, sumQ_nil]; grind
  | cons x r ih => rw [List.cons_append, sumQ_cons, sumQ_cons, ih]; grind
theorem sumQ_take {xs : List (QD D)} {i : Nat} {x : QD D} (h : xs[i]? = some x) : sumQ (xs.take (i + 1)) = sumQ (xs.take i) + x := by
  have : xs.take (i + 1) = xs.take i ++ [x] := by rw [List.take_add_one, h]; rfl
  rw [this, sumQ_append, sumQ_cons, sumQ_nil]
  grind
theorem sumQ_pos {xs : List (QD D)} (h : ∀ x ∈ xs, 0 < x) : 0 ≤ sumQ xs ∧ (xs ≠ [] → 0 < sumQ xs) := by
  induction xs with
  | nil => exact ⟨by rw [sumQ_nil]; grind, fun h => absurd rfl h⟩
  | cons x r ih =>
    have h1 := h x (List.mem_cons_self)
    have h2 := (ih fun y hy => h y (List.mem_cons_of_mem _ hy)).1
    rw [sumQ_cons]
    exact ⟨by grind, fun _ => by grind⟩
theorem mem_take_of {α : Type} {xs : List α} {i : Nat} {x : α} (h : x ∈ xs.take i) : x ∈ xs := List.mem_of_mem_take h
theorem sumQ_mono {xs : List (QD D)} (h : ∀ x ∈ xs, 0 < x) {i j : Nat} (hij : i ≤ j) : sumQ (xs.take i) ≤ sumQ (xs.take j) := by
  have e : xs.take j = xs.take i ++ (xs.drop i).take (j - i) := by
    have : j = i + (j - i) := by omega
    rw [this, List.take_add, show i + (j - i) - i = j - i by omega]
  rw [e, sumQ_append]
  have := (sumQ_pos (xs := (xs.drop i).take (j - i)) fun x hx => h x (List.mem_of_mem_drop (List.mem_of_mem_take hx))).1
  grind

section
variable (ks : List (QD D))
mutual
/-- the shape that a plan makes of kinds -/
def shape : Plan → QD D
  | .kind k => ks.getD k 0
  | .turn p => (shape p)⁻¹
  | .upon ps => sumQ (shapes ps)
  | .beside ps => (sumQ (contraries ps))⁻¹
  | .grid u v p => shape p * ((v : QD D) / (u : QD D))
def shapes : List Plan → List (QD D)
  | [] => []
  | p :: ps => shape p :: shapes ps
def contraries : List Plan → List (QD D)
  | [] => []
  | p :: ps => (shape p)⁻¹ :: contraries ps
end
theorem shapes_eq (ps : List Plan) : shapes ks ps = ps.map (shape ks) := by
  induction ps with
  | nil => rfl
  | cons p r ih => unfold shapes; rw [ih]; rfl
theorem contraries_eq (ps : List Plan) : contraries ks ps = ps.map fun p => (shape ks p)⁻¹ := by
  induction ps with
  | nil => rfl
  | cons p r ih => unfold contraries; rw [ih]; rfl
end
/-- kinds: one to three numbers above nought, of few bits -/
structure KOk (ks : List (QD D)) : Prop where
  least : 1 ≤ ks.length
  most : ks.length ≤ 3
  pos : ∀ x ∈ ks, 0 < x
  sz : ∀ x ∈ ks, Sz 100 x
theorem getD_mem {α : Type} {xs : List α} {k : Nat} {d : α} (h : k < xs.length) : xs.getD k d ∈ xs := by
  rw [List.getD_eq_getElem?_getD, List.getElem?_eq_getElem h]
  exact List.getElem_mem h
theorem int_posQ {u : Int} (h : 1 ≤ u) : (0 : QD D) < (u : QD D) := int_pos.mpr (by omega)
theorem shape_pos {ks : List (QD D)} (hk : KOk ks) : ∀ {n : Nat} {p : Plan}, Wf ks.length n p → 0 < shape ks p
  | 0, _, h => h.elim
  | n + 1, .kind k, h => by
    unfold shape
    exact hk.pos _ (getD_mem h)
  | n + 1, .turn p, h => by
    unfold shape
    exact inv_pos (shape_pos hk (n := n) h)
  | n + 1, .upon ps, h => by
    unfold shape
    rw [shapes_eq]
    refine (sumQ_pos fun x hx => ?_).2 fun e => ?_
    · obtain ⟨p, hp, rfl⟩ := List.mem_map.mp hx
      exact shape_pos hk (n := n) (h.2.2 p hp)
    · have := h.1
      rw [List.map_eq_nil_iff] at e
      rw [e] at this
      simp at this
  | n + 1, .beside ps, h => by
    unfold shape
    rw [contraries_eq]
    refine inv_pos ((sumQ_pos fun x hx => ?_).2 fun e => ?_)
    · obtain ⟨p, hp, rfl⟩ := List.mem_map.mp hx
      exact inv_pos (shape_pos hk (n := n) (h.2.2 p hp))
    · have := h.1
      rw [List.map_eq_nil_iff] at e
      rw [e] at this
      simp at this
  | n + 1, .grid u v p, h => by
    unfold shape
    exact mul_pos (shape_pos hk (n := n) h.2.2.2.2) (div_pos (int_posQ h.2.2.1) (int_posQ h.1))
theorem pos_ne {x : QD D} (h : 0 < x) : x ≠ 0 := by grind
theorem Sz.sum {xs : List (QD D)} {c : Nat} (h : ∀ x ∈ xs, Sz c x) : Sz (xs.length * (c + 1)) (sumQ xs) := by
  induction xs with
  | nil => rw [sumQ_nil]; exact Sz.zero.mono (by simp)
  | cons x r ih =>
    rw [sumQ_cons]
    refine ((h x List.mem_cons_self).add (ih fun y hy => h y (List.mem_cons_of_mem _ hy))).mono ?_
    rw [List.length_cons]
    grind
theorem Sz.sums {ps : List Plan} {f : Plan → QD D} (h : ∀ p ∈ ps, Sz (200 * p.size) (f p)) : Sz (200 * Plan.sizes ps + ps.length) (sumQ (ps.map f)) := by
  induction ps with
  | nil => rw [List.map_nil, sumQ_nil]; exact Sz.zero.mono (by simp)
  | cons p r ih =>
    rw [List.map_cons, sumQ_cons]
    refine ((h p List.mem_cons_self).add (ih fun y hy => h y (List.mem_cons_of_mem _ hy))).mono ?_
    rw [List.length_cons, Plan.sizes]
    omega
theorem int_sz {u : Int} (h1 : 1 ≤ u) (h2 : u ≤ 1000000) : Sz 20 ((u : Int) : QD D) := by
  refine Sz.int ?_
  have : (2 : Nat) ^ 20 = 1048576 := by decide
  omega
theorem shape_sz {ks : List (QD D)} (hk : KOk ks) : ∀ {n : Nat} {p : Plan}, Wf ks.length n p → Sz (200 * p.size) (shape ks p)
  | 0, _, h => h.elim
  | n + 1, .kind k, h => by
    unfold shape
    refine (hk.sz _ (getD_mem h)).mono ?_
    unfold Plan.size; omega
  | n + 1, .turn p, h => by
    unfold shape
    refine ((shape_sz hk (n := n) h).inv (pos_ne (shape_pos hk (n := n) h))).mono ?_
    rw [Plan.size]; omega
  | n + 1, .upon ps, h => by
    unfold shape
    rw [shapes_eq]
    refine (Sz.sums fun p hp => shape_sz hk (n := n) (h.2.2 p hp)).mono ?_
    have := h.2.1
    rw [Plan.size]; omega
  | n + 1, .beside ps, h => by
    have hp := shape_pos hk (n := n + 1) (p := .beside ps) h
    unfold shape at hp ⊢
    rw [contraries_eq] at hp ⊢
    have hne : sumQ (ps.map fun p => (shape ks p)⁻¹) ≠ 0 := fun e => by
      rw [e] at hp
      have := inv_zero' (D := D)
      grind
    refine ((Sz.sums (f := fun p => (shape ks p)⁻¹) fun p hp => (shape_sz hk (n := n) (h.2.2 p hp)).inv (pos_ne (shape_pos hk (n := n) (h.2.2 p hp)))).inv hne).mono ?_
    have := h.2.1
    rw [Plan.size]; omega
  | n + 1, .grid u v p, h => by
    unfold shape
    refine ((shape_sz hk (n := n) h.2.2.2.2).mul ((int_sz h.2.2.1 h.2.2.2.1).div (int_sz h.1 h.2.1) (pos_ne (int_posQ h.1)))).mono ?_
    rw [Plan.size]; omega

/-! ### tiles -/
structure Tile (D : Root) where
  x : QD D
  y : QD D
  w : QD D
  h : QD D
  k : Nat
  t : Bool
def moved (f l b : QD D) (t : Tile D) : Tile D := ⟨t.x * f + l, t.y * f + b, t.w * f, t.h * f, t.k, t.t⟩
def quarter (s : QD D) (t : Tile D) : Tile D := ⟨(s + -(t.y + t.h)) * s⁻¹, t.x * s⁻¹, t.h * s⁻¹, t.w * s⁻¹, t.k, !t.t⟩
/-- a part's share of the width -/
def share (ks : List (QD D)) (ps : List Plan) (p : Plan) : QD D := shape ks (.beside ps) * (shape ks p)⁻¹
/-- a tile by going down -/
inductive Down (ks : List (QD D)) : Plan → Tile D → Prop where
  | kind {k : Nat} : Down ks (.kind k) ⟨0, 0, 1, ks.getD k 0, k, false⟩
  | turn {p : Plan} {t : Tile D} : Down ks p t → Down ks (.turn p) (quarter (shape ks p) t)
  | grid {u v i j : Int} {p : Plan} {t : Tile D} : 0 ≤ i → i < u → 0 ≤ j → j < v → Down ks p t →
      Down ks (.grid u v p) (moved ((1 : QD D) / (u : QD D)) ((i : QD D) / (u : QD D)) (shape ks p * ((j : QD D) / (u : QD D))) t)
  | upon {ps : List Plan} {i : Nat} {p : Plan} {t : Tile D} : ps[i]? = some p → Down ks p t → Down ks (.upon ps) (moved 1 0 (sumQ ((ps.map (shape ks)).take i)) t)
  | beside {ps : List Plan} {i : Nat} {p : Plan} {t : Tile D} : ps[i]? = some p → Down ks p t → Down ks (.beside ps) (moved (share ks ps p) (sumQ ((ps.map (share ks ps)).take i)) 0 t)
/-- where a tile lies -/
structure Lies (s : QD D) (t : Tile D) : Prop where
  x0 : 0 ≤ t.x
  y0 : 0 ≤ t.y
  w0 : 0 < t.w
  h0 : 0 < t.h
  x1 : t.x + t.w ≤ 1
  y1 : t.y + t.h ≤ s
theorem le_mul {x y c : QD D} (hc : 0 < c) (h : x ≤ y) : x * c ≤ y * c := mul_le hc h
theorem mul_nn {x c : QD D} (hc : 0 < c) (h : 0 ≤ x) : 0 ≤ x * c := by
  have := mul_le hc h; grind
theorem getElem?_map' {α β : Type} {xs : List α} {f : α → β} {i : Nat} {x : α} (h : xs[i]? = some x) : (xs.map f)[i]? = some (f x) := by
  rw [List.getElem?_map, h]; rfl
theorem share_pos {ks : List (QD D)} (hk : KOk ks) {n : Nat} {ps : List Plan} (h : Wf ks.length (n + 1) (.beside ps)) {p : Plan} (hp : p ∈ ps) : 0 < share ks ps p :=
  mul_pos (shape_pos hk h) (inv_pos (shape_pos hk (n := n) (h.2.2 p hp)))
theorem sumQ_mul (c : QD D) (xs : List (QD D)) : sumQ (xs.map fun x => c * x) = c * sumQ xs := by
  induction xs with
  | nil => rw [List.map_nil, sumQ_nil]; grind
  | cons x r ih => rw [List.map_cons, sumQ_cons, sumQ_cons, ih]; grind
theorem shares_sum {ks : List (QD D)} (hk : KOk ks) {n : Nat} {ps : List Plan} (h : Wf ks.length (n + 1) (.beside ps)) : sumQ (ps.map (share ks ps)) = 1 := by
  have hp := shape_pos hk h
  have e1 : ps.map (share ks ps) = (ps.map fun p => (shape ks p)⁻¹).map fun x => shape ks (.beside ps) * x := by
    rw [List.map_map]; rfl
  rw [e1, sumQ_mul]
  have e2 : shape ks (.beside ps) = (sumQ (ps.map fun p => (shape ks p)⁻¹))⁻¹ := by
    rw [shape, contraries_eq]
  rw [e2] at hp ⊢
  have hne : sumQ (ps.map fun p => (shape ks p)⁻¹) ≠ 0 := fun e => by
    rw [e] at hp
    have := inv_zero' (D := D)
    grind
  grind
theorem frac_le {i u : Int} (h1 : i < u) : (i : QD D) + 1 ≤ (u : QD D) := by
  have := (int_le (D := D)).mpr (show i + 1 ≤ u by omega)
  rw [int_add, int_one] at this
  exact this
theorem Down.lies {ks : List (QD D)} (hk : KOk ks) {n : Nat} : ∀ {p : Plan} {t : Tile D}, Wf ks.length n p → Down ks p t → Lies (shape ks p) t := by
  induction n with
  | zero => intro p t h _; exact h.elim
  | succ n ih =>
  intro p t h d
  cases d with
  | @kind k =>
    have hp : 0 < ks.getD k 0 := hk.pos _ (getD_mem h)
    have e : shape ks (.kind k) = ks.getD k 0 := by rw [shape]
    exact ⟨by grind, by grind, by grind, hp, by grind, by rw [e]; grind⟩
  | @turn p t d =>
    have l := ih h d
    have hp := shape_pos hk (n := n) (p := p) h
    have hi := inv_pos hp
    have e : shape ks (.turn p) = (shape ks p)⁻¹ := by rw [shape]
    have one : shape ks p * (shape ks p)⁻¹ = 1 := by have := pos_ne hp; grind
    rw [e]
    obtain ⟨a1, a2, a3, a4, a5, a6⟩ := l
    refine ⟨?_, ?_, ?_, ?_, ?_, ?_⟩ <;> simp only [quarter]
    · exact mul_nn hi (by grind)
    · exact mul_nn hi a1
    · exact mul_pos a4 hi
    · exact mul_pos a3 hi
    · have := mul_le hi (show shape ks p + -(t.y + t.h) + t.h ≤ shape ks p by grind)
      grind
    · have := mul_le hi a5
      grind
  | @grid u v i j p t hi0 hi1 hj0 hj1 d =>
    have l := ih h.2.2.2.2 d
    have hp := shape_pos hk (n := n) (p := p) h.2.2.2.2
    have hu := int_posQ (D := D) h.1
    have hui := inv_pos hu
    have e : shape ks (.grid u v p) = shape ks p * ((v : QD D) / (u : QD D)) := by rw [shape]
    have one : (u : QD D) * (u : QD D)⁻¹ = 1 := by have := pos_ne hu; grind
    have ei : ∀ z : QD D, z / (u : QD D) = z * (u : QD D)⁻¹ := fun z => rfl
    have f1 := frac_le (D := D) hi1
    have f2 := frac_le (D := D) hj1
    have i0 : (0 : QD D) ≤ (i : QD D) := by have := (int_le (D := D)).mpr hi0; rw [int_zero] at this; exact this
    have j0 : (0 : QD D) ≤ (j : QD D) := by have := (int_le (D := D)).mpr hj0; rw [int_zero] at this; exact this
    rw [e]
    obtain ⟨a1, a2, a3, a4, a5, a6⟩ := l
    refine ⟨?_, ?_, ?_, ?_, ?_, ?_⟩ <;> simp only [moved, ei]
    · have := mul_nn hui a1; have := mul_nn hui i0; grind
    · have := mul_nn hui a2; have := mul_nn hui (mul_nn hp j0); grind
    · have := mul_pos a3 hui; grind
    · have := mul_pos a4 hui; grind
    · have := mul_le hui (show t.x + (i : QD D) + t.w ≤ (u : QD D) by grind); grind
    · have h1 := mul_le hp f2
      have := mul_le hui (show t.y + (j : QD D) * shape ks p + t.h ≤ (v : QD D) * shape ks p by grind); grind
  | @upon ps i p t hi d =>
    have hpm : p ∈ ps := List.mem_of_getElem? hi
    have l := ih (h.2.2 p hpm) d
    have pos : ∀ x ∈ ps.map (shape ks), 0 < x := fun x hx => by
      obtain ⟨q, hq, rfl⟩ := List.mem_map.mp hx
      exact shape_pos hk (n := n) (h.2.2 q hq)
    have e : shape ks (.upon ps) = sumQ (ps.map (shape ks)) := by rw [shape, shapes_eq]
    have e1 := sumQ_take (getElem?_map' (f := shape ks) hi)
    have m1 := sumQ_mono pos (show i + 1 ≤ ps.length by have := (List.getElem?_eq_some_iff.mp hi).1; omega)
    rw [show (ps.map (shape ks)).take ps.length = ps.map (shape ks) from List.take_of_length_le (by rw [List.length_map]; exact Nat.le_refl _), e1] at m1
    have z1 := (sumQ_pos (xs := (ps.map (shape ks)).take i) fun x hx => pos x (List.mem_of_mem_take hx)).1
    rw [e]
    obtain ⟨a1, a2, a3, a4, a5, a6⟩ := l
    clear pos e1 e
    generalize sumQ ((ps.map (shape ks)).take i) = S at *
    generalize sumQ (ps.map (shape ks)) = S2 at *
    refine ⟨?_, ?_, ?_, ?_, ?_, ?_⟩ <;> simp only [moved] <;> grind
  | @beside ps i p t hi d =>
    have hpm : p ∈ ps := List.mem_of_getElem? hi
    have l := ih (h.2.2 p hpm) d
    have sp := share_pos hk (n := n) h hpm
    have hp := shape_pos hk (n := n) (h.2.2 p hpm)
    have pos : ∀ x ∈ ps.map (share ks ps), 0 < x := fun x hx => by
      obtain ⟨q, hq, rfl⟩ := List.mem_map.mp hx
      exact share_pos hk (n := n) h hq
    have e1 := sumQ_take (getElem?_map' (f := share ks ps) hi)
    have m1 := sumQ_mono pos (show i + 1 ≤ ps.length by have := (List.getElem?_eq_some_iff.mp hi).1; omega)
    rw [show (ps.map (share ks ps)).take ps.length = ps.map (share ks ps) from List.take_of_length_le (by rw [List.length_map]; exact Nat.le_refl _), shares_sum hk h, e1] at m1
    have z1 := (sumQ_pos (xs := (ps.map (share ks ps)).take i) fun x hx => pos x (List.mem_of_mem_take hx)).1
    have e2 : shape ks p * share ks ps p = shape ks (.beside ps) := by
      unfold share; have := pos_ne hp; grind
    obtain ⟨a1, a2, a3, a4, a5, a6⟩ := l
    clear pos e1
    generalize sumQ ((ps.map (share ks ps)).take i) = S at *
    refine ⟨?_, ?_, ?_, ?_, ?_, ?_⟩ <;> simp only [moved]
    · have := mul_nn sp a1; grind
    · have := mul_nn sp a2; grind
    · have := mul_pos a3 sp; grind
    · have := mul_pos a4 sp; grind
    · have := mul_le sp a5; grind
    · have := mul_le sp a6; grind
end MF

namespace MF
variable {D : Root}
open QD
/-! ### spots and tiles -/
/-- p in a .. b, the lower end counted by the sign 1, the upper by -1 -/
def Sd (s : Int) (a p b : QD D) : Prop := (s = 1 ∧ a ≤ p ∧ p < b) ∨ (s = -1 ∧ a < p ∧ p ≤ b)
structure Inside (t : Tile D) (s1 s2 : Int) (px py : QD D) : Prop where
  x : Sd s1 t.x px (t.x + t.w)
  y : Sd s2 t.y py (t.y + t.h)
theorem Sd.scale {s : Int} {a p b c : QD D} (hc : 0 < c) (h : Sd s a p b) : Sd s (a * c) (p * c) (b * c) := by
  rcases h with ⟨h, h1, h2⟩ | ⟨h, h1, h2⟩
  · exact .inl ⟨h, mul_le hc h1, mul_lt hc h2⟩
  · exact .inr ⟨h, mul_lt hc h1, mul_le hc h2⟩
theorem Sd.shift {s : Int} {a p b : QD D} (c : QD D) (h : Sd s a p b) : Sd s (a + c) (p + c) (b + c) := by
  rcases h with ⟨h, h1, h2⟩ | ⟨h, h1, h2⟩
  · exact .inl ⟨h, by grind, by grind⟩
  · exact .inr ⟨h, by grind, by grind⟩
theorem Sd.flip {s : Int} {a p b : QD D} (h : Sd s a p b) : Sd (0 - s) (-b) (-p) (-a) := by
  rcases h with ⟨h, h1, h2⟩ | ⟨h, h1, h2⟩
  · exact .inr ⟨by omega, by grind, by grind⟩
  · exact .inl ⟨by omega, by grind, by grind⟩
theorem Sd.eq {s : Int} {a p b a' p' b' : QD D} (h : Sd s a p b) (e1 : a = a') (e2 : p = p') (e3 : b = b') : Sd s a' p' b' := by
  subst e1; subst e2; subst e3; exact h
theorem Sd.wide {s : Int} {a p b a' b' : QD D} (h : Sd s a p b) (h1 : a' ≤ a) (h2 : b ≤ b') : Sd s a' p b' := by
  rcases h with ⟨h, k1, k2⟩ | ⟨h, k1, k2⟩
  · exact .inl ⟨h, by grind, by grind⟩
  · exact .inr ⟨h, by grind, by grind⟩
theorem Sd.sign {s : Int} {a p b : QD D} (h : Sd s a p b) : s = 1 ∨ s = -1 := by
  rcases h with ⟨h, _⟩ | ⟨h, _⟩
  · exact .inl h
  · exact .inr h
theorem inside_turn {t : Tile D} {s1 s2 : Int} {px py s : QD D} (hs : 0 < s) (h : Inside (quarter s t) s1 s2 px py) : Inside t s2 (0 - s1) (py * s) (s - px * s) := by
  have hne := pos_ne hs
  obtain ⟨hx, hy⟩ := h
  refine ⟨?_, ?_⟩
  · refine (hy.scale hs).eq ?_ rfl ?_ <;> (try simp only [quarter]) <;> grind
  · refine ((hx.scale hs).flip.shift s).eq ?_ ?_ ?_ <;> (try simp only [quarter]) <;> grind
theorem turn_tile {s : QD D} (t : Tile D) : (quarter s t).x = (s - t.y - t.h) / s ∧ (quarter s t).y = t.x / s ∧ (quarter s t).w = t.h / s ∧ (quarter s t).h = t.w / s := by
  refine ⟨?_, rfl, rfl, rfl⟩
  show (s + -(t.y + t.h)) * s⁻¹ = (s - t.y - t.h) * s⁻¹
  grind
theorem inside_grid {t : Tile D} {s1 s2 : Int} {px py S : QD D} {u i j : Int} (hu : 1 ≤ u) (hS : 0 < S) (l : Lies S t) (h : Inside (moved ((1 : QD D) / (u : QD D)) ((i : QD D) / (u : QD D)) (S * ((j : QD D) / (u : QD D))) t) s1 s2 px py) :
    Sd s1 (i : QD D) (px * (u : QD D)) ((i : QD D) + 1) ∧ Sd s2 (j : QD D) (py * (u : QD D) / S) ((j : QD D) + 1) ∧ Inside t s1 s2 (px * (u : QD D) - (i : QD D)) (py * (u : QD D) - (j : QD D) * S) := by
  have hq := int_posQ (D := D) hu
  have hne := pos_ne hq
  have hSi := inv_pos hS
  have hSn := pos_ne hS
  obtain ⟨hx, hy⟩ := h
  obtain ⟨a1, a2, a3, a4, a5, a6⟩ := l
  have kx : Sd s1 (t.x + (i : QD D)) (px * (u : QD D)) (t.x + t.w + (i : QD D)) := by
    refine (hx.scale hq).eq ?_ rfl ?_ <;> (try simp only [moved]) <;> grind
  have ky : Sd s2 (t.y + (j : QD D) * S) (py * (u : QD D)) (t.y + t.h + (j : QD D) * S) := by
    refine (hy.scale hq).eq ?_ rfl ?_ <;> (try simp only [moved]) <;> grind
  refine ⟨kx.wide (by grind) (by grind), ?_, ?_, ?_⟩
  · have k2 : Sd s2 ((j : QD D) * S) (py * (u : QD D)) (S + (j : QD D) * S) := ky.wide (by grind) (by grind)
    refine (k2.scale hSi).eq ?_ rfl ?_ <;> grind
  · refine (kx.shift (-(i : QD D))).eq ?_ ?_ ?_ <;> grind
  · refine (ky.shift (-((j : QD D) * S))).eq ?_ ?_ ?_ <;> grind
theorem inside_upon {t : Tile D} {s1 s2 : Int} {px py S L : QD D} (l : Lies S t) (h : Inside (moved 1 0 L t) s1 s2 px py) : Sd s2 L py (L + S) ∧ Inside t s1 s2 px (py - L) := by
  obtain ⟨hx, hy⟩ := h
  obtain ⟨a1, a2, a3, a4, a5, a6⟩ := l
  have ky : Sd s2 (t.y + L) py (t.y + t.h + L) := by
    refine hy.eq ?_ rfl ?_ <;> (try simp only [moved]) <;> grind
  refine ⟨ky.wide (by grind) (by grind), ?_, ?_⟩
  · refine hx.eq ?_ rfl ?_ <;> (try simp only [moved]) <;> grind
  · refine (ky.shift (-L)).eq ?_ ?_ ?_ <;> grind
theorem inside_beside {t : Tile D} {s1 s2 : Int} {px py S f L : QD D} (hf : 0 < f) (l : Lies S t) (h : Inside (moved f L 0 t) s1 s2 px py) : Sd s1 L px (L + f) ∧ Inside t s1 s2 ((px - L) / f) (py / f) := by
  have hfi := inv_pos hf
  have hne := pos_ne hf
  obtain ⟨hx, hy⟩ := h
  obtain ⟨a1, a2, a3, a4, a5, a6⟩ := l
  have k1 := mul_nn hf a1
  have k2 := mul_le hf a5
  refine ⟨hx.wide (by simp only [moved]; grind) (by simp only [moved]; grind), ?_, ?_⟩
  · refine ((hx.shift (-L)).scale hfi).eq ?_ ?_ ?_ <;> (try simp only [moved]) <;> grind
  · refine (hy.scale hfi).eq ?_ ?_ ?_ <;> (try simp only [moved]) <;> grind
/-- which whole number -/
theorem sd_floor {s n m : Int} {p : QD D} (h : Sd s (n : QD D) p ((n : QD D) + 1)) : (s = 1 → (m : QD D) ≤ p → p < (m : QD D) + 1 → m = n) ∧ (s = -1 → (m : QD D) ≤ -p → -p < (m : QD D) + 1 → -1 - m = n) := by
  rcases h with ⟨h, h1, h2⟩ | ⟨h, h1, h2⟩
  · exact ⟨fun _ k1 k2 => floor_one k1 k2 h1 h2, fun e => by omega⟩
  · refine ⟨fun e => by omega, fun _ k1 k2 => ?_⟩
    have e : m = -1 - n := floor_one (x := -p) k1 k2 (by rw [int_sub, int_neg, int_one]; grind) (by rw [int_sub, int_neg, int_one]; grind)
    omega
/-! ### which part -/
theorem part_here {xs : List (QD D)} (pos : ∀ x ∈ xs, 0 < x) {i : Nat} {s : Int} {p : QD D} (h : Sd s (sumQ (xs.take i)) p (sumQ (xs.take (i + 1)))) {j : Nat} :
    (j < i → ¬ (p < sumQ (xs.take (j + 1)) ∨ (sumQ (xs.take (j + 1)) = p ∧ s < 0))) ∧ (j = i → (p < sumQ (xs.take (j + 1)) ∨ (sumQ (xs.take (j + 1)) = p ∧ s < 0))) := by
  constructor
  · intro hj
    have := sumQ_mono pos (show j + 1 ≤ i by omega)
    rcases h with ⟨h, h1, h2⟩ | ⟨h, h1, h2⟩
    · rintro (z | ⟨z, z'⟩)
      · grind
      · omega
    · rintro (z | ⟨z, z'⟩) <;> grind
  · intro hj
    subst hj
    rcases h with ⟨h, h1, h2⟩ | ⟨h, h1, h2⟩
    · exact .inl h2
    · by_cases e : sumQ (xs.take (j + 1)) = p
      · exact .inr ⟨e, by omega⟩
      · left; grind

/-! ### a tile's sizes: its sides over one number -/
def TSz (n : Nat) (t : Tile D) : Prop := ∃ u v p1 q1 p2 q2 p3 q3 p4 q4 : Int, (zi u v : QD D) ≠ 0 ∧ wt u v ≤ 2 ^ n ∧ (t.x * zi u v = zi p1 q1 ∧ wt p1 q1 ≤ 2 ^ n) ∧ (t.y * zi u v = zi p2 q2 ∧ wt p2 q2 ≤ 2 ^ n) ∧ (t.w * zi u v = zi p3 q3 ∧ wt p3 q3 ≤ 2 ^ n) ∧ (t.h * zi u v = zi p4 q4 ∧ wt p4 q4 ≤ 2 ^ n)
theorem TSz.all {n : Nat} {t : Tile D} (h : TSz n t) : Sz n t.x ∧ Sz n t.y ∧ Sz n t.w ∧ Sz n t.h := by
  obtain ⟨u, v, p1, q1, p2, q2, p3, q3, p4, q4, h0, hw, ⟨a1, b1⟩, ⟨a2, b2⟩, ⟨a3, b3⟩, ⟨a4, b4⟩⟩ := h
  exact ⟨⟨p1, q1, u, v, h0, a1, b1, hw⟩, ⟨p2, q2, u, v, h0, a2, b2, hw⟩, ⟨p3, q3, u, v, h0, a3, b3, hw⟩, ⟨p4, q4, u, v, h0, a4, b4, hw⟩⟩
theorem TSz.mono {m n : Nat} {t : Tile D} (h : TSz m t) (hm : m ≤ n) : TSz n t := by
  obtain ⟨u, v, p1, q1, p2, q2, p3, q3, p4, q4, h0, hw, ⟨a1, b1⟩, ⟨a2, b2⟩, ⟨a3, b3⟩, ⟨a4, b4⟩⟩ := h
  have := Nat.pow_le_pow_right (show 0 < 2 by decide) hm
  exact ⟨u, v, p1, q1, p2, q2, p3, q3, p4, q4, h0, Nat.le_trans hw this, ⟨a1, Nat.le_trans b1 this⟩, ⟨a2, Nat.le_trans b2 this⟩, ⟨a3, Nat.le_trans b3 this⟩, ⟨a4, Nat.le_trans b4 this⟩⟩
/-- whole numbers of the field of weight at most 2 ^ n -/
def Zi (n : Nat) (z : QD D) : Prop := ∃ p q : Int, z = zi p q ∧ wt p q ≤ 2 ^ n
theorem Zi.mul {m n : Nat} {x y : QD D} (hx : Zi m x) (hy : Zi n y) : Zi (m + n) (x * y) := by
  obtain ⟨p, q, rfl, h⟩ := hx
  obtain ⟨u, v, rfl, h'⟩ := hy
  exact ⟨_, _, zi_mul p q u v, Nat.le_trans (wt_mul (D := D) p q u v) (pow_mul h h')⟩
theorem Zi.add {n : Nat} {x y : QD D} (hx : Zi n x) (hy : Zi n y) : Zi (n + 1) (x + y) := by
  obtain ⟨p, q, rfl, h⟩ := hx
  obtain ⟨u, v, rfl, h'⟩ := hy
  refine ⟨_, _, zi_add p q u v, Nat.le_trans (wt_add ..) ?_⟩
  rw [Nat.pow_succ]; omega
theorem Zi.neg {n : Nat} {x : QD D} (hx : Zi n x) : Zi n (-x) := by
  obtain ⟨p, q, rfl, h⟩ := hx
  exact ⟨_, _, zi_neg p q, by rw [wt_neg]; exact h⟩
theorem Zi.mono {m n : Nat} {x : QD D} (hx : Zi m x) (h : m ≤ n) : Zi n x := by
  obtain ⟨p, q, e, k⟩ := hx
  exact ⟨p, q, e, Nat.le_trans k (Nat.pow_le_pow_right (by decide) h)⟩
theorem TSz.intro {n : Nat} {t : Tile D} {q : QD D} (h0 : q ≠ 0) (hq : Zi n q) (h1 : Zi n (t.x * q)) (h2 : Zi n (t.y * q)) (h3 : Zi n (t.w * q)) (h4 : Zi n (t.h * q)) : TSz n t := by
  obtain ⟨u, v, rfl, k⟩ := hq
  obtain ⟨p1, q1, a1, b1⟩ := h1
  obtain ⟨p2, q2, a2, b2⟩ := h2
  obtain ⟨p3, q3, a3, b3⟩ := h3
  obtain ⟨p4, q4, a4, b4⟩ := h4
  exact ⟨u, v, p1, q1, p2, q2, p3, q3, p4, q4, h0, k, ⟨a1, b1⟩, ⟨a2, b2⟩, ⟨a3, b3⟩, ⟨a4, b4⟩⟩
theorem TSz.elim {n : Nat} {t : Tile D} (h : TSz n t) : ∃ q : QD D, q ≠ 0 ∧ Zi n q ∧ Zi n (t.x * q) ∧ Zi n (t.y * q) ∧ Zi n (t.w * q) ∧ Zi n (t.h * q) := by
  obtain ⟨u, v, p1, q1, p2, q2, p3, q3, p4, q4, h0, hw, ⟨a1, b1⟩, ⟨a2, b2⟩, ⟨a3, b3⟩, ⟨a4, b4⟩⟩ := h
  exact ⟨zi u v, h0, ⟨u, v, rfl, hw⟩, ⟨p1, q1, a1, b1⟩, ⟨p2, q2, a2, b2⟩, ⟨p3, q3, a3, b3⟩, ⟨p4, q4, a4, b4⟩⟩
theorem QD.Sz.parts {n : Nat} {x : QD D} (h : Sz n x) : ∃ q : QD D, q ≠ 0 ∧ Zi n q ∧ Zi n (x * q) := by
  obtain ⟨p, q, u, v, h1, h2, h3, h4⟩ := h
  exact ⟨zi u v, h1, ⟨u, v, rfl, h4⟩, ⟨p, q, h2, h3⟩⟩
theorem Zi.eq {n : Nat} {x y : QD D} (h : Zi n x) (e : x = y) : Zi n y := e ▸ h
theorem TSz.moved {n a b c : Nat} {t : Tile D} {f l g : QD D} (h : TSz n t) (hf : Sz a f) (hl : Sz b l) (hg : Sz c g) : TSz (n + a + b + c + 1) (moved f l g t) := by
  obtain ⟨q, q0, hq, hx, hy, hw, hh⟩ := h.elim
  obtain ⟨r, r0, hr, hfr⟩ := hf.parts
  obtain ⟨s, s0, hs, hls⟩ := hl.parts
  obtain ⟨z, z0, hz, hgz⟩ := hg.parts
  refine TSz.intro (q := q * r * s * z) (mul_ne (mul_ne (mul_ne q0 r0) s0) z0) ((((hq.mul hr).mul hs).mul hz).mono (by omega)) ?_ ?_ ?_ ?_
  · have h1 := (((hx.mul hfr).mul hs).mul hz).add (((hq.mul hr).mul hls).mul hz)
    exact (h1.eq (by simp only [MF.moved]; grind)).mono (by omega)
  · have h1 := (((hy.mul hfr).mul hs).mul hz).add (((hq.mul hr).mul hs).mul hgz)
    exact (h1.eq (by simp only [MF.moved]; grind)).mono (by omega)
  · exact ((((hw.mul hfr).mul hs).mul hz).eq (by simp only [MF.moved]; grind)).mono (by omega)
  · exact ((((hh.mul hfr).mul hs).mul hz).eq (by simp only [MF.moved]; grind)).mono (by omega)
theorem TSz.quarter {n a : Nat} {t : Tile D} {s : QD D} (h : TSz n t) (hs : Sz a s) (s0 : s ≠ 0) : TSz (n + a + 2) (quarter s t) := by
  obtain ⟨q, q0, hq, hx, hy, hw, hh⟩ := h.elim
  obtain ⟨r, r0, hr, hsr⟩ := hs.parts
  refine TSz.intro (q := q * (s * r)) (mul_ne q0 (mul_ne s0 r0)) ((hq.mul hsr).mono (by omega)) ?_ ?_ ?_ ?_
  · have h1 := ((hq.mul hsr).mono (show n + a ≤ n + a + 1 by omega)).add (((hy.mul hr).add (hh.mul hr)).neg)
    exact (h1.eq (by simp only [MF.quarter]; grind)).mono (by omega)
  · exact ((hx.mul hr).eq (by simp only [MF.quarter]; grind)).mono (by omega)
  · exact ((hh.mul hr).eq (by simp only [MF.quarter]; grind)).mono (by omega)
  · exact ((hw.mul hr).eq (by simp only [MF.quarter]; grind)).mono (by omega)
theorem sizes_take (ps : List Plan) (i : Nat) : Plan.sizes (ps.take i) ≤ Plan.sizes ps := by
  induction ps generalizing i with
  | nil => simp
  | cons p r ih =>
    cases i with
    | zero => rw [List.take_zero, Plan.sizes]; omega
    | succ i => rw [List.take_succ_cons, Plan.sizes, Plan.sizes]; have := ih i; omega
theorem size_mem {ps : List Plan} {p : Plan} (h : p ∈ ps) : p.size ≤ Plan.sizes ps := by
  induction ps with
  | nil => cases h
  | cons q r ih =>
    rw [Plan.sizes]
    rcases List.mem_cons.mp h with e | h
    · subst e; omega
    · have := ih h; omega
theorem sz_shapes {ks : List (QD D)} (hk : KOk ks) {n : Nat} {ps : List Plan} (h : ∀ p ∈ ps, Wf ks.length n p) (h60 : Plan.sizes ps ≤ 60) (h8 : ps.length ≤ 8) (i : Nat) : Sz 12100 (sumQ ((ps.map (shape ks)).take i)) := by
  rw [← List.map_take]
  refine (Sz.sums fun p hp => shape_sz hk (n := n) (h p (List.mem_of_mem_take hp))).mono ?_
  have := sizes_take ps i
  have : (ps.take i).length ≤ 8 := by rw [List.length_take]; omega
  omega
theorem sz_share {ks : List (QD D)} (hk : KOk ks) {n : Nat} {ps : List Plan} (h : Wf ks.length (n + 1) (.beside ps)) (h60 : Plan.size (.beside ps) ≤ 60) {p : Plan} (hp : p ∈ ps) : Sz 24000 (share ks ps p) := by
  have h1 := shape_sz hk h
  have h2 := (shape_sz hk (n := n) (h.2.2 p hp)).inv (pos_ne (shape_pos hk (n := n) (h.2.2 p hp)))
  have := size_mem hp
  rw [Plan.size] at h60
  refine (h1.mul h2).mono ?_
  rw [Plan.size]
  omega
theorem sz_lefts {ks : List (QD D)} (hk : KOk ks) {n : Nat} {ps : List Plan} (h : Wf ks.length (n + 1) (.beside ps)) (h60 : Plan.size (.beside ps) ≤ 60) (i : Nat) : Sz 24100 (sumQ ((ps.map (share ks ps)).take i)) := by
  have e1 : (ps.map (share ks ps)).take i = ((ps.take i).map fun p => (shape ks p)⁻¹).map fun x => shape ks (.beside ps) * x := by
    rw [List.map_map, ← List.map_take]; rfl
  rw [e1, sumQ_mul]
  have h1 := shape_sz hk h
  have h2 : Sz (200 * Plan.sizes (ps.take i) + (ps.take i).length) (sumQ ((ps.take i).map fun p => (shape ks p)⁻¹)) := Sz.sums fun p hp =>
    (shape_sz hk (n := n) (h.2.2 p (List.mem_of_mem_take hp))).inv (pos_ne (shape_pos hk (n := n) (h.2.2 p (List.mem_of_mem_take hp))))
  refine (h1.mul h2).mono ?_
  have := sizes_take ps i
  have : (ps.take i).length ≤ 8 := by rw [List.length_take]; have := h.2.1; omega
  rw [Plan.size] at h60 ⊢
  omega
theorem Down.sz {ks : List (QD D)} (hk : KOk ks) {n : Nat} : ∀ {p : Plan} {t : Tile D}, Wf ks.length n p → p.size ≤ 60 → Down ks p t → TSz (50000 * n) t := by
  induction n with
  | zero => intro p t h _ _; exact h.elim
  | succ n ih =>
  intro p t h hz d
  cases d with
  | @kind k =>
    obtain ⟨q, q0, hq, hx⟩ := (hk.sz _ (getD_mem (d := 0) h)).parts
    refine TSz.intro (q := q) q0 (hq.mono (by omega)) ?_ ?_ ?_ ?_
    · exact (Zi.mono ⟨0, 0, by unfold zi; apply ext' <;> simp <;> grind, by decide⟩ (show 0 ≤ 50000 * (n + 1) by omega))
    · exact (Zi.mono ⟨0, 0, by unfold zi; apply ext' <;> simp <;> grind, by decide⟩ (show 0 ≤ 50000 * (n + 1) by omega))
    · exact (hq.eq (by grind)).mono (by omega)
    · exact hx.mono (by omega)
  | @turn p t d =>
    rw [Plan.size] at hz
    have h1 := ih h (by omega) d
    have h2 := shape_sz hk (n := n) (p := p) h
    exact (h1.quarter h2 (pos_ne (shape_pos hk (n := n) (p := p) h))).mono (by omega)
  | @grid u v i j p t hi0 hi1 hj0 hj1 d =>
    rw [Plan.size] at hz
    obtain ⟨w1, w2, w3, w4, w5⟩ := h
    have h1 := ih w5 (by omega) d
    have h2 := shape_sz hk (n := n) (p := p) w5
    have su := int_sz (D := D) w1 w2
    have un := pos_ne (int_posQ (D := D) w1)
    have e20 : (2 : Nat) ^ 20 = 1048576 := by decide
    have si : Sz 20 ((i : Int) : QD D) := Sz.int (by omega)
    have sj : Sz 20 ((j : Int) : QD D) := Sz.int (by omega)
    have k0 : Sz 20 ((1 : QD D) / (u : QD D)) := (Sz.one.div su un).mono (by omega)
    have k1 := si.div su un
    have k2 := h2.mul (sj.div su un)
    exact (h1.moved k0 k1 k2).mono (by omega)
  | @upon ps i p t hi d =>
    rw [Plan.size] at hz
    have hpm : p ∈ ps := List.mem_of_getElem? hi
    have := size_mem hpm
    have h1 := ih (h.2.2 p hpm) (by omega) d
    have h2 := sz_shapes hk (n := n) h.2.2 (by omega) h.2.1 i
    exact (h1.moved Sz.one Sz.zero h2).mono (by omega)
  | @beside ps i p t hi d =>
    have hpm : p ∈ ps := List.mem_of_getElem? hi
    have := size_mem hpm
    have h2 := sz_share hk h hz hpm
    have h3 := sz_lefts hk h hz i
    rw [Plan.size] at hz
    have h1 := ih (h.2.2 p hpm) (by omega) d
    exact (h1.moved h2 h3 Sz.zero).mono (by omega)
end MF

namespace MW
open PySem PySem.Spec PyProof.Rows L2

abbrev PP : Program := PySem.Challenge.pw_matefloors_k60_whole_spots_of_great_plan
def top (i : Nat) : Stmt := PP.main.body.getD i (.Pass ⟨0, 0, 0, 0⟩)

/-! ### great whole numbers -/
/-- any two of together less than 2 ^ 27 bits -/
def CMulB (i j : Int) : Prop := i.natAbs.log2 + j.natAbs.log2 < 134217700
theorem CMulB.ok {i j : Int} (h : CMulB i j) : IntMulOk i j := by
  have b : ∀ x : Int, Builtin.Int.intBits x ≤ x.natAbs.log2 + 1 := fun x => by
    unfold Builtin.Int.intBits
    split <;> omega
  have h1 := b i
  have h2 := b j
  have h3 : i.natAbs.log2 + j.natAbs.log2 < 134217700 := h
  have e : bitsLine = 134217728 := by decide
  unfold IntMulOk
  intro z
  rw [Bool.and_eq_true] at z
  have z2 := z.2
  unfold Builtin.Int.intTooBig at z2
  have z3 := of_decide_eq_true z2
  rw [e] at z3
  omega
section
variable {X : Cx}
theorem op_mulB : OpR X (binaryOp .Mult) (rI CMulB fun i j => .int (i * j)) := opI fun _ _ _ _ _ _ _ hc q => mul_int q hc.ok
/-- the frame that runs is a plain def's -/
structure Plain (X : Cx) : Prop where
  seer : X.base.NoSeer
  tree : X.prog.given.tree = none
  room : Room 40 X.A
  top : X.stack = X.env :: X.outer
  gen : X.env.scope.isGenerator = false
  co : X.env.scope.isCoroutine = false
theorem Plain.ok {pins : List (Addr × Obj)} {σ : L2.St} {H : Hp} {s : Shared} (p : Plain X) (I : Inv X pins σ H s) : PylongRoom (model X.prog X.w) X.A s := by
  have h1 : s.heap.NoSeer := p.seer.keeps I.bk
  have h2 := p.room.dp
  refine PylongRoom.of I.nolimit (show X.A.depth + 100 < recursionLimit by omega) (SeerAt.of (env := X.env) (l := X.outer) h1 p.tree ?_ p.gen p.co I.ok.blt I.ok.glob)
  rw [I.ok.frames, p.top]
/-- // by any positive divisor -/
theorem op_fdivB (p : Plain X) : OpR X (binaryOp .FloorDiv) (rI (fun _ j => 0 < j) fun i j => .int (i / j)) := by
  intro pins s σ H x y v u Q I rx ry h
  obtain ⟨i, j, rfl, rfl, hc, q⟩ := h
  obtain ⟨t, rfl⟩ := rx
  obtain ⟨t', rfl⟩ := ry
  have hj : (0 : Int) < j := hc
  exact floordiv_int (by omega) (by rw [Int.fdiv_eq_ediv_of_nonneg i (by omega)]; exact ⟨.int (i / j), H, I.tok _, ⟨_, rfl⟩, q⟩) (.inr (p.ok I))
/-- // by any divisor -/
theorem op_fdivA (p : Plain X) : OpR X (binaryOp .FloorDiv) (rI (fun _ j => j ≠ 0) fun i j => .int (i.fdiv j)) := by
  intro pins s σ H x y v u Q I rx ry h
  obtain ⟨i, j, rfl, rfl, hc, q⟩ := h
  obtain ⟨t, rfl⟩ := rx
  obtain ⟨t', rfl⟩ := ry
  exact floordiv_int hc ⟨.int (i.fdiv j), H, I.tok _, ⟨_, rfl⟩, q⟩ (.inr (p.ok I))
end
/-! ### heaps -/
/-- a list of two whole numbers from 0 on, the second small: the bag -/
def Baggy (o : HO) : Prop := ∃ g m : Int, o = .lst [.int g, .int m] ∧ 0 ≤ g ∧ 0 ≤ m ∧ m < 1099511627776
/-- all that stood stands, but that a bag's numbers may be others -/
def Le (H H' : Hp) : Prop := ∀ a o, H a = some o → H' a = some o ∨ (Baggy o ∧ ∃ o', H' a = some o' ∧ Baggy o')
theorem Le.refl (H : Hp) : Le H H := fun _ _ h => .inl h
theorem Le.trans {H H1 H2 : Hp} (a : Le H H1) (b : Le H1 H2) : Le H H2 := fun c o h => by
  rcases a c o h with h1 | ⟨h1, o1, h2, h3⟩
  · exact b c o h1
  · rcases b c o1 h2 with h4 | ⟨_, o2, h5, h6⟩
    · exact .inr ⟨h1, o1, h4, h3⟩
    · exact .inr ⟨h1, o2, h5, h6⟩
theorem Le.new {H : Hp} {p : Addr} {o : HO} (h : H p = none) : Le H (upd H p o) := fun a u e => by
  rw [upd_ne (ne_of_none e h)]
  exact .inl e
/-- an object that H does not know may change -/
theorem Le.mut {H H' : Hp} {p : Addr} {o : HO} (e : Le H H') (h : H p = none) : Le H (upd H' p o) := fun a u ha => by
  rw [upd_ne (ne_of_none ha h)]
  exact e a u ha
theorem Le.bag {H : Hp} {p : Addr} {o o' : HO} (h : H p = some o) (b : Baggy o) (b' : Baggy o') : Le H (upd H p o') := fun a u e => by
  by_cases ha : a = p
  · subst ha
    rw [h] at e; cases e
    exact .inr ⟨b, o', upd_same, b'⟩
  · rw [upd_ne ha]; exact .inl e
theorem Le.back {H H' : Hp} {p : Addr} (e : Le H H') (h : H' p = none) : H p = none := by
  cases h1 : H p with
  | none => rfl
  | some o =>
    rcases e p o h1 with z | ⟨_, o', z, _⟩
    · rw [h] at z; cases z
    · rw [h] at z; cases z
theorem Le.keep {H H' : Hp} {a : Addr} {o : HO} (e : Le H H') (h : H a = some o) (nb : ¬ Baggy o) : H' a = some o := by
  rcases e a o h with z | ⟨z, _⟩
  · exact z
  · exact absurd z nb
theorem nb_tup {xs : List V} : ¬ Baggy (.tup xs) := fun ⟨_, _, e, _⟩ => by cases e
theorem nb_frz {o : Obj} {u : HO} : ¬ Baggy (.frz o u) := fun ⟨_, _, e, _⟩ => by cases e
/-- lists that are no bag -/
def NBag (xs : List V) : Prop := ∀ g m : Int, xs ≠ [.int g, .int m]
theorem nb_lst {xs : List V} (h : NBag xs) : ¬ Baggy (.lst xs) := fun ⟨g, m, e, _⟩ => by
  injection e with e
  exact h g m e
theorem Le.tup {K : PySem.W.Frag} {H H' : Hp} {a : Addr} {xs : List V} (e : Le H H') (h : SqT K H a xs) : SqT K H' a xs := by
  rcases h with (h | ⟨o, h⟩) | h
  · exact .inl (.inl (e.keep h nb_tup))
  · exact .inl (.inr ⟨o, e.keep h nb_frz⟩)
  · exact .inr h
theorem Le.lst {K : PySem.W.Frag} {H H' : Hp} {a : Addr} {xs : List V} (e : Le H H') (nb : NBag xs) (h : SqL K H a xs) : SqL K H' a xs := by
  rcases h with (h | ⟨o, h⟩) | h
  · exact .inl (.inl (e.keep h (nb_lst nb)))
  · exact .inl (.inr ⟨o, e.keep h nb_frz⟩)
  · exact .inr h
def Bag (H : Hp) (b : Addr) : Prop := ∃ o, H b = some o ∧ Baggy o
theorem Le.bagAt {H H' : Hp} {b : Addr} (e : Le H H') (h : Bag H b) : Bag H' b := by
  obtain ⟨o, h1, h2⟩ := h
  rcases e b o h1 with z | ⟨_, o', z, z'⟩
  · exact ⟨o, z, h2⟩
  · exact ⟨o', z, z'⟩
theorem sq_of {K : PySem.W.Frag} {H : Hp} {a : Addr} {xs : List V} (h : H a = some (.lst xs)) : SqL K H a xs := .inl (.inl h)
theorem st_of {K : PySem.W.Frag} {H : Hp} {a : Addr} {xs : List V} (h : H a = some (.tup xs)) : SqT K H a xs := .inl (.inl h)
theorem sz_of {n : Nat} (h : n ≤ 100000) : n ≤ sizeLine := Nat.le_trans h (by decide)
theorem sz_lt {n : Nat} (h : n < 100000) : n < sizeLine := Nat.lt_of_lt_of_le h (by decide)

/-! ### defs as they stand behind the top -/
structure Dfn (K : PySem.W.Frag) (mg : Str → Option Value) (x : Str) (st : Stmt) (ps : List Str) where
  f : Addr
  fd : FuncData
  F : Fun K x x st f fd
  b : Binds K fd ps []
  m : mg x = some (.ref f)
abbrev Dfn.Ok {K : PySem.W.Frag} {mg : Str → Option Value} {x : Str} {st : Stmt} {ps : List Str} (D : Dfn K mg x st ps) (w : World) (base : Heap) (k : Nat) (sp : Sp) : Prop :=
  FnOk PP w K mg base CX0 k D.f D.fd ps sp
theorem pcl {X : Cx} {x : Str} {st : Stmt} {ps : List Str} {k : Nat} {sp : Sp} {p pos : Pos} {e : Expr} {es : List Expr} {t : TA} (D : Dfn X.K X.mg x st ps)
    (F : FnOk X.prog X.w X.K X.mg X.base CX0 k D.f D.fd ps sp) (hr : Room k X.A) (ha : PA X (e :: es) t) (hg : Gl X x := by rfl) (hdb : (x == ("__debug__" : Str)) = false := by decide)
    (he : starEach (e :: es) X.env = (false, eval e X.env) :: starEach es X.env := by rfl) (hpl : (backTo pos (starEach es X.env)).any (·.1) = false := by rfl) : PE X (.Call (.Name x p) (e :: es) [] pos) (tCall sp [] E0 t) :=
  pe_call F hr hg D.m D.F.kp D.b .nil pass0 ha hdb he hpl
/-- THE RULE for a def -/
theorem Dfn.ok {K : PySem.W.Frag} {mg : Str → Option Value} {w : World} {base : Heap} {x : Str} {st : Stmt} {N ps : List Str} {k : Nat} {sp : Sp} (D : Dfn K mg x st ps) (S : FnScope N ps (defScope st)) (len : ∀ vs H Q E, sp vs H Q E → vs.length = ps.length)
    (hbody : ∀ (cdv : Value) (A : Around) (outer : List Env) (s : Shared) (H : Hp) (vs : List V) (Q : VK) (E : XK), Room k (A.deeper (envOfC x (defScope st) s.heap.objs.size D.f cdv)) → sp vs H Q E →
      ∃ t, PSs (cxOf CX0 PP w K mg base N x (defScope st) D.f cdv A outer s H E).nox (defBody st) t ∧ t { nx := fun _ H' => Q .non H', rt := Q } (start N vs) H) : D.Ok w base (k + 1) sp :=
  D.F.ok S len hbody
theorem plain_of {K : PySem.W.Frag} {mg : Str → Option Value} {w : World} {base : Heap} {x : Str} {sc : Scope} {N : List Str} {f : Addr} {cdv : Value} {A : Around} {outer : List Env} {s : Shared} {H : Hp} {E : XK} (hs : base.NoSeer)
    (hr : Room 40 (A.deeper (envOfC x sc s.heap.objs.size f cdv))) (h1 : sc.isGenerator = false) (h2 : sc.isCoroutine = false) : Plain (cxOf CX0 PP w K mg base N x sc f cdv A outer s H E).nox :=
  ⟨hs, rfl, hr, rfl, h1, h2⟩
end MW

namespace MW
open PySem PySem.Spec PyProof.Rows L2

abbrev s_is_whole : Stmt := top 10
abbrev s_shared : Stmt := top 11
abbrev s_is_number : Stmt := top 12
abbrev s_lowest : Stmt := top 13
abbrev s_plus : Stmt := top 14
abbrev s_contrary_sign : Stmt := top 15
abbrev s_less : Stmt := top 16
abbrev s_times : Stmt := top 17
abbrev s_over : Stmt := top 18
abbrev s_sign_of : Stmt := top 19
abbrev s_is_above : Stmt := top 20
abbrev s_root_beneath : Stmt := top 21
abbrev s_whole_beneath : Stmt := top 22
abbrev s_is_above_nought : Stmt := top 23
abbrev s_are_kinds : Stmt := top 24
abbrev s_look_kinds : Stmt := top 25
abbrev s_are_parts : Stmt := top 30
abbrev s_is_count : Stmt := top 31
abbrev s_inner_of : Stmt := top 32
abbrev s_plans_in : Stmt := top 33
abbrev s_is_plan : Stmt := top 34
abbrev s_look_plan : Stmt := top 35
abbrev s_sum_of : Stmt := top 36
abbrev s_shape_by : Stmt := top 37
abbrev s_turned_tile : Stmt := top 39
abbrev s_grown_tile : Stmt := top 40
abbrev s_shares_of : Stmt := top 41
abbrev s_place_in : Stmt := top 42
abbrev s_part_at : Stmt := top 43
abbrev s_at_turned : Stmt := top 44
abbrev s_at_grid : Stmt := top 45
abbrev s_at_upon : Stmt := top 46
abbrev s_at_beside : Stmt := top 47
abbrev s_at_spot : Stmt := top 48
abbrev s_is_place : Stmt := top 49
abbrev s_tile_at : Stmt := top 50
abbrev s_l_bag : Stmt := top 52
abbrev s_l_take : Stmt := top 53
abbrev s_l_is_whole : Stmt := top 54
abbrev s_l_shared : Stmt := top 55
abbrev s_l_low : Stmt := top 56
abbrev s_l_plus : Stmt := top 57
abbrev s_l_minus : Stmt := top 58
abbrev s_l_times : Stmt := top 59
abbrev s_l_contrary : Stmt := top 60
abbrev s_l_sign : Stmt := top 61
abbrev s_l_root : Stmt := top 62
abbrev s_l_number : Stmt := top 63
abbrev s_l_above : Stmt := top 64
abbrev s_l_kinds : Stmt := top 65
abbrev s_l_grid_size : Stmt := top 66
abbrev s_l_plan : Stmt := top 67
abbrev s_l_sum : Stmt := top 68
abbrev s_l_shape : Stmt := top 69
abbrev s_l_plans_in : Stmt := top 70
abbrev s_l_is_a_plan : Stmt := top 71
abbrev s_l_moved : Stmt := top 72
abbrev s_l_quarter : Stmt := top 73
abbrev s_l_part_of : Stmt := top 74
abbrev s_l_few_figures : Stmt := top 75
abbrev s_l_twins : Stmt := top 76
abbrev s_l_great_plan : Stmt := top 77
abbrev s_l_end : Stmt := top 78
abbrev s_l_down : Stmt := top 79
abbrev s_l_is_told : Stmt := top 80
abbrev s_law : Stmt := top 81
/-- the text: where the defs stand, that the built-ins are still there, the constants -/
structure Txt (K : PySem.W.Frag) (mg : Str → Option Value) where
  is_whole : Dfn K mg "is_whole" s_is_whole ["thing"]
  shared : Dfn K mg "shared" s_shared ["one", "other"]
  is_number : Dfn K mg "is_number" s_is_number ["thing"]
  lowest : Dfn K mg "lowest" s_lowest ["a", "b", "c"]
  plus : Dfn K mg "plus" s_plus ["x", "y"]
  contrary_sign : Dfn K mg "contrary_sign" s_contrary_sign ["x"]
  less : Dfn K mg "less" s_less ["x", "y"]
  times : Dfn K mg "times" s_times ["d", "x", "y"]
  over : Dfn K mg "over" s_over ["d", "x", "y"]
  sign_of : Dfn K mg "sign_of" s_sign_of ["d", "x"]
  is_above : Dfn K mg "is_above" s_is_above ["d", "x", "y"]
  root_beneath : Dfn K mg "root_beneath" s_root_beneath ["square"]
  whole_beneath : Dfn K mg "whole_beneath" s_whole_beneath ["d", "x"]
  is_above_nought : Dfn K mg "is_above_nought" s_is_above_nought ["d", "thing"]
  are_kinds : Dfn K mg "are_kinds" s_are_kinds ["d", "thing"]
  look_kinds : Dfn K mg "look_kinds" s_look_kinds ["d", "thing"]
  are_parts : Dfn K mg "are_parts" s_are_parts ["thing"]
  is_count : Dfn K mg "is_count" s_is_count ["thing"]
  inner_of : Dfn K mg "inner_of" s_inner_of ["thing"]
  plans_in : Dfn K mg "plans_in" s_plans_in ["thing", "many", "deep"]
  is_plan : Dfn K mg "is_plan" s_is_plan ["thing", "many"]
  look_plan : Dfn K mg "look_plan" s_look_plan ["thing", "many"]
  sum_of : Dfn K mg "sum_of" s_sum_of ["some"]
  shape_by : Dfn K mg "shape_by" s_shape_by ["d", "kinds", "plan"]
  turned_tile : Dfn K mg "turned_tile" s_turned_tile ["d", "shape", "tile"]
  grown_tile : Dfn K mg "grown_tile" s_grown_tile ["d", "factor", "left", "low", "tile"]
  shares_of : Dfn K mg "shares_of" s_shares_of ["d", "kinds", "plan"]
  place_in : Dfn K mg "place_in" s_place_in ["d", "along", "sign"]
  part_at : Dfn K mg "part_at" s_part_at ["d", "sizes", "along", "sign"]
  at_turned : Dfn K mg "at_turned" s_at_turned ["d", "kinds", "plan", "spot", "signs"]
  at_grid : Dfn K mg "at_grid" s_at_grid ["d", "kinds", "plan", "spot", "signs"]
  at_upon : Dfn K mg "at_upon" s_at_upon ["d", "kinds", "plan", "spot", "signs"]
  at_beside : Dfn K mg "at_beside" s_at_beside ["d", "kinds", "plan", "spot", "signs"]
  at_spot : Dfn K mg "at_spot" s_at_spot ["d", "kinds", "plan", "spot", "signs"]
  is_place : Dfn K mg "is_place" s_is_place ["d", "thing", "end"]
  tile_at : Dfn K mg "tile_at" s_tile_at ["d", "kinds", "plan", "x", "y"]
  l_bag : Dfn K mg "_law_bag" s_l_bag ["_law_script", "_law_at"]
  l_take : Dfn K mg "_law_take" s_l_take ["_law_bag_here", "_law_many"]
  l_is_whole : Dfn K mg "_law_is_whole" s_l_is_whole ["_law_thing"]
  l_shared : Dfn K mg "_law_shared" s_l_shared ["_law_one", "_law_other"]
  l_low : Dfn K mg "_law_low" s_l_low ["_law_a", "_law_b", "_law_c"]
  l_plus : Dfn K mg "_law_plus" s_l_plus ["_law_x", "_law_y"]
  l_minus : Dfn K mg "_law_minus" s_l_minus ["_law_x"]
  l_times : Dfn K mg "_law_times" s_l_times ["_law_d", "_law_x", "_law_y"]
  l_contrary : Dfn K mg "_law_contrary" s_l_contrary ["_law_d", "_law_x"]
  l_sign : Dfn K mg "_law_sign" s_l_sign ["_law_d", "_law_x"]
  l_root : Dfn K mg "_law_root" s_l_root ["_law_bag_here"]
  l_number : Dfn K mg "_law_number" s_l_number ["_law_bag_here"]
  l_above : Dfn K mg "_law_above" s_l_above ["_law_bag_here", "_law_d"]
  l_kinds : Dfn K mg "_law_kinds" s_l_kinds ["_law_bag_here", "_law_d"]
  l_grid_size : Dfn K mg "_law_grid_size" s_l_grid_size ["_law_bag_here"]
  l_plan : Dfn K mg "_law_plan" s_l_plan ["_law_bag_here", "_law_many"]
  l_sum : Dfn K mg "_law_sum" s_l_sum ["_law_some"]
  l_shape : Dfn K mg "_law_shape" s_l_shape ["_law_d", "_law_kinds_here", "_law_plan_here"]
  l_plans_in : Dfn K mg "_law_plans_in" s_l_plans_in ["_law_thing", "_law_many", "_law_deep"]
  l_is_a_plan : Dfn K mg "_law_is_a_plan" s_l_is_a_plan ["_law_thing", "_law_many"]
  l_moved : Dfn K mg "_law_moved" s_l_moved ["_law_d", "_law_tile", "_law_factor", "_law_left", "_law_low_here"]
  l_quarter : Dfn K mg "_law_quarter" s_l_quarter ["_law_d", "_law_tile", "_law_shape_here"]
  l_part_of : Dfn K mg "_law_part_of" s_l_part_of ["_law_bag_here", "_law_d", "_law_x"]
  l_few_figures : Dfn K mg "_law_few_figures" s_l_few_figures ["_law_bag_here", "_law_d", "_law_kinds_here", "_law_plan_here"]
  l_twins : Dfn K mg "_law_twins" s_l_twins ["_law_bag_here", "_law_d"]
  l_great_plan : Dfn K mg "_law_great_plan" s_l_great_plan ["_law_bag_here", "_law_many"]
  l_end : Dfn K mg "_law_end" s_l_end ["_law_bag_here", "_law_many"]
  l_down : Dfn K mg "_law_down" s_l_down ["_law_bag_here", "_law_d", "_law_kinds_here", "_law_plan_here"]
  l_is_told : Dfn K mg "_law_is_told" s_l_is_told ["_law_bag_here", "_law_d", "_law_kinds_here", "_law_plan_here"]
  law : Dfn K mg "law" s_law ["_law_script"]
  b_len : mg "len" = none
  b_abs : mg "abs" = none
  b_int : mg "int" = none
  b_all : mg "all" = none
  b_sum : mg "sum" = none
  b_max : mg "max" = none
  b_min : mg "min" = none
  b_tuple : mg "tuple" = none
  b_list : mg "list" = none
  b_isinstance : mg "isinstance" = none
  b_range : mg "range" = none
  b_enumerate : mg "enumerate" = none
  b_bool : mg "bool" = none
  b_str : mg "str" = none
  aN : Addr
  aO : Addr
  mgNOUGHT : mg "NOUGHT" = some (.ref aN)
  mgONE : mg "ONE" = some (.ref aO)
  tN : ∀ H, SqT K H aN [.int 0, .int 0, .int 1]
  tO : ∀ H, SqT K H aO [.int 1, .int 0, .int 1]
  tKINDS : Tok
  mgMOST_KINDS : mg "MOST_KINDS" = some (.int 3 tKINDS)
  tDEEP : Tok
  mgMOST_DEEP : mg "MOST_DEEP" = some (.int 12 tDEEP)
  tPLANS : Tok
  mgMOST_PLANS : mg "MOST_PLANS" = some (.int 60 tPLANS)
  tPARTS : Tok
  mgMOST_PARTS : mg "MOST_PARTS" = some (.int 8 tPARTS)
end MW

namespace MW
open PySem PySem.Spec PyProof.Rows L2
section
variable {K : PySem.W.Frag} {mg : Str → Option Value} {w : World} {base : Heap} (T : Txt K mg)

/-! ### shared -/
def spShared : Sp := fun vs H Q _ => ∃ i j : Int, vs = [.int i, .int j] ∧ Q (.int (Int.gcd i j : Nat)) H
def WSh (i j : Int) (H0 : Hp) (m : Nat) (σ : L2.St) (H : Hp) : Prop := H = H0 ∧ ∃ a b : Int, σ = [some (.int a), some (.int b)] ∧ 0 ≤ a ∧ 0 ≤ b ∧ b.toNat = m ∧ Int.gcd a b = Int.gcd i j
theorem sc_shared : FnScope ["one", "other"] ["one", "other"] (defScope s_shared) := ⟨rfl, rfl, rfl, by decide +kernel, rfl, by decide +kernel, by decide +kernel⟩
theorem gcd_abs (i j : Int) : Int.gcd (if i < 0 then -i else i) (if j < 0 then -j else j) = Int.gcd i j := by
  unfold Int.gcd
  congr 1 <;> (split <;> omega)
theorem gcd_step {a b : Int} (h : 0 < b) : Int.gcd b (a % b) = Int.gcd a b := by
  have e : a = a % b + b * (a / b) := (Int.emod_add_mul_ediv a b).symm
  have h1 : Int.gcd (a % b + b * (a / b)) b = Int.gcd (a % b) b := Int.gcd_add_mul_left_left ..
  rw [← e] at h1
  rw [h1, Int.gcd_comm]
theorem ok_shared : T.shared.Ok w base 41 spShared := by
  refine T.shared.ok sc_shared (fun vs H Q E h => ?_) (fun cdv A outer s H vs Q E hr h => ?_)
  · obtain ⟨i, j, rfl, _⟩ := h
    rfl
  obtain ⟨i, j, rfl, q⟩ := h
  have nd := sc_shared.nd
  refine ⟨_, (pss_cons (ps_par (i := 0) (j := 1) rfl nd rfl rfl (by decide) rfl rfl (pa_cons (pe_callB call_abs rfl T.b_abs (by decide +kernel) (pa_cons (pv 0) pa_nil)) (pa_cons (pe_callB call_abs rfl T.b_abs (by decide +kernel) (pa_cons (pv 1) pa_nil)) pa_nil)) (by rfl))
      (pss_cons (ps_while PassesOwn.never (pt_cmpR op_gt (pv 1) pe_int (nomark _)) (pss_one (ps_par (i := 0) (j := 1) rfl nd rfl rfl (by decide) rfl rfl (pa_cons (pv 1) (pa_cons (pe_op op_mod (pv 0) (pv 1)) pa_nil)) (by rfl))))
      (pss_one (ps_ret (pv 0))))), ?_⟩
  refine ⟨_, rfl, i, rfl, _, rfl, j, rfl, _, _, rfl, WSh i j H, ⟨_, rfl, _, _, rfl, ?_, ?_, rfl, gcd_abs i j⟩, ?_⟩
  · split <;> omega
  · split <;> omega
  rintro m σ H' ⟨rfl, a, b, rfl, ha, hb, rfl, hg⟩
  refine ⟨_, rfl, _, _, rfl, rfl, _, rfl, ?_⟩
  refine ite2 (fun c => ?_) (fun c => ?_)
  · have c' : 0 < b := of_decide_eq_true c
    refine ⟨fun σ' H'' => σ' = [some (.int b), some (.int (a % b))] ∧ H'' = H', ?_, ?_⟩
    · rintro σ' H'' ⟨rfl, rfl⟩
      have := Int.emod_lt_of_pos a c'
      have := Int.emod_nonneg a (show b ≠ 0 by omega)
      exact ⟨_, by omega, rfl, _, _, rfl, hb, this, rfl, (gcd_step c').trans hg⟩
    · exact ⟨_, rfl, _, rfl, _, rfl, a, b, rfl, rfl, c', _, _, rfl, rfl, rfl⟩
  · have c' : ¬ 0 < b := of_decide_eq_false (Bool.eq_false_iff.mpr c)
    have : b = 0 := by omega
    subst this
    refine ⟨_, rfl, ?_⟩
    rw [Int.gcd_zero] at hg
    have e : a = ((Int.gcd i j : Nat) : Int) := by omega
    rw [e]
    exact q
theorem sc_l_shared : FnScope ["_law_one", "_law_other"] ["_law_one", "_law_other"] (defScope s_l_shared) := ⟨rfl, rfl, rfl, by decide +kernel, rfl, by decide +kernel, by decide +kernel⟩
theorem ok_l_shared : T.l_shared.Ok w base 41 spShared := by
  refine T.l_shared.ok sc_l_shared (fun vs H Q E h => ?_) (fun cdv A outer s H vs Q E hr h => ?_)
  · obtain ⟨i, j, rfl, _⟩ := h
    rfl
  obtain ⟨i, j, rfl, q⟩ := h
  have nd := sc_l_shared.nd
  refine ⟨_, (pss_cons (ps_par (i := 0) (j := 1) rfl nd rfl rfl (by decide) rfl rfl (pa_cons (pe_callB call_abs rfl T.b_abs (by decide +kernel) (pa_cons (pv 0) pa_nil)) (pa_cons (pe_callB call_abs rfl T.b_abs (by decide +kernel) (pa_cons (pv 1) pa_nil)) pa_nil)) (by rfl))
      (pss_cons (ps_while PassesOwn.never (pt_cmpR op_gt (pv 1) pe_int (nomark _)) (pss_one (ps_par (i := 0) (j := 1) rfl nd rfl rfl (by decide) rfl rfl (pa_cons (pv 1) (pa_cons (pe_op op_mod (pv 0) (pv 1)) pa_nil)) (by rfl))))
      (pss_one (ps_ret (pv 0))))), ?_⟩
  refine ⟨_, rfl, i, rfl, _, rfl, j, rfl, _, _, rfl, WSh i j H, ⟨_, rfl, _, _, rfl, ?_, ?_, rfl, gcd_abs i j⟩, ?_⟩
  · split <;> omega
  · split <;> omega
  rintro m σ H' ⟨rfl, a, b, rfl, ha, hb, rfl, hg⟩
  refine ⟨_, rfl, _, _, rfl, rfl, _, rfl, ?_⟩
  refine ite2 (fun c => ?_) (fun c => ?_)
  · have c' : 0 < b := of_decide_eq_true c
    refine ⟨fun σ' H'' => σ' = [some (.int b), some (.int (a % b))] ∧ H'' = H', ?_, ?_⟩
    · rintro σ' H'' ⟨rfl, rfl⟩
      have := Int.emod_lt_of_pos a c'
      have := Int.emod_nonneg a (show b ≠ 0 by omega)
      exact ⟨_, by omega, rfl, _, _, rfl, hb, this, rfl, (gcd_step c').trans hg⟩
    · exact ⟨_, rfl, _, rfl, _, rfl, a, b, rfl, rfl, c', _, _, rfl, rfl, rfl⟩
  · have c' : ¬ 0 < b := of_decide_eq_false (Bool.eq_false_iff.mpr c)
    have : b = 0 := by omega
    subst this
    refine ⟨_, rfl, ?_⟩
    rw [Int.gcd_zero] at hg
    have e : a = ((Int.gcd i j : Nat) : Int) := by omega
    rw [e]
    exact q

/-! ### numbers on the heap -/
def tr {D : MF.Root} (x : MF.QD D) : List V := [.int x.a, .int x.b, .int x.c]
def Nm (K : PySem.W.Frag) (H : Hp) {D : MF.Root} (v : V) (x : MF.QD D) : Prop := ∃ p, v = .ref p ∧ SqT K H p (tr x)
theorem Nm.up {H H' : Hp} {D : MF.Root} {v : V} {x : MF.QD D} (e : Le H H') (h : Nm K H v x) : Nm K H' v x := by
  obtain ⟨p, h1, h2⟩ := h
  exact ⟨p, h1, e.tup h2⟩
/-- what a call that hands back a number promises -/
def GivesN (K : PySem.W.Frag) (H : Hp) (Q : VK) {D : MF.Root} (x : MF.QD D) : Prop := ∀ v H', Le H H' → Nm K H' v x → Q v H'
theorem st_new {K : PySem.W.Frag} {H : Hp} {p : Addr} {xs ys : List V} (h : xs = ys) : SqT K (upd H p (.tup xs)) p ys := by
  subst h; exact st_of upd_same
theorem sq_new {K : PySem.W.Frag} {H : Hp} {p : Addr} {xs ys : List V} (h : xs = ys) : SqL K (upd H p (.lst xs)) p ys := by
  subst h; exact sq_of upd_same
theorem sz1 {α : Type} {a : α} : [a].length ≤ sizeLine := by show 1 ≤ sizeLine; decide
theorem sz2 {α : Type} {a b : α} : [a, b].length ≤ sizeLine := by show 2 ≤ sizeLine; decide
theorem sz3 {α : Type} {a b c : α} : [a, b, c].length ≤ sizeLine := by show 3 ≤ sizeLine; decide
theorem sz4 {α : Type} {a b c d : α} : [a, b, c, d].length ≤ sizeLine := by show 4 ≤ sizeLine; decide
def spLow (K : PySem.W.Frag) : Sp := fun vs H Q _ => ∃ (D : MF.Root) (x : MF.QD D) (a b c : Int), vs = [.int a, .int b, .int c] ∧ c ≠ 0 ∧ MF.QD.ofT a b c = x ∧ GivesN K H Q x
theorem fdiv_com {a b c z : Int} (h : c ≠ 0) (hz : MF.QD.com a b c ∣ z) : z.fdiv (MF.QD.com a b c) = z / MF.QD.com a b c := Int.fdiv_eq_ediv_of_dvd hz
theorem com_eq (a b c : Int) (h : c < 0) : MF.QD.com a b c = 0 - ((Int.gcd (Int.gcd a b) c : Nat) : Int) := by
  unfold MF.QD.com; rw [if_pos h]; omega
theorem com_eq' (a b c : Int) (h : ¬ c < 0) : MF.QD.com a b c = ((Int.gcd (Int.gcd a b) c : Nat) : Int) := by
  unfold MF.QD.com; rw [if_neg h]
theorem sc_lowest : FnScope ["a", "b", "c", "common"] ["a", "b", "c"] (defScope s_lowest) := ⟨rfl, rfl, rfl, by decide +kernel, rfl, by decide +kernel, by decide +kernel⟩
theorem ok_lowest (hs : base.NoSeer) : T.lowest.Ok w base 42 (spLow K) := by
  have G_shared := ok_shared (w := w) (base := base) T
  refine T.lowest.ok sc_lowest (fun vs H Q E h => ?_) (fun cdv A outer s H vs Q E hr h => ?_)
  · obtain ⟨_, _, a, b, c, rfl, _⟩ := h
    rfl
  obtain ⟨D, x, a, b, c, rfl, hc, hx, q⟩ := h
  have nd := sc_lowest.nd
  refine ⟨_, (pss_cons (ps_set (i := 3) nd rfl (by first | exact Or.inl rfl | exact Or.inr rfl) (pcl T.shared G_shared (hr.mono (by decide)) (pa_cons (pcl T.shared G_shared (hr.mono (by decide)) (pa_cons (pv 0) (pa_cons (pv 1) pa_nil))) (pa_cons (pv 2) pa_nil))))
      (pss_cons (ps_if (pt_cmpR op_lt (pv 2) pe_int (nomark _)) (pss_one (ps_set (i := 3) nd rfl (by first | exact Or.inl rfl | exact Or.inr rfl) (pe_op op_sub pe_int (pv 3)))) pss_nil)
      (pss_one (ps_ret (pe_tup (pa_cons (pe_op (op_fdivA (plain_of hs (hr.mono (by decide)) rfl rfl)) (pv 0) (pv 3)) (pa_cons (pe_op (op_fdivA (plain_of hs (hr.mono (by decide)) rfl rfl)) (pv 1) (pv 3)) (pa_cons (pe_op (op_fdivA (plain_of hs (hr.mono (by decide)) rfl rfl)) (pv 2) (pv 3)) pa_nil)))))))), ?_⟩
  obtain ⟨d1, d2, d3⟩ := MF.QD.com_dvd a b c
  have hne := MF.QD.com_ne (a := a) (b := b) hc
  obtain ⟨e1, e2, e3⟩ := MF.QD.low_eq hc hx
  rw [← Int.fdiv_eq_ediv_of_dvd d1] at e1
  rw [← Int.fdiv_eq_ediv_of_dvd d2] at e2
  rw [← Int.fdiv_eq_ediv_of_dvd d3] at e3
  refine ⟨_, rfl, _, rfl, a, b, rfl, _, rfl, _, c, rfl, _, rfl, c, 0, rfl, rfl, _, rfl, ?_⟩
  refine ite2 (fun h => ?_) (fun h => ?_)
  · have h' : c < 0 := of_decide_eq_true h
    have ek := com_eq a b c h'
    refine ⟨_, rfl, 0, _, rfl, rfl, ?_⟩
    refine ⟨_, rfl, _, rfl, a, _, rfl, congrArg V.int ek.symm, hne, _, rfl, _, rfl, b, _, rfl, congrArg V.int ek.symm, hne, _, rfl, _, rfl, c, _, rfl, congrArg V.int ek.symm, hne, sz3, fun p hp => ?_⟩
    exact q _ _ (Le.new hp) ⟨p, rfl, st_new (by show [V.int (a.fdiv (MF.QD.com a b c)), V.int (b.fdiv (MF.QD.com a b c)), V.int (c.fdiv (MF.QD.com a b c))] = _; rw [e1, e2, e3]; rfl)⟩
  · have h' : ¬ c < 0 := of_decide_eq_false (Bool.eq_false_iff.mpr h)
    have ek := com_eq' a b c h'
    refine ⟨_, rfl, _, rfl, a, _, rfl, congrArg V.int ek.symm, hne, _, rfl, _, rfl, b, _, rfl, congrArg V.int ek.symm, hne, _, rfl, _, rfl, c, _, rfl, congrArg V.int ek.symm, hne, sz3, fun p hp => ?_⟩
    exact q _ _ (Le.new hp) ⟨p, rfl, st_new (by show [V.int (a.fdiv (MF.QD.com a b c)), V.int (b.fdiv (MF.QD.com a b c)), V.int (c.fdiv (MF.QD.com a b c))] = _; rw [e1, e2, e3]; rfl)⟩
end
end MW

namespace MW
open PySem PySem.Spec PyProof.Rows L2
open MF (Root QD)
open MF.QD (Sz)
/-! ### bits -/
def Bd (n : Nat) (i : Int) : Prop := i.natAbs < 2 ^ n
theorem Bd.log {n : Nat} {i : Int} (h : Bd n i) : i.natAbs.log2 ≤ n := by
  by_cases h0 : i.natAbs = 0
  · rw [h0]; exact Nat.le_trans (by decide) (Nat.zero_le n)
  · exact Nat.le_of_lt ((Nat.log2_lt h0).mpr h)
theorem mB {m n : Nat} {i j : Int} (hi : Bd m i) (hj : Bd n j) (h : m + n < 134217700 := by decide) : CMulB i j := by
  have := hi.log
  have := hj.log
  unfold CMulB
  omega
theorem Bd.mul {m n : Nat} {i j : Int} (hi : Bd m i) (hj : Bd n j) : Bd (m + n) (i * j) := wide_lt hi hj
theorem Bd.mono {m n : Nat} {i : Int} (hi : Bd m i) (h : m ≤ n) : Bd n i := Nat.lt_of_lt_of_le hi (Nat.pow_le_pow_right (by decide) h)
theorem Bd.of_abs {n : Nat} {i j : Int} (h : Bd n j) (e : i.natAbs ≤ j.natAbs) : Bd n i := Nat.lt_of_le_of_lt e h
theorem Bd.small {i : Int} (h1 : -1000000 ≤ i) (h2 : i ≤ 1000000) : Bd 20 i := by
  unfold Bd
  have : (2 : Nat) ^ 20 = 1048576 := by decide
  omega
/-- a number within the lines -/
def Sml {D : Root} (x : QD D) : Prop := Sz 8388608 x
structure Bds {D : Root} (x : QD D) : Prop where
  a : Bd 16777217 x.a
  b : Bd 16777217 x.b
  c : Bd 16777217 x.c
theorem Sml.bds {D : Root} {x : QD D} (h : Sml x) : Bds x := by
  obtain ⟨h1, h2, h3⟩ := MF.QD.Sz.tri h
  have e : ∀ i : Int, i.natAbs ≤ 2 ^ (2 * 8388608) → Bd 16777217 i := fun i hi => by
    have : (2 : Nat) ^ (2 * 8388608) < 2 ^ 16777217 := Nat.pow_lt_pow_right (by decide) (by decide)
    exact Nat.lt_of_le_of_lt hi this
  exact ⟨e _ h1, e _ h2, e _ h3⟩
theorem Root.bd (D : Root) : Bd 5 D.d := by
  have h1 := D.lo
  have h2 := D.hi
  unfold Bd
  have : (2 : Nat) ^ 5 = 32 := by decide
  omega
theorem eqv3 {a b c a' b' c' : Int} : PyData.eqv (.tuple [.int a, .int b, .int c]) (.tuple [.int a', .int b', .int c']) = (a == a' && (b == b' && (c == c' && true))) := by
  simp only [PyData.eqv, PyData.eqvAll]
theorem shaped3 {a b c : Int} : SeqAt.shaped (.tuple [.int a, .int b, .int c]) = true := by rfl
theorem dp3 {K : PySem.W.Frag} {H : Hp} {p : Addr} {a b c : Int} (h : SqT K H p [.int a, .int b, .int c]) : Dp K H (.ref p) (.tuple [.int a, .int b, .int c]) :=
  .tup h (.cons (.int a) (.cons (.int b) (.cons (.int c) .nil)))
theorem eqv_num {D : Root} (x y : QD D) : PyData.eqv (.tuple [.int x.a, .int x.b, .int x.c]) (.tuple [.int y.a, .int y.b, .int y.c]) = decide (x = y) := by
  rw [eqv3]
  by_cases h : x = y
  · subst h; simp
  · rw [decide_eq_false h]
    rw [Bool.eq_false_iff]
    intro e
    simp only [Bool.and_eq_true, beq_iff_eq, Bool.and_true] at e
    exact h (MF.QD.tri_inj e.1 e.2.1 e.2.2)
theorem nmN {K : PySem.W.Frag} {mg : Str → Option Value} (T : Txt K mg) {D : Root} (H : Hp) : Nm K H (.ref T.aN) (0 : QD D) := by
  obtain ⟨h1, h2, h3⟩ := MF.QD.tri_zero (D := D)
  refine ⟨_, rfl, ?_⟩
  unfold tr; rw [h1, h2, h3]; exact T.tN H
theorem nmO {K : PySem.W.Frag} {mg : Str → Option Value} (T : Txt K mg) {D : Root} (H : Hp) : Nm K H (.ref T.aO) (1 : QD D) := by
  obtain ⟨h1, h2, h3⟩ := MF.QD.tri_one (D := D)
  refine ⟨_, rfl, ?_⟩
  unfold tr; rw [h1, h2, h3]; exact T.tO H
section
variable {K : PySem.W.Frag} {mg : Str → Option Value} {w : World} {base : Heap} (T : Txt K mg)

def spPlus (K : PySem.W.Frag) : Sp := fun vs H Q _ => ∃ (D : Root) (x y : QD D) (u v : V), vs = [u, v] ∧ Nm K H u x ∧ Nm K H v y ∧ Sml x ∧ Sml y ∧ GivesN K H Q (x + y)
def spNeg (K : PySem.W.Frag) : Sp := fun vs H Q _ => ∃ (D : Root) (x : QD D) (u : V), vs = [u] ∧ Nm K H u x ∧ GivesN K H Q (-x)
def spLess (K : PySem.W.Frag) : Sp := fun vs H Q _ => ∃ (D : Root) (x y : QD D) (u v : V), vs = [u, v] ∧ Nm K H u x ∧ Nm K H v y ∧ Sml x ∧ Sml y ∧ GivesN K H Q (x - y)
def spTimes (K : PySem.W.Frag) : Sp := fun vs H Q _ => ∃ (D : Root) (x y : QD D) (u v : V), vs = [.int D.d, u, v] ∧ Nm K H u x ∧ Nm K H v y ∧ Sml x ∧ Sml y ∧ GivesN K H Q (x * y)
def spOver (K : PySem.W.Frag) : Sp := fun vs H Q _ => ∃ (D : Root) (x y : QD D) (u v : V), vs = [.int D.d, u, v] ∧ Nm K H u x ∧ Nm K H v y ∧ Sml x ∧ Sml y ∧ y ≠ 0 ∧ GivesN K H Q (x / y)
def spSign (K : PySem.W.Frag) : Sp := fun vs H Q _ => ∃ (D : Root) (x : QD D) (u : V), vs = [.int D.d, u] ∧ Nm K H u x ∧ Sml x ∧ Q (.int x.sg) H
def spAbove (K : PySem.W.Frag) : Sp := fun vs H Q _ => ∃ (D : Root) (x y : QD D) (u v : V), vs = [.int D.d, u, v] ∧ Nm K H u x ∧ Nm K H v y ∧ Sml x ∧ Sml y ∧ Sml (x - y) ∧ ∀ (b : Bool) H', Le H H' → (b = true ↔ y < x) → Q (.bl b) H'

theorem sc_plus : FnScope ["x", "y"] ["x", "y"] (defScope s_plus) := ⟨rfl, rfl, rfl, by decide +kernel, rfl, by decide +kernel, by decide +kernel⟩
theorem ok_plus (hs : base.NoSeer) : T.plus.Ok w base 43 (spPlus K) := by
  have G_lowest := ok_lowest (w := w) T hs
  refine T.plus.ok sc_plus (fun vs H Q E h => ?_) (fun cdv A outer s H vs Q E hr h => ?_)
  · obtain ⟨_, _, _, _, _, rfl, _⟩ := h
    rfl
  obtain ⟨D, x, y, u, v, rfl, ⟨p, rfl, hx⟩, ⟨p', rfl, hy⟩, sx, sy, q⟩ := h
  have nd := sc_plus.nd
  have bx := sx.bds
  have bY := sy.bds
  refine ⟨_, (pss_one (ps_ret (pcl T.lowest G_lowest (hr.mono (by decide)) (pa_cons (pe_op op_add (pe_op op_mulB (pe_ix ix_tup (pv 0) pe_int (fun _ _ => rfl)) (pe_ix ix_tup (pv 1) pe_int (fun _ _ => rfl))) (pe_op op_mulB (pe_ix ix_tup (pv 1) pe_int (fun _ _ => rfl)) (pe_ix ix_tup (pv 0) pe_int (fun _ _ => rfl)))) (pa_cons (pe_op op_add (pe_op op_mulB (pe_ix ix_tup (pv 0) pe_int (fun _ _ => rfl)) (pe_ix ix_tup (pv 1) pe_int (fun _ _ => rfl))) (pe_op op_mulB (pe_ix ix_tup (pv 1) pe_int (fun _ _ => rfl)) (pe_ix ix_tup (pv 0) pe_int (fun _ _ => rfl)))) (pa_cons (pe_op op_mulB (pe_ix ix_tup (pv 0) pe_int (fun _ _ => rfl)) (pe_ix ix_tup (pv 1) pe_int (fun _ _ => rfl))) pa_nil)))))), ?_⟩
  exact ⟨_, rfl, _, _, _, _, rfl, rfl, hx, rfl, _, rfl, _, _, _, _, rfl, rfl, hy, rfl, _, _, rfl, rfl, mB bx.a bY.c, _, rfl, _, _, _, _, rfl, rfl, hy, rfl, _, rfl, _, _, _, _, rfl, rfl, hx, rfl, _, _, rfl, rfl, mB bY.a bx.c, _, _, rfl, rfl, _, rfl, _, _, _, _, rfl, rfl, hx, rfl, _, rfl, _, _, _, _, rfl, rfl, hy, rfl, _, _, rfl, rfl, mB bx.b bY.c, _, rfl, _, _, _, _, rfl, rfl, hy, rfl, _, rfl, _, _, _, _, rfl, rfl, hx, rfl, _, _, rfl, rfl, mB bY.b bx.c, _, _, rfl, rfl, _, rfl, _, _, _, _, rfl, rfl, hx, rfl, _, rfl, _, _, _, _, rfl, rfl, hy, rfl, _, _, rfl, rfl, mB bx.c bY.c, D, x + y, _, _, _, rfl, MF.QD.cc_ne x y, MF.QD.of_plus x y, q⟩

theorem sc_contrary_sign : FnScope ["x"] ["x"] (defScope s_contrary_sign) := ⟨rfl, rfl, rfl, by decide +kernel, rfl, by decide +kernel, by decide +kernel⟩
theorem ok_contrary_sign : T.contrary_sign.Ok w base 41 (spNeg K) := by
  refine T.contrary_sign.ok sc_contrary_sign (fun vs H Q E h => ?_) (fun cdv A outer s H vs Q E hr h => ?_)
  · obtain ⟨_, _, _, rfl, _⟩ := h
    rfl
  obtain ⟨D, x, u, rfl, ⟨p, rfl, hx⟩, q⟩ := h
  refine ⟨_, (pss_one (ps_ret (pe_tup (pa_cons (pe_op op_sub pe_int (pe_ix ix_tup (pv 0) pe_int (fun _ _ => rfl))) (pa_cons (pe_op op_sub pe_int (pe_ix ix_tup (pv 0) pe_int (fun _ _ => rfl))) (pa_cons (pe_ix ix_tup (pv 0) pe_int (fun _ _ => rfl)) pa_nil)))))), ?_⟩
  obtain ⟨h1, h2, h3⟩ := MF.QD.tri_neg x
  exact ⟨_, rfl, _, _, _, _, rfl, rfl, hx, rfl, _, _, rfl, rfl, _, rfl, _, _, _, _, rfl, rfl, hx, rfl, _, _, rfl, rfl, _, rfl, _, _, _, _, rfl, rfl, hx, rfl, sz3, fun r hr' => q _ _ (Le.new hr') ⟨r, rfl, st_new (by unfold tr; rw [h1, h2, h3])⟩⟩

theorem sc_less : FnScope ["x", "y"] ["x", "y"] (defScope s_less) := ⟨rfl, rfl, rfl, by decide +kernel, rfl, by decide +kernel, by decide +kernel⟩
theorem ok_less (hs : base.NoSeer) : T.less.Ok w base 44 (spLess K) := by
  have G_plus := ok_plus (w := w) T hs
  have G_contrary_sign := ok_contrary_sign (w := w) (base := base) T
  refine T.less.ok sc_less (fun vs H Q E h => ?_) (fun cdv A outer s H vs Q E hr h => ?_)
  · obtain ⟨_, _, _, _, _, rfl, _⟩ := h
    rfl
  obtain ⟨D, x, y, u, v, rfl, hx, hy, sx, sy, q⟩ := h
  refine ⟨_, (pss_one (ps_ret (pcl T.plus G_plus (hr.mono (by decide)) (pa_cons (pv 0) (pa_cons (pcl T.contrary_sign G_contrary_sign (hr.mono (by decide)) (pa_cons (pv 1) pa_nil)) pa_nil))))), ?_⟩
  refine ⟨_, rfl, _, rfl, D, y, _, rfl, hy, fun v1 H1 e1 h1 => ⟨D, x, -y, _, _, rfl, hx.up e1, h1, sx, MF.QD.Sz.neg sy, fun v2 H2 e2 h2 => q _ _ (e1.trans e2) ?_⟩⟩
  rw [show x - y = x + -y by grind]
  exact h2

theorem sc_times : FnScope ["d", "x", "y"] ["d", "x", "y"] (defScope s_times) := ⟨rfl, rfl, rfl, by decide +kernel, rfl, by decide +kernel, by decide +kernel⟩
theorem ok_times (hs : base.NoSeer) : T.times.Ok w base 43 (spTimes K) := by
  have G_lowest := ok_lowest (w := w) T hs
  refine T.times.ok sc_times (fun vs H Q E h => ?_) (fun cdv A outer s H vs Q E hr h => ?_)
  · obtain ⟨_, _, _, _, _, rfl, _⟩ := h
    rfl
  obtain ⟨D, x, y, u, v, rfl, ⟨p, rfl, hx⟩, ⟨p', rfl, hy⟩, sx, sy, q⟩ := h
  have bx := sx.bds
  have bY := sy.bds
  have bd := Root.bd D
  refine ⟨_, (pss_one (ps_ret (pcl T.lowest G_lowest (hr.mono (by decide)) (pa_cons (pe_op op_add (pe_op op_mulB (pe_ix ix_tup (pv 1) pe_int (fun _ _ => rfl)) (pe_ix ix_tup (pv 2) pe_int (fun _ _ => rfl))) (pe_op op_mulB (pe_op op_mulB (pv 0) (pe_ix ix_tup (pv 1) pe_int (fun _ _ => rfl))) (pe_ix ix_tup (pv 2) pe_int (fun _ _ => rfl)))) (pa_cons (pe_op op_add (pe_op op_mulB (pe_ix ix_tup (pv 1) pe_int (fun _ _ => rfl)) (pe_ix ix_tup (pv 2) pe_int (fun _ _ => rfl))) (pe_op op_mulB (pe_ix ix_tup (pv 1) pe_int (fun _ _ => rfl)) (pe_ix ix_tup (pv 2) pe_int (fun _ _ => rfl)))) (pa_cons (pe_op op_mulB (pe_ix ix_tup (pv 1) pe_int (fun _ _ => rfl)) (pe_ix ix_tup (pv 2) pe_int (fun _ _ => rfl))) pa_nil)))))), ?_⟩
  exact ⟨_, rfl, _, _, _, _, rfl, rfl, hx, rfl, _, rfl, _, _, _, _, rfl, rfl, hy, rfl, _, _, rfl, rfl, mB bx.a bY.a, _, rfl, _, rfl, _, _, _, _, rfl, rfl, hx, rfl, _, _, rfl, rfl, mB bd bx.b, _, rfl, _, _, _, _, rfl, rfl, hy, rfl, _, _, rfl, rfl, mB (bd.mul bx.b) bY.b, _, _, rfl, rfl, _, rfl, _, _, _, _, rfl, rfl, hx, rfl, _, rfl, _, _, _, _, rfl, rfl, hy, rfl, _, _, rfl, rfl, mB bx.a bY.b, _, rfl, _, _, _, _, rfl, rfl, hx, rfl, _, rfl, _, _, _, _, rfl, rfl, hy, rfl, _, _, rfl, rfl, mB bx.b bY.a, _, _, rfl, rfl, _, rfl, _, _, _, _, rfl, rfl, hx, rfl, _, rfl, _, _, _, _, rfl, rfl, hy, rfl, _, _, rfl, rfl, mB bx.c bY.c, D, x * y, _, _, _, rfl, MF.QD.cc_ne x y, MF.QD.of_times x y, q⟩
end
end MW

namespace MW
open PySem PySem.Spec PyProof.Rows L2
open MF (Root QD)
open MF.QD (Sz)
theorem Bd.abs {n : Nat} {i : Int} (h : Bd n i) : Bd n (if i < 0 then -i else i) := h.of_abs (by split <;> omega)
theorem boolInt (p q : Prop) [Decidable p] [Decidable q] : (if decide p = true then (1 : Int) else 0) - (if decide q = true then (1 : Int) else 0) = (if p then 1 else 0) - (if q then 1 else 0) := by
  by_cases hp : p <;> by_cases hq : q <;> simp [hp, hq]
/-- an if whose test's answer is known -/
theorem ifT {b : Bool} {A B : Prop} (h : b = true) (k : A) : if b = true then A else B := by rw [if_pos h]; exact k
theorem ifF {b : Bool} {A B : Prop} (h : b = false) (k : B) : if b = true then A else B := by rw [h]; exact iteF k
section
variable {K : PySem.W.Frag} {mg : Str → Option Value} {w : World} {base : Heap} (T : Txt K mg)

theorem sc_over : FnScope ["d", "x", "y", "a", "b", "c"] ["d", "x", "y"] (defScope s_over) := ⟨rfl, rfl, rfl, by decide +kernel, rfl, by decide +kernel, by decide +kernel⟩
theorem ok_over (hs : base.NoSeer) : T.over.Ok w base 44 (spOver K) := by
  have G_lowest := ok_lowest (w := w) T hs
  have G_times := ok_times (w := w) T hs
  refine T.over.ok sc_over (fun vs H Q E h => ?_) (fun cdv A outer s H vs Q E hr h => ?_)
  · obtain ⟨_, _, _, _, _, rfl, _⟩ := h
    rfl
  obtain ⟨D, x, y, u, v, rfl, hx, ⟨p', rfl, hy⟩, sx, sy, hne, q⟩ := h
  have nd := sc_over.nd
  have bY := sy.bds
  have bd := Root.bd D
  obtain ⟨p0, e0, hN⟩ := nmN (K := K) T (D := D) H
  cases e0
  refine ⟨_, (pss_cons (ps_if (pt_cmpR (op_eqD hr.units) (pv 2) (pe_glob (v := .ref T.aN) rfl T.mgNOUGHT rfl) (nomark _)) (pss_one ps_never) pss_nil)
      (pss_cons (ps_asg (pv 2) (pg_tup rfl (pgs_cons (pg_name (i := 3) nd rfl (by first | exact Or.inl rfl | exact Or.inr rfl)) (pgs_cons (pg_name (i := 4) nd rfl (by first | exact Or.inl rfl | exact Or.inr rfl)) (pgs_cons (pg_name (i := 5) nd rfl (by first | exact Or.inl rfl | exact Or.inr rfl)) pgs_nil)))))
      (pss_one (ps_ret (pcl T.times G_times (hr.mono (by decide)) (pa_cons (pv 0) (pa_cons (pv 1) (pa_cons (pcl T.lowest G_lowest (hr.mono (by decide)) (pa_cons (pe_op op_mulB (pv 3) (pv 5)) (pa_cons (pe_op op_sub pe_int (pe_op op_mulB (pv 4) (pv 5))) (pa_cons (pe_op op_sub (pe_op op_mulB (pv 3) (pv 3)) (pe_op op_mulB (pe_op op_mulB (pv 0) (pv 4)) (pv 4))) pa_nil)))) pa_nil)))))))), ?_⟩
  refine ⟨_, rfl, _, _, dp3 hy, dp3 hN, shaped3, shaped3, false, congrArg V.bl ((eqv_num y 0).trans (decide_eq_false hne)), iteF ?_⟩
  refine ⟨_, rfl, _, _, rfl, hy, rfl, _, _, rfl, _, _, rfl, _, _, rfl, rfl, ?_⟩
  exact ⟨_, rfl, _, rfl, _, rfl, _, rfl, _, _, rfl, rfl, mB bY.a bY.c, _, rfl, _, rfl, _, _, rfl, rfl, mB bY.b bY.c, _, _, rfl, rfl, _, rfl, _, rfl, _, _, rfl, rfl, mB bY.a bY.a, _, rfl, _, rfl, _, _, rfl, rfl, mB bd bY.b, _, rfl, _, _, rfl, rfl, mB (bd.mul bY.b) bY.b, _, _, rfl, rfl, D, y⁻¹, _, _, _, rfl, MF.QD.inv_ne hne, MF.QD.of_inv hne,
    fun v1 H1 e1 h1 => ⟨D, x, y⁻¹, _, _, rfl, hx.up e1, h1, sx, MF.QD.Sz.inv sy hne, fun v2 H2 e2 h2 => q _ _ (e1.trans e2) h2⟩⟩

theorem sc_sign_of : FnScope ["d", "x", "a", "b", "c", "first", "second", "both"] ["d", "x"] (defScope s_sign_of) := ⟨rfl, rfl, rfl, by decide +kernel, rfl, by decide +kernel, by decide +kernel⟩
theorem ok_sign_of : T.sign_of.Ok w base 41 (spSign K) := by
  refine T.sign_of.ok sc_sign_of (fun vs H Q E h => ?_) (fun cdv A outer s H vs Q E hr h => ?_)
  · obtain ⟨_, _, _, rfl, _⟩ := h
    rfl
  obtain ⟨D, x, u, rfl, ⟨p, rfl, hx⟩, sx, q⟩ := h
  have nd := sc_sign_of.nd
  have bx := sx.bds
  have bd := Root.bd D
  refine ⟨_, (pss_cons (ps_asg (pv 1) (pg_tup rfl (pgs_cons (pg_name (i := 2) nd rfl (by first | exact Or.inl rfl | exact Or.inr rfl)) (pgs_cons (pg_name (i := 3) nd rfl (by first | exact Or.inl rfl | exact Or.inr rfl)) (pgs_cons (pg_name (i := 4) nd rfl (by first | exact Or.inl rfl | exact Or.inr rfl)) pgs_nil)))))
      (pss_cons (ps_par (i := 5) (j := 6) rfl nd rfl rfl (by decide) rfl rfl (pa_cons (pe_op op_mulB (pv 2) (pe_callB call_abs rfl T.b_abs (by decide +kernel) (pa_cons (pv 2) pa_nil))) (pa_cons (pe_op op_mulB (pe_op op_mulB (pv 0) (pv 3)) (pe_callB call_abs rfl T.b_abs (by decide +kernel) (pa_cons (pv 3) pa_nil))) pa_nil)) (by rfl))
      (pss_cons (ps_set (i := 7) nd rfl (by first | exact Or.inl rfl | exact Or.inr rfl) (pe_op op_add (pv 5) (pv 6)))
      (pss_one (ps_ret (pe_op op_sub (pe_callTy call_int1 rfl T.b_int (by decide +kernel) (pa_cons (pe_cmpR op_gt (pv 7) pe_int (nomark _)) pa_nil)) (pe_callTy call_int1 rfl T.b_int (by decide +kernel) (pa_cons (pe_cmpR op_lt (pv 7) pe_int (nomark _)) pa_nil)))))))), ?_⟩
  have e : x.sg = (if decide (0 < MF.QD.two D.d x.a x.b) = true then (1 : Int) else 0) - (if decide (MF.QD.two D.d x.a x.b < 0) = true then (1 : Int) else 0) := (boolInt _ _).symm
  rw [e] at q
  refine ⟨_, rfl, _, _, rfl, hx, rfl, _, _, rfl, _, _, rfl, _, _, rfl, rfl, ?_⟩
  exact ⟨_, rfl, _, rfl, _, rfl, _, _, rfl, rfl, mB bx.a bx.a.abs, _, rfl, _, rfl, _, _, rfl, rfl, mB bd bx.b, _, rfl, _, rfl, _, _, rfl, rfl, mB (bd.mul bx.b) bx.b.abs, _, _, rfl, _, rfl, _, rfl, _, _, rfl, rfl, _, rfl, _, _, rfl, rfl, .inr ⟨_, rfl, _, rfl, _, _, rfl, rfl, .inr ⟨_, rfl, _, _, rfl, rfl, q⟩⟩⟩

theorem sc_is_above : FnScope ["d", "x", "y"] ["d", "x", "y"] (defScope s_is_above) := ⟨rfl, rfl, rfl, by decide +kernel, rfl, by decide +kernel, by decide +kernel⟩
theorem ok_is_above (hs : base.NoSeer) : T.is_above.Ok w base 45 (spAbove K) := by
  have G_less := ok_less (w := w) T hs
  have G_sign_of := ok_sign_of (w := w) (base := base) T
  refine T.is_above.ok sc_is_above (fun vs H Q E h => ?_) (fun cdv A outer s H vs Q E hr h => ?_)
  · obtain ⟨_, _, _, _, _, rfl, _⟩ := h
    rfl
  obtain ⟨D, x, y, u, v, rfl, hx, hy, sx, sy, sxy, q⟩ := h
  refine ⟨_, (pss_one (ps_ret (pe_cmpR op_gt (pcl T.sign_of G_sign_of (hr.mono (by decide)) (pa_cons (pv 0) (pa_cons (pcl T.less G_less (hr.mono (by decide)) (pa_cons (pv 1) (pa_cons (pv 2) pa_nil))) pa_nil))) pe_int (nomark _)))), ?_⟩
  refine ⟨_, rfl, _, rfl, _, rfl, D, x, y, _, _, rfl, hx, hy, sx, sy, fun v1 H1 e1 h1 => ⟨D, x - y, _, rfl, h1, sxy, _, _, rfl, rfl, q _ _ e1 ?_⟩⟩
  rw [decide_eq_true_iff, MF.QD.sg_pos]
  constructor <;> intro h <;> grind

/-! ### the root beneath -/
def spRoot (n : Nat) : Sp := fun vs H Q _ => ∃ z : Int, vs = [.int z] ∧ 0 ≤ z ∧ Bd n z ∧ ∀ (r : Int) H', Le H H' → 0 ≤ r → r * r ≤ z → z < (r + 1) * (r + 1) → Q (.int r) H'
def WRa (z : Int) (H0 : Hp) (m : Nat) (σ : L2.St) (H : Hp) : Prop := H = H0 ∧ ∃ h : Int, ∃ o : Option V, σ = [some (.int z), some (.int 0), some (.int h), o] ∧ 1 ≤ h ∧ h ≤ 2 * z + 1 ∧ (2 * z + 1 - h).toNat = m
def WRb (z : Int) (H0 : Hp) (m : Nat) (σ : L2.St) (H : Hp) : Prop := H = H0 ∧ ∃ l h : Int, ∃ o : Option V, σ = [some (.int z), some (.int l), some (.int h), o] ∧ 0 ≤ l ∧ l < h ∧ h ≤ 2 * z + 1 ∧ l * l ≤ z ∧ z < h * h ∧ (h - l).toNat = m
theorem le_sq {h z : Int} (h1 : 1 ≤ h) (h2 : h * h ≤ z) : h ≤ z := by
  have : h * 1 ≤ h * h := Int.mul_le_mul_of_nonneg_left h1 (by omega)
  omega
theorem Bd.twice {n : Nat} {i z : Int} (hz : Bd n z) (h0 : 0 ≤ i) (h : i ≤ 2 * z + 1) : Bd (n + 2) i := by
  unfold Bd at *
  rw [Nat.pow_add]
  omega
theorem sc_root_beneath : FnScope ["square", "low", "high", "middle"] ["square"] (defScope s_root_beneath) := ⟨rfl, rfl, rfl, by decide +kernel, rfl, by decide +kernel, by decide +kernel⟩
theorem ok_root_beneath {n : Nat} (hn : n ≤ 40000000) (hs : base.NoSeer) : T.root_beneath.Ok w base 41 (spRoot n) := by
  refine T.root_beneath.ok sc_root_beneath (fun vs H Q E h => ?_) (fun cdv A outer s H vs Q E hr h => ?_)
  · obtain ⟨_, rfl, _⟩ := h
    rfl
  obtain ⟨z, rfl, hz, bz, q⟩ := h
  have nd := sc_root_beneath.nd
  refine ⟨_, (pss_cons (ps_asg (pe_tup (pa_cons pe_int (pa_cons pe_int pa_nil))) (pg_tup rfl (pgs_cons (pg_name (i := 1) nd rfl (by first | exact Or.inl rfl | exact Or.inr rfl)) (pgs_cons (pg_name (i := 2) nd rfl (by first | exact Or.inl rfl | exact Or.inr rfl)) pgs_nil))))
      (pss_cons (ps_while PassesOwn.never (pt_cmpR op_le (pe_op op_mulB (pv 2) (pv 2)) (pv 0) (nomark _)) (pss_one (ps_set (i := 2) nd rfl (by first | exact Or.inl rfl | exact Or.inr rfl) (pe_op op_mulB (pv 2) pe_int))))
      (pss_cons (ps_while PassesOwn.never (pt_cmpR op_gt (pe_op op_sub (pv 2) (pv 1)) pe_int (nomark _)) (pss_cons (ps_set (i := 3) nd rfl (by first | exact Or.inl rfl | exact Or.inr rfl) (pe_op (op_fdivB (plain_of hs (hr.mono (by decide)) rfl rfl)) (pe_op op_add (pv 1) (pv 2)) pe_int))
      (pss_one (ps_if (pt_cmpR op_le (pe_op op_mulB (pv 3) (pv 3)) (pv 0) (nomark _)) (pss_one (ps_set (i := 1) nd rfl (by first | exact Or.inl rfl | exact Or.inr rfl) (pv 3))) (pss_one (ps_set (i := 2) nd rfl (by first | exact Or.inl rfl | exact Or.inr rfl) (pv 3)))))))
      (pss_one (ps_ret (pv 1)))))), ?_⟩
  refine ⟨sz2, fun p hp => ⟨p, _, rfl, st_of upd_same, rfl, _, _, rfl, _, _, rfl, rfl, ?_⟩⟩
  have e0 : Le H (upd H p (.tup [.int 0, .int 1])) := Le.new hp
  refine ⟨WRa z (upd H p (.tup [.int 0, .int 1])), ⟨_, rfl, 1, none, rfl, by omega, by omega, rfl⟩, ?_⟩
  rintro m σ H' ⟨rfl, h, o, rfl, h1, h2, rfl⟩
  have bh := bz.twice (i := h) (by omega) h2
  refine ⟨_, rfl, _, rfl, _, _, rfl, rfl, mB bh bh (by omega), _, rfl, _, _, rfl, rfl, _, rfl, ?_⟩
  refine ite2 (fun c => ?_) (fun c => ?_)
  · have c' : h * h ≤ z := of_decide_eq_true c
    have hle := le_sq h1 c'
    refine ⟨fun σ' H'' => σ' = [some (.int z), some (.int 0), some (.int (h * 2)), o] ∧ H'' = upd H p (.tup [.int 0, .int 1]), ?_, _, rfl, _, _, rfl, rfl, mB bh (Bd.small (i := 2) (by decide) (by decide)) (by omega), rfl, rfl⟩
    rintro σ' H'' ⟨rfl, rfl⟩
    exact ⟨_, by omega, rfl, h * 2, o, rfl, by omega, by omega, rfl⟩
  · have c' : ¬ h * h ≤ z := of_decide_eq_false (Bool.eq_false_iff.mpr c)
    refine ⟨WRb z (upd H p (.tup [.int 0, .int 1])), ⟨_, rfl, 0, h, o, rfl, by omega, by omega, h2, by omega, by omega, rfl⟩, ?_⟩
    rintro m σ H' ⟨rfl, l, h, o, rfl, h1, h2, h3, h4, h5, rfl⟩
    have bh := bz.twice (i := h) (by omega) h3
    refine ⟨_, rfl, _, rfl, _, _, rfl, rfl, _, _, rfl, rfl, _, rfl, ?_⟩
    refine ite2 (fun c => ?_) (fun c => ?_)
    · have c' : 1 < h - l := of_decide_eq_true c
      have bm := bz.twice (i := (l + h) / 2) (by omega) (by omega)
      refine ⟨fun σ' H'' => H'' = upd H p (.tup [.int 0, .int 1]) ∧ ∃ o', (σ' = [some (.int z), some (.int ((l + h) / 2)), some (.int h), o'] ∧ (l + h) / 2 * ((l + h) / 2) ≤ z) ∨ (σ' = [some (.int z), some (.int l), some (.int ((l + h) / 2)), o'] ∧ ¬ (l + h) / 2 * ((l + h) / 2) ≤ z), ?_, ?_⟩
      · rintro σ' H'' ⟨rfl, o', ⟨rfl, z1⟩ | ⟨rfl, z1⟩⟩
        · exact ⟨_, by omega, rfl, _, _, o', rfl, by omega, by omega, h3, z1, h5, rfl⟩
        · exact ⟨_, by omega, rfl, _, _, o', rfl, h1, by omega, by omega, h4, by omega, rfl⟩
      · refine ⟨_, rfl, _, rfl, _, _, rfl, rfl, _, _, rfl, rfl, (by show (0 : Int) < 2; decide), _, rfl, _, rfl, _, _, rfl, rfl, mB bm bm (by omega), _, rfl, _, _, rfl, rfl, _, rfl, ?_⟩
        refine ite2 (fun c => ?_) (fun c => ?_)
        · exact ⟨_, rfl, rfl, _, .inl ⟨rfl, of_decide_eq_true c⟩⟩
        · exact ⟨_, rfl, rfl, _, .inr ⟨rfl, of_decide_eq_false (Bool.eq_false_iff.mpr c)⟩⟩
    · have c' : ¬ 1 < h - l := of_decide_eq_false (Bool.eq_false_iff.mpr c)
      have e : h = l + 1 := by omega
      subst e
      exact ⟨_, rfl, q l _ e0 h1 h4 h5⟩

/-! ### the whole number beneath -/
def spFloor (K : PySem.W.Frag) : Sp := fun vs H Q _ => ∃ (D : Root) (x : QD D) (u : V), vs = [.int D.d, u] ∧ Nm K H u x ∧ Sml x ∧ ∀ (n : Int) H', Le H H' → (n : QD D) ≤ x → x < (n : QD D) + 1 → Q (.int n) H'
theorem Bd.neg1 {n : Nat} {i : Int} (h : Bd n i) : Bd n (-i) := h.of_abs (by omega)
theorem sq_nn (a : Int) : 0 ≤ a * a := by
  rcases Int.le_total 0 a with h | h
  · exact Int.mul_nonneg h h
  · exact Int.mul_nonneg_of_nonpos_of_nonpos h h
theorem root_bd {n : Nat} {r z : Int} (h0 : 0 ≤ r) (h1 : r * r ≤ z) (hz : Bd n z) (hn : 1 ≤ n) : Bd n r := by
  by_cases h : r = 0
  · subst h; unfold Bd; exact Nat.lt_of_lt_of_le (by decide : (0 : Int).natAbs < 1) Nat.one_le_two_pow
  · have := le_sq (show 1 ≤ r by omega) h1
    exact hz.of_abs (by omega)
theorem sc_whole_beneath : FnScope ["d", "x", "a", "b", "c", "whole"] ["d", "x"] (defScope s_whole_beneath) := ⟨rfl, rfl, rfl, by decide +kernel, rfl, by decide +kernel, by decide +kernel⟩
theorem ok_whole_beneath (hs : base.NoSeer) : T.whole_beneath.Ok w base 42 (spFloor K) := by
  have G_root_beneath := ok_root_beneath (w := w) (n := 33554439) T (by decide) hs
  refine T.whole_beneath.ok sc_whole_beneath (fun vs H Q E h => ?_) (fun cdv A outer s H vs Q E hr h => ?_)
  · obtain ⟨_, _, _, rfl, _⟩ := h
    rfl
  obtain ⟨D, x, u, rfl, ⟨p, rfl, hx⟩, sx, q⟩ := h
  have nd := sc_whole_beneath.nd
  have bx := sx.bds
  have bd := Root.bd D
  have hd := D.lo
  have hz : 0 ≤ D.d * x.b * x.b := by rw [Int.mul_assoc]; exact Int.mul_nonneg (by omega) (sq_nn _)
  have bz : Bd 33554439 (D.d * x.b * x.b) := Bd.mono ((bd.mul bx.b).mul bx.b) (by decide)
  refine ⟨_, (pss_cons (ps_asg (pv 1) (pg_tup rfl (pgs_cons (pg_name (i := 2) nd rfl (by first | exact Or.inl rfl | exact Or.inr rfl)) (pgs_cons (pg_name (i := 3) nd rfl (by first | exact Or.inl rfl | exact Or.inr rfl)) (pgs_cons (pg_name (i := 4) nd rfl (by first | exact Or.inl rfl | exact Or.inr rfl)) pgs_nil)))))
      (pss_cons (ps_set (i := 5) nd rfl (by first | exact Or.inl rfl | exact Or.inr rfl) (pcl T.root_beneath G_root_beneath (hr.mono (by decide)) (pa_cons (pe_op op_mulB (pe_op op_mulB (pv 0) (pv 3)) (pv 3)) pa_nil)))
      (pss_cons (ps_if (pt_cmpR op_lt (pv 3) pe_int (nomark _)) (pss_one (ps_set (i := 5) nd rfl (by first | exact Or.inl rfl | exact Or.inr rfl) (pe_op op_sub (pe_op op_sub pe_int (pv 5)) (pe_callTy call_int1 rfl T.b_int (by decide +kernel) (pa_cons (pe_cmpR op_lt (pe_op op_mulB (pv 5) (pv 5)) (pe_op op_mulB (pe_op op_mulB (pv 0) (pv 3)) (pv 3)) (nomark _)) pa_nil))))) pss_nil)
      (pss_one (ps_ret (pe_op (op_fdivB (plain_of hs (hr.mono (by decide)) rfl rfl)) (pe_op op_add (pv 2) (pv 5)) (pv 4))))))), ?_⟩
  refine ⟨_, rfl, _, _, rfl, hx, rfl, _, _, rfl, _, _, rfl, _, _, rfl, rfl, ?_⟩
  refine ⟨_, rfl, _, rfl, _, _, rfl, rfl, mB bd bx.b, _, rfl, _, _, rfl, rfl, mB (bd.mul bx.b) bx.b, _, rfl, hz, bz, fun r H1 e1 r0 r1 r2 => ?_⟩
  obtain ⟨g1, g2⟩ := MF.QD.floor_is x r0 r1 r2
  have br := root_bd r0 r1 bz (by decide)
  refine ⟨_, rfl, _, _, rfl, rfl, _, rfl, ?_⟩
  refine ite2 (fun c => ?_) (fun c => ?_)
  · have c' : x.b < 0 := of_decide_eq_true c
    have e : MF.QD.wb D.d x.b r = 0 - r - (if decide (r * r < D.d * x.b * x.b) = true then 1 else 0) := by
      unfold MF.QD.wb
      rw [if_pos c']
      by_cases hp : r * r < D.d * x.b * x.b <;> simp [hp]
    rw [e] at g1 g2
    exact ⟨_, rfl, _, _, rfl, rfl, _, rfl, _, rfl, _, _, rfl, rfl, mB br br, _, rfl, _, rfl, _, _, rfl, rfl, mB bd bx.b, _, rfl, _, _, rfl, rfl, mB (bd.mul bx.b) bx.b, _, _, rfl, rfl, .inr ⟨_, rfl, _, _, rfl, rfl, _, rfl, _, rfl, _, _, rfl, rfl, _, rfl, _, _, rfl, rfl, x.c_pos, q _ _ e1 g1 g2⟩⟩
  · have c' : ¬ x.b < 0 := of_decide_eq_false (Bool.eq_false_iff.mpr c)
    have e : MF.QD.wb D.d x.b r = r := by unfold MF.QD.wb; rw [if_neg c']
    rw [e] at g1 g2
    exact ⟨_, rfl, _, rfl, _, _, rfl, rfl, _, rfl, _, _, rfl, rfl, x.c_pos, q _ _ e1 g1 g2⟩
end
end MW

namespace MW
open PySem PySem.Spec PyProof.Rows L2
open MF (Root QD)
open MF.QD (Sz)
theorem gcd3_bd {n : Nat} {a b c : Int} (h : c ≠ 0) (hc : Bd n c) : Bd n ((Int.gcd (Int.gcd a b) c : Nat) : Int) := by
  refine hc.of_abs ?_
  have h1 : (Int.gcd (Int.gcd a b) c) ∣ c.natAbs := by
    have := Int.gcd_dvd_natAbs_right (Int.gcd a b) c
    exact this
  have := Nat.le_of_dvd (by omega) h1
  omega
section
variable {K : PySem.W.Frag} {mg : Str → Option Value} {w : World} {base : Heap} (T : Txt K mg)
def spLowL (K : PySem.W.Frag) : Sp := fun vs H Q _ => ∃ (D : Root) (x : QD D) (a b c : Int), vs = [.int a, .int b, .int c] ∧ c ≠ 0 ∧ Bd 100000000 c ∧ QD.ofT a b c = x ∧ GivesN K H Q x
theorem sc_l_low : FnScope ["_law_a", "_law_b", "_law_c", "_law_common"] ["_law_a", "_law_b", "_law_c"] (defScope s_l_low) := ⟨rfl, rfl, rfl, by decide +kernel, rfl, by decide +kernel, by decide +kernel⟩
theorem ok_l_low (hs : base.NoSeer) : T.l_low.Ok w base 42 (spLowL K) := by
  have G_l_shared := ok_l_shared (w := w) (base := base) T
  refine T.l_low.ok sc_l_low (fun vs H Q E h => ?_) (fun cdv A outer s H vs Q E hr h => ?_)
  · obtain ⟨_, _, a, b, c, rfl, _⟩ := h
    rfl
  obtain ⟨D, x, a, b, c, rfl, hc, bc, hx, q⟩ := h
  have nd := sc_l_low.nd
  refine ⟨_, (pss_cons (ps_set (i := 3) nd rfl (by first | exact Or.inl rfl | exact Or.inr rfl) (pe_op op_mulB (pcl T.l_shared G_l_shared (hr.mono (by decide)) (pa_cons (pcl T.l_shared G_l_shared (hr.mono (by decide)) (pa_cons (pv 0) (pa_cons (pv 1) pa_nil))) (pa_cons (pv 2) pa_nil))) (pe_ix ix_list (pe_lst (pa_cons pe_int (pa_cons (pe_un un_neg pe_int) pa_nil))) (pe_callTy call_int1 rfl T.b_int (by decide +kernel) (pa_cons (pe_cmpR op_lt (pv 2) pe_int (nomark _)) pa_nil)) (fun _ _ => rfl))))
      (pss_one (ps_ret (pe_tup (pa_cons (pe_op (op_fdivA (plain_of hs (hr.mono (by decide)) rfl rfl)) (pv 0) (pv 3)) (pa_cons (pe_op (op_fdivA (plain_of hs (hr.mono (by decide)) rfl rfl)) (pv 1) (pv 3)) (pa_cons (pe_op (op_fdivA (plain_of hs (hr.mono (by decide)) rfl rfl)) (pv 2) (pv 3)) pa_nil))))))), ?_⟩
  obtain ⟨d1, d2, d3⟩ := MF.QD.com_dvd a b c
  have hne := MF.QD.com_ne (a := a) (b := b) hc
  obtain ⟨e1, e2, e3⟩ := MF.QD.low_eq hc hx
  rw [← Int.fdiv_eq_ediv_of_dvd d1] at e1
  rw [← Int.fdiv_eq_ediv_of_dvd d2] at e2
  rw [← Int.fdiv_eq_ediv_of_dvd d3] at e3
  have bg := gcd3_bd (a := a) (b := b) hc bc
  have fin : ∀ (m : Int) (H1 : Hp), Le H H1 → V.int m = V.int (MF.QD.com a b c) → tRet (tTup (tCons (tOp (rI (fun _ j => j ≠ 0) fun i j => .int (i.fdiv j)) (tVar 0) (tVar 3)) (tCons (tOp (rI (fun _ j => j ≠ 0) fun i j => .int (i.fdiv j)) (tVar 1) (tVar 3)) (tCons (tOp (rI (fun _ j => j ≠ 0) fun i j => .int (i.fdiv j)) (tVar 2) (tVar 3)) tNil)))) { nx := fun _ H' => Q .non H', rt := Q } [some (.int a), some (.int b), some (.int c), some (.int m)] H1 := fun m H1 le ek => by
    refine ⟨_, rfl, _, rfl, a, _, rfl, ek, hne, _, rfl, _, rfl, b, _, rfl, ek, hne, _, rfl, _, rfl, c, _, rfl, ek, hne, sz3, fun p hp => ?_⟩
    exact q _ _ (le.trans (Le.new hp)) ⟨p, rfl, st_new (by show [V.int (a.fdiv (MF.QD.com a b c)), V.int (b.fdiv (MF.QD.com a b c)), V.int (c.fdiv (MF.QD.com a b c))] = _; rw [e1, e2, e3]; rfl)⟩
  refine ⟨_, rfl, _, rfl, a, b, rfl, _, rfl, _, c, rfl, _, rfl, sz2, fun p hp => ⟨_, rfl, _, _, rfl, rfl, .inr ⟨_, rfl, ?_⟩⟩⟩
  by_cases h : c < 0
  · have ek := com_eq a b c h
    exact ⟨p, [.int 1, .int (-1)], _, .int (-1), rfl, rfl, sq_of upd_same, (by rw [decide_eq_true h]; rfl), _, _, rfl, rfl, mB bg (Bd.small (i := -1) (by decide) (by decide)), fin _ _ (Le.new hp) (congrArg V.int (by rw [ek]; omega))⟩
  · have ek := com_eq' a b c h
    exact ⟨p, [.int 1, .int (-1)], _, .int 1, rfl, rfl, sq_of upd_same, (by rw [decide_eq_false h]; rfl), _, _, rfl, rfl, mB bg (Bd.small (i := 1) (by decide) (by decide)), fin _ _ (Le.new hp) (congrArg V.int (by rw [ek]; omega))⟩

theorem sc_l_plus : FnScope ["_law_x", "_law_y"] ["_law_x", "_law_y"] (defScope s_l_plus) := ⟨rfl, rfl, rfl, by decide +kernel, rfl, by decide +kernel, by decide +kernel⟩
theorem ok_l_plus (hs : base.NoSeer) : T.l_plus.Ok w base 43 (spPlus K) := by
  have G_l_low := ok_l_low (w := w) T hs
  refine T.l_plus.ok sc_l_plus (fun vs H Q E h => ?_) (fun cdv A outer s H vs Q E hr h => ?_)
  · obtain ⟨_, _, _, _, _, rfl, _⟩ := h
    rfl
  obtain ⟨D, x, y, u, v, rfl, ⟨p, rfl, hx⟩, ⟨p', rfl, hy⟩, sx, sy, q⟩ := h
  have bx := sx.bds
  have bY := sy.bds
  refine ⟨_, (pss_one (ps_ret (pcl T.l_low G_l_low (hr.mono (by decide)) (pa_cons (pe_op op_add (pe_op op_mulB (pe_ix ix_tup (pv 0) pe_int (fun _ _ => rfl)) (pe_ix ix_tup (pv 1) pe_int (fun _ _ => rfl))) (pe_op op_mulB (pe_ix ix_tup (pv 1) pe_int (fun _ _ => rfl)) (pe_ix ix_tup (pv 0) pe_int (fun _ _ => rfl)))) (pa_cons (pe_op op_add (pe_op op_mulB (pe_ix ix_tup (pv 0) pe_int (fun _ _ => rfl)) (pe_ix ix_tup (pv 1) pe_int (fun _ _ => rfl))) (pe_op op_mulB (pe_ix ix_tup (pv 1) pe_int (fun _ _ => rfl)) (pe_ix ix_tup (pv 0) pe_int (fun _ _ => rfl)))) (pa_cons (pe_op op_mulB (pe_ix ix_tup (pv 0) pe_int (fun _ _ => rfl)) (pe_ix ix_tup (pv 1) pe_int (fun _ _ => rfl))) pa_nil)))))), ?_⟩
  exact ⟨_, rfl, _, _, _, _, rfl, rfl, hx, rfl, _, rfl, _, _, _, _, rfl, rfl, hy, rfl, _, _, rfl, rfl, mB bx.a bY.c, _, rfl, _, _, _, _, rfl, rfl, hy, rfl, _, rfl, _, _, _, _, rfl, rfl, hx, rfl, _, _, rfl, rfl, mB bY.a bx.c, _, _, rfl, rfl, _, rfl, _, _, _, _, rfl, rfl, hx, rfl, _, rfl, _, _, _, _, rfl, rfl, hy, rfl, _, _, rfl, rfl, mB bx.b bY.c, _, rfl, _, _, _, _, rfl, rfl, hy, rfl, _, rfl, _, _, _, _, rfl, rfl, hx, rfl, _, _, rfl, rfl, mB bY.b bx.c, _, _, rfl, rfl, _, rfl, _, _, _, _, rfl, rfl, hx, rfl, _, rfl, _, _, _, _, rfl, rfl, hy, rfl, _, _, rfl, rfl, mB bx.c bY.c, D, x + y, _, _, _, rfl, MF.QD.cc_ne x y, Bd.mono (bx.c.mul bY.c) (by decide), MF.QD.of_plus x y, q⟩

theorem sc_l_minus : FnScope ["_law_x"] ["_law_x"] (defScope s_l_minus) := ⟨rfl, rfl, rfl, by decide +kernel, rfl, by decide +kernel, by decide +kernel⟩
theorem ok_l_minus : T.l_minus.Ok w base 41 (spNeg K) := by
  refine T.l_minus.ok sc_l_minus (fun vs H Q E h => ?_) (fun cdv A outer s H vs Q E hr h => ?_)
  · obtain ⟨_, _, _, rfl, _⟩ := h
    rfl
  obtain ⟨D, x, u, rfl, ⟨p, rfl, hx⟩, q⟩ := h
  refine ⟨_, (pss_one (ps_ret (pe_tup (pa_cons (pe_op op_sub pe_int (pe_ix ix_tup (pv 0) pe_int (fun _ _ => rfl))) (pa_cons (pe_op op_sub pe_int (pe_ix ix_tup (pv 0) pe_int (fun _ _ => rfl))) (pa_cons (pe_ix ix_tup (pv 0) pe_int (fun _ _ => rfl)) pa_nil)))))), ?_⟩
  obtain ⟨h1, h2, h3⟩ := MF.QD.tri_neg x
  exact ⟨_, rfl, _, _, _, _, rfl, rfl, hx, rfl, _, _, rfl, rfl, _, rfl, _, _, _, _, rfl, rfl, hx, rfl, _, _, rfl, rfl, _, rfl, _, _, _, _, rfl, rfl, hx, rfl, sz3, fun r hr' => q _ _ (Le.new hr') ⟨r, rfl, st_new (by unfold tr; rw [h1, h2, h3])⟩⟩

theorem sc_l_times : FnScope ["_law_d", "_law_x", "_law_y"] ["_law_d", "_law_x", "_law_y"] (defScope s_l_times) := ⟨rfl, rfl, rfl, by decide +kernel, rfl, by decide +kernel, by decide +kernel⟩
theorem ok_l_times (hs : base.NoSeer) : T.l_times.Ok w base 43 (spTimes K) := by
  have G_l_low := ok_l_low (w := w) T hs
  refine T.l_times.ok sc_l_times (fun vs H Q E h => ?_) (fun cdv A outer s H vs Q E hr h => ?_)
  · obtain ⟨_, _, _, _, _, rfl, _⟩ := h
    rfl
  obtain ⟨D, x, y, u, v, rfl, ⟨p, rfl, hx⟩, ⟨p', rfl, hy⟩, sx, sy, q⟩ := h
  have bx := sx.bds
  have bY := sy.bds
  have bd := Root.bd D
  refine ⟨_, (pss_one (ps_ret (pcl T.l_low G_l_low (hr.mono (by decide)) (pa_cons (pe_op op_add (pe_op op_mulB (pe_ix ix_tup (pv 1) pe_int (fun _ _ => rfl)) (pe_ix ix_tup (pv 2) pe_int (fun _ _ => rfl))) (pe_op op_mulB (pe_op op_mulB (pv 0) (pe_ix ix_tup (pv 1) pe_int (fun _ _ => rfl))) (pe_ix ix_tup (pv 2) pe_int (fun _ _ => rfl)))) (pa_cons (pe_op op_add (pe_op op_mulB (pe_ix ix_tup (pv 1) pe_int (fun _ _ => rfl)) (pe_ix ix_tup (pv 2) pe_int (fun _ _ => rfl))) (pe_op op_mulB (pe_ix ix_tup (pv 1) pe_int (fun _ _ => rfl)) (pe_ix ix_tup (pv 2) pe_int (fun _ _ => rfl)))) (pa_cons (pe_op op_mulB (pe_ix ix_tup (pv 1) pe_int (fun _ _ => rfl)) (pe_ix ix_tup (pv 2) pe_int (fun _ _ => rfl))) pa_nil)))))), ?_⟩
  exact ⟨_, rfl, _, _, _, _, rfl, rfl, hx, rfl, _, rfl, _, _, _, _, rfl, rfl, hy, rfl, _, _, rfl, rfl, mB bx.a bY.a, _, rfl, _, rfl, _, _, _, _, rfl, rfl, hx, rfl, _, _, rfl, rfl, mB bd bx.b, _, rfl, _, _, _, _, rfl, rfl, hy, rfl, _, _, rfl, rfl, mB (bd.mul bx.b) bY.b, _, _, rfl, rfl, _, rfl, _, _, _, _, rfl, rfl, hx, rfl, _, rfl, _, _, _, _, rfl, rfl, hy, rfl, _, _, rfl, rfl, mB bx.a bY.b, _, rfl, _, _, _, _, rfl, rfl, hx, rfl, _, rfl, _, _, _, _, rfl, rfl, hy, rfl, _, _, rfl, rfl, mB bx.b bY.a, _, _, rfl, rfl, _, rfl, _, _, _, _, rfl, rfl, hx, rfl, _, rfl, _, _, _, _, rfl, rfl, hy, rfl, _, _, rfl, rfl, mB bx.c bY.c, D, x * y, _, _, _, rfl, MF.QD.cc_ne x y, Bd.mono (bx.c.mul bY.c) (by decide), MF.QD.of_times x y, q⟩

def spInv (K : PySem.W.Frag) : Sp := fun vs H Q _ => ∃ (D : Root) (x : QD D) (u : V), vs = [.int D.d, u] ∧ Nm K H u x ∧ Sml x ∧ x ≠ 0 ∧ GivesN K H Q x⁻¹
theorem Bd.add {n : Nat} {i j : Int} (hi : Bd n i) (hj : Bd n j) : Bd (n + 1) (i + j) := by
  unfold Bd at *
  rw [Nat.pow_succ]
  omega
theorem norm_bd {D : Root} {x : QD D} (bx : Bds x) : Bd 100000000 (x.a * x.a - D.d * x.b * x.b) := by
  have bd := Root.bd D
  have h1 : Bd 33554439 (x.a * x.a) := Bd.mono (bx.a.mul bx.a) (by decide)
  have h2 : Bd 33554439 (D.d * x.b * x.b) := Bd.mono ((bd.mul bx.b).mul bx.b) (by decide)
  exact Bd.mono (Bd.add h1 h2.neg1) (by decide)
theorem sc_l_contrary : FnScope ["_law_d", "_law_x"] ["_law_d", "_law_x"] (defScope s_l_contrary) := ⟨rfl, rfl, rfl, by decide +kernel, rfl, by decide +kernel, by decide +kernel⟩
theorem ok_l_contrary (hs : base.NoSeer) : T.l_contrary.Ok w base 43 (spInv K) := by
  have G_l_low := ok_l_low (w := w) T hs
  refine T.l_contrary.ok sc_l_contrary (fun vs H Q E h => ?_) (fun cdv A outer s H vs Q E hr h => ?_)
  · obtain ⟨_, _, _, rfl, _⟩ := h
    rfl
  obtain ⟨D, x, u, rfl, ⟨p, rfl, hx⟩, sx, hne, q⟩ := h
  have bx := sx.bds
  have bd := Root.bd D
  refine ⟨_, (pss_one (ps_ret (pcl T.l_low G_l_low (hr.mono (by decide)) (pa_cons (pe_op op_mulB (pe_ix ix_tup (pv 1) pe_int (fun _ _ => rfl)) (pe_ix ix_tup (pv 1) pe_int (fun _ _ => rfl))) (pa_cons (pe_op op_sub pe_int (pe_op op_mulB (pe_ix ix_tup (pv 1) pe_int (fun _ _ => rfl)) (pe_ix ix_tup (pv 1) pe_int (fun _ _ => rfl)))) (pa_cons (pe_op op_sub (pe_op op_mulB (pe_ix ix_tup (pv 1) pe_int (fun _ _ => rfl)) (pe_ix ix_tup (pv 1) pe_int (fun _ _ => rfl))) (pe_op op_mulB (pe_op op_mulB (pv 0) (pe_ix ix_tup (pv 1) pe_int (fun _ _ => rfl))) (pe_ix ix_tup (pv 1) pe_int (fun _ _ => rfl)))) pa_nil)))))), ?_⟩
  exact ⟨_, rfl, _, _, _, _, rfl, rfl, hx, rfl, _, rfl, _, _, _, _, rfl, rfl, hx, rfl, _, _, rfl, rfl, mB bx.a bx.c, _, rfl, _, _, _, _, rfl, rfl, hx, rfl, _, rfl, _, _, _, _, rfl, rfl, hx, rfl, _, _, rfl, rfl, mB bx.b bx.c, _, _, rfl, rfl, _, rfl, _, _, _, _, rfl, rfl, hx, rfl, _, rfl, _, _, _, _, rfl, rfl, hx, rfl, _, _, rfl, rfl, mB bx.a bx.a, _, rfl, _, rfl, _, _, _, _, rfl, rfl, hx, rfl, _, _, rfl, rfl, mB bd bx.b, _, rfl, _, _, _, _, rfl, rfl, hx, rfl, _, _, rfl, rfl, mB (bd.mul bx.b) bx.b, _, _, rfl, rfl, D, x⁻¹, _, _, _, rfl, MF.QD.inv_ne hne, norm_bd bx, MF.QD.of_inv hne, q⟩

theorem sgn_bi (z : Int) : MF.QD.sgn z = (if decide (0 < z) = true then (1 : Int) else 0) - (if decide (z < 0) = true then (1 : Int) else 0) := (boolInt _ _).symm
theorem sgn_small (z : Int) : -1 ≤ MF.QD.sgn z ∧ MF.QD.sgn z ≤ 1 := by unfold MF.QD.sgn; repeat' split <;> omega
def spSignL (K : PySem.W.Frag) : Sp := fun vs H Q _ => ∃ (D : Root) (x : QD D) (u : V), vs = [.int D.d, u] ∧ Nm K H u x ∧ Sml x ∧ ∀ H', Le H H' → Q (.int x.sg) H'
theorem sc_l_sign : FnScope ["_law_d", "_law_x", "_law_first", "_law_second", "_law_sides"] ["_law_d", "_law_x"] (defScope s_l_sign) := ⟨rfl, rfl, rfl, by decide +kernel, rfl, by decide +kernel, by decide +kernel⟩
theorem ok_l_sign : T.l_sign.Ok w base 41 (spSignL K) := by
  refine T.l_sign.ok sc_l_sign (fun vs H Q E h => ?_) (fun cdv A outer s H vs Q E hr h => ?_)
  · obtain ⟨_, _, _, rfl, _⟩ := h
    rfl
  obtain ⟨D, x, u, rfl, ⟨p, rfl, hx⟩, sx, q⟩ := h
  have nd := sc_l_sign.nd
  have bx := sx.bds
  have bd := Root.bd D
  refine ⟨_, (pss_cons (ps_par (i := 2) (j := 3) rfl nd rfl rfl (by decide) rfl rfl (pa_cons (pe_op op_mulB (pe_ix ix_tup (pv 1) pe_int (fun _ _ => rfl)) (pe_ix ix_tup (pv 1) pe_int (fun _ _ => rfl))) (pa_cons (pe_op op_mulB (pe_op op_mulB (pv 0) (pe_ix ix_tup (pv 1) pe_int (fun _ _ => rfl))) (pe_ix ix_tup (pv 1) pe_int (fun _ _ => rfl))) pa_nil)) (by rfl))
      (pss_cons (ps_set (i := 4) nd rfl (by first | exact Or.inl rfl | exact Or.inr rfl) (pe_lst (pa_cons (pe_op op_sub (pe_callTy call_int1 rfl T.b_int (by decide +kernel) (pa_cons (pe_cmpR op_gt (pe_ix ix_tup (pv 1) pe_int (fun _ _ => rfl)) pe_int (nomark _)) pa_nil)) (pe_callTy call_int1 rfl T.b_int (by decide +kernel) (pa_cons (pe_cmpR op_lt (pe_ix ix_tup (pv 1) pe_int (fun _ _ => rfl)) pe_int (nomark _)) pa_nil))) (pa_cons (pe_op op_sub (pe_callTy call_int1 rfl T.b_int (by decide +kernel) (pa_cons (pe_cmpR op_gt (pe_ix ix_tup (pv 1) pe_int (fun _ _ => rfl)) pe_int (nomark _)) pa_nil)) (pe_callTy call_int1 rfl T.b_int (by decide +kernel) (pa_cons (pe_cmpR op_lt (pe_ix ix_tup (pv 1) pe_int (fun _ _ => rfl)) pe_int (nomark _)) pa_nil))) pa_nil))))
      (pss_cons (ps_if (pt_cmpR op_ge (pe_op op_mulB (pe_ix ix_list (pv 4) pe_int (fun _ _ => rfl)) (pe_ix ix_list (pv 4) pe_int (fun _ _ => rfl))) pe_int (nomark _)) (pss_one (ps_ret (pe_ifExp (pt_cmpR op_ne (pe_ix ix_list (pv 4) pe_int (fun _ _ => rfl)) pe_int (nomark _)) (pe_ix ix_list (pv 4) pe_int (fun _ _ => rfl)) (pe_ix ix_list (pv 4) pe_int (fun _ _ => rfl))))) pss_nil)
      (pss_one (ps_ret (pe_ifExp (pt_cmpR op_gt (pv 2) (pv 3) (nomark _)) (pe_ix ix_list (pv 4) pe_int (fun _ _ => rfl)) (pe_ix ix_list (pv 4) pe_int (fun _ _ => rfl)))))))), ?_⟩
  have e := MF.QD.lsg_eq x
  refine ⟨_, rfl, _, _, _, _, rfl, rfl, hx, rfl, _, rfl, _, _, _, _, rfl, rfl, hx, rfl, _, _, rfl, rfl, mB bx.a bx.a, _, rfl, _, rfl, _, _, _, _, rfl, rfl, hx, rfl, _, _, rfl, rfl, mB bd bx.b, _, rfl, _, _, _, _, rfl, rfl, hx, rfl, _, _, rfl, rfl, mB (bd.mul bx.b) bx.b, _, _, rfl, ?_⟩
  refine ⟨_, rfl, _, _, _, _, rfl, rfl, hx, rfl, _, _, rfl, rfl, .inr ⟨_, rfl, _, rfl, _, _, _, _, rfl, rfl, hx, rfl, _, _, rfl, rfl, .inr ⟨_, rfl, _, _, rfl, rfl, _, rfl, _, _, _, _, rfl, rfl, hx, rfl, _, _, rfl, rfl, .inr ⟨_, rfl, _, rfl, _, _, _, _, rfl, rfl, hx, rfl, _, _, rfl, rfl, .inr ⟨_, rfl, _, _, rfl, rfl, sz2, fun r hr' => ?_⟩⟩⟩⟩⟩
  have le := Le.new (o := HO.lst [V.int ((if decide (0 < x.a) = true then (1 : Int) else 0) - (if decide (x.a < 0) = true then (1 : Int) else 0)), V.int ((if decide (0 < x.b) = true then (1 : Int) else 0) - (if decide (x.b < 0) = true then (1 : Int) else 0))]) hr'
  have hl : SqL K (upd H r (.lst [V.int ((if decide (0 < x.a) = true then (1 : Int) else 0) - (if decide (x.a < 0) = true then (1 : Int) else 0)), V.int ((if decide (0 < x.b) = true then (1 : Int) else 0) - (if decide (x.b < 0) = true then (1 : Int) else 0))])) r [.int (MF.QD.sgn x.a), .int (MF.QD.sgn x.b)] := sq_new (by rw [sgn_bi, sgn_bi])
  have q1 := q _ le
  clear q
  generalize hH : upd H r (.lst [V.int ((if decide (0 < x.a) = true then (1 : Int) else 0) - (if decide (x.a < 0) = true then (1 : Int) else 0)), V.int ((if decide (0 < x.b) = true then (1 : Int) else 0) - (if decide (x.b < 0) = true then (1 : Int) else 0))]) = H1 at hl q1
  have s1 := sgn_small x.a
  have s2 := sgn_small x.b
  have m0 : CMulB (MF.QD.sgn x.a) (MF.QD.sgn x.b) := mB (Bd.small (by omega) (by omega)) (Bd.small (by omega) (by omega))
  rw [← e] at q1
  unfold MF.QD.lsg at q1
  refine ⟨_, rfl, r, _, _, _, rfl, rfl, hl, rfl, _, rfl, r, _, _, _, rfl, rfl, hl, rfl, _, _, rfl, rfl, m0, _, _, rfl, rfl, _, rfl, ?_⟩
  refine ite2 (fun c => ?_) (fun c => ?_)
  · rw [if_pos (of_decide_eq_true c)] at q1
    refine ⟨_, rfl, r, _, _, _, rfl, rfl, hl, rfl, rfl, _, rfl, ?_⟩
    by_cases h0 : MF.QD.sgn x.a = 0
    · rw [if_neg (show ¬ MF.QD.sgn x.a ≠ 0 from fun h => h h0)] at q1
      refine ifF (by rw [h0]; rfl) ?_
      exact ⟨_, rfl, r, _, _, _, rfl, rfl, hl, rfl, q1⟩
    · rw [if_pos h0] at q1
      refine ifT (by rw [Bool.not_eq_true']; exact decide_eq_false fun z => h0 (V.int.inj z)) ?_
      exact ⟨_, rfl, r, _, _, _, rfl, rfl, hl, rfl, q1⟩
  · rw [if_neg (of_decide_eq_false (Bool.eq_false_iff.mpr c))] at q1
    refine ⟨_, rfl, _, rfl, _, _, rfl, rfl, _, rfl, ?_⟩
    refine ite2 (fun c => ?_) (fun c => ?_)
    · rw [if_pos (of_decide_eq_true c)] at q1
      exact ⟨_, rfl, r, _, _, _, rfl, rfl, hl, rfl, q1⟩
    · rw [if_neg (of_decide_eq_false (Bool.eq_false_iff.mpr c))] at q1
      exact ⟨_, rfl, r, _, _, _, rfl, rfl, hl, rfl, q1⟩
end
end MW

namespace MW
open PySem PySem.Spec PyProof.Rows L2
open MF (Root QD)
open MF.QD (Sz)
/-! ### comprehensions -/
/-- tuples stand -/
def LeT (H H' : Hp) : Prop := (∀ a xs, H a = some (.tup xs) → H' a = some (.tup xs)) ∧ (∀ a o u, H a = some (.frz o u) → H' a = some (.frz o u))
theorem Le.t {H H' : Hp} (e : Le H H') : LeT H H' := ⟨fun _ _ h => e.keep h nb_tup, fun _ _ _ h => e.keep h nb_frz⟩
theorem LeT.refl (H : Hp) : LeT H H := ⟨fun _ _ h => h, fun _ _ _ h => h⟩
theorem LeT.trans {H H1 H2 : Hp} (a : LeT H H1) (b : LeT H1 H2) : LeT H H2 := ⟨fun c xs h => b.1 c xs (a.1 c xs h), fun c o u h => b.2 c o u (a.2 c o u h)⟩
theorem LeT.lst {H : Hp} {p : Addr} {xs ys : List V} (h : H p = some (.lst xs)) : LeT H (upd H p (.lst ys)) :=
  ⟨fun a zs e => by rw [upd_ne (ne_of e h (fun z => by cases z))]; exact e, fun a o u e => by rw [upd_ne (ne_of e h (fun z => by cases z))]; exact e⟩
theorem LeT.tup {K : PySem.W.Frag} {H H' : Hp} {a : Addr} {xs : List V} (e : LeT H H') (h : SqT K H a xs) : SqT K H' a xs := by
  rcases h with (h | ⟨o, h⟩) | h
  · exact .inl (.inl (e.1 _ _ h))
  · exact .inl (.inr ⟨o, e.2 _ _ _ h⟩)
  · exact .inr h
theorem Nm.upT {K : PySem.W.Frag} {H H' : Hp} {D : Root} {v : V} {x : QD D} (e : LeT H H') (h : Nm K H v x) : Nm K H' v x := by
  obtain ⟨p, h1, h2⟩ := h
  exact ⟨p, h1, e.tup h2⟩
def Nint (v : V) : Prop := ∀ i : Int, v ≠ .int i
theorem Same.le {H H' : Hp} (e : Same H H') : Le H H' := fun a o h => .inl (e a o h)
theorem Same.new {H : Hp} {p : Addr} {o : HO} (h : H p = none) : Same H (upd H p o) := fun a u e => by
  rw [upd_ne (ne_of_none e h)]; exact e
theorem Same.mut {H H' : Hp} {p : Addr} {o : HO} (e : Same H H') (h : H p = none) : Same H (upd H' p o) := fun a u ha => by
  rw [upd_ne (ne_of_none ha h)]
  exact e a u ha
section
variable {K : PySem.W.Frag} {a : Addr} {xs : List V} {g : TG} {te : TE} {vs : List Nat} {σ : L2.St} {H1 : Hp} {D : Addr} {Qd : Hp → Prop}
/-- what is known of a comprehension's list after i turns -/
def Cv (G : Hp → Hp → Prop) (R : Nat → V → Hp → Prop) (H1 : Hp) (D : Addr) (i : Nat) (H' : Hp) : Prop := G H1 H' ∧ ∃ ys, H' D = some (.lst ys) ∧ ys.length = i ∧ ∀ j y, ys[j]? = some y → R j y H'
/-- one turn: S holds from ahead of the element to behind it -/
theorem cv_turn {G S : Hp → Hp → Prop} {R : Nat → V → Hp → Prop} (up : ∀ i y H H', LeT H H' → R i y H → R i y H') (gt : ∀ {A B C}, G A B → S B C → G A C) (gm : ∀ {A B} {o}, G A B → A D = none → G A (upd B D o)) (st : ∀ {A B}, S A B → LeT A B)
    (hk : ∀ {A B ys}, S A B → A D = some (.lst ys) → (∀ j y, ys[j]? = some y → R j y A) → B D = some (.lst ys)) (hD : H1 D = none) {i : Nat} {H' H'' : Hp} (p : Cv G R H1 D i H') (hi : i < 1000) {y : V} (e : S H' H'') (r : R i y H'') :
    ∃ acc, H'' D = some (.lst acc) ∧ acc.length < sizeLine ∧ Cv G R H1 D (i + 1) (upd H'' D (.lst (acc ++ [y]))) := by
  obtain ⟨p1, ys, p2, p3, p4⟩ := p
  have h2 := hk e p2 p4
  refine ⟨ys, h2, sz_lt (by omega), gm (gt p1 e) hD, ys ++ [y], upd_same, by rw [List.length_append, p3]; rfl, fun j z hj => ?_⟩
  refine up _ _ _ _ (LeT.lst h2) ?_
  by_cases h : j < ys.length
  · rw [List.getElem?_append_left h] at hj
    exact up _ _ _ _ (st e) (p4 j z hj)
  · rw [List.getElem?_append_right (by omega)] at hj
    have hj0 : j - ys.length = 0 := by
      have := (List.getElem?_eq_some_iff.mp hj).1
      rw [List.length_singleton] at this
      omega
    rw [hj0] at hj
    have : z = y := by simpa using hj.symm
    subst this
    have : j = i := by omega
    subst this
    exact r
theorem hk_le {R : Nat → V → Hp → Prop} (ni : ∀ i y H, R i y H → Nint y) {A B : Hp} {ys : List V} (e : Le A B) (h : A D = some (.lst ys)) (hr : ∀ j y, ys[j]? = some y → R j y A) : B D = some (.lst ys) :=
  e.keep h (nb_lst fun g m z => by subst z; exact ni 0 _ _ (hr 0 _ rfl) g rfl)
/-- over a list; the element's evaluation is a step of Le, the results are no ints -/
theorem comp_list (R : Nat → V → Hp → Prop) (up : ∀ i y H H', LeT H H' → R i y H → R i y H') (ni : ∀ i y H, R i y H → Nint y) (hx : ∀ H', Le H1 H' → SqL K H' a xs) (hz : xs.length ≤ 1000) (hD : H1 D = none)
    (he : ∀ i x H', xs[i]? = some x → Le H1 H' → ∀ Q : VK, (∀ y H'', Le H' H'' → R i y H'' → Q y H'') → g x (wipe σ vs) H' fun σ2 H2 => wipe σ2 vs = wipe σ vs ∧ te σ2 H2 Q)
    (hd : ∀ ys H', Le H1 H' → H' D = some (.lst ys) → ys.length = xs.length → (∀ i y, ys[i]? = some y → R i y H') → Qd H')
    (mono : ∀ x σ H (Q Q' : L2.St → Hp → Prop), (∀ σ' H', Q σ' H' → Q' σ' H') → g x σ H Q → g x σ H Q') :
    ∃ W : Nat → Nat → Hp → Prop, (∃ m, W 0 m (upd H1 D (.lst []))) ∧ ∀ i m H, W i m H →
      ((Itl K a).stop i H ∧ Qd H) ∨ ((Itl K a).go i H ∧ ∃ Nx : Hp → Prop, (∀ H', Nx H' → ∃ m', m' < m ∧ W (i + 1) m' H') ∧ ∀ x H', (Itl K a).yld i H x H' → g x (wipe σ vs) H' fun σ2 H2 => wipe σ2 vs = wipe σ vs ∧ tYes σ2 H2 fun b H3 =>
        if b = true then te σ2 H3 fun y H4 => ∃ acc, H4 D = some (.lst acc) ∧ acc.length < sizeLine ∧ Nx (upd H4 D (.lst (acc ++ [y]))) else Nx H3) := by
  refine lc_list (xs := xs) (Cv Le R H1 D) ⟨Le.new hD, [], upd_same, rfl, fun j y z => by simp at z⟩ (fun i H' _ p => hx H' p.1) (fun i x H' hi p => ?_) (fun H' p => ?_)
  · refine mono _ _ _ _ _ ?_ (he i x H' hi p.1 (fun y H4 => ∃ acc, H4 D = some (.lst acc) ∧ acc.length < sizeLine ∧ Cv Le R H1 D (i + 1) (upd H4 D (.lst (acc ++ [y])))) fun y H'' e r => ?_)
    · rintro σ2 H2 ⟨h1, h2⟩
      exact ⟨h1, h2⟩
    · have hl := (List.getElem?_eq_some_iff.mp hi).1
      exact cv_turn (G := Le) (S := Le) up (fun a b => a.trans b) (fun a h => a.mut h) (fun a => a.t) (fun e h hr => hk_le ni e h hr) hD p (by omega) e r
  · obtain ⟨p1, ys, p2, p3, p4⟩ := p
    exact hd ys H' p1 p2 p3 p4
theorem comp_tup (R : Nat → V → Hp → Prop) (up : ∀ i y H H', LeT H H' → R i y H → R i y H') (ni : ∀ i y H, R i y H → Nint y) (hx : SqT K H1 a xs) (hz : xs.length ≤ 1000) (hD : H1 D = none)
    (he : ∀ i x H', xs[i]? = some x → Le H1 H' → ∀ Q : VK, (∀ y H'', Le H' H'' → R i y H'' → Q y H'') → g x (wipe σ vs) H' fun σ2 H2 => wipe σ2 vs = wipe σ vs ∧ te σ2 H2 Q)
    (hd : ∀ ys H', Le H1 H' → H' D = some (.lst ys) → ys.length = xs.length → (∀ i y, ys[i]? = some y → R i y H') → Qd H')
    (mono : ∀ x σ H (Q Q' : L2.St → Hp → Prop), (∀ σ' H', Q σ' H' → Q' σ' H') → g x σ H Q → g x σ H Q') :
    ∃ W : Nat → Nat → Hp → Prop, (∃ m, W 0 m (upd H1 D (.lst []))) ∧ ∀ i m H, W i m H →
      ((Itt K a).stop i H ∧ Qd H) ∨ ((Itt K a).go i H ∧ ∃ Nx : Hp → Prop, (∀ H', Nx H' → ∃ m', m' < m ∧ W (i + 1) m' H') ∧ ∀ x H', (Itt K a).yld i H x H' → g x (wipe σ vs) H' fun σ2 H2 => wipe σ2 vs = wipe σ vs ∧ tYes σ2 H2 fun b H3 =>
        if b = true then te σ2 H3 fun y H4 => ∃ acc, H4 D = some (.lst acc) ∧ acc.length < sizeLine ∧ Nx (upd H4 D (.lst (acc ++ [y]))) else Nx H3) := by
  refine lc_tup (xs := xs) (Cv Le R H1 D) ⟨Le.new hD, [], upd_same, rfl, fun j y z => by simp at z⟩ (fun i H' _ p => p.1.tup hx) (fun i x H' hi p => ?_) (fun H' p => ?_)
  · refine mono _ _ _ _ _ ?_ (he i x H' hi p.1 (fun y H4 => ∃ acc, H4 D = some (.lst acc) ∧ acc.length < sizeLine ∧ Cv Le R H1 D (i + 1) (upd H4 D (.lst (acc ++ [y])))) fun y H'' e r => ?_)
    · rintro σ2 H2 ⟨h1, h2⟩
      exact ⟨h1, h2⟩
    · have hl := (List.getElem?_eq_some_iff.mp hi).1
      exact cv_turn (G := Le) (S := Le) up (fun a b => a.trans b) (fun a h => a.mut h) (fun a => a.t) (fun e h hr => hk_le ni e h hr) hD p (by omega) e r
  · obtain ⟨p1, ys, p2, p3, p4⟩ := p
    exact hd ys H' p1 p2 p3 p4
/-- the element's evaluation leaves all as it was but for new things -/
theorem comp_listS (R : Nat → V → Hp → Prop) (up : ∀ i y H H', LeT H H' → R i y H → R i y H') (hx : ∀ H', Same H1 H' → SqL K H' a xs) (hz : xs.length ≤ 1000) (hD : H1 D = none)
    (he : ∀ i x H', xs[i]? = some x → Same H1 H' → ∀ Q : VK, (∀ y H'', Same H' H'' → R i y H'' → Q y H'') → g x (wipe σ vs) H' fun σ2 H2 => wipe σ2 vs = wipe σ vs ∧ te σ2 H2 Q)
    (hd : ∀ ys H', Same H1 H' → H' D = some (.lst ys) → ys.length = xs.length → (∀ i y, ys[i]? = some y → R i y H') → Qd H')
    (mono : ∀ x σ H (Q Q' : L2.St → Hp → Prop), (∀ σ' H', Q σ' H' → Q' σ' H') → g x σ H Q → g x σ H Q') :
    ∃ W : Nat → Nat → Hp → Prop, (∃ m, W 0 m (upd H1 D (.lst []))) ∧ ∀ i m H, W i m H →
      ((Itl K a).stop i H ∧ Qd H) ∨ ((Itl K a).go i H ∧ ∃ Nx : Hp → Prop, (∀ H', Nx H' → ∃ m', m' < m ∧ W (i + 1) m' H') ∧ ∀ x H', (Itl K a).yld i H x H' → g x (wipe σ vs) H' fun σ2 H2 => wipe σ2 vs = wipe σ vs ∧ tYes σ2 H2 fun b H3 =>
        if b = true then te σ2 H3 fun y H4 => ∃ acc, H4 D = some (.lst acc) ∧ acc.length < sizeLine ∧ Nx (upd H4 D (.lst (acc ++ [y]))) else Nx H3) := by
  refine lc_list (xs := xs) (Cv Same R H1 D) ⟨Same.new hD, [], upd_same, rfl, fun j y z => by simp at z⟩ (fun i H' _ p => hx H' p.1) (fun i x H' hi p => ?_) (fun H' p => ?_)
  · refine mono _ _ _ _ _ ?_ (he i x H' hi p.1 (fun y H4 => ∃ acc, H4 D = some (.lst acc) ∧ acc.length < sizeLine ∧ Cv Same R H1 D (i + 1) (upd H4 D (.lst (acc ++ [y])))) fun y H'' e r => ?_)
    · rintro σ2 H2 ⟨h1, h2⟩
      exact ⟨h1, h2⟩
    · have hl := (List.getElem?_eq_some_iff.mp hi).1
      exact cv_turn (G := Same) (S := Same) up (fun a b => a.trans b) (fun a h => Same.mut a h) (fun a => (Same.le a).t) (fun e h _ => e _ _ h) hD p (by omega) e r
  · obtain ⟨p1, ys, p2, p3, p4⟩ := p
    exact hd ys H' p1 p2 p3 p4
theorem comp_tupS (R : Nat → V → Hp → Prop) (up : ∀ i y H H', LeT H H' → R i y H → R i y H') (hx : SqT K H1 a xs) (hz : xs.length ≤ 1000) (hD : H1 D = none)
    (he : ∀ i x H', xs[i]? = some x → Same H1 H' → ∀ Q : VK, (∀ y H'', Same H' H'' → R i y H'' → Q y H'') → g x (wipe σ vs) H' fun σ2 H2 => wipe σ2 vs = wipe σ vs ∧ te σ2 H2 Q)
    (hd : ∀ ys H', Same H1 H' → H' D = some (.lst ys) → ys.length = xs.length → (∀ i y, ys[i]? = some y → R i y H') → Qd H')
    (mono : ∀ x σ H (Q Q' : L2.St → Hp → Prop), (∀ σ' H', Q σ' H' → Q' σ' H') → g x σ H Q → g x σ H Q') :
    ∃ W : Nat → Nat → Hp → Prop, (∃ m, W 0 m (upd H1 D (.lst []))) ∧ ∀ i m H, W i m H →
      ((Itt K a).stop i H ∧ Qd H) ∨ ((Itt K a).go i H ∧ ∃ Nx : Hp → Prop, (∀ H', Nx H' → ∃ m', m' < m ∧ W (i + 1) m' H') ∧ ∀ x H', (Itt K a).yld i H x H' → g x (wipe σ vs) H' fun σ2 H2 => wipe σ2 vs = wipe σ vs ∧ tYes σ2 H2 fun b H3 =>
        if b = true then te σ2 H3 fun y H4 => ∃ acc, H4 D = some (.lst acc) ∧ acc.length < sizeLine ∧ Nx (upd H4 D (.lst (acc ++ [y]))) else Nx H3) := by
  refine lc_tup (xs := xs) (Cv Same R H1 D) ⟨Same.new hD, [], upd_same, rfl, fun j y z => by simp at z⟩ (fun i H' _ p => (Same.le p.1).tup hx) (fun i x H' hi p => ?_) (fun H' p => ?_)
  · refine mono _ _ _ _ _ ?_ (he i x H' hi p.1 (fun y H4 => ∃ acc, H4 D = some (.lst acc) ∧ acc.length < sizeLine ∧ Cv Same R H1 D (i + 1) (upd H4 D (.lst (acc ++ [y])))) fun y H'' e r => ?_)
    · rintro σ2 H2 ⟨h1, h2⟩
      exact ⟨h1, h2⟩
    · have hl := (List.getElem?_eq_some_iff.mp hi).1
      exact cv_turn (G := Same) (S := Same) up (fun a b => a.trans b) (fun a h => Same.mut a h) (fun a => (Same.le a).t) (fun e h _ => e _ _ h) hD p (by omega) e r
  · obtain ⟨p1, ys, p2, p3, p4⟩ := p
    exact hd ys H' p1 p2 p3 p4
theorem mono_name {j : Nat} : ∀ (x : V) (σ : L2.St) (H : Hp) (Q Q' : L2.St → Hp → Prop), (∀ σ' H', Q σ' H' → Q' σ' H') → gName j x σ H Q → gName j x σ H Q' := fun _ _ _ _ _ h q => h _ _ q
end
/-! ### isinstance -/
theorem isi {K : PySem.W.Frag} {H : Hp} {Q : VK} {x : V} {t n : String} {b : Bool} (ty : TyX K H x (.type t)) (k : PySem.W.kitOne K (.type t) (.type n) = some b) (q : Q (.bl b) H) : rIsi K [x, .ty n] H Q :=
  ⟨_, _, _, _, b, rfl, .ty n, ty, k, q⟩
theorem tyT {K : PySem.W.Frag} {H : Hp} {p : Addr} {xs : List V} (h : SqT K H p xs) : TyX K H (.ref p) (.type "tuple") := by
  rcases h with (h | ⟨o, h⟩) | ⟨o, _, _, h1, h2, _⟩
  · exact .base (.tup h)
  · exact .fTuple h
  · exact .kTuple h1 h2
theorem k_ii {K : PySem.W.Frag} : PySem.W.kitOne K (.type "int") (.type "int") = some true := kit_ty (by decide +kernel)
theorem k_ib {K : PySem.W.Frag} : PySem.W.kitOne K (.type "int") (.type "bool") = some false := kit_ty (by decide +kernel)
theorem k_bb {K : PySem.W.Frag} : PySem.W.kitOne K (.type "bool") (.type "bool") = some true := kit_ty (by decide +kernel)
theorem k_tt {K : PySem.W.Frag} : PySem.W.kitOne K (.type "tuple") (.type "tuple") = some true := kit_ty (by decide +kernel)
theorem k_ss {K : PySem.W.Frag} : PySem.W.kitOne K (.type "str") (.type "str") = some true := kit_ty (by decide +kernel)
section
variable {K : PySem.W.Frag} {mg : Str → Option Value} {w : World} {base : Heap} (T : Txt K mg)
def spWhole : Sp := fun vs H Q _ => ∃ i : Int, vs = [.int i] ∧ Q (.bl true) H
theorem sc_is_whole : FnScope ["thing"] ["thing"] (defScope s_is_whole) := ⟨rfl, rfl, rfl, by decide +kernel, rfl, by decide +kernel, by decide +kernel⟩
theorem ok_is_whole : T.is_whole.Ok w base 41 spWhole := by
  refine T.is_whole.ok sc_is_whole (fun vs H Q E h => ?_) (fun cdv A outer s H vs Q E hr h => ?_)
  · obtain ⟨_, rfl, _⟩ := h
    rfl
  obtain ⟨i, rfl, q⟩ := h
  refine ⟨_, (pss_one (ps_ret (pe_and (pe_callB call_isi rfl T.b_isinstance (by decide +kernel) (pa_cons (pv 0) (pa_cons (pe_bltn (v := .ty "int") rfl T.b_int (by decide +kernel) rfl) pa_nil))) (pe_one (pe_not (pe_callB call_isi rfl T.b_isinstance (by decide +kernel) (pa_cons (pv 0) (pa_cons (pe_bltn (v := .ty "bool") rfl T.b_bool (by decide +kernel) rfl) pa_nil)))))))), ?_⟩
  exact ⟨_, rfl, _, _, _, _, _, rfl, .ty _, .base (.int i), k_ii, true, rfl, iteT ⟨_, rfl, _, _, _, _, _, rfl, .ty _, .base (.int i), k_ib, false, rfl, q⟩⟩
theorem sc_l_is_whole : FnScope ["_law_thing"] ["_law_thing"] (defScope s_l_is_whole) := ⟨rfl, rfl, rfl, by decide +kernel, rfl, by decide +kernel, by decide +kernel⟩
theorem ok_l_is_whole : T.l_is_whole.Ok w base 41 spWhole := by
  refine T.l_is_whole.ok sc_l_is_whole (fun vs H Q E h => ?_) (fun cdv A outer s H vs Q E hr h => ?_)
  · obtain ⟨_, rfl, _⟩ := h
    rfl
  obtain ⟨i, rfl, q⟩ := h
  refine ⟨_, (pss_one (ps_ret (pe_and (pe_callB call_isi rfl T.b_isinstance (by decide +kernel) (pa_cons (pv 0) (pa_cons (pe_bltn (v := .ty "int") rfl T.b_int (by decide +kernel) rfl) pa_nil))) (pe_one (pe_not (pe_callB call_isi rfl T.b_isinstance (by decide +kernel) (pa_cons (pv 0) (pa_cons (pe_bltn (v := .ty "bool") rfl T.b_bool (by decide +kernel) rfl) pa_nil)))))))), ?_⟩
  exact ⟨_, rfl, _, _, _, _, _, rfl, .ty _, .base (.int i), k_ii, true, rfl, iteT ⟨_, rfl, _, _, _, _, _, rfl, .ty _, .base (.int i), k_ib, false, rfl, q⟩⟩

def spIsNum (K : PySem.W.Frag) : Sp := fun vs H Q _ => ∃ (D : Root) (x : QD D) (u : V), vs = [u] ∧ Nm K H u x ∧ ∀ H', Le H H' → Q (.bl true) H'
theorem all_true {n : Nat} : (List.replicate n true).all id = true := by
  induction n with
  | zero => rfl
  | succ n ih => rw [List.replicate_succ, List.all_cons, ih]; rfl
theorem bools_of {ys : List V} (h : ∀ (i : Nat) y, ys[i]? = some y → y = .bl true) : ys = (List.replicate ys.length true).map V.bl := by
  induction ys with
  | nil => rfl
  | cons y r ih =>
    rw [List.length_cons, List.replicate_succ, List.map_cons, ← ih fun i y hi => h (i + 1) y (by simpa using hi)]
    rw [h 0 y rfl]
theorem atI3 {a b c : V} (i : Nat) (v : V) (h : [a, b, c][i]? = some v) : v = a ∨ v = b ∨ v = c := by
  match i, h with
  | 0, h => left; simpa using h.symm
  | 1, h => right; left; simpa using h.symm
  | 2, h => right; right; simpa using h.symm
  | n + 3, h => simp at h
theorem gcd_one {D : Root} (x : QD D) : Int.gcd (Int.gcd x.a x.b : Nat) x.c = 1 := x.tri.one
theorem sc_is_number : FnScope ["thing", "part", "a", "b", "c"] ["thing"] (defScope s_is_number) := ⟨rfl, rfl, rfl, by decide +kernel, rfl, by decide +kernel, by decide +kernel⟩
theorem ok_is_number : T.is_number.Ok w base 42 (spIsNum K) := by
  have G_is_whole := ok_is_whole (w := w) (base := base) T
  have G_shared := ok_shared (w := w) (base := base) T
  refine T.is_number.ok sc_is_number (fun vs H Q E h => ?_) (fun cdv A outer s H vs Q E hr h => ?_)
  · obtain ⟨_, _, _, rfl, _⟩ := h
    rfl
  obtain ⟨D, x, u, rfl, ⟨p, rfl, hx⟩, q⟩ := h
  have nd := sc_is_number.nd
  refine ⟨_, (pss_cons (ps_if (PW.pt (pw_or (pt_not (pt_val (pe_callB call_isi rfl T.b_isinstance (by decide +kernel) (pa_cons (pv 0) (pa_cons (pe_bltn (v := .ty "tuple") rfl T.b_tuple (by decide +kernel) rfl) pa_nil))))) (pw_or (pt_cmpR op_ne (pe_callB call_len_seq rfl T.b_len PySem.boot_len (pa_cons (pv 0) pa_nil)) pe_int (nomark _)) (pw_or1 (pt_not (pt_val (pe_callB (cr_all rfl) rfl T.b_all (by decide +kernel) (pa_cons (pe_lc (own := [("part", 1)]) (g := gName 1) (tt := tYes) rfl nd (pi_tup (pv 0)) (blkOk_by (own := [("part", 1)]) (N := ["thing", "part", "a", "b", "c"]) (sc := defScope s_is_number) (by decide +kernel)) (fun _ _ _ _ _ => pg_name (i := 1) nd rfl (Or.inl rfl)) (fun _ _ _ _ _ => pts_nil) (fun _ _ _ _ _ => (pcl T.is_whole G_is_whole (hr.mono (by decide)) (pa_cons (pv 1) pa_nil)))) pa_nil)))))))) (pss_one (ps_ret pe_bl)) pss_nil)
      (pss_cons (ps_asg (pv 0) (pg_tup rfl (pgs_cons (pg_name (i := 2) nd rfl (by first | exact Or.inl rfl | exact Or.inr rfl)) (pgs_cons (pg_name (i := 3) nd rfl (by first | exact Or.inl rfl | exact Or.inr rfl)) (pgs_cons (pg_name (i := 4) nd rfl (by first | exact Or.inl rfl | exact Or.inr rfl)) pgs_nil)))))
      (pss_one (ps_ret (pe_and (pe_cmpR op_ge (pv 4) pe_int (nomark _)) (pe_one (pe_cmpR op_eq (pcl T.shared G_shared (hr.mono (by decide)) (pa_cons (pcl T.shared G_shared (hr.mono (by decide)) (pa_cons (pv 2) (pa_cons (pv 3) pa_nil))) (pa_cons (pv 4) pa_nil))) pe_int (nomark _)))))))), ?_⟩
  refine ⟨_, rfl, _, _, _, _, _, rfl, .ty _, tyT hx, k_tt, true, rfl, iteF ⟨_, rfl, p, _, rfl, .inr hx, rfl, _, rfl, ifF rfl ⟨_, rfl, p, rfl, ⟨_, hx⟩, fun Dd hD => ?_⟩⟩⟩
  refine comp_tup (xs := tr x) (fun _ y _ => y = .bl true) (fun _ _ _ _ _ h => h) (fun _ _ _ h i z => by rw [h] at z; cases z) hx (by show 3 ≤ 1000; decide) hD (fun i v H' hi e Q' q' => ?_) (fun ys H' e hl hn hr => ?_) mono_name
  · obtain ⟨z, rfl⟩ : ∃ z : Int, v = .int z := by
      rcases atI3 i v hi with h | h | h <;> exact ⟨_, h⟩
    exact ⟨rfl, _, rfl, z, rfl, q' _ _ (Le.refl _) rfl⟩
  · rw [bools_of hr] at hl
    refine ⟨Dd, _, rfl, sq_of hl, _, rfl, ifF (by rw [all_true]; rfl) ?_⟩
    refine ⟨_, rfl, _, _, rfl, e.tup hx, rfl, _, _, rfl, _, _, rfl, _, _, rfl, rfl, ?_⟩
    refine ⟨_, rfl, _, _, rfl, rfl, _, rfl, ifT (decide_eq_true x.c_pos) ?_⟩
    exact ⟨_, rfl, _, rfl, _, _, rfl, _, rfl, _, _, rfl, rfl, by rw [gcd_one]; exact q _ e⟩
end
end MW

namespace MW
open PySem PySem.Spec PyProof.Rows L2
open MF (Root QD Plan Wf KOk shape sumQ)
open MF.QD (Sz)
/-! ### data on the heap -/
def Al {α β : Type} (F : α → β → Prop) (vs : List α) (xs : List β) : Prop := vs.length = xs.length ∧ ∀ (i : Nat) u x, vs[i]? = some u → xs[i]? = some x → F u x
theorem Al.imp {α β : Type} {F G : α → β → Prop} {vs : List α} {xs : List β} (h : Al F vs xs) (k : ∀ u x, F u x → G u x) : Al G vs xs := ⟨h.1, fun i u x a b => k _ _ (h.2 i u x a b)⟩
theorem Al.left {α β : Type} {F : α → β → Prop} {vs : List α} {xs : List β} (h : Al F vs xs) {i : Nat} {u : α} (hu : vs[i]? = some u) : ∃ x, xs[i]? = some x ∧ F u x := by
  have hi := (List.getElem?_eq_some_iff.mp hu).1
  rw [h.1] at hi
  exact ⟨xs[i], List.getElem?_eq_getElem hi, h.2 i u _ hu (List.getElem?_eq_getElem hi)⟩
theorem Al.right {α β : Type} {F : α → β → Prop} {vs : List α} {xs : List β} (h : Al F vs xs) {i : Nat} {x : β} (hx : xs[i]? = some x) : ∃ u, vs[i]? = some u ∧ F u x := by
  have hi := (List.getElem?_eq_some_iff.mp hx).1
  rw [← h.1] at hi
  exact ⟨vs[i], List.getElem?_eq_getElem hi, h.2 i _ x (List.getElem?_eq_getElem hi) hx⟩
theorem Al.nil {α β : Type} {F : α → β → Prop} : Al F ([] : List α) ([] : List β) := ⟨rfl, fun i u x h => by simp at h⟩
theorem Al.cons {α β : Type} {F : α → β → Prop} {v : α} {vs : List α} {x : β} {xs : List β} (h : F v x) (t : Al F vs xs) : Al F (v :: vs) (x :: xs) := by
  refine ⟨by rw [List.length_cons, List.length_cons, t.1], fun i u y a b => ?_⟩
  cases i with
  | zero =>
    have e1 : v = u := by simpa using a
    have e2 : x = y := by simpa using b
    subst e1; subst e2; exact h
  | succ i => exact t.2 i u y (by simpa using a) (by simpa using b)
theorem Al.uncons {α β : Type} {F : α → β → Prop} {v : α} {vs : List α} {x : β} {xs : List β} (h : Al F (v :: vs) (x :: xs)) : F v x ∧ Al F vs xs :=
  ⟨h.2 0 v x rfl rfl, by have := h.1; rw [List.length_cons, List.length_cons] at this; omega, fun i u y a b => h.2 (i + 1) u y (by simpa using a) (by simpa using b)⟩
def KindsAt (K : PySem.W.Frag) (H : Hp) {D : Root} (v : V) (ks : List (QD D)) : Prop := ∃ p vs, v = .ref p ∧ SqT K H p vs ∧ Al (fun u x => Nm K H u x) vs ks
theorem KindsAt.up {K : PySem.W.Frag} {H H' : Hp} {D : Root} {v : V} {ks : List (QD D)} (e : LeT H H') (h : KindsAt K H v ks) : KindsAt K H' v ks := by
  obtain ⟨p, vs, h1, h2, h3⟩ := h
  exact ⟨p, vs, h1, e.tup h2, h3.imp fun _ _ z => z.upT e⟩
/-- a plan, at most so many within one another -/
def PlanAt (K : PySem.W.Frag) (H : Hp) : Nat → V → Plan → Prop
  | 0, _, _ => False
  | _ + 1, v, .kind k => ∃ a, v = .ref a ∧ SqT K H a [.str "kind", .int (k : Int)]
  | n + 1, v, .turn p => ∃ a u, v = .ref a ∧ SqT K H a [.str "turn", u] ∧ PlanAt K H n u p
  | n + 1, v, .upon ps => ∃ a b vs, v = .ref a ∧ SqT K H a [.str "upon", .ref b] ∧ SqT K H b vs ∧ Al (PlanAt K H n) vs ps
  | n + 1, v, .beside ps => ∃ a b vs, v = .ref a ∧ SqT K H a [.str "beside", .ref b] ∧ SqT K H b vs ∧ Al (PlanAt K H n) vs ps
  | n + 1, v, .grid x y p => ∃ a u, v = .ref a ∧ SqT K H a [.str "grid", .int x, .int y, u] ∧ PlanAt K H n u p
theorem PlanAt.up {K : PySem.W.Frag} {H H' : Hp} (e : LeT H H') : ∀ {n : Nat} {v : V} {P : Plan}, PlanAt K H n v P → PlanAt K H' n v P
  | 0, _, _, h => h.elim
  | n + 1, v, .kind k, h => by obtain ⟨a, h1, h2⟩ := h; exact ⟨a, h1, e.tup h2⟩
  | n + 1, v, .turn p, h => by obtain ⟨a, u, h1, h2, h3⟩ := h; exact ⟨a, u, h1, e.tup h2, PlanAt.up e h3⟩
  | n + 1, v, .upon ps, h => by obtain ⟨a, b, vs, h1, h2, h3, h4⟩ := h; exact ⟨a, b, vs, h1, e.tup h2, e.tup h3, h4.imp fun _ _ z => PlanAt.up e z⟩
  | n + 1, v, .beside ps, h => by obtain ⟨a, b, vs, h1, h2, h3, h4⟩ := h; exact ⟨a, b, vs, h1, e.tup h2, e.tup h3, h4.imp fun _ _ z => PlanAt.up e z⟩
  | n + 1, v, .grid x y p, h => by obtain ⟨a, u, h1, h2, h3⟩ := h; exact ⟨a, u, h1, e.tup h2, PlanAt.up e h3⟩
theorem PlanAt.mono {K : PySem.W.Frag} {H : Hp} : ∀ {n m : Nat} {v : V} {P : Plan}, PlanAt K H n v P → n ≤ m → PlanAt K H m v P
  | 0, _, _, _, h, _ => h.elim
  | n + 1, 0, _, _, _, h => by omega
  | n + 1, m + 1, v, .kind k, h, _ => h
  | n + 1, m + 1, v, .turn p, h, hm => by obtain ⟨a, u, h1, h2, h3⟩ := h; exact ⟨a, u, h1, h2, PlanAt.mono h3 (by omega)⟩
  | n + 1, m + 1, v, .upon ps, h, hm => by obtain ⟨a, b, vs, h1, h2, h3, h4⟩ := h; exact ⟨a, b, vs, h1, h2, h3, h4.imp fun _ _ z => PlanAt.mono z (by omega)⟩
  | n + 1, m + 1, v, .beside ps, h, hm => by obtain ⟨a, b, vs, h1, h2, h3, h4⟩ := h; exact ⟨a, b, vs, h1, h2, h3, h4.imp fun _ _ z => PlanAt.mono z (by omega)⟩
  | n + 1, m + 1, v, .grid x y p, h, hm => by obtain ⟨a, u, h1, h2, h3⟩ := h; exact ⟨a, u, h1, h2, PlanAt.mono h3 (by omega)⟩
theorem PlanAt.ref {K : PySem.W.Frag} {H : Hp} {n : Nat} {v : V} {P : Plan} (h : PlanAt K H n v P) : ∃ a, v = .ref a := by
  cases n with
  | zero => exact h.elim
  | succ n =>
    cases P with
    | kind k => obtain ⟨a, h1, _⟩ := h; exact ⟨a, h1⟩
    | turn p => obtain ⟨a, _, h1, _⟩ := h; exact ⟨a, h1⟩
    | upon ps => obtain ⟨a, _, _, h1, _⟩ := h; exact ⟨a, h1⟩
    | beside ps => obtain ⟨a, _, _, h1, _⟩ := h; exact ⟨a, h1⟩
    | grid x y p => obtain ⟨a, _, h1, _⟩ := h; exact ⟨a, h1⟩
/-- lists of objects are no bag -/
theorem nbag_refs {vs : List V} (h : ∀ (i : Nat) u, vs[i]? = some u → ∃ a, u = .ref a) : NBag vs := fun g m e => by
  obtain ⟨a, z⟩ := h 0 (.int g) (by rw [e]; rfl)
  cases z
theorem Nm.ref {K : PySem.W.Frag} {H : Hp} {D : Root} {v : V} {x : QD D} (h : Nm K H v x) : ∃ a, v = .ref a := ⟨_, h.choose_spec.1⟩
theorem Al.nbag {K : PySem.W.Frag} {H : Hp} {D : Root} {vs : List V} {xs : List (QD D)} (h : Al (fun u x => Nm K H u x) vs xs) : NBag vs := nbag_refs fun i u hu => by
  obtain ⟨x, _, hx⟩ := h.left hu
  exact hx.ref
theorem nint_ref {a : Addr} : Nint (.ref a) := fun _ z => by cases z
theorem Nm.nint {K : PySem.W.Frag} {H : Hp} {D : Root} {v : V} {x : QD D} (h : Nm K H v x) : Nint v := by
  obtain ⟨a, rfl⟩ := h.ref; exact nint_ref
/-- the parts of a plan -/
def parts : Plan → List Plan
  | .kind _ => []
  | .turn p => [p]
  | .upon ps => ps
  | .beside ps => ps
  | .grid _ _ p => [p]
/-! ### plans as data -/
mutual
def toD : Plan → PyData
  | .kind k => .tuple [.str "kind", .int (k : Int)]
  | .turn p => .tuple [.str "turn", toD p]
  | .upon ps => .tuple [.str "upon", .tuple (toDs ps)]
  | .beside ps => .tuple [.str "beside", .tuple (toDs ps)]
  | .grid u v p => .tuple [.str "grid", .int u, .int v, toD p]
def toDs : List Plan → List PyData
  | [] => []
  | p :: ps => toD p :: toDs ps
end
theorem str_kind : PyData.strOk "kind" = true := by decide +kernel
theorem str_turn : PyData.strOk "turn" = true := by decide +kernel
theorem str_upon : PyData.strOk "upon" = true := by decide +kernel
theorem str_beside : PyData.strOk "beside" = true := by decide +kernel
theorem str_grid : PyData.strOk "grid" = true := by decide +kernel
mutual
theorem lay_D : ∀ P : Plan, PyData.canLay0 (toD P) = true
  | .kind k => by rw [toD, PyData.canLay0]; simp only [PyData.canLayAll0, PyData.canLay0, str_kind, Bool.and_self]
  | .turn p => by rw [toD, PyData.canLay0]; simp only [PyData.canLayAll0, lay_D p, PyData.canLay0, str_turn, Bool.and_self]
  | .upon ps => by rw [toD, PyData.canLay0]; simp only [PyData.canLayAll0, PyData.canLay0, str_upon, lay_Ds ps, Bool.and_self]
  | .beside ps => by rw [toD, PyData.canLay0]; simp only [PyData.canLayAll0, PyData.canLay0, str_beside, lay_Ds ps, Bool.and_self]
  | .grid u v p => by rw [toD, PyData.canLay0]; simp only [PyData.canLayAll0, str_grid, PyData.canLay0, lay_D p, Bool.and_self]
theorem lay_Ds : ∀ ps : List Plan, PyData.canLayAll0 (toDs ps) = true
  | [] => by rw [toDs, PyData.canLayAll0]
  | p :: ps => by rw [toDs, PyData.canLayAll0, lay_D p, lay_Ds ps]; rfl
end
theorem depths_le {ps : List Plan} {c : Nat} (h : ∀ p ∈ ps, PyData.depth (toD p) ≤ c) : PyData.depthAll (toDs ps) ≤ c := by
  induction ps with
  | nil => rw [toDs, PyData.depthAll]; exact Nat.zero_le _
  | cons p r ih =>
    rw [toDs, PyData.depthAll]
    have h1 := h p List.mem_cons_self
    have h2 := ih fun q hq => h q (List.mem_cons_of_mem _ hq)
    omega
theorem depth_D {many : Nat} : ∀ {n : Nat} {P : Plan}, Wf many n P → PyData.depth (toD P) ≤ 2 * n
  | 0, _, h => h.elim
  | n + 1, .kind k, h => by rw [toD]; simp only [PyData.depth, PyData.depthAll]; omega
  | n + 1, .turn p, h => by have := depth_D (n := n) (P := p) h; rw [toD]; simp only [PyData.depth, PyData.depthAll]; omega
  | n + 1, .upon ps, h => by
    have := depths_le (ps := ps) fun p hp => depth_D (n := n) (h.2.2 p hp)
    rw [toD]; simp only [PyData.depth, PyData.depthAll]; omega
  | n + 1, .beside ps, h => by
    have := depths_le (ps := ps) fun p hp => depth_D (n := n) (h.2.2 p hp)
    rw [toD]; simp only [PyData.depth, PyData.depthAll]; omega
  | n + 1, .grid u v p, h => by have := depth_D (n := n) h.2.2.2.2; rw [toD]; simp only [PyData.depth, PyData.depthAll]; omega
theorem dp_all {K : PySem.W.Frag} {H : Hp} {n : Nat} (ih : ∀ {v : V} {P : Plan}, PlanAt K H n v P → Dp K H v (toD P)) : ∀ {vs : List V} {ps : List Plan}, Al (PlanAt K H n) vs ps → DpAll K H vs (toDs ps)
  | [], [], _ => by rw [toDs]; exact .nil
  | [], p :: ps, h => by have := h.1; simp at this
  | v :: vs, [], h => by have := h.1; simp at this
  | v :: vs, p :: ps, h => by rw [toDs]; exact .cons (ih h.uncons.1) (dp_all ih h.uncons.2)
theorem dp_plan {K : PySem.W.Frag} {H : Hp} : ∀ {n : Nat} {v : V} {P : Plan}, PlanAt K H n v P → Dp K H v (toD P)
  | 0, _, _, h => h.elim
  | n + 1, v, .kind k, h => by obtain ⟨a, rfl, h2⟩ := h; rw [toD]; exact .tup h2 (.cons (.str _) (.cons (.int _) .nil))
  | n + 1, v, .turn p, h => by obtain ⟨a, u, rfl, h2, h3⟩ := h; rw [toD]; exact .tup h2 (.cons (.str _) (.cons (dp_plan h3) .nil))
  | n + 1, v, .upon ps, h => by obtain ⟨a, b, vs, rfl, h2, h3, h4⟩ := h; rw [toD]; exact .tup h2 (.cons (.str _) (.cons (.tup h3 (dp_all (fun z => dp_plan z) h4)) .nil))
  | n + 1, v, .beside ps, h => by obtain ⟨a, b, vs, rfl, h2, h3, h4⟩ := h; rw [toD]; exact .tup h2 (.cons (.str _) (.cons (.tup h3 (dp_all (fun z => dp_plan z) h4)) .nil))
  | n + 1, v, .grid x y p, h => by obtain ⟨a, u, rfl, h2, h3⟩ := h; rw [toD]; exact .tup h2 (.cons (.str _) (.cons (.int _) (.cons (.int _) (.cons (dp_plan h3) .nil))))
theorem shaped_Ds {many n : Nat} {ps : List Plan} (h : ∀ p ∈ ps, Wf many n p) (hn : n ≤ 20) : SeqAt.shaped (.tuple (toDs ps)) = true := by
  unfold SeqAt.shaped
  have h1 : PyData.canLay0 (.tuple (toDs ps)) = true := by rw [PyData.canLay0]; exact lay_Ds ps
  have h2 := depths_le (ps := ps) fun p hp => depth_D (h p hp)
  rw [h1]
  have h3 : PyData.depth (.tuple (toDs ps)) ≤ 64 := by rw [PyData.depth]; omega
  rw [decide_eq_true h3]
  rfl
theorem eqv_Ds {ps : List Plan} (h : ps ≠ []) : PyData.eqv (.tuple (toDs ps)) (.tuple []) = false := by
  cases ps with
  | nil => exact absurd rfl h
  | cons p r => rw [toDs, PyData.eqv, PyData.eqvAll]
end MW

namespace MW
open PySem PySem.Spec PyProof.Rows L2
open MF (Root QD Plan Wf KOk shape sumQ)
open MF.QD (Sz)
theorem qv {Q : VK} {u v : V} {H : Hp} (q : Q v H) (e : u = v) : Q u H := e ▸ q
theorem Sml.of {D : Root} {x : QD D} {n : Nat} (h : Sz n x) (hn : n ≤ 8388608 := by decide) : Sml x := Sz.mono h hn
section
variable {K : PySem.W.Frag} {mg : Str → Option Value} {w : World} {base : Heap} (T : Txt K mg)

/-! ### kinds -/
def spAN (K : PySem.W.Frag) : Sp := fun vs H Q _ => ∃ (D : Root) (x : QD D) (u : V), vs = [.int D.d, u] ∧ Nm K H u x ∧ Sml x ∧ 0 < x ∧ ∀ H', Le H H' → Q (.bl true) H'
theorem sc_is_above_nought : FnScope ["d", "thing"] ["d", "thing"] (defScope s_is_above_nought) := ⟨rfl, rfl, rfl, by decide +kernel, rfl, by decide +kernel, by decide +kernel⟩
theorem ok_is_above_nought : T.is_above_nought.Ok w base 43 (spAN K) := by
  have G_is_number := ok_is_number (w := w) (base := base) T
  have G_sign_of := ok_sign_of (w := w) (base := base) T
  refine T.is_above_nought.ok sc_is_above_nought (fun vs H Q E h => ?_) (fun cdv A outer s H vs Q E hr h => ?_)
  · obtain ⟨_, _, _, rfl, _⟩ := h
    rfl
  obtain ⟨D, x, u, rfl, hx, sx, px, q⟩ := h
  refine ⟨_, (pss_one (ps_ret (pe_and (pcl T.is_number G_is_number (hr.mono (by decide)) (pa_cons (pv 1) pa_nil)) (pe_one (pe_cmpR op_gt (pcl T.sign_of G_sign_of (hr.mono (by decide)) (pa_cons (pv 0) (pa_cons (pv 1) pa_nil))) pe_int (nomark _)))))), ?_⟩
  exact ⟨_, rfl, D, x, _, rfl, hx, fun H1 e1 => ⟨true, rfl, iteT ⟨_, rfl, _, rfl, D, x, _, rfl, hx.up e1, sx, _, _, rfl, rfl, qv (Q := Q) (q _ e1) (congrArg V.bl (decide_eq_true ((MF.QD.sg_pos x).mpr px)))⟩⟩⟩

def spKinds (K : PySem.W.Frag) (r : V) : Sp := fun vs H Q _ => ∃ (D : Root) (ks : List (QD D)) (u : V), vs = [.int D.d, u] ∧ KOk ks ∧ KindsAt K H u ks ∧ ∀ H', Le H H' → Q r H'
theorem sc_are_kinds : FnScope ["d", "thing", "kind"] ["d", "thing"] (defScope s_are_kinds) := ⟨rfl, rfl, rfl, by decide +kernel, rfl, by decide +kernel, by decide +kernel⟩
theorem ok_are_kinds : T.are_kinds.Ok w base 44 (spKinds K (.bl true)) := by
  have G_is_above_nought := ok_is_above_nought (w := w) (base := base) T
  refine T.are_kinds.ok sc_are_kinds (fun vs H Q E h => ?_) (fun cdv A outer s H vs Q E hr h => ?_)
  · obtain ⟨_, _, _, rfl, _⟩ := h
    rfl
  obtain ⟨D, ks, u, rfl, hk, ⟨p, vs, rfl, hv, al⟩, q⟩ := h
  have nd := sc_are_kinds.nd
  have l1 := hk.least
  have l3 := hk.most
  have hl := al.1
  refine ⟨_, (pss_cons (ps_if (PW.pt (pw_or (pt_not (pt_val (pe_callB call_isi rfl T.b_isinstance (by decide +kernel) (pa_cons (pv 1) (pa_cons (pe_bltn (v := .ty "tuple") rfl T.b_tuple (by decide +kernel) rfl) pa_nil))))) (pw_or1 (pt_not (pt_chain op_le op_le pe_int (pe_callB call_len_seq rfl T.b_len PySem.boot_len (pa_cons (pv 1) pa_nil)) (pe_glob (v := .int 3) rfl T.mgMOST_KINDS ⟨_, rfl⟩)))))) (pss_one (ps_ret pe_bl)) pss_nil)
      (pss_one (ps_ret (pe_callB (cr_all rfl) rfl T.b_all (by decide +kernel) (pa_cons (pe_lc (own := [("kind", 2)]) (g := gName 2) (tt := tYes) rfl nd (pi_tup (pv 1)) (blkOk_by (own := [("kind", 2)]) (N := ["d", "thing", "kind"]) (sc := defScope s_are_kinds) (by decide +kernel)) (fun _ _ _ _ _ => pg_name (i := 2) nd rfl (Or.inl rfl)) (fun _ _ _ _ _ => pts_nil) (fun _ _ _ _ _ => (pcl T.is_above_nought G_is_above_nought (hr.mono (by decide)) (pa_cons (pv 0) (pa_cons (pv 2) pa_nil))))) pa_nil))))), ?_⟩
  refine ⟨_, rfl, _, _, _, _, _, rfl, .ty _, tyT hv, k_tt, true, rfl, iteF ⟨_, rfl, p, _, rfl, .inr hv, _, _, rfl, rfl, true, ?_, iteT ⟨_, _, rfl, rfl, true, ?_, iteF ?_⟩⟩⟩
  · exact congrArg V.bl (decide_eq_true (by omega))
  · exact congrArg V.bl (decide_eq_true (by omega))
  refine ⟨_, rfl, p, rfl, ⟨_, hv⟩, fun Dd hD => ?_⟩
  refine comp_tup (xs := vs) (fun _ y _ => y = .bl true) (fun _ _ _ _ _ h => h) (fun _ _ _ h i z => by rw [h] at z; cases z) hv (by omega) hD (fun i v H' hi e Q' q' => ?_) (fun ys H' e hl hn hr => ?_) mono_name
  · obtain ⟨x, hx, hn⟩ := al.left hi
    have hm := List.mem_of_getElem? hx
    exact ⟨rfl, _, rfl, _, rfl, D, x, _, rfl, hn.up e, .of (hk.sz x hm), hk.pos x hm, fun H'' e' => q' _ _ e' rfl⟩
  · rw [bools_of hr] at hl
    exact ⟨_, _, rfl, sq_of hl, by rw [all_true]; exact q _ e⟩
theorem sc_look_kinds : FnScope ["d", "thing"] ["d", "thing"] (defScope s_look_kinds) := ⟨rfl, rfl, rfl, by decide +kernel, rfl, by decide +kernel, by decide +kernel⟩
theorem ok_look_kinds : T.look_kinds.Ok w base 45 (spKinds K .non) := by
  have G_are_kinds := ok_are_kinds (w := w) (base := base) T
  refine T.look_kinds.ok sc_look_kinds (fun vs H Q E h => ?_) (fun cdv A outer s H vs Q E hr h => ?_)
  · obtain ⟨_, _, _, rfl, _⟩ := h
    rfl
  obtain ⟨D, ks, u, rfl, hk, hv, q⟩ := h
  refine ⟨_, (pss_one (ps_if (pt_not (pt_val (pcl T.are_kinds G_are_kinds (hr.mono (by decide)) (pa_cons (pv 0) (pa_cons (pv 1) pa_nil))))) (pss_one ps_never) pss_nil)), ?_⟩
  exact ⟨_, rfl, _, rfl, D, ks, _, rfl, hk, hv, fun H1 e1 => ⟨true, rfl, iteF (q _ e1)⟩⟩

/-! ### plans -/
def spParts (K : PySem.W.Frag) : Sp := fun vs H Q _ => ∃ (b : Addr) (xs : List V), vs = [.ref b] ∧ SqT K H b xs ∧ 2 ≤ xs.length ∧ xs.length ≤ 8 ∧ Q (.bl true) H
theorem sc_are_parts : FnScope ["thing"] ["thing"] (defScope s_are_parts) := ⟨rfl, rfl, rfl, by decide +kernel, rfl, by decide +kernel, by decide +kernel⟩
theorem ok_are_parts : T.are_parts.Ok w base 41 (spParts K) := by
  refine T.are_parts.ok sc_are_parts (fun vs H Q E h => ?_) (fun cdv A outer s H vs Q E hr h => ?_)
  · obtain ⟨_, _, rfl, _⟩ := h
    rfl
  obtain ⟨b, xs, rfl, hb, h2, h8, q⟩ := h
  refine ⟨_, (pss_one (ps_ret (pe_and (pe_callB call_isi rfl T.b_isinstance (by decide +kernel) (pa_cons (pv 0) (pa_cons (pe_bltn (v := .ty "tuple") rfl T.b_tuple (by decide +kernel) rfl) pa_nil))) (pe_one (pe_chain op_le op_le pe_int (pe_callB call_len_seq rfl T.b_len PySem.boot_len (pa_cons (pv 0) pa_nil)) (pe_glob (v := .int 8) rfl T.mgMOST_PARTS ⟨_, rfl⟩)))))), ?_⟩
  refine ⟨_, rfl, _, _, _, _, _, rfl, .ty _, tyT hb, k_tt, true, rfl, iteT ⟨_, rfl, b, _, rfl, .inr hb, _, _, rfl, rfl, true, ?_, iteT ⟨_, _, rfl, rfl, ?_⟩⟩⟩
  · exact congrArg V.bl (decide_eq_true (by omega))
  · exact qv (Q := Q) q (congrArg V.bl (decide_eq_true (show (xs.length : Int) ≤ 8 by omega)))
def spCount : Sp := fun vs H Q _ => ∃ i : Int, vs = [.int i] ∧ 1 ≤ i ∧ Q (.bl true) H
theorem sc_is_count : FnScope ["thing"] ["thing"] (defScope s_is_count) := ⟨rfl, rfl, rfl, by decide +kernel, rfl, by decide +kernel, by decide +kernel⟩
theorem ok_is_count : T.is_count.Ok w base 42 spCount := by
  have G_is_whole := ok_is_whole (w := w) (base := base) T
  refine T.is_count.ok sc_is_count (fun vs H Q E h => ?_) (fun cdv A outer s H vs Q E hr h => ?_)
  · obtain ⟨_, rfl, _⟩ := h
    rfl
  obtain ⟨i, rfl, h1, q⟩ := h
  refine ⟨_, (pss_one (ps_ret (pe_and (pcl T.is_whole G_is_whole (hr.mono (by decide)) (pa_cons (pv 0) pa_nil)) (pe_one (pe_cmpR op_ge (pv 0) pe_int (nomark _)))))), ?_⟩
  exact ⟨_, rfl, i, rfl, true, rfl, iteT ⟨_, rfl, _, _, rfl, rfl, qv (Q := Q) q (congrArg V.bl (decide_eq_true h1))⟩⟩
/-- the parts of a plan that is no kind: n is how many are within one another in them -/
def spInner (K : PySem.W.Frag) : Sp := fun vs H Q _ => ∃ (n many : Nat) (P : Plan) (v : V), vs = [v] ∧ PlanAt K H (n + 1) v P ∧ Wf many (n + 1) P ∧ (∀ k, P ≠ .kind k) ∧
  ∀ (r : Addr) (us : List V) H', Le H H' → SqT K H' r us → Al (PlanAt K H' n) us (parts P) → Q (.ref r) H'
theorem inV_upon : inV (.str "upon") [.str "upon", .str "beside"] = true := by decide +kernel
theorem inV_beside : inV (.str "beside") [.str "upon", .str "beside"] = true := by decide +kernel
theorem inV_grid : inV (.str "grid") [.str "upon", .str "beside"] = false := by decide +kernel
theorem d_ne {a b : Str} (h : decide (a = b) = false) : decide (V.str a = V.str b) = false := by
  rw [decide_eq_false_iff_not] at *
  exact fun z => h (V.str.inj z)
theorem kt : decide (("kind" : Str) = "turn") = false := by decide +kernel
theorem kg : decide (("kind" : Str) = "grid") = false := by decide +kernel
theorem tk : decide (("turn" : Str) = "kind") = false := by decide +kernel
theorem tg : decide (("turn" : Str) = "grid") = false := by decide +kernel
theorem ut : decide (("upon" : Str) = "turn") = false := by decide +kernel
theorem uk : decide (("upon" : Str) = "kind") = false := by decide +kernel
theorem ug : decide (("upon" : Str) = "grid") = false := by decide +kernel
theorem bt : decide (("beside" : Str) = "turn") = false := by decide +kernel
theorem bk : decide (("beside" : Str) = "kind") = false := by decide +kernel
theorem bg : decide (("beside" : Str) = "grid") = false := by decide +kernel
theorem bu : decide (("beside" : Str) = "upon") = false := by decide +kernel
theorem gk : decide (("grid" : Str) = "kind") = false := by decide +kernel
theorem gt : decide (("grid" : Str) = "turn") = false := by decide +kernel
theorem gu : decide (("grid" : Str) = "upon") = false := by decide +kernel
theorem Al.one {α β : Type} {F : α → β → Prop} {v : α} {x : β} (h : F v x) : Al F [v] [x] := .cons h .nil
theorem sc_inner_of : FnScope ["thing", "word", "size"] ["thing"] (defScope s_inner_of) := ⟨rfl, rfl, rfl, by decide +kernel, rfl, by decide +kernel, by decide +kernel⟩
theorem ok_inner_of : T.inner_of.Ok w base 43 (spInner K) := by
  have G_is_count := ok_is_count (w := w) (base := base) T
  have G_are_parts := ok_are_parts (w := w) (base := base) T
  refine T.inner_of.ok sc_inner_of (fun vs H Q E h => ?_) (fun cdv A outer s H vs Q E hr h => ?_)
  · obtain ⟨_, _, _, _, rfl, _⟩ := h
    rfl
  obtain ⟨n, many, P, v, rfl, hP, wf, nk, q⟩ := h
  have nd := sc_inner_of.nd
  refine ⟨_, (pss_cons (ps_par (i := 1) (j := 2) rfl nd rfl rfl (by decide) rfl rfl (pa_cons (pe_ix ix_tup (pv 0) pe_int (fun _ _ => rfl)) (pa_cons (pe_callB call_len_seq rfl T.b_len PySem.boot_len (pa_cons (pv 0) pa_nil)) pa_nil)) (by rfl))
      (pss_cons (ps_if (PW.pt (pw_and (pt_cmpR op_eq (pv 1) pe_str (nomark _)) (pw_and1 (pt_cmpR op_eq (pv 2) pe_int (nomark _))))) (pss_one (ps_ret (pe_tup (pa_cons (pe_ix ix_tup (pv 0) pe_int (fun _ _ => rfl)) pa_nil)))) pss_nil)
      (pss_cons (ps_if (PW.pt (pw_and (pt_cmpR op_in_seq (pv 1) (pe_tup (pa_cons pe_str (pa_cons pe_str pa_nil))) (by rfl)) (pw_and (pt_cmpR op_eq (pv 2) pe_int (nomark _)) (pw_and1 (pt_val (pcl T.are_parts G_are_parts (hr.mono (by decide)) (pa_cons (pe_ix ix_tup (pv 0) pe_int (fun _ _ => rfl)) pa_nil))))))) (pss_one (ps_ret (pe_ix ix_tup (pv 0) pe_int (fun _ _ => rfl)))) pss_nil)
      (pss_cons (ps_if (PW.pt (pw_and (pt_cmpR op_eq (pv 1) pe_str (nomark _)) (pw_and (pt_cmpR op_eq (pv 2) pe_int (nomark _)) (pw_and (pt_val (pcl T.is_count G_is_count (hr.mono (by decide)) (pa_cons (pe_ix ix_tup (pv 0) pe_int (fun _ _ => rfl)) pa_nil))) (pw_and1 (pt_val (pcl T.is_count G_is_count (hr.mono (by decide)) (pa_cons (pe_ix ix_tup (pv 0) pe_int (fun _ _ => rfl)) pa_nil)))))))) (pss_one (ps_ret (pe_tup (pa_cons (pe_ix ix_tup (pv 0) pe_int (fun _ _ => rfl)) pa_nil)))) pss_nil)
      (pss_one (ps_ret (pe_tup pa_nil))))))), ?_⟩
  cases P with
  | kind k => exact absurd rfl (nk k)
  | turn p =>
    obtain ⟨a, u, rfl, ha, hp⟩ := hP
    refine ⟨_, rfl, _, _, _, _, rfl, rfl, ha, rfl, _, rfl, a, _, rfl, .inr ha, _, _, rfl, ?_⟩
    refine ⟨_, rfl, rfl, _, rfl, ifT rfl ⟨_, rfl, rfl, _, rfl, ifT rfl ⟨_, rfl, _, _, _, _, rfl, rfl, ha, rfl, sz1, fun r hr' => ?_⟩⟩⟩
    exact q r _ _ (Le.new hr') (st_of upd_same) (.one (hp.up (Le.new hr').t))
  | upon ps =>
    obtain ⟨a, b, us, rfl, ha, hb, al⟩ := hP
    obtain ⟨w1, w2, w3⟩ := wf
    have hl := al.1
    refine ⟨_, rfl, _, _, _, _, rfl, rfl, ha, rfl, _, rfl, a, _, rfl, .inr ha, _, _, rfl, ?_⟩
    refine ⟨_, rfl, rfl, _, rfl, ifF (d_ne ut) (ifF rfl ?_)⟩
    refine ⟨_, rfl, sz2, fun r hr' => ⟨r, _, rfl, .inr (st_of upd_same), rfl, rfl, _, rfl, ifT inV_upon ?_⟩⟩
    have e1 := Le.new (o := HO.tup [.str "upon", .str "beside"]) hr'
    refine ⟨_, rfl, rfl, _, rfl, ifT rfl ⟨_, rfl, _, _, _, _, rfl, rfl, e1.tup ha, rfl, b, us, rfl, e1.tup hb, by omega, by omega, true, rfl, ifT rfl ?_⟩⟩
    exact ⟨_, rfl, _, _, _, _, rfl, rfl, e1.tup ha, rfl, q b us _ e1 (e1.tup hb) (al.imp fun _ _ z => z.up e1.t)⟩
  | beside ps =>
    obtain ⟨a, b, us, rfl, ha, hb, al⟩ := hP
    obtain ⟨w1, w2, w3⟩ := wf
    have hl := al.1
    refine ⟨_, rfl, _, _, _, _, rfl, rfl, ha, rfl, _, rfl, a, _, rfl, .inr ha, _, _, rfl, ?_⟩
    refine ⟨_, rfl, rfl, _, rfl, ifF (d_ne bt) (ifF rfl ?_)⟩
    refine ⟨_, rfl, sz2, fun r hr' => ⟨r, _, rfl, .inr (st_of upd_same), rfl, rfl, _, rfl, ifT inV_beside ?_⟩⟩
    have e1 := Le.new (o := HO.tup [.str "upon", .str "beside"]) hr'
    refine ⟨_, rfl, rfl, _, rfl, ifT rfl ⟨_, rfl, _, _, _, _, rfl, rfl, e1.tup ha, rfl, b, us, rfl, e1.tup hb, by omega, by omega, true, rfl, ifT rfl ?_⟩⟩
    exact ⟨_, rfl, _, _, _, _, rfl, rfl, e1.tup ha, rfl, q b us _ e1 (e1.tup hb) (al.imp fun _ _ z => z.up e1.t)⟩
  | grid x y p =>
    obtain ⟨a, u, rfl, ha, hp⟩ := hP
    obtain ⟨w1, w2, w3, w4, w5⟩ := wf
    refine ⟨_, rfl, _, _, _, _, rfl, rfl, ha, rfl, _, rfl, a, _, rfl, .inr ha, _, _, rfl, ?_⟩
    refine ⟨_, rfl, rfl, _, rfl, ifF (d_ne gt) (ifF rfl ?_)⟩
    refine ⟨_, rfl, sz2, fun r hr' => ⟨r, _, rfl, .inr (st_of upd_same), rfl, rfl, _, rfl, ifF inV_grid (ifF rfl ?_)⟩⟩
    have e1 := Le.new (o := HO.tup [.str "upon", .str "beside"]) hr'
    refine ⟨_, rfl, rfl, _, rfl, ifT rfl ⟨_, rfl, rfl, _, rfl, ifT rfl ⟨_, rfl, _, _, _, _, rfl, rfl, e1.tup ha, rfl, x, rfl, w1, true, rfl, ifT rfl ?_⟩⟩⟩
    refine ⟨_, rfl, _, _, _, _, rfl, rfl, e1.tup ha, rfl, y, rfl, w3, true, rfl, ifT rfl ?_⟩
    refine ⟨_, rfl, _, _, _, _, rfl, rfl, e1.tup ha, rfl, sz1, fun r2 hr2 => ?_⟩
    have e2 := e1.trans (Le.new (o := HO.tup [u]) hr2)
    exact q r2 _ _ e2 (st_of upd_same) (.one (hp.up e2.t))
end
end MW

namespace MW
open PySem PySem.Spec PyProof.Rows L2
open MF (Root QD Plan Wf KOk shape sumQ)
open MF.QD (Sz)
theorem dec1 (d : Nat) : ((d + 1 : Nat) : Int) - 1 = (d : Int) := by omega
theorem int_ne {i j : Int} (h : i ≠ j) : decide (V.int i = V.int j) = false := decide_eq_false fun z => h (V.int.inj z)
theorem int_eq {i j : Int} (h : i = j) : decide (V.int i = V.int j) = true := decide_eq_true (congrArg V.int h)
theorem size_parts {P : Plan} (h : ∀ k, P ≠ .kind k) : P.size = 1 + Plan.sizes (parts P) := by
  cases P with
  | kind k => exact absurd rfl (h k)
  | turn p => rw [Plan.size, parts, Plan.sizes, Plan.sizes]; omega
  | upon ps => rw [Plan.size, parts]
  | beside ps => rw [Plan.size, parts]
  | grid u v p => rw [Plan.size, parts, Plan.sizes, Plan.sizes]; omega
theorem sizes_take_succ {ps : List Plan} {i : Nat} {p : Plan} (h : ps[i]? = some p) : Plan.sizes (ps.take (i + 1)) = Plan.sizes (ps.take i) + p.size := by
  induction ps generalizing i with
  | nil => simp at h
  | cons q r ih =>
    cases i with
    | zero =>
      have e : q = p := by simpa using h
      subst e
      simp [Plan.sizes]
    | succ i =>
      rw [List.take_succ_cons, List.take_succ_cons, Plan.sizes, Plan.sizes, ih (by simpa using h)]
      omega
theorem parts_wf {many n : Nat} {P : Plan} (h : Wf many (n + 1) P) : ∀ p ∈ parts P, Wf many n p := by
  cases P with
  | kind k => intro p hp; cases hp
  | turn q => intro p hp; rw [List.mem_singleton.mp hp]; exact h
  | upon ps => exact h.2.2
  | beside ps => exact h.2.2
  | grid u v q => intro p hp; rw [List.mem_singleton.mp hp]; exact h.2.2.2.2
theorem parts_ne {many n : Nat} {P : Plan} (h : Wf many (n + 1) P) (nk : ∀ k, P ≠ .kind k) : parts P ≠ [] := by
  cases P with
  | kind k => exact absurd rfl (nk k)
  | turn q => intro e; cases e
  | upon ps => intro e; have := h.1; rw [show ps = [] from e] at this; simp at this
  | beside ps => intro e; have := h.1; rw [show ps = [] from e] at this; simp at this
  | grid u v q => intro e; cases e
/-- how a plan's tuple begins -/
theorem head_of {K : PySem.W.Frag} {H : Hp} {n : Nat} {v : V} {P : Plan} (h : PlanAt K H (n + 1) v P) (nk : ∀ k, P ≠ .kind k) :
    ∃ (a : Addr) (x : Str) (y : V) (r : List V), v = .ref a ∧ SqT K H a (.str x :: y :: r) ∧ decide (x = "kind") = false := by
  cases P with
  | kind k => exact absurd rfl (nk k)
  | turn p => obtain ⟨a, u, h1, h2, _⟩ := h; exact ⟨a, _, _, _, h1, h2, tk⟩
  | upon ps => obtain ⟨a, b, us, h1, h2, _⟩ := h; exact ⟨a, _, _, _, h1, h2, uk⟩
  | beside ps => obtain ⟨a, b, us, h1, h2, _⟩ := h; exact ⟨a, _, _, _, h1, h2, bk⟩
  | grid u v p => obtain ⟨a, y, h1, h2, _⟩ := h; exact ⟨a, _, _, _, h1, h2, gk⟩
theorem at0 {a : V} {r : List V} : atI (a :: r) 0 = some a := atI_nat (j := 0) rfl
theorem at1 {a b : V} {r : List V} : atI (a :: b :: r) 1 = some b := atI_nat (j := 1) rfl
section
variable {K : PySem.W.Frag} {mg : Str → Option Value} {w : World} {base : Heap} (T : Txt K mg)
def spPlansIn (K : PySem.W.Frag) (d : Nat) : Sp := fun vs H Q _ => ∃ (many : Nat) (P : Plan) (v : V), vs = [v, .int (many : Int), .int (d : Int)] ∧ PlanAt K H d v P ∧ Wf many d P ∧ P.size ≤ 60 ∧ ∀ H', Le H H' → Q (.int (P.size : Int)) H'
theorem sc_plans_in : FnScope ["thing", "many", "deep", "parts", "found", "part", "more"] ["thing", "many", "deep"] (defScope s_plans_in) := ⟨rfl, rfl, rfl, by decide +kernel, rfl, by decide +kernel, by decide +kernel⟩
theorem ok_plans_in : ∀ d : Nat, d ≤ 20 → T.plans_in.Ok w base (50 + d) (spPlansIn K d)
  | 0, _ => by
    have no : ∀ vs H Q E, ¬ spPlansIn K 0 vs H Q E := fun vs H Q E h => by
      obtain ⟨_, P, v, _, hP, _⟩ := h
      exact hP
    exact ⟨fun vs H Q E h => absurd h (no vs H Q E), fun A outer s H args us vs Q E _ _ _ _ h => absurd h (no vs H Q E)⟩
  | d + 1, hd => by
    have G_plans_in := ok_plans_in d (by omega)
    have G_inner_of := ok_inner_of (w := w) (base := base) T
    have G_is_whole := ok_is_whole (w := w) (base := base) T
    refine T.plans_in.ok sc_plans_in (fun vs H Q E h => ?_) (fun cdv A outer s H vs Q E hr h => ?_)
    · obtain ⟨_, _, _, rfl, _⟩ := h
      rfl
    obtain ⟨many, P, v, rfl, hP, wf, h60, q⟩ := h
    replace hr : Room (50 + d) _ := hr
    have nd := sc_plans_in.nd
    refine ⟨_, (pss_cons (ps_if (PW.pt (pw_or (pt_cmpR op_eq (pv 2) pe_int (nomark _)) (pw_or (pt_not (pt_val (pe_callB call_isi rfl T.b_isinstance (by decide +kernel) (pa_cons (pv 0) (pa_cons (pe_bltn (v := .ty "tuple") rfl T.b_tuple (by decide +kernel) rfl) pa_nil))))) (pw_or (pt_cmpR op_lt (pe_callB call_len_seq rfl T.b_len PySem.boot_len (pa_cons (pv 0) pa_nil)) pe_int (nomark _)) (pw_or1 (pt_not (pt_val (pe_callB call_isi rfl T.b_isinstance (by decide +kernel) (pa_cons (pe_ix ix_tup (pv 0) pe_int (fun _ _ => rfl)) (pa_cons (pe_bltn (v := .ty "str") rfl T.b_str (by decide +kernel) rfl) pa_nil)))))))))) (pss_one (ps_ret pe_int)) pss_nil)
      (pss_cons (ps_if (pt_cmpR op_eq (pe_ix ix_tup (pv 0) pe_int (fun _ _ => rfl)) pe_str (nomark _)) (pss_one (ps_ret (pe_callTy call_int1 rfl T.b_int (by decide +kernel) (pa_cons (pe_and (pe_cmpR op_eq (pe_callB call_len_seq rfl T.b_len PySem.boot_len (pa_cons (pv 0) pa_nil)) pe_int (nomark _)) (pe_and (pcl T.is_whole G_is_whole (hr.mono (by omega)) (pa_cons (pe_ix ix_tup (pv 0) pe_int (fun _ _ => rfl)) pa_nil)) (pe_one (pe_chain op_le op_lt pe_int (pe_ix ix_tup (pv 0) pe_int (fun _ _ => rfl)) (pv 1))))) pa_nil)))) pss_nil)
      (pss_cons (ps_set (i := 3) nd rfl (by first | exact Or.inl rfl | exact Or.inr rfl) (pcl T.inner_of G_inner_of (hr.mono (by omega)) (pa_cons (pv 0) pa_nil)))
      (pss_cons (ps_set (i := 4) nd rfl (by first | exact Or.inl rfl | exact Or.inr rfl) (pe_callTy call_int1 rfl T.b_int (by decide +kernel) (pa_cons (pe_cmpR (op_neD hr.units) (pv 3) (pe_tup pa_nil) (nomark _)) pa_nil)))
      (pss_cons (ps_for PassesOwn.never rfl (pi_tup (pv 3)) (pg_name (i := 5) nd rfl (by first | exact Or.inl rfl | exact Or.inr rfl)) (pss_cons (ps_set (i := 6) nd rfl (by first | exact Or.inl rfl | exact Or.inr rfl) (pcl T.plans_in G_plans_in (hr.mono (by omega)) (pa_cons (pv 5) (pa_cons (pv 1) (pa_cons (pe_op op_sub (pv 2) pe_int) pa_nil)))))
      (pss_cons (ps_if (PW.pt (pw_or (pt_cmpR op_eq (pv 6) pe_int (nomark _)) (pw_or1 (pt_cmpR op_gt (pe_op op_add (pv 4) (pv 6)) (pe_glob (v := .int 60) rfl T.mgMOST_PLANS ⟨_, rfl⟩) (nomark _))))) (pss_one (ps_ret pe_int)) pss_nil)
      (pss_one (ps_set (i := 4) nd rfl (by first | exact Or.inl rfl | exact Or.inr rfl) (pe_op op_add (pv 4) (pv 6)))))))
      (pss_one (ps_ret (pv 4)))))))), ?_⟩
    refine ⟨_, rfl, rfl, _, rfl, ifF (int_ne (by omega)) ?_⟩
    by_cases hk : ∃ k, P = .kind k
    · obtain ⟨k, rfl⟩ := hk
      obtain ⟨a, rfl, ha⟩ := hP
      have hk : k < many := wf
      refine ⟨_, rfl, _, _, _, _, _, rfl, .ty _, tyT ha, k_tt, true, rfl, iteF ⟨_, rfl, a, _, rfl, .inr ha, _, _, rfl, rfl, _, rfl, ifF rfl ?_⟩⟩
      refine ⟨_, rfl, _, _, _, _, rfl, rfl, ha, rfl, _, _, _, _, _, rfl, .ty _, .base (.str _), k_ss, true, rfl, iteF ?_⟩
      refine ⟨_, rfl, _, _, _, _, rfl, rfl, ha, rfl, rfl, _, rfl, ifT rfl ?_⟩
      refine ⟨_, rfl, a, _, rfl, .inr ha, rfl, true, rfl, iteT ⟨_, rfl, _, _, _, _, rfl, rfl, ha, rfl, _, rfl, true, rfl, iteT ⟨_, rfl, _, _, _, _, rfl, rfl, ha, rfl, _, _, rfl, rfl, true, ?_, iteT ⟨_, rfl, _, _, rfl, rfl, .inr ⟨true, ?_, q H (Le.refl H)⟩⟩⟩⟩⟩
      · exact congrArg V.bl (decide_eq_true (by omega))
      · exact congrArg (fun b => [V.bl b]) (decide_eq_true (by omega))
    · have nk : ∀ k, P ≠ .kind k := fun k e => hk ⟨k, e⟩
      obtain ⟨a, x, y, r, rfl, ha, hx⟩ := head_of hP nk
      refine ⟨_, rfl, _, _, _, _, _, rfl, .ty _, tyT ha, k_tt, true, rfl, iteF ⟨_, rfl, a, _, rfl, .inr ha, _, _, rfl, rfl, _, rfl, ifF ?_ ?_⟩⟩
      · exact decide_eq_false (by rw [List.length_cons, List.length_cons]; omega)
      refine ⟨_, rfl, _, _, _, _, rfl, rfl, ha, at0, _, _, _, _, _, rfl, .ty _, .base (.str _), k_ss, true, rfl, iteF ?_⟩
      refine ⟨_, rfl, _, _, _, _, rfl, rfl, ha, at0, rfl, _, rfl, ifF (d_ne hx) ?_⟩
      refine ⟨_, rfl, d, many, P, _, rfl, hP, wf, nk, fun p us H1 e1 hp al => ?_⟩
      have hne := parts_ne wf nk
      have pw := parts_wf wf
      refine ⟨_, rfl, sz_of (by show 0 ≤ 100000; decide), fun p2 hp2 => ?_⟩
      have e2 : Le H1 (upd H1 p2 (.tup [])) := Le.new hp2
      refine ⟨.tuple (toDs (parts P)), .tuple [], .tup (e2.tup hp) (dp_all (fun z => dp_plan z) (al.imp fun _ _ z => z.up e2.t)), .tup (st_of upd_same) .nil, shaped_Ds pw (by omega), rfl, .inr ⟨true, congrArg (fun b => [V.bl (!b)]) (eqv_Ds hne), ?_⟩⟩
      refine ⟨_, rfl, p, rfl, ⟨_, e2.tup hp⟩, ?_⟩
      have sp := size_parts nk
      refine for_tup (xs := us) (fun i σ H' => Le (upd H1 p2 (.tup [])) H' ∧ ∃ o1 o2, σ = [some (.ref a), some (.int (many : Int)), some (.int ((d + 1 : Nat) : Int)), some (.ref p), some (.int ((1 + Plan.sizes ((parts P).take i) : Nat) : Int)), o1, o2]) ⟨Le.refl _, none, none, ?_⟩ (fun i σ H' hi h => h.1.tup (e2.tup hp)) ?_ ?_
      · rw [List.take_zero, Plan.sizes]; rfl
      · rintro i u σ H' hu ⟨e3, o1, o2, rfl⟩
        obtain ⟨pi, hpi, hPi⟩ := al.left hu
        have hm := List.mem_of_getElem? hpi
        have s1 := MF.size_mem hm
        have s2 := sizes_take_succ hpi
        have s3 := MF.sizes_take (parts P) (i + 1)
        have s4 := Plan.size_pos pi
        refine ⟨_, rfl, _, rfl, _, rfl, _, _, rfl, rfl, many, pi, u, congrArg (fun z => [u, V.int many, V.int z]) (dec1 d), hPi.up (e2.trans e3).t, pw pi hm, by omega, fun H'' e4 => ?_⟩
        refine ⟨_, rfl, rfl, _, rfl, ifF (int_ne (by omega)) ⟨_, rfl, _, rfl, _, _, rfl, rfl, _, _, rfl, rfl, _, rfl, ifF (decide_eq_false (by omega)) ?_⟩⟩
        refine ⟨_, rfl, _, rfl, _, _, rfl, rfl, e3.trans e4, some u, some (.int (pi.size : Int)), ?_⟩
        have ee : ((1 + Plan.sizes ((parts P).take i) : Nat) : Int) + (pi.size : Int) = ((1 + Plan.sizes ((parts P).take (i + 1)) : Nat) : Int) := by omega
        rw [← ee]
        rfl
      · rintro σ H' ⟨e3, o1, o2, rfl⟩
        refine ⟨_, rfl, qv (Q := Q) (q _ ((e1.trans e2).trans e3)) (congrArg V.int ?_)⟩
        rw [al.1, List.take_length]
        omega
def spIsPlan (K : PySem.W.Frag) (r : V) : Sp := fun vs H Q _ => ∃ (many : Nat) (P : Plan) (v : V), vs = [v, .int (many : Int)] ∧ PlanAt K H 12 v P ∧ Wf many 12 P ∧ P.size ≤ 60 ∧ ∀ H', Le H H' → Q r H'
theorem sc_is_plan : FnScope ["thing", "many"] ["thing", "many"] (defScope s_is_plan) := ⟨rfl, rfl, rfl, by decide +kernel, rfl, by decide +kernel, by decide +kernel⟩
theorem ok_is_plan : T.is_plan.Ok w base 63 (spIsPlan K (.bl true)) := by
  have G_plans_in := ok_plans_in (w := w) (base := base) T 12 (by decide)
  refine T.is_plan.ok sc_is_plan (fun vs H Q E h => ?_) (fun cdv A outer s H vs Q E hr h => ?_)
  · obtain ⟨_, _, _, rfl, _⟩ := h
    rfl
  obtain ⟨many, P, v, rfl, hP, wf, h60, q⟩ := h
  refine ⟨_, (pss_one (ps_ret (pe_cmpR op_gt (pcl T.plans_in G_plans_in (hr.mono (by decide)) (pa_cons (pv 0) (pa_cons (pv 1) (pa_cons (pe_glob (v := .int 12) rfl T.mgMOST_DEEP ⟨_, rfl⟩) pa_nil)))) pe_int (nomark _)))), ?_⟩
  have := Plan.size_pos P
  exact ⟨_, rfl, _, rfl, many, P, v, rfl, hP, wf, h60, fun H1 e1 => ⟨_, _, rfl, rfl, qv (Q := Q) (q _ e1) (congrArg V.bl (decide_eq_true (by omega)))⟩⟩
theorem sc_look_plan : FnScope ["thing", "many"] ["thing", "many"] (defScope s_look_plan) := ⟨rfl, rfl, rfl, by decide +kernel, rfl, by decide +kernel, by decide +kernel⟩
theorem ok_look_plan : T.look_plan.Ok w base 64 (spIsPlan K .non) := by
  have G_is_plan := ok_is_plan (w := w) (base := base) T
  refine T.look_plan.ok sc_look_plan (fun vs H Q E h => ?_) (fun cdv A outer s H vs Q E hr h => ?_)
  · obtain ⟨_, _, _, rfl, _⟩ := h
    rfl
  obtain ⟨many, P, v, rfl, hP, wf, h60, q⟩ := h
  refine ⟨_, (pss_one (ps_if (pt_not (pt_val (pcl T.is_plan G_is_plan (hr.mono (by decide)) (pa_cons (pv 0) (pa_cons (pv 1) pa_nil))))) (pss_one ps_never) pss_nil)), ?_⟩
  exact ⟨_, rfl, _, rfl, many, P, v, rfl, hP, wf, h60, fun H1 e1 => ⟨true, rfl, iteF (q _ e1)⟩⟩

/-! ### sums -/
def spSum (K : PySem.W.Frag) : Sp := fun vs H Q _ => ∃ (D : Root) (a : Addr) (us : List V) (xs : List (QD D)), vs = [.ref a] ∧ SqL K H a us ∧ Al (fun u x => Nm K H u x) us xs ∧ (∀ x ∈ xs, Sml x) ∧ (∀ i, Sml (sumQ (xs.take i))) ∧ GivesN K H Q (sumQ xs)
theorem sc_sum_of : FnScope ["some", "found", "one"] ["some"] (defScope s_sum_of) := ⟨rfl, rfl, rfl, by decide +kernel, rfl, by decide +kernel, by decide +kernel⟩
theorem ok_sum_of (hs : base.NoSeer) : T.sum_of.Ok w base 44 (spSum K) := by
  have G_plus := ok_plus (w := w) T hs
  refine T.sum_of.ok sc_sum_of (fun vs H Q E h => ?_) (fun cdv A outer s H vs Q E hr h => ?_)
  · obtain ⟨_, _, _, _, rfl, _⟩ := h
    rfl
  obtain ⟨D, a, us, xs, rfl, ha, al, sx, sp, q⟩ := h
  have nd := sc_sum_of.nd
  refine ⟨_, (pss_cons (ps_set (i := 1) nd rfl (by first | exact Or.inl rfl | exact Or.inr rfl) (pe_glob (v := .ref T.aN) rfl T.mgNOUGHT rfl))
      (pss_cons (ps_for PassesOwn.never rfl (pi_list (pv 0)) (pg_name (i := 2) nd rfl (by first | exact Or.inl rfl | exact Or.inr rfl)) (pss_one (ps_set (i := 1) nd rfl (by first | exact Or.inl rfl | exact Or.inr rfl) (pcl T.plus G_plus (hr.mono (by decide)) (pa_cons (pv 1) (pa_cons (pv 2) pa_nil))))))
      (pss_one (ps_ret (pv 1))))), ?_⟩
  refine ⟨_, rfl, a, rfl, ⟨_, ha⟩, for_list (xs := us) (fun i σ H' => Le H H' ∧ ∃ u o, σ = [some (.ref a), some u, o] ∧ Nm K H' u (sumQ (xs.take i))) ⟨Le.refl _, _, none, rfl, nmN T H⟩ (fun i σ H' hi h => h.1.lst al.nbag ha) ?_ ?_⟩
  · rintro i v σ H' hv ⟨e, u, o, rfl, hu⟩
    obtain ⟨x, hx, hn⟩ := al.left hv
    have hm := List.mem_of_getElem? hx
    refine ⟨_, rfl, _, rfl, D, _, x, _, _, rfl, hu, hn.up e, sp i, sx x hm, fun v2 H2 e2 h2 => ⟨e.trans e2, v2, some v, rfl, ?_⟩⟩
    rw [MF.sumQ_take hx]
    exact h2
  · rintro σ H' ⟨e, u, o, rfl, hu⟩
    rw [al.1, List.take_length] at hu
    exact ⟨_, rfl, q _ _ e hu⟩
theorem sc_l_sum : FnScope ["_law_some", "_law_found", "_law_one"] ["_law_some"] (defScope s_l_sum) := ⟨rfl, rfl, rfl, by decide +kernel, rfl, by decide +kernel, by decide +kernel⟩
theorem ok_l_sum (hs : base.NoSeer) : T.l_sum.Ok w base 44 (spSum K) := by
  have G_l_plus := ok_l_plus (w := w) T hs
  refine T.l_sum.ok sc_l_sum (fun vs H Q E h => ?_) (fun cdv A outer s H vs Q E hr h => ?_)
  · obtain ⟨_, _, _, _, rfl, _⟩ := h
    rfl
  obtain ⟨D, a, us, xs, rfl, ha, al, sx, sp, q⟩ := h
  have nd := sc_l_sum.nd
  refine ⟨_, (pss_cons (ps_set (i := 1) nd rfl (by first | exact Or.inl rfl | exact Or.inr rfl) (pe_tup (pa_cons pe_int (pa_cons pe_int (pa_cons pe_int pa_nil)))))
      (pss_cons (ps_for PassesOwn.never rfl (pi_list (pv 0)) (pg_name (i := 2) nd rfl (by first | exact Or.inl rfl | exact Or.inr rfl)) (pss_one (ps_set (i := 1) nd rfl (by first | exact Or.inl rfl | exact Or.inr rfl) (pcl T.l_plus G_l_plus (hr.mono (by decide)) (pa_cons (pv 1) (pa_cons (pv 2) pa_nil))))))
      (pss_one (ps_ret (pv 1))))), ?_⟩
  refine ⟨sz3, fun p hp => ?_⟩
  have e0 : Le H (upd H p (.tup [.int 0, .int 0, .int 1])) := Le.new hp
  have h0 : Nm K (upd H p (.tup [.int 0, .int 0, .int 1])) (.ref p) (0 : QD D) := by
    obtain ⟨h1, h2, h3⟩ := MF.QD.tri_zero (D := D)
    exact ⟨p, rfl, st_new (by unfold tr; rw [h1, h2, h3])⟩
  refine ⟨_, rfl, a, rfl, ⟨_, e0.lst al.nbag ha⟩, for_list (xs := us) (fun i σ H' => Le H H' ∧ ∃ u o, σ = [some (.ref a), some u, o] ∧ Nm K H' u (sumQ (xs.take i))) ⟨e0, _, none, rfl, h0⟩ (fun i σ H' hi h => h.1.lst al.nbag ha) ?_ ?_⟩
  · rintro i v σ H' hv ⟨e, u, o, rfl, hu⟩
    obtain ⟨x, hx, hn⟩ := al.left hv
    have hm := List.mem_of_getElem? hx
    refine ⟨_, rfl, _, rfl, D, _, x, _, _, rfl, hu, hn.up e, sp i, sx x hm, fun v2 H2 e2 h2 => ⟨e.trans e2, v2, some v, rfl, ?_⟩⟩
    rw [MF.sumQ_take hx]
    exact h2
  · rintro σ H' ⟨e, u, o, rfl, hu⟩
    rw [al.1, List.take_length] at hu
    exact ⟨_, rfl, q _ _ e hu⟩
end
end MW

namespace MW
open PySem PySem.Spec PyProof.Rows L2
open MF (Root QD Plan Wf KOk shape sumQ)
open MF.QD (Sz)
theorem al_of {K : PySem.W.Frag} {H : Hp} {D : Root} {ys : List V} {α : Type} {ps : List α} {f : α → QD D} (hl : ys.length = ps.length) (h : ∀ (i : Nat) y, ys[i]? = some y → ∃ p, ps[i]? = some p ∧ Nm K H y (f p)) : Al (fun u x => Nm K H u x) ys (ps.map f) := by
  refine ⟨by rw [hl, List.length_map], fun i u x hu hx => ?_⟩
  obtain ⟨p, hp, hn⟩ := h i u hu
  rw [MF.getElem?_map' hp] at hx
  cases hx
  exact hn
theorem sz_invs {D : Root} {ks : List (QD D)} (hk : KOk ks) {n : Nat} {ps : List Plan} (h : ∀ p ∈ ps, Wf ks.length n p) (h60 : Plan.sizes ps ≤ 60) (h8 : ps.length ≤ 8) (i : Nat) : Sz 12100 (sumQ ((ps.map fun p => (shape ks p)⁻¹).take i)) := by
  rw [← List.map_take]
  refine (MF.Sz.sums (f := fun p => (shape ks p)⁻¹) fun p hp => (MF.shape_sz hk (n := n) (h p (List.mem_of_mem_take hp))).inv (MF.pos_ne (MF.shape_pos hk (n := n) (h p (List.mem_of_mem_take hp))))).mono ?_
  have := MF.sizes_take ps i
  have : (ps.take i).length ≤ 8 := by rw [List.length_take]; omega
  omega
theorem sml_shape {D : Root} {ks : List (QD D)} (hk : KOk ks) {n : Nat} {P : Plan} (h : Wf ks.length n P) (h60 : P.size ≤ 60) : Sz 12000 (shape ks P) := (MF.shape_sz hk h).mono (by omega)
theorem invs_pos {D : Root} {ks : List (QD D)} (hk : KOk ks) {n : Nat} {ps : List Plan} (h : Wf ks.length (n + 1) (.beside ps)) : 0 < sumQ (ps.map fun p => (shape ks p)⁻¹) := by
  refine (MF.sumQ_pos fun x hx => ?_).2 fun e => ?_
  · obtain ⟨p, hp, rfl⟩ := List.mem_map.mp hx
    exact MF.QD.inv_pos (MF.shape_pos hk (n := n) (h.2.2 p hp))
  · have := h.1
    rw [List.map_eq_nil_iff] at e
    rw [e] at this
    simp at this
theorem one_div {D : Root} (x : QD D) : 1 / x = x⁻¹ := by grind
theorem u_ne {u : Int} (h : 1 ≤ u) : u ≠ 0 := by omega
theorem u_bd {u : Int} (h : 1 ≤ u) (h2 : u ≤ 1000000) : Bd 100000000 u := Bd.mono (Bd.small (by omega) h2) (by decide)
section
variable {K : PySem.W.Frag} {mg : Str → Option Value} {w : World} {base : Heap} (T : Txt K mg)
def spShape (K : PySem.W.Frag) (n : Nat) : Sp := fun vs H Q _ => ∃ (D : Root) (ks : List (QD D)) (P : Plan) (u v : V), vs = [.int D.d, u, v] ∧ KOk ks ∧ KindsAt K H u ks ∧ PlanAt K H n v P ∧ Wf ks.length n P ∧ P.size ≤ 60 ∧ GivesN K H Q (shape ks P)
theorem kinds_ix {K : PySem.W.Frag} {H : Hp} {D : Root} {ks : List (QD D)} {us : List V} {k : Nat} (al : Al (fun u x => Nm K H u x) us ks) (hk : k < ks.length) : ∃ u, atI us (k : Int) = some u ∧ Nm K H u (ks.getD k 0) := by
  obtain ⟨u, hu, hn⟩ := al.right (show ks[k]? = some (ks.getD k 0) by rw [List.getD_eq_getElem?_getD, List.getElem?_eq_getElem hk]; rfl)
  exact ⟨u, atI_nat hu, hn⟩
theorem sc_shape_by : FnScope ["d", "kinds", "plan", "shapes", "part", "shape"] ["d", "kinds", "plan"] (defScope s_shape_by) := ⟨rfl, rfl, rfl, by decide +kernel, rfl, by decide +kernel, by decide +kernel⟩
theorem ok_shape_by (hs : base.NoSeer) : ∀ n : Nat, T.shape_by.Ok w base (50 + n) (spShape K n)
  | 0 => by
    have no : ∀ vs H Q E, ¬ spShape K 0 vs H Q E := fun vs H Q E h => by
      obtain ⟨_, _, P, _, v, _, _, _, hP, _⟩ := h
      exact hP
    exact ⟨fun vs H Q E h => absurd h (no vs H Q E), fun A outer s H args us vs Q E _ _ _ _ h => absurd h (no vs H Q E)⟩
  | n + 1 => by
    have G_shape_by := ok_shape_by hs n
    have G_over := ok_over (w := w) T hs
    have G_times := ok_times (w := w) T hs
    have G_lowest := ok_lowest (w := w) T hs
    have G_sum_of := ok_sum_of (w := w) T hs
    refine T.shape_by.ok sc_shape_by (fun vs H Q E h => ?_) (fun cdv A outer s H vs Q E hr h => ?_)
    · obtain ⟨_, _, _, _, _, rfl, _⟩ := h
      rfl
    obtain ⟨D, ks, P, kv, v, rfl, hk, hkv, hP, wf, h60, q⟩ := h
    replace hr : Room (50 + n) _ := hr
    have nd := sc_shape_by.nd
    refine ⟨_, (pss_cons (ps_if (pt_cmpR op_eq (pe_ix ix_tup (pv 2) pe_int (fun _ _ => rfl)) pe_str (nomark _)) (pss_one (ps_ret (pe_ix ix_tup (pv 1) (pe_ix ix_tup (pv 2) pe_int (fun _ _ => rfl)) (fun _ _ => rfl)))) pss_nil)
      (pss_cons (ps_if (pt_cmpR op_eq (pe_ix ix_tup (pv 2) pe_int (fun _ _ => rfl)) pe_str (nomark _)) (pss_one (ps_ret (pcl T.over G_over (hr.mono (by omega)) (pa_cons (pv 0) (pa_cons (pe_glob (v := .ref T.aO) rfl T.mgONE rfl) (pa_cons (pcl T.shape_by G_shape_by (hr.mono (by omega)) (pa_cons (pv 0) (pa_cons (pv 1) (pa_cons (pe_ix ix_tup (pv 2) pe_int (fun _ _ => rfl)) pa_nil)))) pa_nil)))))) pss_nil)
      (pss_cons (ps_if (pt_cmpR op_eq (pe_ix ix_tup (pv 2) pe_int (fun _ _ => rfl)) pe_str (nomark _)) (pss_one (ps_ret (pcl T.times G_times (hr.mono (by omega)) (pa_cons (pv 0) (pa_cons (pcl T.shape_by G_shape_by (hr.mono (by omega)) (pa_cons (pv 0) (pa_cons (pv 1) (pa_cons (pe_ix ix_tup (pv 2) pe_int (fun _ _ => rfl)) pa_nil)))) (pa_cons (pcl T.lowest G_lowest (hr.mono (by omega)) (pa_cons (pe_ix ix_tup (pv 2) pe_int (fun _ _ => rfl)) (pa_cons pe_int (pa_cons (pe_ix ix_tup (pv 2) pe_int (fun _ _ => rfl)) pa_nil)))) pa_nil)))))) pss_nil)
      (pss_cons (ps_setLc (i := 3) (own := [("part", 4)]) (g := gName 4) (tt := tYes) rfl nd rfl rfl (sw_true rfl rfl rfl (by decide +kernel)) (pi_tup (pe_ix ix_tup (pv 2) pe_int (fun _ _ => rfl))) (blkOk_by (own := [("part", 4)]) (N := ["d", "kinds", "plan", "shapes", "part", "shape"]) (sc := defScope s_shape_by) (by decide +kernel)) (fun _ _ _ _ _ => pg_name (i := 4) nd rfl (Or.inl rfl)) (fun _ _ _ _ _ => pts_nil) (fun _ _ _ _ _ => (pcl T.shape_by G_shape_by (hr.mono (by omega)) (pa_cons (pv 0) (pa_cons (pv 1) (pa_cons (pv 4) pa_nil))))))
      (pss_cons (ps_if (pt_cmpR op_eq (pe_ix ix_tup (pv 2) pe_int (fun _ _ => rfl)) pe_str (nomark _)) (pss_one (ps_ret (pcl T.sum_of G_sum_of (hr.mono (by omega)) (pa_cons (pv 3) pa_nil)))) pss_nil)
      (pss_one (ps_ret (pcl T.over G_over (hr.mono (by omega)) (pa_cons (pv 0) (pa_cons (pe_glob (v := .ref T.aO) rfl T.mgONE rfl) (pa_cons (pcl T.sum_of G_sum_of (hr.mono (by omega)) (pa_cons (pe_lc (own := [("shape", 5)]) (g := gName 5) (tt := tYes) rfl nd (pi_list (pv 3)) (blkOk_by (own := [("shape", 5)]) (N := ["d", "kinds", "plan", "shapes", "part", "shape"]) (sc := defScope s_shape_by) (by decide +kernel)) (fun _ _ _ _ _ => pg_name (i := 5) nd rfl (Or.inl rfl)) (fun _ _ _ _ _ => pts_nil) (fun _ _ _ _ _ => (pcl T.over G_over (hr.mono (by omega)) (pa_cons (pv 0) (pa_cons (pe_glob (v := .ref T.aO) rfl T.mgONE rfl) (pa_cons (pv 5) pa_nil)))))) pa_nil)) pa_nil))))))))))), ?_⟩
    cases P with
    | kind k =>
      obtain ⟨a, rfl, ha⟩ := hP
      obtain ⟨b, us, rfl, hb, al⟩ := hkv
      obtain ⟨u, hu, hn⟩ := kinds_ix al wf
      exact ⟨_, rfl, _, _, _, _, rfl, rfl, ha, at0, rfl, _, rfl, ifT rfl ⟨_, rfl, _, rfl, _, _, _, _, rfl, rfl, ha, at1, _, _, _, _, rfl, rfl, hb, hu, q u H (Le.refl H) (by rw [shape]; exact hn)⟩⟩
    | turn p =>
      obtain ⟨a, u, rfl, ha, hp⟩ := hP
      have wp : Wf ks.length n p := wf
      have sp : p.size ≤ 60 := by rw [Plan.size] at h60; omega
      refine ⟨_, rfl, _, _, _, _, rfl, rfl, ha, at0, rfl, _, rfl, ifF (d_ne tk) ?_⟩
      refine ⟨_, rfl, _, _, _, _, rfl, rfl, ha, at0, rfl, _, rfl, ifT rfl ?_⟩
      refine ⟨_, rfl, _, rfl, _, rfl, _, rfl, _, _, _, _, rfl, rfl, ha, at1, D, ks, p, _, _, rfl, hk, hkv, hp, wp, sp, fun v1 H1 e1 h1 => ?_⟩
      refine ⟨D, 1, shape ks p, _, _, rfl, nmO T H1, h1, .of Sz.one, .of (sml_shape hk wp sp), MF.pos_ne (MF.shape_pos hk wp), fun v2 H2 e2 h2 => q v2 H2 (e1.trans e2) ?_⟩
      rw [shape, ← one_div]
      exact h2
    | grid x y p =>
      obtain ⟨a, u, rfl, ha, hp⟩ := hP
      obtain ⟨w1, w2, w3, w4, wp⟩ := wf
      have sp : p.size ≤ 60 := by rw [Plan.size] at h60; omega
      refine ⟨_, rfl, _, _, _, _, rfl, rfl, ha, at0, rfl, _, rfl, ifF (d_ne gk) ?_⟩
      refine ⟨_, rfl, _, _, _, _, rfl, rfl, ha, at0, rfl, _, rfl, ifF (d_ne gt) ?_⟩
      refine ⟨_, rfl, _, _, _, _, rfl, rfl, ha, at0, rfl, _, rfl, ifT rfl ?_⟩
      refine ⟨_, rfl, _, rfl, _, rfl, _, rfl, _, _, _, _, rfl, rfl, ha, atI_nat (j := 3) rfl, D, ks, p, _, _, rfl, hk, hkv, hp, wp, sp, fun v1 H1 e1 h1 => ?_⟩
      refine ⟨_, rfl, _, _, _, _, rfl, rfl, e1.tup ha, atI_nat (j := 2) rfl, _, rfl, _, _, _, _, rfl, rfl, e1.tup ha, at1, D, _, y, 0, x, rfl, u_ne w1, MF.QD.of_frac y x, fun v2 H2 e2 h2 => ?_⟩
      refine ⟨D, shape ks p, (y : QD D) / (x : QD D), _, _, rfl, h1.up e2, h2, .of (sml_shape hk wp sp), .of (n := 40) ((MF.int_sz w3 w4).div (MF.int_sz w1 w2) (MF.pos_ne (MF.int_posQ w1))), fun v3 H3 e3 h3 => q v3 H3 ((e1.trans e2).trans e3) ?_⟩
      rw [shape]
      exact h3
    | upon ps =>
      obtain ⟨a, b, us, rfl, ha, hb, al⟩ := hP
      obtain ⟨w1, w2, w3⟩ := wf
      have sp : Plan.sizes ps ≤ 60 := by rw [Plan.size] at h60; omega
      refine ⟨_, rfl, _, _, _, _, rfl, rfl, ha, at0, rfl, _, rfl, ifF (d_ne uk) ?_⟩
      refine ⟨_, rfl, _, _, _, _, rfl, rfl, ha, at0, rfl, _, rfl, ifF (d_ne ut) ?_⟩
      refine ⟨_, rfl, _, _, _, _, rfl, rfl, ha, at0, rfl, _, rfl, ifF (d_ne ug) ?_⟩
      refine ⟨_, rfl, _, _, _, _, rfl, rfl, ha, at1, b, rfl, ⟨_, hb⟩, fun Dd hD => ?_⟩
      refine comp_tup (xs := us) (fun i z H' => ∃ p, ps[i]? = some p ∧ Nm K H' z (shape ks p)) (fun i z H H' e h => ⟨h.choose, h.choose_spec.1, h.choose_spec.2.upT e⟩) (fun i z H h => h.choose_spec.2.nint) hb (by rw [al.1]; omega) hD (fun i z H' hi e Q' q' => ?_) (fun ys H' e hl hn hr' => ?_) mono_name
      · obtain ⟨p, hp, hP⟩ := al.left hi
        have hm := List.mem_of_getElem? hp
        have := MF.size_mem hm
        exact ⟨rfl, _, rfl, _, rfl, _, rfl, D, ks, p, _, _, rfl, hk, hkv.up e.t, hP.up e.t, w3 p hm, by omega, fun v1 H1 e1 h1 => q' _ _ e1 ⟨p, hp, h1⟩⟩
      · have al2 := al_of (f := shape ks) (ps := ps) (by rw [hn, al.1]) hr'
        refine ⟨_, rfl, _, _, _, _, rfl, rfl, e.tup ha, at0, rfl, _, rfl, ifT rfl ?_⟩
        refine ⟨_, rfl, D, Dd, ys, _, rfl, sq_of hl, al2, fun x hx => ?_, fun i => .of (MF.sz_shapes hk w3 sp w2 i), fun v1 H1 e1 h1 => q v1 H1 (e.trans e1) ?_⟩
        · obtain ⟨p, hp, rfl⟩ := List.mem_map.mp hx
          have := MF.size_mem hp
          exact .of (sml_shape hk (w3 p hp) (by omega))
        · rw [shape, MF.shapes_eq]
          exact h1
    | beside ps =>
      obtain ⟨a, b, us, rfl, ha, hb, al⟩ := hP
      have wb := wf
      obtain ⟨w1, w2, w3⟩ := wf
      have sp : Plan.sizes ps ≤ 60 := by rw [Plan.size] at h60; omega
      have szp : ∀ p ∈ ps, Sz 12000 (shape ks p) := fun p hp => sml_shape hk (w3 p hp) (by have := MF.size_mem hp; omega)
      refine ⟨_, rfl, _, _, _, _, rfl, rfl, ha, at0, rfl, _, rfl, ifF (d_ne bk) ?_⟩
      refine ⟨_, rfl, _, _, _, _, rfl, rfl, ha, at0, rfl, _, rfl, ifF (d_ne bt) ?_⟩
      refine ⟨_, rfl, _, _, _, _, rfl, rfl, ha, at0, rfl, _, rfl, ifF (d_ne bg) ?_⟩
      refine ⟨_, rfl, _, _, _, _, rfl, rfl, ha, at1, b, rfl, ⟨_, hb⟩, fun Dd hD => ?_⟩
      refine comp_tup (xs := us) (fun i z H' => ∃ p, ps[i]? = some p ∧ Nm K H' z (shape ks p)) (fun i z H H' e h => ⟨h.choose, h.choose_spec.1, h.choose_spec.2.upT e⟩) (fun i z H h => h.choose_spec.2.nint) hb (by rw [al.1]; omega) hD (fun i z H' hi e Q' q' => ?_) (fun ys H' e hl hn hr' => ?_) mono_name
      · obtain ⟨p, hp, hP⟩ := al.left hi
        have hm := List.mem_of_getElem? hp
        have := MF.size_mem hm
        exact ⟨rfl, _, rfl, _, rfl, _, rfl, D, ks, p, _, _, rfl, hk, hkv.up e.t, hP.up e.t, w3 p hm, by omega, fun v1 H1 e1 h1 => q' _ _ e1 ⟨p, hp, h1⟩⟩
      · have al2 := al_of (f := shape ks) (ps := ps) (by rw [hn, al.1]) hr'
        have nb := al2.nbag
        refine ⟨_, rfl, _, _, _, _, rfl, rfl, e.tup ha, at0, rfl, _, rfl, ifF (d_ne bu) ?_⟩
        refine ⟨_, rfl, _, rfl, Dd, rfl, ⟨_, sq_of hl⟩, fun Df hF => ?_⟩
        refine comp_list (xs := ys) (fun i z H' => ∃ p, ps[i]? = some p ∧ Nm K H' z (shape ks p)⁻¹) (fun i z H H' e h => ⟨h.choose, h.choose_spec.1, h.choose_spec.2.upT e⟩) (fun i z H h => h.choose_spec.2.nint) (fun H' e => e.lst nb (sq_of hl)) (by rw [hn, al.1]; omega) hF (fun i z H2 hi e2 Q' q' => ?_) (fun zs H2 e2 hl2 hn2 hr2 => ?_) mono_name
        · obtain ⟨p, hp, hP⟩ := hr' i z hi
          have hm := List.mem_of_getElem? hp
          refine ⟨rfl, _, rfl, _, rfl, D, 1, shape ks p, _, _, rfl, nmO T H2, hP.up e2, .of Sz.one, .of (szp p hm), MF.pos_ne (MF.shape_pos hk (w3 p hm)), fun v1 H3 e3 h3 => q' _ _ e3 ⟨p, hp, ?_⟩⟩
          rw [← one_div]
          exact h3
        · have al3 := al_of (f := fun p => (shape ks p)⁻¹) (ps := ps) (by rw [hn2, hn, al.1]) hr2
          refine ⟨D, Df, zs, _, rfl, sq_of hl2, al3, fun x hx => ?_, fun i => .of (sz_invs hk w3 sp w2 i), fun v1 H3 e3 h3 => ?_⟩
          · obtain ⟨p, hp, rfl⟩ := List.mem_map.mp hx
            exact .of ((szp p hp).inv (MF.pos_ne (MF.shape_pos hk (w3 p hp))))
          · have ps0 := invs_pos hk wb
            have ss := sz_invs hk w3 sp w2 (ps.map fun p => (shape ks p)⁻¹).length
            rw [List.take_length] at ss
            refine ⟨D, 1, _, _, _, rfl, nmO T H3, h3, .of Sz.one, .of ss, MF.pos_ne ps0, fun v2 H4 e4 h4 => q v2 H4 (((e.trans e2).trans e3).trans e4) ?_⟩
            rw [shape, MF.contraries_eq, ← one_div]
            exact h4
end
end MW

namespace MW
open PySem PySem.Spec PyProof.Rows L2
open MF (Root QD Plan Wf KOk shape sumQ)
open MF.QD (Sz)
section
variable {K : PySem.W.Frag} {mg : Str → Option Value} {w : World} {base : Heap} (T : Txt K mg)
theorem sc_l_shape : FnScope ["_law_d", "_law_kinds_here", "_law_plan_here", "_law_shapes", "_law_part", "_law_shape_here"] ["_law_d", "_law_kinds_here", "_law_plan_here"] (defScope s_l_shape) := ⟨rfl, rfl, rfl, by decide +kernel, rfl, by decide +kernel, by decide +kernel⟩
theorem ok_l_shape (hs : base.NoSeer) : ∀ n : Nat, T.l_shape.Ok w base (50 + n) (spShape K n)
  | 0 => by
    have no : ∀ vs H Q E, ¬ spShape K 0 vs H Q E := fun vs H Q E h => by
      obtain ⟨_, _, P, _, v, _, _, _, hP, _⟩ := h
      exact hP
    exact ⟨fun vs H Q E h => absurd h (no vs H Q E), fun A outer s H args us vs Q E _ _ _ _ h => absurd h (no vs H Q E)⟩
  | n + 1 => by
    have G_l_shape := ok_l_shape hs n
    have G_l_contrary := ok_l_contrary (w := w) T hs
    have G_l_times := ok_l_times (w := w) T hs
    have G_l_low := ok_l_low (w := w) T hs
    have G_l_sum := ok_l_sum (w := w) T hs
    refine T.l_shape.ok sc_l_shape (fun vs H Q E h => ?_) (fun cdv A outer s H vs Q E hr h => ?_)
    · obtain ⟨_, _, _, _, _, rfl, _⟩ := h
      rfl
    obtain ⟨D, ks, P, kv, v, rfl, hk, hkv, hP, wf, h60, q⟩ := h
    replace hr : Room (50 + n) _ := hr
    have nd := sc_l_shape.nd
    refine ⟨_, (pss_cons (ps_if (pt_cmpR op_eq (pe_ix ix_tup (pv 2) pe_int (fun _ _ => rfl)) pe_str (nomark _)) (pss_one (ps_ret (pe_ix ix_tup (pv 1) (pe_ix ix_tup (pv 2) pe_int (fun _ _ => rfl)) (fun _ _ => rfl)))) pss_nil)
      (pss_cons (ps_if (pt_cmpR op_eq (pe_ix ix_tup (pv 2) pe_int (fun _ _ => rfl)) pe_str (nomark _)) (pss_one (ps_ret (pcl T.l_contrary G_l_contrary (hr.mono (by omega)) (pa_cons (pv 0) (pa_cons (pcl T.l_shape G_l_shape (hr.mono (by omega)) (pa_cons (pv 0) (pa_cons (pv 1) (pa_cons (pe_ix ix_tup (pv 2) pe_int (fun _ _ => rfl)) pa_nil)))) pa_nil))))) pss_nil)
      (pss_cons (ps_if (pt_cmpR op_eq (pe_ix ix_tup (pv 2) pe_int (fun _ _ => rfl)) pe_str (nomark _)) (pss_one (ps_ret (pcl T.l_times G_l_times (hr.mono (by omega)) (pa_cons (pv 0) (pa_cons (pcl T.l_shape G_l_shape (hr.mono (by omega)) (pa_cons (pv 0) (pa_cons (pv 1) (pa_cons (pe_ix ix_tup (pv 2) pe_int (fun _ _ => rfl)) pa_nil)))) (pa_cons (pcl T.l_low G_l_low (hr.mono (by omega)) (pa_cons (pe_ix ix_tup (pv 2) pe_int (fun _ _ => rfl)) (pa_cons pe_int (pa_cons (pe_ix ix_tup (pv 2) pe_int (fun _ _ => rfl)) pa_nil)))) pa_nil)))))) pss_nil)
      (pss_cons (ps_setLc (i := 3) (own := [("_law_part", 4)]) (g := gName 4) (tt := tYes) rfl nd rfl rfl (sw_true rfl rfl rfl (by decide +kernel)) (pi_tup (pe_ix ix_tup (pv 2) pe_int (fun _ _ => rfl))) (blkOk_by (own := [("_law_part", 4)]) (N := ["_law_d", "_law_kinds_here", "_law_plan_here", "_law_shapes", "_law_part", "_law_shape_here"]) (sc := defScope s_l_shape) (by decide +kernel)) (fun _ _ _ _ _ => pg_name (i := 4) nd rfl (Or.inl rfl)) (fun _ _ _ _ _ => pts_nil) (fun _ _ _ _ _ => (pcl T.l_shape G_l_shape (hr.mono (by omega)) (pa_cons (pv 0) (pa_cons (pv 1) (pa_cons (pv 4) pa_nil))))))
      (pss_cons (ps_if (pt_cmpR op_eq (pe_ix ix_tup (pv 2) pe_int (fun _ _ => rfl)) pe_str (nomark _)) (pss_one (ps_ret (pcl T.l_sum G_l_sum (hr.mono (by omega)) (pa_cons (pv 3) pa_nil)))) pss_nil)
      (pss_one (ps_ret (pcl T.l_contrary G_l_contrary (hr.mono (by omega)) (pa_cons (pv 0) (pa_cons (pcl T.l_sum G_l_sum (hr.mono (by omega)) (pa_cons (pe_lc (own := [("_law_shape_here", 5)]) (g := gName 5) (tt := tYes) rfl nd (pi_list (pv 3)) (blkOk_by (own := [("_law_shape_here", 5)]) (N := ["_law_d", "_law_kinds_here", "_law_plan_here", "_law_shapes", "_law_part", "_law_shape_here"]) (sc := defScope s_l_shape) (by decide +kernel)) (fun _ _ _ _ _ => pg_name (i := 5) nd rfl (Or.inl rfl)) (fun _ _ _ _ _ => pts_nil) (fun _ _ _ _ _ => (pcl T.l_contrary G_l_contrary (hr.mono (by omega)) (pa_cons (pv 0) (pa_cons (pv 5) pa_nil))))) pa_nil)) pa_nil)))))))))), ?_⟩
    cases P with
    | kind k =>
      obtain ⟨a, rfl, ha⟩ := hP
      obtain ⟨b, us, rfl, hb, al⟩ := hkv
      obtain ⟨u, hu, hn⟩ := kinds_ix al wf
      exact ⟨_, rfl, _, _, _, _, rfl, rfl, ha, at0, rfl, _, rfl, ifT rfl ⟨_, rfl, _, rfl, _, _, _, _, rfl, rfl, ha, at1, _, _, _, _, rfl, rfl, hb, hu, q u H (Le.refl H) (by rw [shape]; exact hn)⟩⟩
    | turn p =>
      obtain ⟨a, u, rfl, ha, hp⟩ := hP
      have wp : Wf ks.length n p := wf
      have sp : p.size ≤ 60 := by rw [Plan.size] at h60; omega
      refine ⟨_, rfl, _, _, _, _, rfl, rfl, ha, at0, rfl, _, rfl, ifF (d_ne tk) ?_⟩
      refine ⟨_, rfl, _, _, _, _, rfl, rfl, ha, at0, rfl, _, rfl, ifT rfl ?_⟩
      refine ⟨_, rfl, _, rfl, _, rfl, _, rfl, _, _, _, _, rfl, rfl, ha, at1, D, ks, p, _, _, rfl, hk, hkv, hp, wp, sp, fun v1 H1 e1 h1 => ?_⟩
      refine ⟨D, shape ks p, _, rfl, h1, .of (sml_shape hk wp sp), MF.pos_ne (MF.shape_pos hk wp), fun v2 H2 e2 h2 => q v2 H2 (e1.trans e2) ?_⟩
      rw [shape]
      exact h2
    | grid x y p =>
      obtain ⟨a, u, rfl, ha, hp⟩ := hP
      obtain ⟨w1, w2, w3, w4, wp⟩ := wf
      have sp : p.size ≤ 60 := by rw [Plan.size] at h60; omega
      refine ⟨_, rfl, _, _, _, _, rfl, rfl, ha, at0, rfl, _, rfl, ifF (d_ne gk) ?_⟩
      refine ⟨_, rfl, _, _, _, _, rfl, rfl, ha, at0, rfl, _, rfl, ifF (d_ne gt) ?_⟩
      refine ⟨_, rfl, _, _, _, _, rfl, rfl, ha, at0, rfl, _, rfl, ifT rfl ?_⟩
      refine ⟨_, rfl, _, rfl, _, rfl, _, rfl, _, _, _, _, rfl, rfl, ha, atI_nat (j := 3) rfl, D, ks, p, _, _, rfl, hk, hkv, hp, wp, sp, fun v1 H1 e1 h1 => ?_⟩
      refine ⟨_, rfl, _, _, _, _, rfl, rfl, e1.tup ha, atI_nat (j := 2) rfl, _, rfl, _, _, _, _, rfl, rfl, e1.tup ha, at1, D, _, y, 0, x, rfl, u_ne w1, u_bd w1 w2, MF.QD.of_frac y x, fun v2 H2 e2 h2 => ?_⟩
      refine ⟨D, shape ks p, (y : QD D) / (x : QD D), _, _, rfl, h1.up e2, h2, .of (sml_shape hk wp sp), .of (n := 40) ((MF.int_sz w3 w4).div (MF.int_sz w1 w2) (MF.pos_ne (MF.int_posQ w1))), fun v3 H3 e3 h3 => q v3 H3 ((e1.trans e2).trans e3) ?_⟩
      rw [shape]
      exact h3
    | upon ps =>
      obtain ⟨a, b, us, rfl, ha, hb, al⟩ := hP
      obtain ⟨w1, w2, w3⟩ := wf
      have sp : Plan.sizes ps ≤ 60 := by rw [Plan.size] at h60; omega
      refine ⟨_, rfl, _, _, _, _, rfl, rfl, ha, at0, rfl, _, rfl, ifF (d_ne uk) ?_⟩
      refine ⟨_, rfl, _, _, _, _, rfl, rfl, ha, at0, rfl, _, rfl, ifF (d_ne ut) ?_⟩
      refine ⟨_, rfl, _, _, _, _, rfl, rfl, ha, at0, rfl, _, rfl, ifF (d_ne ug) ?_⟩
      refine ⟨_, rfl, _, _, _, _, rfl, rfl, ha, at1, b, rfl, ⟨_, hb⟩, fun Dd hD => ?_⟩
      refine comp_tup (xs := us) (fun i z H' => ∃ p, ps[i]? = some p ∧ Nm K H' z (shape ks p)) (fun i z H H' e h => ⟨h.choose, h.choose_spec.1, h.choose_spec.2.upT e⟩) (fun i z H h => h.choose_spec.2.nint) hb (by rw [al.1]; omega) hD (fun i z H' hi e Q' q' => ?_) (fun ys H' e hl hn hr' => ?_) mono_name
      · obtain ⟨p, hp, hP⟩ := al.left hi
        have hm := List.mem_of_getElem? hp
        have := MF.size_mem hm
        exact ⟨rfl, _, rfl, _, rfl, _, rfl, D, ks, p, _, _, rfl, hk, hkv.up e.t, hP.up e.t, w3 p hm, by omega, fun v1 H1 e1 h1 => q' _ _ e1 ⟨p, hp, h1⟩⟩
      · have al2 := al_of (f := shape ks) (ps := ps) (by rw [hn, al.1]) hr'
        refine ⟨_, rfl, _, _, _, _, rfl, rfl, e.tup ha, at0, rfl, _, rfl, ifT rfl ?_⟩
        refine ⟨_, rfl, D, Dd, ys, _, rfl, sq_of hl, al2, fun x hx => ?_, fun i => .of (MF.sz_shapes hk w3 sp w2 i), fun v1 H1 e1 h1 => q v1 H1 (e.trans e1) ?_⟩
        · obtain ⟨p, hp, rfl⟩ := List.mem_map.mp hx
          have := MF.size_mem hp
          exact .of (sml_shape hk (w3 p hp) (by omega))
        · rw [shape, MF.shapes_eq]
          exact h1
    | beside ps =>
      obtain ⟨a, b, us, rfl, ha, hb, al⟩ := hP
      have wb := wf
      obtain ⟨w1, w2, w3⟩ := wf
      have sp : Plan.sizes ps ≤ 60 := by rw [Plan.size] at h60; omega
      have szp : ∀ p ∈ ps, Sz 12000 (shape ks p) := fun p hp => sml_shape hk (w3 p hp) (by have := MF.size_mem hp; omega)
      refine ⟨_, rfl, _, _, _, _, rfl, rfl, ha, at0, rfl, _, rfl, ifF (d_ne bk) ?_⟩
      refine ⟨_, rfl, _, _, _, _, rfl, rfl, ha, at0, rfl, _, rfl, ifF (d_ne bt) ?_⟩
      refine ⟨_, rfl, _, _, _, _, rfl, rfl, ha, at0, rfl, _, rfl, ifF (d_ne bg) ?_⟩
      refine ⟨_, rfl, _, _, _, _, rfl, rfl, ha, at1, b, rfl, ⟨_, hb⟩, fun Dd hD => ?_⟩
      refine comp_tup (xs := us) (fun i z H' => ∃ p, ps[i]? = some p ∧ Nm K H' z (shape ks p)) (fun i z H H' e h => ⟨h.choose, h.choose_spec.1, h.choose_spec.2.upT e⟩) (fun i z H h => h.choose_spec.2.nint) hb (by rw [al.1]; omega) hD (fun i z H' hi e Q' q' => ?_) (fun ys H' e hl hn hr' => ?_) mono_name
      · obtain ⟨p, hp, hP⟩ := al.left hi
        have hm := List.mem_of_getElem? hp
        have := MF.size_mem hm
        exact ⟨rfl, _, rfl, _, rfl, _, rfl, D, ks, p, _, _, rfl, hk, hkv.up e.t, hP.up e.t, w3 p hm, by omega, fun v1 H1 e1 h1 => q' _ _ e1 ⟨p, hp, h1⟩⟩
      · have al2 := al_of (f := shape ks) (ps := ps) (by rw [hn, al.1]) hr'
        have nb := al2.nbag
        refine ⟨_, rfl, _, _, _, _, rfl, rfl, e.tup ha, at0, rfl, _, rfl, ifF (d_ne bu) ?_⟩
        refine ⟨_, rfl, _, rfl, Dd, rfl, ⟨_, sq_of hl⟩, fun Df hF => ?_⟩
        refine comp_list (xs := ys) (fun i z H' => ∃ p, ps[i]? = some p ∧ Nm K H' z (shape ks p)⁻¹) (fun i z H H' e h => ⟨h.choose, h.choose_spec.1, h.choose_spec.2.upT e⟩) (fun i z H h => h.choose_spec.2.nint) (fun H' e => e.lst nb (sq_of hl)) (by rw [hn, al.1]; omega) hF (fun i z H2 hi e2 Q' q' => ?_) (fun zs H2 e2 hl2 hn2 hr2 => ?_) mono_name
        · obtain ⟨p, hp, hP⟩ := hr' i z hi
          have hm := List.mem_of_getElem? hp
          exact ⟨rfl, _, rfl, _, rfl, D, shape ks p, _, rfl, hP.up e2, .of (szp p hm), MF.pos_ne (MF.shape_pos hk (w3 p hm)), fun v1 H3 e3 h3 => q' _ _ e3 ⟨p, hp, h3⟩⟩
        · have al3 := al_of (f := fun p => (shape ks p)⁻¹) (ps := ps) (by rw [hn2, hn, al.1]) hr2
          refine ⟨D, Df, zs, _, rfl, sq_of hl2, al3, fun x hx => ?_, fun i => .of (sz_invs hk w3 sp w2 i), fun v1 H3 e3 h3 => ?_⟩
          · obtain ⟨p, hp, rfl⟩ := List.mem_map.mp hx
            exact .of ((szp p hp).inv (MF.pos_ne (MF.shape_pos hk (w3 p hp))))
          · have ps0 := invs_pos hk wb
            have ss := sz_invs hk w3 sp w2 (ps.map fun p => (shape ks p)⁻¹).length
            rw [List.take_length] at ss
            refine ⟨D, _, _, rfl, h3, .of ss, MF.pos_ne ps0, fun v2 H4 e4 h4 => q v2 H4 (((e.trans e2).trans e3).trans e4) ?_⟩
            rw [shape, MF.contraries_eq]
            exact h4
end
end MW

namespace MW
open PySem PySem.Spec PyProof.Rows L2
open MF (Root QD Plan Wf KOk shape sumQ)
open MF.QD (Sz)
/-- how many plans, so many within one another; 0 where there are more within one another -/
def plansIn : Nat → Plan → Nat
  | 0, _ => 0
  | _ + 1, .kind _ => 1
  | n + 1, P => if 0 ∈ (parts P).map (plansIn n) then 0 else 1 + ((parts P).map (plansIn n)).sum
theorem plansIn_other {n : Nat} {P : Plan} (h : ∀ k, P ≠ .kind k) : plansIn (n + 1) P = if 0 ∈ (parts P).map (plansIn n) then 0 else 1 + ((parts P).map (plansIn n)).sum := by
  cases P with
  | kind k => exact absurd rfl (h k)
  | turn p => rfl
  | upon ps => rfl
  | beside ps => rfl
  | grid u v p => rfl
theorem sum_sizes {ps : List Plan} {f : Plan → Nat} (h : ∀ p ∈ ps, f p = p.size) : (ps.map f).sum = Plan.sizes ps := by
  induction ps with
  | nil => rw [Plan.sizes]; rfl
  | cons p r ih =>
    rw [List.map_cons, List.sum_cons, Plan.sizes, h p List.mem_cons_self, ih fun q hq => h q (List.mem_cons_of_mem _ hq)]
theorem wf_of_parts {many n m : Nat} {P : Plan} (nk : ∀ k, P ≠ .kind k) (h : Wf many (m + 1) P) (hp : ∀ p ∈ parts P, Wf many n p) : Wf many (n + 1) P := by
  cases P with
  | kind k => exact absurd rfl (nk k)
  | turn p => exact hp p (List.mem_singleton.mpr rfl)
  | upon ps => exact ⟨h.1, h.2.1, hp⟩
  | beside ps => exact ⟨h.1, h.2.1, hp⟩
  | grid u v p => exact ⟨h.1, h.2.1, h.2.2.1, h.2.2.2.1, hp p (List.mem_singleton.mpr rfl)⟩
/-- what it tells where it isn't 0 -/
theorem plansIn_pos {many : Nat} : ∀ {n m : Nat} {P : Plan}, Wf many m P → plansIn n P ≠ 0 → Wf many n P ∧ plansIn n P = P.size
  | 0, _, _, _, h => absurd rfl h
  | n + 1, 0, _, h, _ => h.elim
  | n + 1, m + 1, P, wf, h => by
    by_cases hk : ∃ k, P = .kind k
    · obtain ⟨k, rfl⟩ := hk
      exact ⟨wf, by rw [Plan.size]; rfl⟩
    · have nk : ∀ k, P ≠ .kind k := fun k e => hk ⟨k, e⟩
      rw [plansIn_other nk] at h ⊢
      by_cases h0 : 0 ∈ (parts P).map (plansIn n)
      · rw [if_pos h0] at h; exact absurd rfl h
      · rw [if_neg h0] at h ⊢
        have hp : ∀ p ∈ parts P, Wf many n p ∧ plansIn n p = p.size := fun p hp => plansIn_pos (parts_wf wf p hp) fun e => h0 (List.mem_map.mpr ⟨p, hp, e⟩)
        exact ⟨wf_of_parts nk wf fun p z => (hp p z).1, by rw [sum_sizes fun p z => (hp p z).2, size_parts nk]⟩
theorem plansIn_wf {many : Nat} : ∀ {n : Nat} {P : Plan}, Wf many n P → plansIn n P = P.size
  | 0, _, h => h.elim
  | n + 1, P, wf => by
    by_cases hk : ∃ k, P = .kind k
    · obtain ⟨k, rfl⟩ := hk
      rw [Plan.size]; rfl
    · have nk : ∀ k, P ≠ .kind k := fun k e => hk ⟨k, e⟩
      have hp : ∀ p ∈ parts P, plansIn n p = p.size := fun p hp => plansIn_wf (parts_wf wf p hp)
      rw [plansIn_other nk, if_neg, sum_sizes hp, size_parts nk]
      intro h0
      obtain ⟨p, z, e⟩ := List.mem_map.mp h0
      have := Plan.size_pos p
      rw [hp p z] at e
      omega
theorem ys_of {ys : List V} {ps : List Plan} {f : Plan → Nat} (hl : ys.length = ps.length) (h : ∀ (i : Nat) y, ys[i]? = some y → ∃ p, ps[i]? = some p ∧ y = .int (f p : Int)) : ys = ((ps.map f).map fun (n : Nat) => (n : Int)).map V.int := by
  induction ys generalizing ps with
  | nil => cases ps with | nil => rfl | cons p r => simp at hl
  | cons y r ih =>
    cases ps with
    | nil => simp at hl
    | cons p ps =>
      obtain ⟨p', e1, e2⟩ := h 0 y rfl
      have e3 : p = p' := by simpa using e1
      subst e3
      rw [e2, List.map_cons, List.map_cons, List.map_cons, ← ih (ps := ps) (by simpa using hl) fun i z hz => by
        obtain ⟨p2, k1, k2⟩ := h (i + 1) z (by simpa using hz)
        exact ⟨p2, by simpa using k1, k2⟩]
theorem eqv_ints {ns : List Int} (h : ns ≠ []) : PyData.eqv (.list (ns.map PyData.int)) (.list []) = false := by
  cases ns with
  | nil => exact absurd rfl h
  | cons p r => rw [List.map_cons, PyData.eqv, PyData.eqvAll]
theorem dp_ints {K : PySem.W.Frag} {H : Hp} : ∀ ns : List Int, DpAll K H (ns.map V.int) (ns.map PyData.int)
  | [] => .nil
  | n :: r => .cons (.int n) (dp_ints r)
theorem lay_ints : ∀ ns : List Int, PyData.canLayAll0 (ns.map PyData.int) = true
  | [] => by rw [List.map_nil, PyData.canLayAll0]
  | n :: r => by rw [List.map_cons, PyData.canLayAll0, lay_ints r, PyData.canLay0]; rfl
theorem dep_ints : ∀ ns : List Int, PyData.depthAll (ns.map PyData.int) = 0
  | [] => by rw [List.map_nil, PyData.depthAll]
  | n :: r => by rw [List.map_cons, PyData.depthAll, dep_ints r, PyData.depth]; rfl
theorem shaped_ints (ns : List Int) : SeqAt.shaped (.list (ns.map PyData.int)) = true := by
  unfold SeqAt.shaped
  rw [PyData.canLay0, lay_ints, PyData.depth, dep_ints]
  rfl
theorem sum_cast (xs : List Nat) : (xs.map fun (n : Nat) => (n : Int)).sum = ((xs.sum : Nat) : Int) := by
  induction xs with
  | nil => rfl
  | cons x r ih => rw [List.map_cons, List.sum_cons, List.sum_cons, ih]; omega
/-- what a plan's tuple holds behind its word -/
def Body (K : PySem.W.Frag) (H : Hp) (n : Nat) (P : Plan) (x : Str) (y : V) (r : List V) : Prop :=
  match P with
  | .kind _ => False
  | .turn p => x = "turn" ∧ r = [] ∧ PlanAt K H n y p
  | .upon ps => x = "upon" ∧ r = [] ∧ ∃ b us, y = .ref b ∧ SqT K H b us ∧ Al (PlanAt K H n) us ps
  | .beside ps => x = "beside" ∧ r = [] ∧ ∃ b us, y = .ref b ∧ SqT K H b us ∧ Al (PlanAt K H n) us ps
  | .grid gx gy p => x = "grid" ∧ y = .int gx ∧ ∃ u, r = [.int gy, u] ∧ PlanAt K H n u p
theorem head_of2 {K : PySem.W.Frag} {H : Hp} {n : Nat} {v : V} {P : Plan} (h : PlanAt K H (n + 1) v P) (nk : ∀ k, P ≠ .kind k) :
    ∃ (a : Addr) (x : Str) (y : V) (r : List V), v = .ref a ∧ SqT K H a (.str x :: y :: r) ∧ decide (x = "kind") = false ∧ Body K H n P x y r := by
  cases P with
  | kind k => exact absurd rfl (nk k)
  | turn p => obtain ⟨a, u, h1, h2, h3⟩ := h; exact ⟨a, _, _, _, h1, h2, tk, rfl, rfl, h3⟩
  | upon ps => obtain ⟨a, b, us, h1, h2, h3, h4⟩ := h; exact ⟨a, _, _, _, h1, h2, uk, rfl, rfl, b, us, rfl, h3, h4⟩
  | beside ps => obtain ⟨a, b, us, h1, h2, h3, h4⟩ := h; exact ⟨a, _, _, _, h1, h2, bk, rfl, rfl, b, us, rfl, h3, h4⟩
  | grid u v p => obtain ⟨a, y, h1, h2, h3⟩ := h; exact ⟨a, _, _, _, h1, h2, gk, rfl, rfl, y, rfl, h3⟩
theorem Same.t {H H' : Hp} (e : Same H H') : LeT H H' := (Same.le e).t
section
variable {K : PySem.W.Frag} {mg : Str → Option Value} {w : World} {base : Heap} (T : Txt K mg)
def spLPI (K : PySem.W.Frag) (d : Nat) : Sp := fun vs H Q _ => ∃ (n many : Nat) (P : Plan) (v : V), vs = [v, .int (many : Int), .int (d : Int)] ∧ PlanAt K H n v P ∧ Wf many n P ∧ ∀ H', Same H H' → Q (.int (plansIn d P : Int)) H'
def spNo : Sp := fun _ _ _ _ => False
theorem ok_no {x : Str} {st : Stmt} {ps : List Str} (D : Dfn K mg x st ps) (k : Nat) : D.Ok w base k spNo :=
  ⟨fun _ _ _ _ h => h.elim, fun _ _ _ _ _ _ _ _ _ _ _ _ _ h => h.elim⟩
theorem inL_upon : inV (.str "upon") [.str "upon", .str "beside"] = true := inV_upon
theorem sc_l_plans_in : FnScope ["_law_thing", "_law_many", "_law_deep", "_law_word", "_law_size", "_law_parts", "_law_one", "_law_counts", "_law_part"] ["_law_thing", "_law_many", "_law_deep"] (defScope s_l_plans_in) := ⟨rfl, rfl, rfl, by decide +kernel, rfl, by decide +kernel, by decide +kernel⟩
theorem ok_l_plans_in : ∀ d : Nat, T.l_plans_in.Ok w base (50 + d) (spLPI K d)
  | 0 => by
    have G_l_plans_in := ok_no (w := w) (base := base) T.l_plans_in 49
    have G_l_is_whole := ok_l_is_whole (w := w) (base := base) T
    refine T.l_plans_in.ok (k := 49) sc_l_plans_in (fun vs H Q E h => ?_) (fun cdv A outer s H vs Q E hr h => ?_)
    · obtain ⟨_, _, _, _, rfl, _⟩ := h
      rfl
    obtain ⟨n, many, P, v, rfl, hP, wf, q⟩ := h
    have nd := sc_l_plans_in.nd
    refine ⟨_, (pss_cons (ps_if (PW.pt (pw_or (pt_cmpR op_eq (pv 2) pe_int (nomark _)) (pw_or (pt_not (pt_val (pe_callB call_isi rfl T.b_isinstance (by decide +kernel) (pa_cons (pv 0) (pa_cons (pe_bltn (v := .ty "tuple") rfl T.b_tuple (by decide +kernel) rfl) pa_nil))))) (pw_or1 (pt_cmpR op_lt (pe_callB call_len_seq rfl T.b_len PySem.boot_len (pa_cons (pv 0) pa_nil)) pe_int (nomark _)))))) (pss_one (ps_ret pe_int)) pss_nil)
      (pss_cons (ps_par (i := 3) (j := 4) rfl nd rfl rfl (by decide) rfl rfl (pa_cons (pe_ix ix_tup (pv 0) pe_int (fun _ _ => rfl)) (pa_cons (pe_callB call_len_seq rfl T.b_len PySem.boot_len (pa_cons (pv 0) pa_nil)) pa_nil)) (by rfl))
      (pss_cons (ps_if (pt_cmpR op_eq (pv 3) pe_str (nomark _)) (pss_one (ps_ret (pe_callTy call_int1 rfl T.b_int (by decide +kernel) (pa_cons (pe_and (pe_cmpR op_eq (pv 4) pe_int (nomark _)) (pe_and (pcl T.l_is_whole G_l_is_whole (hr.mono (by omega)) (pa_cons (pe_ix ix_tup (pv 0) pe_int (fun _ _ => rfl)) pa_nil)) (pe_one (pe_chain op_le op_lt pe_int (pe_ix ix_tup (pv 0) pe_int (fun _ _ => rfl)) (pv 1))))) pa_nil)))) pss_nil)
      (pss_cons (ps_set (i := 5) nd rfl (by first | exact Or.inl rfl | exact Or.inr rfl) (pe_lst pa_nil))
      (Evl.pss_cut (ps_if (PW.pt (pw_and (pt_cmpR op_eq (pv 3) pe_str (nomark _)) (pw_and1 (pt_cmpR op_eq (pv 4) pe_int (nomark _))))) (pss_one (ps_set (i := 5) nd rfl (by first | exact Or.inl rfl | exact Or.inr rfl) (pe_lst (pa_cons (pe_ix ix_tup (pv 0) pe_int (fun _ _ => rfl)) pa_nil)))) (pss_one (ps_if (PW.pt (pw_and (pt_cmpR op_in_seq (pv 3) (pe_lst (pa_cons pe_str (pa_cons pe_str pa_nil))) (by rfl)) (pw_and (pt_cmpR op_eq (pv 4) pe_int (nomark _)) (pw_and1 (pt_val (pe_callB call_isi rfl T.b_isinstance (by decide +kernel) (pa_cons (pe_ix ix_tup (pv 0) pe_int (fun _ _ => rfl)) (pa_cons (pe_bltn (v := .ty "tuple") rfl T.b_tuple (by decide +kernel) rfl) pa_nil)))))))) (pss_one (ps_set (i := 5) nd rfl (by first | exact Or.inl rfl | exact Or.inr rfl) (pe_ifExp (pt_chain op_le op_le pe_int (pe_callB call_len_seq rfl T.b_len PySem.boot_len (pa_cons (pe_ix ix_tup (pv 0) pe_int (fun _ _ => rfl)) pa_nil)) pe_int) (pe_callTy call_list_of rfl T.b_list (by decide +kernel) (pa_cons (pe_ix ix_tup (pv 0) pe_int (fun _ _ => rfl)) pa_nil)) (pe_lst pa_nil)))) (pss_one (ps_if (PW.pt (pw_and (pt_cmpR op_eq (pv 3) pe_str (nomark _)) (pw_and (pt_cmpR op_eq (pv 4) pe_int (nomark _)) (pw_and1 (pt_val (pe_callB (cr_all rfl) rfl T.b_all (by decide +kernel) (pa_cons (pe_lc (own := [("_law_one", 6)]) (g := gName 6) (tt := tYes) rfl nd (pi_tup (pe_slice sl_tup (pv 0) (po_some pe_int) (po_some pe_int))) (blkOk_by (own := [("_law_one", 6)]) (N := ["_law_thing", "_law_many", "_law_deep", "_law_word", "_law_size", "_law_parts", "_law_one", "_law_counts", "_law_part"]) (sc := defScope s_l_plans_in) (by decide +kernel)) (fun _ _ _ _ _ => pg_name (i := 6) nd rfl (Or.inl rfl)) (fun _ _ _ _ _ => pts_nil) (fun _ _ _ _ _ => (pe_and (pcl T.l_is_whole G_l_is_whole (hr.mono (by omega)) (pa_cons (pv 6) pa_nil)) (pe_one (pe_cmpR op_gt (pv 6) pe_int (nomark _)))))) pa_nil))))))) (pss_one (ps_set (i := 5) nd rfl (by first | exact Or.inl rfl | exact Or.inr rfl) (pe_lst (pa_cons (pe_ix ix_tup (pv 0) pe_int (fun _ _ => rfl)) pa_nil)))) pss_nil)))))
      (pss_cons (ps_setLc (i := 7) (own := [("_law_part", 8)]) (g := gName 8) (tt := tYes) rfl nd rfl rfl (sw_true rfl rfl rfl (by decide +kernel)) (pi_list (pv 5)) (blkOk_by (own := [("_law_part", 8)]) (N := ["_law_thing", "_law_many", "_law_deep", "_law_word", "_law_size", "_law_parts", "_law_one", "_law_counts", "_law_part"]) (sc := defScope s_l_plans_in) (by decide +kernel)) (fun _ _ _ _ _ => pg_name (i := 8) nd rfl (Or.inl rfl)) (fun _ _ _ _ _ => pts_nil) (fun _ _ _ _ _ => (pcl T.l_plans_in G_l_plans_in (hr.mono (by omega)) (pa_cons (pv 8) (pa_cons (pv 1) (pa_cons (pe_op op_sub (pv 2) pe_int) pa_nil))))))
      (pss_cons (ps_if (PW.pt (pw_or (pt_cmpR (op_eqD hr.units) (pv 7) (pe_lst pa_nil) (nomark _)) (pw_or1 (pt_cmpR op_eq (pe_callB (cr_min rfl) rfl T.b_min (by decide +kernel) (pa_cons (pv 7) pa_nil)) pe_int (nomark _))))) (pss_one (ps_ret pe_int)) pss_nil)
      (pss_one (ps_ret (pe_op op_add pe_int (pe_callB (cr_sum rfl) rfl T.b_sum (by decide +kernel) (pa_cons (pv 7) pa_nil)))))))))))), ?_⟩
    exact ⟨_, rfl, rfl, _, rfl, ifT rfl (ifT rfl (q H (Same.refl H)))⟩
  | d + 1 => by
    have G_l_plans_in := ok_l_plans_in d
    have G_l_is_whole := ok_l_is_whole (w := w) (base := base) T
    refine T.l_plans_in.ok sc_l_plans_in (fun vs H Q E h => ?_) (fun cdv A outer s H vs Q E hr h => ?_)
    · obtain ⟨_, _, _, _, rfl, _⟩ := h
      rfl
    obtain ⟨n, many, P, v, rfl, hP, wf, q⟩ := h
    replace hr : Room (50 + d) _ := hr
    have nd := sc_l_plans_in.nd
    refine ⟨_, (pss_cons (ps_if (PW.pt (pw_or (pt_cmpR op_eq (pv 2) pe_int (nomark _)) (pw_or (pt_not (pt_val (pe_callB call_isi rfl T.b_isinstance (by decide +kernel) (pa_cons (pv 0) (pa_cons (pe_bltn (v := .ty "tuple") rfl T.b_tuple (by decide +kernel) rfl) pa_nil))))) (pw_or1 (pt_cmpR op_lt (pe_callB call_len_seq rfl T.b_len PySem.boot_len (pa_cons (pv 0) pa_nil)) pe_int (nomark _)))))) (pss_one (ps_ret pe_int)) pss_nil)
      (pss_cons (ps_par (i := 3) (j := 4) rfl nd rfl rfl (by decide) rfl rfl (pa_cons (pe_ix ix_tup (pv 0) pe_int (fun _ _ => rfl)) (pa_cons (pe_callB call_len_seq rfl T.b_len PySem.boot_len (pa_cons (pv 0) pa_nil)) pa_nil)) (by rfl))
      (pss_cons (ps_if (pt_cmpR op_eq (pv 3) pe_str (nomark _)) (pss_one (ps_ret (pe_callTy call_int1 rfl T.b_int (by decide +kernel) (pa_cons (pe_and (pe_cmpR op_eq (pv 4) pe_int (nomark _)) (pe_and (pcl T.l_is_whole G_l_is_whole (hr.mono (by omega)) (pa_cons (pe_ix ix_tup (pv 0) pe_int (fun _ _ => rfl)) pa_nil)) (pe_one (pe_chain op_le op_lt pe_int (pe_ix ix_tup (pv 0) pe_int (fun _ _ => rfl)) (pv 1))))) pa_nil)))) pss_nil)
      (pss_cons (ps_set (i := 5) nd rfl (by first | exact Or.inl rfl | exact Or.inr rfl) (pe_lst pa_nil))
      (Evl.pss_cut (ps_if (PW.pt (pw_and (pt_cmpR op_eq (pv 3) pe_str (nomark _)) (pw_and1 (pt_cmpR op_eq (pv 4) pe_int (nomark _))))) (pss_one (ps_set (i := 5) nd rfl (by first | exact Or.inl rfl | exact Or.inr rfl) (pe_lst (pa_cons (pe_ix ix_tup (pv 0) pe_int (fun _ _ => rfl)) pa_nil)))) (pss_one (ps_if (PW.pt (pw_and (pt_cmpR op_in_seq (pv 3) (pe_lst (pa_cons pe_str (pa_cons pe_str pa_nil))) (by rfl)) (pw_and (pt_cmpR op_eq (pv 4) pe_int (nomark _)) (pw_and1 (pt_val (pe_callB call_isi rfl T.b_isinstance (by decide +kernel) (pa_cons (pe_ix ix_tup (pv 0) pe_int (fun _ _ => rfl)) (pa_cons (pe_bltn (v := .ty "tuple") rfl T.b_tuple (by decide +kernel) rfl) pa_nil)))))))) (pss_one (ps_set (i := 5) nd rfl (by first | exact Or.inl rfl | exact Or.inr rfl) (pe_ifExp (pt_chain op_le op_le pe_int (pe_callB call_len_seq rfl T.b_len PySem.boot_len (pa_cons (pe_ix ix_tup (pv 0) pe_int (fun _ _ => rfl)) pa_nil)) pe_int) (pe_callTy call_list_of rfl T.b_list (by decide +kernel) (pa_cons (pe_ix ix_tup (pv 0) pe_int (fun _ _ => rfl)) pa_nil)) (pe_lst pa_nil)))) (pss_one (ps_if (PW.pt (pw_and (pt_cmpR op_eq (pv 3) pe_str (nomark _)) (pw_and (pt_cmpR op_eq (pv 4) pe_int (nomark _)) (pw_and1 (pt_val (pe_callB (cr_all rfl) rfl T.b_all (by decide +kernel) (pa_cons (pe_lc (own := [("_law_one", 6)]) (g := gName 6) (tt := tYes) rfl nd (pi_tup (pe_slice sl_tup (pv 0) (po_some pe_int) (po_some pe_int))) (blkOk_by (own := [("_law_one", 6)]) (N := ["_law_thing", "_law_many", "_law_deep", "_law_word", "_law_size", "_law_parts", "_law_one", "_law_counts", "_law_part"]) (sc := defScope s_l_plans_in) (by decide +kernel)) (fun _ _ _ _ _ => pg_name (i := 6) nd rfl (Or.inl rfl)) (fun _ _ _ _ _ => pts_nil) (fun _ _ _ _ _ => (pe_and (pcl T.l_is_whole G_l_is_whole (hr.mono (by omega)) (pa_cons (pv 6) pa_nil)) (pe_one (pe_cmpR op_gt (pv 6) pe_int (nomark _)))))) pa_nil))))))) (pss_one (ps_set (i := 5) nd rfl (by first | exact Or.inl rfl | exact Or.inr rfl) (pe_lst (pa_cons (pe_ix ix_tup (pv 0) pe_int (fun _ _ => rfl)) pa_nil)))) pss_nil)))))
      (pss_cons (ps_setLc (i := 7) (own := [("_law_part", 8)]) (g := gName 8) (tt := tYes) rfl nd rfl rfl (sw_true rfl rfl rfl (by decide +kernel)) (pi_list (pv 5)) (blkOk_by (own := [("_law_part", 8)]) (N := ["_law_thing", "_law_many", "_law_deep", "_law_word", "_law_size", "_law_parts", "_law_one", "_law_counts", "_law_part"]) (sc := defScope s_l_plans_in) (by decide +kernel)) (fun _ _ _ _ _ => pg_name (i := 8) nd rfl (Or.inl rfl)) (fun _ _ _ _ _ => pts_nil) (fun _ _ _ _ _ => (pcl T.l_plans_in G_l_plans_in (hr.mono (by omega)) (pa_cons (pv 8) (pa_cons (pv 1) (pa_cons (pe_op op_sub (pv 2) pe_int) pa_nil))))))
      (pss_cons (ps_if (PW.pt (pw_or (pt_cmpR (op_eqD hr.units) (pv 7) (pe_lst pa_nil) (nomark _)) (pw_or1 (pt_cmpR op_eq (pe_callB (cr_min rfl) rfl T.b_min (by decide +kernel) (pa_cons (pv 7) pa_nil)) pe_int (nomark _))))) (pss_one (ps_ret pe_int)) pss_nil)
      (pss_one (ps_ret (pe_op op_add pe_int (pe_callB (cr_sum rfl) rfl T.b_sum (by decide +kernel) (pa_cons (pv 7) pa_nil)))))))))))), ?_⟩
    cases n with
    | zero => exact wf.elim
    | succ n =>
    refine ⟨_, rfl, rfl, _, rfl, ifF (int_ne (by omega)) ?_⟩
    by_cases hk : ∃ k, P = .kind k
    · obtain ⟨k, rfl⟩ := hk
      obtain ⟨a, rfl, ha⟩ := hP
      have hk : k < many := wf
      refine ⟨_, rfl, _, _, _, _, _, rfl, .ty _, tyT ha, k_tt, true, rfl, iteF ⟨_, rfl, a, _, rfl, .inr ha, _, _, rfl, rfl, _, rfl, ifF rfl ?_⟩⟩
      refine ⟨_, rfl, _, _, _, _, rfl, rfl, ha, at0, _, rfl, a, _, rfl, .inr ha, _, _, rfl, ?_⟩
      refine ⟨_, rfl, rfl, _, rfl, ifT rfl ?_⟩
      refine ⟨_, rfl, rfl, true, rfl, iteT ⟨_, rfl, _, _, _, _, rfl, rfl, ha, at1, _, rfl, true, rfl, iteT ⟨_, rfl, _, _, _, _, rfl, rfl, ha, at1, _, _, rfl, rfl, true, ?_, iteT ⟨_, rfl, _, _, rfl, rfl, .inr ⟨true, ?_, q H (Same.refl H)⟩⟩⟩⟩⟩
      · exact congrArg V.bl (decide_eq_true (by omega))
      · exact congrArg (fun b => [V.bl b]) (decide_eq_true (by omega))
    · have nk : ∀ k, P ≠ .kind k := fun k e => hk ⟨k, e⟩
      have hne := parts_ne wf nk
      have pw := parts_wf wf
      obtain ⟨a, x, y, r, rfl, ha, hx, hbody⟩ := head_of2 hP nk
      refine ⟨_, rfl, _, _, _, _, _, rfl, .ty _, tyT ha, k_tt, true, rfl, iteF ⟨_, rfl, a, _, rfl, .inr ha, _, _, rfl, rfl, _, rfl, ifF ?_ ?_⟩⟩
      · exact decide_eq_false (by rw [List.length_cons, List.length_cons]; omega)
      refine ⟨_, rfl, _, _, _, _, rfl, rfl, ha, at0, _, rfl, a, _, rfl, .inr ha, _, _, rfl, ?_⟩
      refine ⟨_, rfl, rfl, _, rfl, ifF (d_ne hx) ?_⟩
      refine ⟨sz_of (by show 0 ≤ 100000; decide), fun p0 hp0 => ?_⟩
      have e0 : Same H (upd H p0 (.lst [])) := Same.new hp0
      refine ⟨fun σ' H' => Same H H' ∧ ∃ (l : Addr) (us : List V) (o6 o7 o8 : Option V), σ' = [some (.ref a), some (.int (many : Int)), some (.int ((d + 1 : Nat) : Int)), some (.str x), some (.int ((V.str x :: y :: r).length : Int)), some (.ref l), o6, o7, o8] ∧ H' l = some (.lst us) ∧ Al (PlanAt K H' n) us (parts P), ?_, ?_⟩
      · cases P with
        | kind k => exact absurd rfl (nk k)
        | turn p =>
          obtain ⟨rfl, rfl, hp⟩ := hbody
          have ha0 := (Same.le e0).tup ha
          refine ⟨_, rfl, rfl, _, rfl, ifT rfl ⟨_, rfl, rfl, _, rfl, ifT rfl ⟨_, rfl, _, _, _, _, rfl, rfl, ha0, at1, sz1, fun l hl => ?_⟩⟩⟩
          have e1 := e0.trans (Same.new (o := HO.lst [y]) hl)
          exact ⟨e1, l, [y], none, none, none, rfl, upd_same, .one (hp.up (Same.t e1))⟩
        | upon ps =>
          obtain ⟨rfl, rfl, b, us, rfl, hb, al⟩ := hbody
          have hl := al.1
          have w1 := wf.1
          have w2 := wf.2.1
          refine ⟨_, rfl, rfl, _, rfl, ifF (d_ne ut) (ifF rfl ?_)⟩
          refine ⟨_, rfl, sz2, fun p1 hp1 => ⟨p1, _, rfl, .inl (sq_of upd_same), rfl, rfl, _, rfl, ifT inV_upon ?_⟩⟩
          have e1 : Same (upd H p0 (.lst [])) (upd (upd H p0 (.lst [])) p1 (.lst [.str "upon", .str "beside"])) := Same.new hp1
          have e01 := e0.trans e1
          have ha1 := (Same.le e01).tup ha
          have hb1 := (Same.le e01).tup hb
          refine ⟨_, rfl, rfl, _, rfl, ifT rfl ⟨_, rfl, _, _, _, _, rfl, rfl, ha1, at1, _, _, _, _, _, rfl, .ty _, tyT hb1, k_tt, true, rfl, ifT rfl ?_⟩⟩
          refine ⟨_, rfl, _, _, _, _, rfl, rfl, ha1, at1, b, _, rfl, .inr hb1, _, _, rfl, rfl, true, congrArg V.bl (decide_eq_true (by omega)), iteT ⟨_, _, rfl, rfl, true, congrArg V.bl (decide_eq_true (by omega)), ifT rfl ?_⟩⟩
          refine ⟨_, rfl, _, _, _, _, rfl, rfl, ha1, at1, b, us, rfl, .inr hb1, fun l hl1 => ?_⟩
          have e2 := e01.trans (Same.new (o := HO.lst us) hl1)
          exact ⟨e2, l, us, none, none, none, rfl, upd_same, al.imp fun _ _ z => z.up (Same.t e2)⟩
        | beside ps =>
          obtain ⟨rfl, rfl, b, us, rfl, hb, al⟩ := hbody
          have hl := al.1
          have w1 := wf.1
          have w2 := wf.2.1
          refine ⟨_, rfl, rfl, _, rfl, ifF (d_ne bt) (ifF rfl ?_)⟩
          refine ⟨_, rfl, sz2, fun p1 hp1 => ⟨p1, _, rfl, .inl (sq_of upd_same), rfl, rfl, _, rfl, ifT inV_beside ?_⟩⟩
          have e1 : Same (upd H p0 (.lst [])) (upd (upd H p0 (.lst [])) p1 (.lst [.str "upon", .str "beside"])) := Same.new hp1
          have e01 := e0.trans e1
          have ha1 := (Same.le e01).tup ha
          have hb1 := (Same.le e01).tup hb
          refine ⟨_, rfl, rfl, _, rfl, ifT rfl ⟨_, rfl, _, _, _, _, rfl, rfl, ha1, at1, _, _, _, _, _, rfl, .ty _, tyT hb1, k_tt, true, rfl, ifT rfl ?_⟩⟩
          refine ⟨_, rfl, _, _, _, _, rfl, rfl, ha1, at1, b, _, rfl, .inr hb1, _, _, rfl, rfl, true, congrArg V.bl (decide_eq_true (by omega)), iteT ⟨_, _, rfl, rfl, true, congrArg V.bl (decide_eq_true (by omega)), ifT rfl ?_⟩⟩
          refine ⟨_, rfl, _, _, _, _, rfl, rfl, ha1, at1, b, us, rfl, .inr hb1, fun l hl1 => ?_⟩
          have e2 := e01.trans (Same.new (o := HO.lst us) hl1)
          exact ⟨e2, l, us, none, none, none, rfl, upd_same, al.imp fun _ _ z => z.up (Same.t e2)⟩
        | grid gx gy p =>
          obtain ⟨rfl, rfl, u, rfl, hp⟩ := hbody
          obtain ⟨w1, w2, w3, w4, w5⟩ := wf
          refine ⟨_, rfl, rfl, _, rfl, ifF (d_ne gt) (ifF rfl ?_)⟩
          refine ⟨_, rfl, sz2, fun p1 hp1 => ⟨p1, _, rfl, .inl (sq_of upd_same), rfl, rfl, _, rfl, ifF inV_grid (ifF rfl ?_)⟩⟩
          have e1 : Same (upd H p0 (.lst [])) (upd (upd H p0 (.lst [])) p1 (.lst [.str "upon", .str "beside"])) := Same.new hp1
          have e01 := e0.trans e1
          have ha1 := (Same.le e01).tup ha
          refine ⟨_, rfl, rfl, _, rfl, ifT rfl ⟨_, rfl, rfl, _, rfl, ifT rfl ?_⟩⟩
          refine ⟨_, rfl, _, rfl, _, rfl, a, _, rfl, ha1, (by show ¬ (HT.sIx 4 0 (some 1) = 0 ∧ HT.sIx 4 4 (some 3) = 4); decide), fun p2 hp2 => ?_⟩
          have e2 : Same (upd (upd H p0 (.lst [])) p1 (.lst [.str "upon", .str "beside"])) (upd (upd (upd H p0 (.lst [])) p1 (.lst [.str "upon", .str "beside"])) p2 (.tup [.int gx, .int gy])) := Same.new hp2
          refine ⟨p2, rfl, ⟨_, st_of upd_same⟩, fun Dd hD => ?_⟩
          refine comp_tupS (xs := [.int gx, .int gy]) (fun _ y _ => y = .bl true) (fun _ _ _ _ _ h => h) (st_of upd_same) (by show 2 ≤ 1000; decide) hD (fun i v H' hi e Q' q' => ?_) (fun ys H' e hl hn hr' => ?_) mono_name
          · obtain ⟨z, rfl, hz⟩ : ∃ z : Int, v = .int z ∧ 0 < z := by
              match i, hi with
              | 0, h => exact ⟨gx, by simpa using h.symm, by omega⟩
              | 1, h => exact ⟨gy, by simpa using h.symm, by omega⟩
              | k + 2, h => simp at h
            exact ⟨rfl, _, rfl, z, rfl, true, rfl, iteT ⟨_, rfl, _, _, rfl, rfl, q' _ _ (Same.refl _) (congrArg V.bl (decide_eq_true hz))⟩⟩
          · rw [bools_of hr'] at hl
            have e3 := (e01.trans e2).trans e
            refine ⟨Dd, _, rfl, sq_of hl, _, rfl, ifT all_true ?_⟩
            refine ⟨_, rfl, _, _, _, _, rfl, rfl, (Same.le e3).tup ha, atI_nat (j := 3) rfl, sz1, fun l hl2 => ?_⟩
            have e4 := e3.trans (Same.new (o := HO.lst [u]) hl2)
            exact ⟨e4, l, [u], none, none, none, rfl, upd_same, .one (hp.up (Same.t e4))⟩
      · rintro σ' H' ⟨e1, l, us, o6, o7, o8, rfl, hl, al⟩
        refine ⟨_, rfl, l, rfl, ⟨_, sq_of hl⟩, fun Dd hD => ?_⟩
        have hlen : (parts P).length ≤ 8 := by
          cases P with
          | kind k => exact absurd rfl (nk k)
          | turn p => show 1 ≤ 8; decide
          | upon ps => exact wf.2.1
          | beside ps => exact wf.2.1
          | grid gx gy p => show 1 ≤ 8; decide
        refine comp_listS (xs := us) (fun i z _ => ∃ p, (parts P)[i]? = some p ∧ z = .int (plansIn d p : Int)) (fun i z H H' _ h => h) (fun H' e => sq_of (e _ _ hl)) (by rw [al.1]; omega) hD (fun i z H2 hi e2 Q' q' => ?_) (fun ys H2 e2 hl2 hn2 hr2 => ?_) mono_name
        · obtain ⟨p, hp, hP'⟩ := al.left hi
          have hm := List.mem_of_getElem? hp
          exact ⟨rfl, _, rfl, _, rfl, _, rfl, _, _, rfl, rfl, n, many, p, _, congrArg (fun z => [_, V.int many, V.int z]) (dec1 d), hP'.up (Same.t e2), pw p hm, fun H3 e3 => q' _ _ e3 ⟨p, hp, rfl⟩⟩
        · have ey := ys_of (f := plansIn d) (by rw [hn2, al.1]) hr2
          generalize hcs : ((parts P).map (plansIn d)).map (fun (n : Nat) => (n : Int)) = cs at ey
          subst ey
          have hcn : cs ≠ [] := fun e => by
            rw [e] at hcs
            simp only [List.map_eq_nil_iff] at hcs
            exact hne hcs
          refine ⟨_, rfl, sz_of (by show 0 ≤ 100000; decide), fun p1 hp1 => ?_⟩
          have e3 : Same H2 (upd H2 p1 (.lst [])) := Same.new hp1
          refine ⟨.list (cs.map PyData.int), .list [], .lst (sq_of (e3 _ _ hl2)) (dp_ints cs), .lst (sq_of upd_same) .nil, shaped_ints cs, rfl, _, rfl, ifF (eqv_ints hcn) ?_⟩
          refine ⟨_, rfl, Dd, cs, rfl, sq_of (e3 _ _ hl2), List.length_pos_iff.mpr hcn, fun m hm hmin => ?_⟩
          have eS := (e1.trans e2).trans e3
          refine ⟨rfl, _, rfl, ite2 (fun c => ?_) (fun c => ?_)⟩
          · have hm0 : m = 0 := V.int.inj (of_decide_eq_true c)
            subst hm0
            refine qv (Q := Q) (q _ eS) (congrArg V.int ?_)
            rw [plansIn_other nk, if_pos]
            · rfl
            · rw [← hcs] at hm
              obtain ⟨z, hz, e⟩ := List.mem_map.mp hm
              have : z = 0 := by omega
              rw [← this]; exact hz
          · have hm0 : m ≠ 0 := fun e => by rw [e] at c; exact c rfl
            refine ⟨_, rfl, Dd, cs, rfl, sq_of (e3 _ _ hl2), _, _, rfl, rfl, qv (Q := Q) (q _ eS) (congrArg V.int ?_)⟩
            rw [plansIn_other nk, if_neg]
            · rw [← hcs, sum_cast]; omega
            · intro h0
              have h1 : (0 : Int) ∈ cs := by rw [← hcs]; exact List.mem_map.mpr ⟨0, h0, rfl⟩
              have h2 := hmin 0 h1
              rw [← hcs] at hm
              obtain ⟨z, hz, e⟩ := List.mem_map.mp hm
              omega
def spLIs (K : PySem.W.Frag) : Sp := fun vs H Q _ => ∃ (n many : Nat) (P : Plan) (v : V), vs = [v, .int (many : Int)] ∧ PlanAt K H n v P ∧ Wf many n P ∧ ∀ (b : Bool) H', Same H H' → (b = true → Wf many 12 P ∧ P.size ≤ 60) → Q (.bl b) H'
theorem sc_l_is_a_plan : FnScope ["_law_thing", "_law_many"] ["_law_thing", "_law_many"] (defScope s_l_is_a_plan) := ⟨rfl, rfl, rfl, by decide +kernel, rfl, by decide +kernel, by decide +kernel⟩
theorem ok_l_is_a_plan : T.l_is_a_plan.Ok w base 63 (spLIs K) := by
  have G_l_plans_in := ok_l_plans_in (w := w) (base := base) T 12
  refine T.l_is_a_plan.ok sc_l_is_a_plan (fun vs H Q E h => ?_) (fun cdv A outer s H vs Q E hr h => ?_)
  · obtain ⟨_, _, _, _, rfl, _⟩ := h
    rfl
  obtain ⟨n, many, P, v, rfl, hP, wf, q⟩ := h
  refine ⟨_, (pss_one (ps_ret (pe_chain op_lt op_le pe_int (pcl T.l_plans_in G_l_plans_in (hr.mono (by decide)) (pa_cons (pv 0) (pa_cons (pv 1) (pa_cons pe_int pa_nil)))) pe_int))), ?_⟩
  refine ⟨_, rfl, _, rfl, n, many, P, v, rfl, hP, wf, fun H1 e1 => ⟨_, _, rfl, rfl, _, rfl, ite2 (fun c => ?_) (fun c => ?_)⟩⟩
  · have c1 : (0 : Int) < (plansIn 12 P : Int) := of_decide_eq_true c
    refine ⟨_, _, rfl, rfl, q _ _ e1 fun z => ?_⟩
    have z1 : (plansIn 12 P : Int) ≤ 60 := of_decide_eq_true z
    obtain ⟨k1, k2⟩ := plansIn_pos wf (n := 12) (by omega)
    exact ⟨k1, by omega⟩
  · exact q _ _ e1 fun z => nomatch z
end
end MW

namespace MW
open PySem PySem.Spec PyProof.Rows L2
open MF (Root QD Plan Wf KOk shape sumQ Tile Sd Inside Down share)
open MF.QD (Sz)
/-- a tile's four sides -/
def Tl (K : PySem.W.Frag) (H : Hp) {D : Root} (v : V) (x y z h : QD D) : Prop := ∃ p a b c d, v = .ref p ∧ SqT K H p [a, b, c, d] ∧ Nm K H a x ∧ Nm K H b y ∧ Nm K H c z ∧ Nm K H d h
theorem Tl.up {K : PySem.W.Frag} {H H' : Hp} {D : Root} {v : V} {x y z h : QD D} (e : LeT H H') (t : Tl K H v x y z h) : Tl K H' v x y z h := by
  obtain ⟨p, a, b, c, d, h1, h2, h3, h4, h5, h6⟩ := t
  exact ⟨p, a, b, c, d, h1, e.tup h2, h3.upT e, h4.upT e, h5.upT e, h6.upT e⟩
section
variable {K : PySem.W.Frag} {mg : Str → Option Value} {w : World} {base : Heap} (T : Txt K mg)
def spTT (K : PySem.W.Frag) : Sp := fun vs H Q _ => ∃ (D : Root) (s x y z h : QD D) (u v : V), vs = [.int D.d, u, v] ∧ Nm K H u s ∧ Tl K H v x y z h ∧ Sml s ∧ s ≠ 0 ∧ (Sml x ∧ Sml y ∧ Sml z ∧ Sml h) ∧ Sml (s - y) ∧ Sml (s - y - h) ∧
  ∀ r H', Le H H' → Tl K H' r ((s - y - h) / s) (x / s) (h / s) (z / s) → Q r H'
theorem ix4 {a b c d v : V} {i : Nat} (h : [a, b, c, d][i]? = some v) : (i = 0 ∧ v = a) ∨ (i = 1 ∧ v = b) ∨ (i = 2 ∧ v = c) ∨ (i = 3 ∧ v = d) := by
  match i, h with
  | 0, h => left; exact ⟨rfl, by simpa using h.symm⟩
  | 1, h => right; left; exact ⟨rfl, by simpa using h.symm⟩
  | 2, h => right; right; left; exact ⟨rfl, by simpa using h.symm⟩
  | 3, h => right; right; right; exact ⟨rfl, by simpa using h.symm⟩
  | n + 4, h => simp at h
theorem list4 {ys : List V} (h : ys.length = 4) : ∃ a b c d, ys = [a, b, c, d] := by
  match ys, h with
  | [a, b, c, d], _ => exact ⟨a, b, c, d, rfl⟩
theorem sc_turned_tile : FnScope ["d", "shape", "tile", "x", "y", "width", "height", "left", "side"] ["d", "shape", "tile"] (defScope s_turned_tile) := ⟨rfl, rfl, rfl, by decide +kernel, rfl, by decide +kernel, by decide +kernel⟩
theorem ok_turned_tile (hs : base.NoSeer) : T.turned_tile.Ok w base 46 (spTT K) := by
  have G_less := ok_less (w := w) T hs
  have G_over := ok_over (w := w) T hs
  refine T.turned_tile.ok sc_turned_tile (fun vs H Q E h => ?_) (fun cdv A outer s H vs Q E hr h => ?_)
  · obtain ⟨_, _, _, _, _, _, _, _, rfl, _⟩ := h
    rfl
  obtain ⟨D, s, x, y, z, h, u, v, rfl, hu, ⟨p, a, b, c, d, rfl, hp, ha, hb, hc, hd⟩, ss, s0, ⟨sx, sy, sz, sh⟩, s1, s2, q⟩ := h
  have nd := sc_turned_tile.nd
  refine ⟨_, (pss_cons (ps_asg (pv 2) (pg_tup rfl (pgs_cons (pg_name (i := 3) nd rfl (by first | exact Or.inl rfl | exact Or.inr rfl)) (pgs_cons (pg_name (i := 4) nd rfl (by first | exact Or.inl rfl | exact Or.inr rfl)) (pgs_cons (pg_name (i := 5) nd rfl (by first | exact Or.inl rfl | exact Or.inr rfl)) (pgs_cons (pg_name (i := 6) nd rfl (by first | exact Or.inl rfl | exact Or.inr rfl)) pgs_nil))))))
      (pss_cons (ps_set (i := 7) nd rfl (by first | exact Or.inl rfl | exact Or.inr rfl) (pcl T.less G_less (hr.mono (by decide)) (pa_cons (pcl T.less G_less (hr.mono (by decide)) (pa_cons (pv 1) (pa_cons (pv 4) pa_nil))) (pa_cons (pv 6) pa_nil))))
      (pss_one (ps_ret (pe_callTy call_tuple_of rfl T.b_tuple (by decide +kernel) (pa_cons (pe_lc (own := [("side", 8)]) (g := gName 8) (tt := tYes) rfl nd (pi_tup (pe_tup (pa_cons (pv 7) (pa_cons (pv 3) (pa_cons (pv 6) (pa_cons (pv 5) pa_nil)))))) (blkOk_by (own := [("side", 8)]) (N := ["d", "shape", "tile", "x", "y", "width", "height", "left", "side"]) (sc := defScope s_turned_tile) (by decide +kernel)) (fun _ _ _ _ _ => pg_name (i := 8) nd rfl (Or.inl rfl)) (fun _ _ _ _ _ => pts_nil) (fun _ _ _ _ _ => (pcl T.over G_over (hr.mono (by decide)) (pa_cons (pv 0) (pa_cons (pv 8) (pa_cons (pv 1) pa_nil)))))) pa_nil)))))), ?_⟩
  refine ⟨_, rfl, _, _, rfl, hp, rfl, _, _, rfl, _, _, rfl, _, _, rfl, _, _, rfl, rfl, ?_⟩
  refine ⟨_, rfl, _, rfl, D, s, y, _, _, rfl, hu, hb, ss, sy, fun v1 H1 e1 h1 => ⟨_, rfl, D, s - y, h, _, _, rfl, h1, hd.up e1, s1, sh, fun v2 H2 e2 h2 => ?_⟩⟩
  have e12 := e1.trans e2
  refine ⟨_, rfl, _, rfl, _, rfl, _, rfl, sz4, fun p2 hp2 => ?_⟩
  have e3 := e12.trans (Le.new (o := HO.tup [v2, a, d, c]) hp2)
  refine ⟨p2, rfl, ⟨_, st_of upd_same⟩, fun Dd hD => ?_⟩
  refine comp_tup (xs := [v2, a, d, c]) (fun i r H' => ∃ k, [s - y - h, x, h, z][i]? = some k ∧ Nm K H' r (k / s)) (fun i z H H' e h => ⟨h.choose, h.choose_spec.1, h.choose_spec.2.upT e⟩) (fun i z H h => h.choose_spec.2.nint) (st_of upd_same) (by show 4 ≤ 1000; decide) hD (fun i r H' hi e Q' q' => ?_) (fun ys H' e hl hn hr' => ?_) mono_name
  · have key : ∃ k : QD D, [s - y - h, x, h, z][i]? = some k ∧ Nm K H' r k ∧ Sml k := by
      rcases ix4 hi with ⟨rfl, rfl⟩ | ⟨rfl, rfl⟩ | ⟨rfl, rfl⟩ | ⟨rfl, rfl⟩
      · exact ⟨_, rfl, (h2.up (Le.new hp2)).up e, s2⟩
      · exact ⟨_, rfl, (ha.up e3).up e, sx⟩
      · exact ⟨_, rfl, (hd.up e3).up e, sh⟩
      · exact ⟨_, rfl, (hc.up e3).up e, sz⟩
    obtain ⟨k, k1, k2, k3⟩ := key
    exact ⟨rfl, _, rfl, _, rfl, _, rfl, D, k, s, _, _, rfl, k2, (hu.up e3).up e, k3, ss, s0, fun v3 H3 e4 h4 => q' _ _ e4 ⟨k, k1, h4⟩⟩
  · obtain ⟨y1, y2, y3, y4, rfl⟩ := list4 (show ys.length = 4 from hn)
    obtain ⟨k1, z1, n1⟩ := hr' 0 y1 rfl
    obtain ⟨k2, z2, n2⟩ := hr' 1 y2 rfl
    obtain ⟨k3, z3, n3⟩ := hr' 2 y3 rfl
    obtain ⟨k4, z4, n4⟩ := hr' 3 y4 rfl
    cases z1; cases z2; cases z3; cases z4
    refine ⟨Dd, _, rfl, .inl ⟨sq_of hl, fun l hl2 => ?_⟩⟩
    have e5 : Le H' (upd H' l (.tup [y1, y2, y3, y4])) := Le.new hl2
    exact q _ _ ((e3.trans e).trans e5) ⟨l, _, _, _, _, rfl, st_of upd_same, n1.up e5, n2.up e5, n3.up e5, n4.up e5⟩
def spGT (K : PySem.W.Frag) : Sp := fun vs H Q _ => ∃ (D : Root) (f l b x y z h : QD D) (uf ul ub v : V), vs = [.int D.d, uf, ul, ub, v] ∧ (Nm K H uf f ∧ Nm K H ul l ∧ Nm K H ub b) ∧ Tl K H v x y z h ∧ (Sml f ∧ Sml l ∧ Sml b) ∧ (Sml x ∧ Sml y ∧ Sml z ∧ Sml h) ∧ Sml (x * f) ∧ Sml (y * f) ∧
  ∀ r H', Le H H' → Tl K H' r (x * f + l) (y * f + b) (z * f) (h * f) → Q r H'
theorem sc_grown_tile : FnScope ["d", "factor", "left", "low", "tile", "x", "y", "width", "height", "side"] ["d", "factor", "left", "low", "tile"] (defScope s_grown_tile) := ⟨rfl, rfl, rfl, by decide +kernel, rfl, by decide +kernel, by decide +kernel⟩
theorem ok_grown_tile (hs : base.NoSeer) : T.grown_tile.Ok w base 46 (spGT K) := by
  have G_plus := ok_plus (w := w) T hs
  have G_times := ok_times (w := w) T hs
  refine T.grown_tile.ok sc_grown_tile (fun vs H Q E h => ?_) (fun cdv A outer s H vs Q E hr h => ?_)
  · obtain ⟨_, _, _, _, _, _, _, _, _, _, _, _, rfl, _⟩ := h
    rfl
  obtain ⟨D, f, l, b, x, y, z, h, uf, ul, ub, v, rfl, ⟨hf, hl, hb⟩, ⟨p, a1, a2, a3, a4, rfl, hp, n1, n2, n3, n4⟩, ⟨sf, sl, sb⟩, ⟨sx, sy, sz, sh⟩, s1, s2, q⟩ := h
  have nd := sc_grown_tile.nd
  refine ⟨_, (pss_cons (ps_asg (pe_lc (own := [("side", 9)]) (g := gName 9) (tt := tYes) rfl nd (pi_tup (pv 4)) (blkOk_by (own := [("side", 9)]) (N := ["d", "factor", "left", "low", "tile", "x", "y", "width", "height", "side"]) (sc := defScope s_grown_tile) (by decide +kernel)) (fun _ _ _ _ _ => pg_name (i := 9) nd rfl (Or.inl rfl)) (fun _ _ _ _ _ => pts_nil) (fun _ _ _ _ _ => (pcl T.times G_times (hr.mono (by decide)) (pa_cons (pv 0) (pa_cons (pv 9) (pa_cons (pv 1) pa_nil)))))) (pg_unl rfl (pgs_cons (pg_name (i := 5) nd rfl (by first | exact Or.inl rfl | exact Or.inr rfl)) (pgs_cons (pg_name (i := 6) nd rfl (by first | exact Or.inl rfl | exact Or.inr rfl)) (pgs_cons (pg_name (i := 7) nd rfl (by first | exact Or.inl rfl | exact Or.inr rfl)) (pgs_cons (pg_name (i := 8) nd rfl (by first | exact Or.inl rfl | exact Or.inr rfl)) pgs_nil))))))
      (pss_one (ps_ret (pe_tup (pa_cons (pcl T.plus G_plus (hr.mono (by decide)) (pa_cons (pv 5) (pa_cons (pv 2) pa_nil))) (pa_cons (pcl T.plus G_plus (hr.mono (by decide)) (pa_cons (pv 6) (pa_cons (pv 3) pa_nil))) (pa_cons (pv 7) (pa_cons (pv 8) pa_nil)))))))), ?_⟩
  refine ⟨_, rfl, p, rfl, ⟨_, hp⟩, fun Dd hD => ?_⟩
  refine comp_tup (xs := [a1, a2, a3, a4]) (fun i r H' => ∃ k, [x, y, z, h][i]? = some k ∧ Nm K H' r (k * f)) (fun i z H H' e h => ⟨h.choose, h.choose_spec.1, h.choose_spec.2.upT e⟩) (fun i z H h => h.choose_spec.2.nint) hp (by show 4 ≤ 1000; decide) hD (fun i r H' hi e Q' q' => ?_) (fun ys H' e hl2 hn hr' => ?_) mono_name
  · have key : ∃ k : QD D, [x, y, z, h][i]? = some k ∧ Nm K H' r k ∧ Sml k := by
      rcases ix4 hi with ⟨rfl, rfl⟩ | ⟨rfl, rfl⟩ | ⟨rfl, rfl⟩ | ⟨rfl, rfl⟩
      · exact ⟨_, rfl, n1.up e, sx⟩
      · exact ⟨_, rfl, n2.up e, sy⟩
      · exact ⟨_, rfl, n3.up e, sz⟩
      · exact ⟨_, rfl, n4.up e, sh⟩
    obtain ⟨k, k1, k2, k3⟩ := key
    exact ⟨rfl, _, rfl, _, rfl, _, rfl, D, k, f, _, _, rfl, k2, hf.up e, k3, sf, fun v3 H3 e4 h4 => q' _ _ e4 ⟨k, k1, h4⟩⟩
  · obtain ⟨y1, y2, y3, y4, rfl⟩ := list4 (show ys.length = 4 from hn)
    obtain ⟨k1, z1, m1⟩ := hr' 0 y1 rfl
    obtain ⟨k2, z2, m2⟩ := hr' 1 y2 rfl
    obtain ⟨k3, z3, m3⟩ := hr' 2 y3 rfl
    obtain ⟨k4, z4, m4⟩ := hr' 3 y4 rfl
    cases z1; cases z2; cases z3; cases z4
    refine ⟨Dd, _, rfl, sq_of hl2, rfl, _, _, rfl, _, _, rfl, _, _, rfl, _, _, rfl, rfl, ?_⟩
    refine ⟨_, rfl, _, rfl, D, x * f, l, _, _, rfl, m1, hl.up e, s1, sl, fun v1 H1 e1 h1 => ?_⟩
    refine ⟨_, rfl, _, rfl, D, y * f, b, _, _, rfl, m2.up e1, (hb.up e).up e1, s2, sb, fun v2 H2 e2 h2 => ?_⟩
    refine ⟨_, rfl, _, rfl, sz4, fun r hr2 => ?_⟩
    have e3 : Le H2 (upd H2 r (.tup [v1, v2, y3, y4])) := Le.new hr2
    exact q _ _ (((e.trans e1).trans e2).trans e3) ⟨r, _, _, _, _, rfl, st_of upd_same, (h1.up e2).up e3, h2.up e3, ((m3.up e1).up e2).up e3, ((m4.up e1).up e2).up e3⟩

def spShares (K : PySem.W.Frag) (n : Nat) : Sp := fun vs H Q _ => ∃ (D : Root) (ks : List (QD D)) (ps : List Plan) (u v : V), vs = [.int D.d, u, v] ∧ KOk ks ∧ KindsAt K H u ks ∧ PlanAt K H (n + 1) v (.beside ps) ∧ Wf ks.length (n + 1) (.beside ps) ∧ Plan.size (.beside ps) ≤ 60 ∧
  ∀ (l : Addr) (us : List V) H', Le H H' → H' l = some (.lst us) → Al (fun u x => Nm K H' u x) us (ps.map (share ks ps)) → Q (.ref l) H'
/-- of any plan of few within one another -/
def spShapeA (K : PySem.W.Frag) : Sp := spShape K 14
theorem ok_shape_A (hs : base.NoSeer) : T.shape_by.Ok w base 64 (spShapeA K) := ok_shape_by T hs 14
theorem ok_l_shape_A (hs : base.NoSeer) : T.l_shape.Ok w base 64 (spShapeA K) := ok_l_shape T hs 14
theorem sc_shares_of : FnScope ["d", "kinds", "plan", "whole", "part"] ["d", "kinds", "plan"] (defScope s_shares_of) := ⟨rfl, rfl, rfl, by decide +kernel, rfl, by decide +kernel, by decide +kernel⟩
theorem ok_shares_of (hs : base.NoSeer) (n : Nat) (hn : n ≤ 13) : T.shares_of.Ok w base 65 (spShares K n) := by
  have G_shape_by := ok_shape_A (w := w) T hs
  have G_over := ok_over (w := w) T hs
  refine T.shares_of.ok sc_shares_of (fun vs H Q E h => ?_) (fun cdv A outer s H vs Q E hr h => ?_)
  · obtain ⟨_, _, _, _, _, rfl, _⟩ := h
    rfl
  obtain ⟨D, ks, ps, u, v, rfl, hk, hkv, hP, wf, h60, q⟩ := h
  have nd := sc_shares_of.nd
  refine ⟨_, (pss_cons (ps_set (i := 3) nd rfl (by first | exact Or.inl rfl | exact Or.inr rfl) (pcl T.shape_by G_shape_by (hr.mono (by decide)) (pa_cons (pv 0) (pa_cons (pv 1) (pa_cons (pv 2) pa_nil)))))
      (pss_one (ps_ret (pe_lc (own := [("part", 4)]) (g := gName 4) (tt := tYes) rfl nd (pi_tup (pe_ix ix_tup (pv 2) pe_int (fun _ _ => rfl))) (blkOk_by (own := [("part", 4)]) (N := ["d", "kinds", "plan", "whole", "part"]) (sc := defScope s_shares_of) (by decide +kernel)) (fun _ _ _ _ _ => pg_name (i := 4) nd rfl (Or.inl rfl)) (fun _ _ _ _ _ => pts_nil) (fun _ _ _ _ _ => (pcl T.over G_over (hr.mono (by decide)) (pa_cons (pv 0) (pa_cons (pv 3) (pa_cons (pcl T.shape_by G_shape_by (hr.mono (by decide)) (pa_cons (pv 0) (pa_cons (pv 1) (pa_cons (pv 4) pa_nil)))) pa_nil))))))))), ?_⟩
  obtain ⟨a, b, us, rfl, ha, hb, al⟩ := id hP
  have hps : Plan.size (.beside ps) ≤ 60 := h60
  have w3 := wf.2.2
  rw [Plan.size] at h60
  refine ⟨_, rfl, _, rfl, _, rfl, D, ks, .beside ps, _, _, rfl, hk, hkv, hP.mono (by omega), wf.mono (by omega), hps, fun v1 H1 e1 h1 => ?_⟩
  refine ⟨_, rfl, _, _, _, _, rfl, rfl, e1.tup ha, at1, b, rfl, ⟨_, e1.tup hb⟩, fun Dd hD => ?_⟩
  refine comp_tup (xs := us) (fun i z H' => ∃ p, ps[i]? = some p ∧ Nm K H' z (share ks ps p)) (fun i z H H' e h => ⟨h.choose, h.choose_spec.1, h.choose_spec.2.upT e⟩) (fun i z H h => h.choose_spec.2.nint) (e1.tup hb) (by rw [al.1]; have := wf.2.1; omega) hD (fun i z H' hi e Q' q' => ?_) (fun ys H' e hl hn hr' => ?_) mono_name
  · obtain ⟨p, hp, hP'⟩ := al.left hi
    have hm := List.mem_of_getElem? hp
    have hz := MF.size_mem hm
    have e2 := e1.trans e
    refine ⟨rfl, _, rfl, _, rfl, _, rfl, _, rfl, _, rfl, D, ks, p, _, _, rfl, hk, hkv.up e2.t, (hP'.up e2.t).mono (by omega), (w3 p hm).mono (by omega), by omega, fun v2 H2 e3 h2 => ?_⟩
    refine ⟨D, _, _, _, _, rfl, (h1.up e).up e3, h2, .of (sml_shape hk wf hps), .of (sml_shape hk (w3 p hm) (by omega)), MF.pos_ne (MF.shape_pos hk (w3 p hm)), fun v3 H3 e4 h3 => q' _ _ (e3.trans e4) ⟨p, hp, h3⟩⟩
  · exact q Dd ys H' (e1.trans e) hl (al_of (f := share ks ps) (by rw [hn, al.1]) hr')

/-! ### which step, which part -/
def spPlace (K : PySem.W.Frag) : Sp := fun vs H Q _ => ∃ (D : Root) (p : QD D) (n sg : Int) (u : V), vs = [.int D.d, u, .int sg] ∧ Nm K H u p ∧ Sml p ∧ Sd sg (n : QD D) p ((n : QD D) + 1) ∧ ∀ H', Le H H' → Q (.int n) H'
theorem sc_place_in : FnScope ["d", "along", "sign"] ["d", "along", "sign"] (defScope s_place_in) := ⟨rfl, rfl, rfl, by decide +kernel, rfl, by decide +kernel, by decide +kernel⟩
theorem ok_place_in (hs : base.NoSeer) : T.place_in.Ok w base 43 (spPlace K) := by
  have G_whole_beneath := ok_whole_beneath (w := w) T hs
  have G_contrary_sign := ok_contrary_sign (w := w) (base := base) T
  refine T.place_in.ok sc_place_in (fun vs H Q E h => ?_) (fun cdv A outer s H vs Q E hr h => ?_)
  · obtain ⟨_, _, _, _, _, rfl, _⟩ := h
    rfl
  obtain ⟨D, p, n, sg, u, rfl, hu, sp, sd, q⟩ := h
  refine ⟨_, (pss_cons (ps_if (pt_cmpR op_gt (pv 2) pe_int (nomark _)) (pss_one (ps_ret (pcl T.whole_beneath G_whole_beneath (hr.mono (by decide)) (pa_cons (pv 0) (pa_cons (pv 1) pa_nil))))) pss_nil)
      (pss_one (ps_ret (pe_op op_sub (pe_un un_neg pe_int) (pcl T.whole_beneath G_whole_beneath (hr.mono (by decide)) (pa_cons (pv 0) (pa_cons (pcl T.contrary_sign G_contrary_sign (hr.mono (by decide)) (pa_cons (pv 1) pa_nil)) pa_nil))))))), ?_⟩
  rcases sd.sign with hsg | hsg
  · subst hsg
    refine ⟨_, rfl, _, _, rfl, rfl, _, rfl, ifT rfl ⟨_, rfl, _, rfl, D, p, _, rfl, hu, sp, fun m H1 e1 m1 m2 => ?_⟩⟩
    have e := (MF.sd_floor sd (m := m)).1 rfl m1 m2
    subst e
    exact q _ e1
  · subst hsg
    refine ⟨_, rfl, _, _, rfl, rfl, _, rfl, ifF rfl ⟨_, rfl, _, rfl, _, rfl, D, p, _, rfl, hu, fun v1 H1 e1 h1 => ⟨D, -p, _, rfl, h1, MF.QD.Sz.neg sp, fun m H2 e2 m1 m2 => ⟨_, _, rfl, rfl, ?_⟩⟩⟩⟩
    have e := (MF.sd_floor sd (m := m)).2 rfl m1 m2
    exact qv (Q := Q) (q _ (e1.trans e2)) (congrArg V.int e)

def spPart (K : PySem.W.Frag) : Sp := fun vs H Q _ => ∃ (D : Root) (xs : List (QD D)) (p : QD D) (i : Nat) (sg : Int) (l : Addr) (us : List V) (u : V), vs = [.int D.d, .ref l, u, .int sg] ∧ SqL K H l us ∧ Al (fun u x => Nm K H u x) us xs ∧ Nm K H u p ∧
  (∀ x ∈ xs, 0 < x) ∧ i < xs.length ∧ xs.length ≤ 8 ∧ Sd sg (sumQ (xs.take i)) p (sumQ (xs.take (i + 1))) ∧ Sml p ∧ (∀ x ∈ xs, Sml x) ∧ (∀ j, Sml (sumQ (xs.take j))) ∧ (∀ j, Sml (sumQ (xs.take j) - p)) ∧
  ∀ (r : Addr) (b : V) H', Le H H' → SqT K H' r [.int (i : Int), b] → Nm K H' b (sumQ (xs.take i)) → Q (.ref r) H'
theorem cut_last (us : List V) (h : 1 ≤ us.length) : cutV us none (some (-1)) = us.dropLast := by
  unfold cutV
  have h1 : HT.sIx us.length 0 none = 0 := rfl
  have h2 : HT.sIx us.length us.length (some (-1)) = us.length - 1 := by
    unfold HT.sIx
    simp
    omega
  rw [h1, h2, List.drop_zero, List.dropLast_eq_take]
  rfl
theorem sc_part_at : FnScope ["d", "sizes", "along", "sign", "begin", "k", "size", "end"] ["d", "sizes", "along", "sign"] (defScope s_part_at) := ⟨rfl, rfl, rfl, by decide +kernel, rfl, by decide +kernel, by decide +kernel⟩
theorem ok_part_at (hs : base.NoSeer) : T.part_at.Ok w base 46 (spPart K) := by
  have G_plus := ok_plus (w := w) T hs
  have G_is_above := ok_is_above (w := w) T hs
  refine T.part_at.ok sc_part_at (fun vs H Q E h => ?_) (fun cdv A outer s H vs Q E hr h => ?_)
  · obtain ⟨_, _, _, _, _, _, _, _, rfl, _⟩ := h
    rfl
  obtain ⟨D, xs, p, i, sg, l, us, u, rfl, hl, al, hu, pos, hi, h8, sd, sp, sx, ssum, ssub, q⟩ := h
  have nd := sc_part_at.nd
  have hlen := al.1
  refine ⟨_, (pss_cons (ps_set (i := 4) nd rfl (by first | exact Or.inl rfl | exact Or.inr rfl) (pe_glob (v := .ref T.aN) rfl T.mgNOUGHT rfl))
      (pss_cons (ps_for PassesOwn.never rfl (pi_enum rfl T.b_enumerate (pa_cons (pe_slice sl_list (pv 1) po_none (po_some (pe_un un_neg pe_int))) pa_nil)) (pg_tup rfl (pgs_cons (pg_name (i := 5) nd rfl (by first | exact Or.inl rfl | exact Or.inr rfl)) (pgs_cons (pg_name (i := 6) nd rfl (by first | exact Or.inl rfl | exact Or.inr rfl)) pgs_nil))) (pss_cons (ps_set (i := 7) nd rfl (by first | exact Or.inl rfl | exact Or.inr rfl) (pcl T.plus G_plus (hr.mono (by decide)) (pa_cons (pv 4) (pa_cons (pv 6) pa_nil))))
      (pss_cons (ps_if (PW.pt (pw_or (pt_val (pcl T.is_above G_is_above (hr.mono (by decide)) (pa_cons (pv 0) (pa_cons (pv 7) (pa_cons (pv 2) pa_nil))))) (pw_or1 (PW.pt (pw_and (pt_cmpR (op_eqD hr.units) (pv 7) (pv 2) (nomark _)) (pw_and1 (pt_cmpR op_lt (pv 3) pe_int (nomark _)))))))) (pss_one (ps_ret (pe_tup (pa_cons (pv 5) (pa_cons (pv 4) pa_nil))))) pss_nil)
      (pss_one (ps_set (i := 4) nd rfl (by first | exact Or.inl rfl | exact Or.inr rfl) (pv 7))))))
      (pss_one (ps_ret (pe_tup (pa_cons (pe_op op_sub (pe_callB call_len_seq rfl T.b_len PySem.boot_len (pa_cons (pv 1) pa_nil)) pe_int) (pa_cons (pv 4) pa_nil))))))), ?_⟩
  refine ⟨_, rfl, _, rfl, _, rfl, l, us, rfl, hl, fun p1 hp1 => ?_⟩
  rw [cut_last us (by omega)]
  have e0 : Le H (upd H p1 (.lst us.dropLast)) := Le.new hp1
  have nbu := al.nbag
  have hdl : ∀ (j : Nat) v, us.dropLast[j]? = some v → us[j]? = some v := fun j v hv => by
    rw [List.dropLast_eq_take, List.getElem?_take] at hv
    split at hv
    · exact hv
    · cases hv
  have nbd : NBag us.dropLast := nbag_refs fun j v hv => by
    obtain ⟨x, _, hx⟩ := al.left (hdl j v hv)
    exact hx.ref
  have hdlen : us.dropLast.length = us.length - 1 := List.length_dropLast
  generalize hd0 : us.dropLast = ds at *
  refine ⟨p1, ds, rfl, sq_of upd_same, for_it walk_enum (fun j σ H' => Le (upd H p1 (.lst ds)) H' ∧ j ≤ i ∧ ∃ ub o5 o6 o7, σ = [some (.int D.d), some (.ref l), some u, some (.int sg), some ub, o5, o6, o7] ∧ Nm K H' ub (sumQ (xs.take j))) ⟨Le.refl _, Nat.zero_le _, _, none, none, none, rfl, nmN T _⟩ (fun j σ H' _ h => h.1.lst nbd (sq_of upd_same)) ?_ ?_⟩
  · rintro j v σ H' H'' hj ⟨e1, hji, ub, o5, o6, o7, rfl, hub⟩ ⟨Tp, a, b, rfl, hT, rfl, ea, eb⟩
    cases ea
    have eT : Le H' (upd H' Tp (.tup [.int (j : Int), b])) := Le.new hT
    obtain ⟨x, hx, hnx⟩ := al.left (hdl j b eb)
    have hm := List.mem_of_getElem? hx
    have eA := (e0.trans e1).trans eT
    have key := MF.part_here pos sd (j := j)
    rw [MF.sumQ_take hx] at key
    have sS := ssum (j + 1)
    have sB := ssub (j + 1)
    rw [MF.sumQ_take hx] at sS sB
    refine ⟨Tp, _, rfl, st_of upd_same, rfl, _, _, rfl, _, _, rfl, rfl, ?_⟩
    refine ⟨_, rfl, _, rfl, D, _, x, _, _, rfl, hub.up eT, hnx.up eA, ssum j, sx x hm, fun v1 H1 e2 h1 => ?_⟩
    have eB := eA.trans e2
    refine ⟨_, rfl, _, rfl, _, rfl, D, _, p, _, _, rfl, h1, hu.up eB, sS, sp, sB, fun bb H2 e3 hbb => ⟨bb, rfl, ?_⟩⟩
    have eC := eB.trans e3
    have ret : (p < sumQ (xs.take j) + x ∨ (sumQ (xs.take j) + x = p ∧ sg < 0)) → ∀ H3, Le H2 H3 → tRet (tTup (tCons (tVar 5) (tCons (tVar 4) tNil))) { nx := fun _ H' => Q .non H', rt := Q } [some (.int D.d), some (.ref l), some u, some (.int sg), some ub, some (.int (j : Int)), some b, some v1] H3 := fun hc H3 e4 => by
      have hij : j = i := by
        by_cases hlt : j < i
        · exact absurd hc (key.1 hlt)
        · omega
      subst hij
      refine ⟨_, rfl, _, rfl, sz2, fun r hr2 => ?_⟩
      have e5 : Le H3 (upd H3 r (.tup [.int (j : Int), ub])) := Le.new hr2
      exact q r ub _ ((eC.trans e4).trans e5) (st_of upd_same) (((((hub.up eT).up e2).up e3).up e4).up e5)
    have go : ¬ (p < sumQ (xs.take j) + x ∨ (sumQ (xs.take j) + x = p ∧ sg < 0)) → Le (upd H p1 (.lst ds)) H2 ∧ j + 1 ≤ i ∧ ∃ ub' o5' o6' o7', [some (.int D.d), some (.ref l), some u, some (.int sg), some v1, some (.int (j : Int)), some b, some v1] = [some (.int D.d), some (.ref l), some u, some (.int sg), some ub', o5', o6', o7'] ∧ Nm K H2 ub' (sumQ (xs.take (j + 1))) := fun hc => by
      have hij : j ≠ i := fun h => hc (key.2 h)
      refine ⟨((e1.trans eT).trans e2).trans e3, by omega, _, _, _, _, rfl, ?_⟩
      rw [MF.sumQ_take hx]
      exact h1.up e3
    cases hbv : bb with
    | true => exact ifT rfl (ifT rfl (ret (.inl (hbb.mp hbv)) H2 (Le.refl _)))
    | false =>
      have hnb : ¬ p < sumQ (xs.take j) + x := fun h => by have := hbb.mpr h; rw [hbv] at this; cases this
      refine ifF rfl ?_
      obtain ⟨pe, rfl, he⟩ := h1.up e3
      obtain ⟨pu, rfl, hu2⟩ := hu.up eC
      refine ⟨_, rfl, _, rfl, _, _, dp3 he, dp3 hu2, shaped3, shaped3, decide (sumQ (xs.take j) + x = p), congrArg V.bl (eqv_num _ p), ite2 (fun c => ?_) (fun c => ?_)⟩
      · have c' := of_decide_eq_true c
        refine ⟨_, rfl, _, _, rfl, rfl, _, rfl, ite2 (fun c2 => ?_) (fun c2 => ?_)⟩
        · exact ret (.inr ⟨c', of_decide_eq_true c2⟩) H2 (Le.refl _)
        · have c3 : ¬ sg < 0 := of_decide_eq_false (Bool.eq_false_iff.mpr c2)
          exact ⟨_, rfl, go fun h => h.elim hnb fun h => c3 h.2⟩
      · have c' : ¬ sumQ (xs.take j) + x = p := of_decide_eq_false (Bool.eq_false_iff.mpr c)
        exact ifF rfl ⟨_, rfl, go fun h => h.elim hnb fun h => c' h.1⟩
  · rintro σ H' ⟨e1, hji, ub, o5, o6, o7, rfl, hub⟩
    have eA := e0.trans e1
    have hi2 : i = us.length - 1 := by omega
    refine ⟨_, rfl, l, us, rfl, .inl (eA.lst nbu hl), _, _, rfl, rfl, _, rfl, sz2, fun r hr2 => ?_⟩
    have e5 : Le H' (upd H' r (.tup [.int ((us.length : Int) - 1), ub])) := Le.new hr2
    refine q r ub _ (eA.trans e5) (st_new ?_) ((?_ : Nm K H' ub _).up e5)
    · rw [show (i : Int) = (us.length : Int) - 1 by omega]
    · rw [hi2, ← hdlen]; exact hub
end
end MW

namespace MW
open PySem PySem.Spec PyProof.Rows L2
open MF (Root QD Plan Wf KOk shape sumQ Tile Sd Inside Down share)
open MF.QD (Sz)
theorem KindsAt.upL {K : PySem.W.Frag} {H H' : Hp} {D : Root} {v : V} {ks : List (QD D)} (e : Le H H') (h : KindsAt K H v ks) : KindsAt K H' v ks := h.up e.t
theorem PlanAt.upL {K : PySem.W.Frag} {H H' : Hp} (e : Le H H') {n : Nat} {v : V} {P : Plan} (h : PlanAt K H n v P) : PlanAt K H' n v P := h.up e.t
theorem Tl.upL {K : PySem.W.Frag} {H H' : Hp} {D : Root} {v : V} {x y z h : QD D} (e : Le H H') (t : Tl K H v x y z h) : Tl K H' v x y z h := t.up e.t
theorem at2 {a b c : V} {r : List V} : atI (a :: b :: c :: r) 2 = some c := atI_nat (j := 2) rfl
theorem at3 {a b c d : V} {r : List V} : atI (a :: b :: c :: d :: r) 3 = some d := atI_nat (j := 3) rfl
local macro_rules | `(tactic| walk_at "up") => `(tactic| first | assumption | (refine MW.Nm.up (by assumption) ?_; walk_at "up") | (refine MW.Le.tup (by assumption) ?_; walk_at "up") | (refine MW.KindsAt.upL (by assumption) ?_; walk_at "up") | (refine MW.PlanAt.upL (by assumption) ?_; walk_at "up") | (refine MW.Tl.upL (by assumption) ?_; walk_at "up"))
local macro_rules | `(tactic| walk_at "le") => `(tactic| first | exact MW.Le.refl _ | assumption | (refine MW.Le.trans ?_ (by assumption); walk_at "le"))
/-- what at_spot hands back -/
def Fd (K : PySem.W.Frag) (H : Hp) {D : Root} (v : V) (t : Tile D) : Prop := ∃ p u, v = .ref p ∧ SqT K H p [u, .int (t.k : Int), .bl t.t] ∧ Tl K H u t.x t.y t.w t.h
def spAt (K : PySem.W.Frag) (n : Nat) (C : Plan → Prop) : Sp := fun vs H Q _ => ∃ (D : Root) (ks : List (QD D)) (P : Plan) (t : Tile D) (s1 s2 : Int) (px py : QD D) (u v : V) (sp sg : Addr) (x y : V), vs = [.int D.d, u, v, .ref sp, .ref sg] ∧ C P ∧ KOk ks ∧ KindsAt K H u ks ∧ PlanAt K H n v P ∧ Wf ks.length n P ∧ P.size ≤ 60 ∧
  Down ks P t ∧ Inside t s1 s2 px py ∧ SqT K H sp [x, y] ∧ Nm K H x px ∧ Nm K H y py ∧ SqT K H sg [.int s1, .int s2] ∧ Sz (1900000 - 50000 * n) px ∧ Sz (1900000 - 50000 * n) py ∧ ∀ r H', Le H H' → Fd K H' r t → Q r H'
def anyP : Plan → Prop := fun _ => True
theorem tsz {D : Root} {ks : List (QD D)} (hk : KOk ks) {n : Nat} {P : Plan} {t : Tile D} (wf : Wf ks.length n P) (h60 : P.size ≤ 60) (d : Down ks P t) (hn : n ≤ 14) : Sz 700000 t.x ∧ Sz 700000 t.y ∧ Sz 700000 t.w ∧ Sz 700000 t.h := by
  obtain ⟨h1, h2, h3, h4⟩ := (Down.sz hk wf h60 d).all
  exact ⟨h1.mono (by omega), h2.mono (by omega), h3.mono (by omega), h4.mono (by omega)⟩
section
variable {K : PySem.W.Frag} {mg : Str → Option Value} {w : World} {base : Heap} (T : Txt K mg)
theorem sc_at_turned : FnScope ["d", "kinds", "plan", "spot", "signs", "shape", "inner", "found"] ["d", "kinds", "plan", "spot", "signs"] (defScope s_at_turned) := ⟨rfl, rfl, rfl, by decide +kernel, rfl, by decide +kernel, by decide +kernel⟩
theorem ok_at_turned (hs : base.NoSeer) {n : Nat} (hn : n + 1 ≤ 14) (G_at_spot : T.at_spot.Ok w base (100 + 2 * n) (spAt K n anyP)) : T.at_turned.Ok w base (101 + 2 * n) (spAt K (n + 1) fun P => ∃ p, P = .turn p) := by
  have G_shape_by := ok_shape_A (w := w) T hs
  have G_times := ok_times (w := w) T hs
  have G_less := ok_less (w := w) T hs
  have G_turned_tile := ok_turned_tile (w := w) T hs
  refine FnOk.mono (j := 100 + 2 * n + 1) (T.at_turned.ok (k := 100 + 2 * n) sc_at_turned (fun vs H Q E h => ?_) (fun cdv A outer s H vs Q E hr h => ?_)) (by omega)
  · obtain ⟨_, _, _, _, _, _, _, _, _, _, _, _, _, _, rfl, _⟩ := h
    rfl
  obtain ⟨D, ks, P, t, s1, s2, px, py, u, v, sp, sg, x, y, rfl, ⟨p, rfl⟩, hk, hkv, hP, wf, h60, dn, ins, hsp, hx, hy, hsg, zx, zy, q⟩ := h
  have nd := sc_at_turned.nd
  refine ⟨_, (pss_cons (ps_set (i := 5) nd rfl (by first | exact Or.inl rfl | exact Or.inr rfl) (pcl T.shape_by G_shape_by (hr.mono (by omega)) (pa_cons (pv 0) (pa_cons (pv 1) (pa_cons (pe_ix ix_tup (pv 2) pe_int (fun _ _ => rfl)) pa_nil)))))
      (pss_cons (ps_set (i := 6) nd rfl (by first | exact Or.inl rfl | exact Or.inr rfl) (pe_tup (pa_cons (pcl T.times G_times (hr.mono (by omega)) (pa_cons (pv 0) (pa_cons (pe_ix ix_tup (pv 3) pe_int (fun _ _ => rfl)) (pa_cons (pv 5) pa_nil)))) (pa_cons (pcl T.less G_less (hr.mono (by omega)) (pa_cons (pv 5) (pa_cons (pcl T.times G_times (hr.mono (by omega)) (pa_cons (pv 0) (pa_cons (pe_ix ix_tup (pv 3) pe_int (fun _ _ => rfl)) (pa_cons (pv 5) pa_nil)))) pa_nil))) pa_nil))))
      (pss_cons (ps_set (i := 7) nd rfl (by first | exact Or.inl rfl | exact Or.inr rfl) (pcl T.at_spot G_at_spot (hr.mono (by omega)) (pa_cons (pv 0) (pa_cons (pv 1) (pa_cons (pe_ix ix_tup (pv 2) pe_int (fun _ _ => rfl)) (pa_cons (pv 6) (pa_cons (pe_tup (pa_cons (pe_ix ix_tup (pv 4) pe_int (fun _ _ => rfl)) (pa_cons (pe_op op_sub pe_int (pe_ix ix_tup (pv 4) pe_int (fun _ _ => rfl))) pa_nil))) pa_nil)))))))
      (pss_one (ps_ret (pe_tup (pa_cons (pcl T.turned_tile G_turned_tile (hr.mono (by omega)) (pa_cons (pv 0) (pa_cons (pv 5) (pa_cons (pe_ix ix_tup (pv 7) pe_int (fun _ _ => rfl)) pa_nil)))) (pa_cons (pe_ix ix_tup (pv 7) pe_int (fun _ _ => rfl)) (pa_cons (pe_not (pe_ix ix_tup (pv 7) pe_int (fun _ _ => rfl))) pa_nil))))))))), ?_⟩
  obtain ⟨a, up, rfl, ha, hp⟩ := hP
  have wp : Wf ks.length n p := wf
  have zp : p.size ≤ 60 := by rw [Plan.size] at h60; omega
  cases dn with
  | @turn _ t0 dn0 =>
  have zS := sml_shape hk wp zp
  have pS := MF.shape_pos hk wp
  have i0 := MF.inside_turn pS ins
  have hp2 := hp.mono (show n ≤ 14 by omega)
  refine ⟨_, rfl, _, rfl, _, rfl, _, _, _, _, rfl, rfl, ha, at1, D, ks, p, _, _, rfl, hk, hkv, hp2, wp.mono (by omega), zp, fun vS H1 e1 hS => ?_⟩
  refine ⟨_, rfl, _, rfl, _, _, _, _, rfl, rfl, (by walk_at "up"), at1 (a := x) (b := y) (r := []), _, rfl, D, py, _, _, _, rfl, (by walk_at "up"), hS, .of zy (by omega), .of zS, fun v2 H2 e2 h2 => ?_⟩
  refine ⟨_, rfl, _, rfl, _, rfl, _, _, _, _, rfl, rfl, (by walk_at "up"), at0 (a := x) (r := [y]), _, rfl, D, px, _, _, _, rfl, (by walk_at "up"), (by walk_at "up"), .of zx (by omega), .of zS, fun v3 H3 e3 h3 => ?_⟩
  have z3 := zx.mul zS
  refine ⟨D, shape ks p, _, _, _, rfl, (by walk_at "up"), h3, .of zS, .of z3 (by omega), fun v4 H4 e4 h4 => ⟨sz2, fun pI hpI => ?_⟩⟩
  have e5 : Le H4 (upd H4 pI (.tup [v2, v4])) := Le.new hpI
  have hI : SqT K (upd H4 pI (.tup [v2, v4])) pI [v2, v4] := st_of upd_same
  generalize upd H4 pI (.tup [v2, v4]) = H5 at e5 hI
  refine ⟨_, rfl, _, rfl, _, rfl, _, _, _, _, rfl, rfl, (by walk_at "up"), at1 (a := .str "turn") (b := up) (r := []), _, rfl, _, rfl, _, _, _, _, rfl, rfl, (by walk_at "up"), at1 (a := .int s1) (b := .int s2) (r := []), _, rfl, _, _, _, _, rfl, rfl, (by walk_at "up"), at0 (a := .int s1) (r := [.int s2]), _, _, rfl, rfl, sz2, fun pS2 hpS => ?_⟩
  have e6 : Le H5 (upd H5 pS2 (.tup [.int s2, .int (0 - s1)])) := Le.new hpS
  have hI2 : SqT K (upd H5 pS2 (.tup [.int s2, .int (0 - s1)])) pS2 [.int s2, .int (0 - s1)] := st_of upd_same
  generalize upd H5 pS2 (.tup [.int s2, .int (0 - s1)]) = H6 at e6 hI2
  refine ⟨D, ks, p, t0, s2, 0 - s1, py * shape ks p, shape ks p - px * shape ks p, _, _, pI, pS2, v2, v4, rfl, trivial, hk, (by walk_at "up"), (by walk_at "up"), wp, zp, dn0, i0, (by walk_at "up"), (by walk_at "up"), (by walk_at "up"), hI2, (zy.mul zS).mono (by omega), (zS.sub z3).mono (by omega), fun rF H7 e7 hF => ?_⟩
  obtain ⟨pF, uF, rfl, hF1, hF2⟩ := hF
  obtain ⟨t1, t2, t3, t4⟩ := tsz hk wp zp dn0 (by omega)
  have t5 := zS.sub t2
  have t6 := t5.sub t4
  refine ⟨_, rfl, _, rfl, _, rfl, _, _, _, _, rfl, rfl, hF1, at0, D, shape ks p, t0.x, t0.y, t0.w, t0.h, _, _, rfl, (by walk_at "up"), hF2, .of zS, MF.pos_ne pS, ⟨.of t1, .of t2, .of t3, .of t4⟩, .of t5, .of t6, fun rT H8 e8 hT => ?_⟩
  refine ⟨_, rfl, _, _, _, _, rfl, rfl, (by walk_at "up"), at1 (a := uF) (b := .int (t0.k : Int)) (r := [.bl t0.t]), _, rfl, _, _, _, _, rfl, rfl, (by walk_at "up"), at2 (a := uF) (b := .int (t0.k : Int)) (c := .bl t0.t) (r := []), t0.t, rfl, sz3, fun r hr2 => ?_⟩
  have e9 : Le H8 (upd H8 r (.tup [rT, .int (t0.k : Int), .bl (!t0.t)])) := Le.new hr2
  obtain ⟨k1, k2, k3, k4⟩ := MF.turn_tile (s := shape ks p) t0
  refine q _ _ (by walk_at "le") ⟨r, rT, rfl, st_of upd_same, Tl.upL e9 ?_⟩
  rw [k1, k2, k3, k4]
  exact hT

theorem nm_int {K : PySem.W.Frag} {H : Hp} {D : Root} {p : Addr} (n : Int) (h : SqT K H p [.int n, .int 0, .int 1]) : Nm K H (.ref p) (n : QD D) := by
  obtain ⟨h1, h2, h3⟩ := MF.QD.tri_int (D := D) n
  refine ⟨p, rfl, ?_⟩
  unfold tr; rw [h1, h2, h3]; exact h
theorem sc_at_grid : FnScope ["d", "kinds", "plan", "spot", "signs", "shape", "wide", "x", "y", "column", "low", "found", "part"] ["d", "kinds", "plan", "spot", "signs"] (defScope s_at_grid) := ⟨rfl, rfl, rfl, by decide +kernel, rfl, by decide +kernel, by decide +kernel⟩
theorem ok_at_grid (hs : base.NoSeer) {n : Nat} (hn : n + 1 ≤ 14) (G_at_spot : T.at_spot.Ok w base (100 + 2 * n) (spAt K n anyP)) : T.at_grid.Ok w base (101 + 2 * n) (spAt K (n + 1) fun P => ∃ gx gy p, P = .grid gx gy p) := by
  have G_shape_by := ok_shape_A (w := w) T hs
  have G_times := ok_times (w := w) T hs
  have G_less := ok_less (w := w) T hs
  have G_over := ok_over (w := w) T hs
  have G_lowest := ok_lowest (w := w) T hs
  have G_place_in := ok_place_in (w := w) T hs
  have G_grown_tile := ok_grown_tile (w := w) T hs
  refine FnOk.mono (j := 100 + 2 * n + 1) (T.at_grid.ok (k := 100 + 2 * n) sc_at_grid (fun vs H Q E h => ?_) (fun cdv A outer s H vs Q E hr h => ?_)) (by omega)
  · obtain ⟨_, _, _, _, _, _, _, _, _, _, _, _, _, _, rfl, _⟩ := h
    rfl
  obtain ⟨D, ks, P, t, s1, s2, px, py, u, v, sp, sg, x, y, rfl, ⟨gx, gy, p, rfl⟩, hk, hkv, hP, wf, h60, dn, ins, hsp, hx, hy, hsg, zx, zy, q⟩ := h
  have nd := sc_at_grid.nd
  refine ⟨_, (pss_cons (ps_set (i := 5) nd rfl (by first | exact Or.inl rfl | exact Or.inr rfl) (pcl T.shape_by G_shape_by (hr.mono (by omega)) (pa_cons (pv 0) (pa_cons (pv 1) (pa_cons (pe_ix ix_tup (pv 2) pe_int (fun _ _ => rfl)) pa_nil)))))
      (pss_cons (ps_set (i := 6) nd rfl (by first | exact Or.inl rfl | exact Or.inr rfl) (pe_tup (pa_cons (pe_ix ix_tup (pv 2) pe_int (fun _ _ => rfl)) (pa_cons pe_int (pa_cons pe_int pa_nil)))))
      (pss_cons (ps_par (i := 7) (j := 8) rfl nd rfl rfl (by decide) rfl rfl (pa_cons (pcl T.times G_times (hr.mono (by omega)) (pa_cons (pv 0) (pa_cons (pe_ix ix_tup (pv 3) pe_int (fun _ _ => rfl)) (pa_cons (pv 6) pa_nil)))) (pa_cons (pcl T.times G_times (hr.mono (by omega)) (pa_cons (pv 0) (pa_cons (pe_ix ix_tup (pv 3) pe_int (fun _ _ => rfl)) (pa_cons (pv 6) pa_nil)))) pa_nil)) (by rfl))
      (pss_cons (ps_set (i := 9) nd rfl (by first | exact Or.inl rfl | exact Or.inr rfl) (pe_tup (pa_cons (pcl T.place_in G_place_in (hr.mono (by omega)) (pa_cons (pv 0) (pa_cons (pv 7) (pa_cons (pe_ix ix_tup (pv 4) pe_int (fun _ _ => rfl)) pa_nil)))) (pa_cons pe_int (pa_cons pe_int pa_nil)))))
      (pss_cons (ps_set (i := 10) nd rfl (by first | exact Or.inl rfl | exact Or.inr rfl) (pcl T.times G_times (hr.mono (by omega)) (pa_cons (pv 0) (pa_cons (pe_tup (pa_cons (pcl T.place_in G_place_in (hr.mono (by omega)) (pa_cons (pv 0) (pa_cons (pcl T.over G_over (hr.mono (by omega)) (pa_cons (pv 0) (pa_cons (pv 8) (pa_cons (pv 5) pa_nil)))) (pa_cons (pe_ix ix_tup (pv 4) pe_int (fun _ _ => rfl)) pa_nil)))) (pa_cons pe_int (pa_cons pe_int pa_nil)))) (pa_cons (pv 5) pa_nil)))))
      (pss_cons (ps_set (i := 11) nd rfl (by first | exact Or.inl rfl | exact Or.inr rfl) (pcl T.at_spot G_at_spot (hr.mono (by omega)) (pa_cons (pv 0) (pa_cons (pv 1) (pa_cons (pe_ix ix_tup (pv 2) pe_int (fun _ _ => rfl)) (pa_cons (pe_tup (pa_cons (pcl T.less G_less (hr.mono (by omega)) (pa_cons (pv 7) (pa_cons (pv 9) pa_nil))) (pa_cons (pcl T.less G_less (hr.mono (by omega)) (pa_cons (pv 8) (pa_cons (pv 10) pa_nil))) pa_nil))) (pa_cons (pv 4) pa_nil)))))))
      (pss_cons (ps_set (i := 12) nd rfl (by first | exact Or.inl rfl | exact Or.inr rfl) (pcl T.lowest G_lowest (hr.mono (by omega)) (pa_cons pe_int (pa_cons pe_int (pa_cons (pe_ix ix_tup (pv 2) pe_int (fun _ _ => rfl)) pa_nil)))))
      (pss_one (ps_ret (pe_tup (pa_cons (pcl T.grown_tile G_grown_tile (hr.mono (by omega)) (pa_cons (pv 0) (pa_cons (pv 12) (pa_cons (pcl T.times G_times (hr.mono (by omega)) (pa_cons (pv 0) (pa_cons (pv 9) (pa_cons (pv 12) pa_nil)))) (pa_cons (pcl T.times G_times (hr.mono (by omega)) (pa_cons (pv 0) (pa_cons (pv 10) (pa_cons (pv 12) pa_nil)))) (pa_cons (pe_ix ix_tup (pv 11) pe_int (fun _ _ => rfl)) pa_nil)))))) (pa_cons (pe_ix ix_tup (pv 11) pe_int (fun _ _ => rfl)) (pa_cons (pe_ix ix_tup (pv 11) pe_int (fun _ _ => rfl)) pa_nil))))))))))))), ?_⟩
  obtain ⟨a, up, rfl, ha, hp⟩ := hP
  obtain ⟨w1, w2, w3, w4, wp⟩ := wf
  have zp : p.size ≤ 60 := by rw [Plan.size] at h60; omega
  cases dn with
  | @grid _ _ i j _ t0 hi0 hi1 hj0 hj1 dn0 =>
  have zS := sml_shape hk wp zp
  have pS := MF.shape_pos hk wp
  have ly := MF.Down.lies hk wp dn0
  obtain ⟨f1, f2, i0⟩ := MF.inside_grid w1 pS ly ins
  have hp2 := hp.mono (show n ≤ 14 by omega)
  have zu := MF.int_sz (D := D) w1 w2
  have e20 : (2 : Nat) ^ 20 = 1048576 := by decide
  have zi : Sz 20 ((i : Int) : QD D) := Sz.int (by omega)
  have zj : Sz 20 ((j : Int) : QD D) := Sz.int (by omega)
  clear e20
  have une := MF.pos_ne (MF.int_posQ (D := D) w1)
  have zxu := zx.mul zu
  have zyu := zy.mul zu
  have zys := zyu.div zS (MF.pos_ne pS)
  refine ⟨_, rfl, _, rfl, _, rfl, _, _, _, _, rfl, rfl, ha, at3, D, ks, p, _, _, rfl, hk, hkv, hp2, wp.mono (by omega), zp, fun vS H1 e1 hS => ?_⟩
  -- wide
  refine ⟨_, rfl, _, _, _, _, rfl, rfl, (by walk_at "up"), at1 (a := .str "grid") (b := .int gx) (r := [.int gy, up]), sz3, fun pw hpw => ?_⟩
  have e2 : Le H1 (upd H1 pw (.tup [.int gx, .int 0, .int 1])) := Le.new hpw
  have hwide : Nm K (upd H1 pw (.tup [.int gx, .int 0, .int 1])) (.ref pw) (gx : QD D) := nm_int gx (st_of upd_same)
  generalize upd H1 pw (.tup [.int gx, .int 0, .int 1]) = H2 at e2 hwide
  -- x, y
  refine ⟨_, rfl, _, rfl, _, _, _, _, rfl, rfl, (by walk_at "up"), at0 (a := x) (r := [y]), _, rfl, D, px, _, _, _, rfl, (by walk_at "up"), hwide, .of zx (by omega), .of zu, fun vx H3 e3 hvx => ?_⟩
  refine ⟨_, rfl, _, rfl, _, _, _, _, rfl, rfl, (by walk_at "up"), at1 (a := x) (b := y) (r := []), _, rfl, D, py, _, _, _, rfl, (by walk_at "up"), (by walk_at "up"), .of zy (by omega), .of zu, fun vy H4 e4 hvy => ?_⟩
  refine ⟨_, _, rfl, ?_⟩
  -- column
  refine ⟨_, rfl, _, rfl, _, rfl, _, _, _, _, rfl, rfl, (by walk_at "up"), at0 (a := .int s1) (r := [.int s2]), D, _, i, s1, vx, rfl, (by walk_at "up"), .of zxu (by omega), f1, fun H5 e5 => ⟨sz3, fun pc hpc => ?_⟩⟩
  have e6 : Le H5 (upd H5 pc (.tup [.int i, .int 0, .int 1])) := Le.new hpc
  have hcol : Nm K (upd H5 pc (.tup [.int i, .int 0, .int 1])) (.ref pc) (i : QD D) := nm_int i (st_of upd_same)
  generalize upd H5 pc (.tup [.int i, .int 0, .int 1]) = H6 at e6 hcol
  -- low
  refine ⟨_, rfl, _, rfl, _, rfl, _, rfl, _, rfl, D, _, shape ks p, _, _, rfl, (by walk_at "up"), (by walk_at "up"), .of zyu (by omega), .of zS, MF.pos_ne pS, fun vq H7 e7 hvq => ?_⟩
  refine ⟨_, rfl, _, _, _, _, rfl, rfl, (by walk_at "up"), at1 (a := .int s1) (b := .int s2) (r := []), D, _, j, s2, vq, rfl, hvq, .of zys (by omega), f2, fun H8 e8 => ⟨sz3, fun pr hpr => ?_⟩⟩
  have e9 : Le H8 (upd H8 pr (.tup [.int j, .int 0, .int 1])) := Le.new hpr
  have hrow : Nm K (upd H8 pr (.tup [.int j, .int 0, .int 1])) (.ref pr) (j : QD D) := nm_int j (st_of upd_same)
  generalize upd H8 pr (.tup [.int j, .int 0, .int 1]) = H9 at e9 hrow
  have zjs := zj.mul zS
  refine ⟨_, rfl, D, (j : QD D), shape ks p, _, _, rfl, hrow, (by walk_at "up"), .of zj, .of zS, fun vl H10 e10 hvl => ?_⟩
  -- found
  refine ⟨_, rfl, _, rfl, _, rfl, _, _, _, _, rfl, rfl, (by walk_at "up"), at3 (a := .str "grid") (b := .int gx) (c := .int gy) (d := up) (r := []), _, rfl, _, rfl, D, px * (gx : QD D), (i : QD D), _, _, rfl, (by walk_at "up"), (by walk_at "up"), .of zxu (by omega), .of zi, fun v11 H11 e11 h11 => ?_⟩
  refine ⟨_, rfl, _, rfl, D, py * (gx : QD D), (j : QD D) * shape ks p, _, _, rfl, (by walk_at "up"), (by walk_at "up"), .of zyu (by omega), .of zjs, fun v12 H12 e12 h12 => ⟨sz2, fun pI hpI => ?_⟩⟩
  have e13 : Le H12 (upd H12 pI (.tup [v11, v12])) := Le.new hpI
  have hI : SqT K (upd H12 pI (.tup [v11, v12])) pI [v11, v12] := st_of upd_same
  generalize upd H12 pI (.tup [v11, v12]) = H13 at e13 hI
  refine ⟨_, rfl, D, ks, p, t0, s1, s2, px * (gx : QD D) - (i : QD D), py * (gx : QD D) - (j : QD D) * shape ks p, _, _, pI, sg, v11, v12, rfl, trivial, hk, (by walk_at "up"), (by walk_at "up"), wp, zp, dn0, i0, hI, (by walk_at "up"), (by walk_at "up"), (by walk_at "up"), (zxu.sub zi).mono (by omega), (zyu.sub zjs).mono (by omega), fun rF H14 e14 hF => ?_⟩
  obtain ⟨pF, uF, rfl, hF1, hF2⟩ := hF
  obtain ⟨t1, t2, t3, t4⟩ := tsz hk wp zp dn0 (by omega)
  -- part
  have zpt := Sz.one.div zu une
  refine ⟨_, rfl, _, _, _, _, rfl, rfl, (by walk_at "up"), at1 (a := .str "grid") (b := .int gx) (r := [.int gy, up]), D, (1 : QD D) / (gx : QD D), 1, 0, gx, rfl, u_ne w1, (by rw [MF.QD.of_frac, MF.QD.int_one]), fun vp H15 e15 hvp => ?_⟩
  refine ⟨_, rfl, _, rfl, _, rfl, _, rfl, _, rfl, D, (i : QD D), (1 : QD D) / (gx : QD D), _, _, rfl, (by walk_at "up"), hvp, .of zi, .of zpt, fun v16 H16 e16 h16 => ?_⟩
  refine ⟨_, rfl, _, rfl, _, rfl, D, (j : QD D) * shape ks p, (1 : QD D) / (gx : QD D), _, _, rfl, (by walk_at "up"), (by walk_at "up"), .of zjs, .of zpt, fun v17 H17 e17 h17 => ?_⟩
  refine ⟨_, rfl, _, _, _, _, rfl, rfl, (by walk_at "up"), at0 (a := uF) (r := [.int (t0.k : Int), .bl t0.t]), D, (1 : QD D) / (gx : QD D), (i : QD D) * ((1 : QD D) / (gx : QD D)), (j : QD D) * shape ks p * ((1 : QD D) / (gx : QD D)), t0.x, t0.y, t0.w, t0.h, _, _, _, _, rfl, ⟨(by walk_at "up"), (by walk_at "up"), h17⟩, (by walk_at "up"), ⟨.of zpt, .of (zi.mul zpt), .of (zjs.mul zpt)⟩, ⟨.of t1, .of t2, .of t3, .of t4⟩, .of (t1.mul zpt), .of (t2.mul zpt), fun rT H18 e18 hT => ?_⟩
  refine ⟨_, rfl, _, _, _, _, rfl, rfl, (by walk_at "up"), at1 (a := uF) (b := .int (t0.k : Int)) (r := [.bl t0.t]), _, rfl, _, _, _, _, rfl, rfl, (by walk_at "up"), at2 (a := uF) (b := .int (t0.k : Int)) (c := .bl t0.t) (r := []), sz3, fun r hr2 => ?_⟩
  have e19 : Le H18 (upd H18 r (.tup [rT, .int (t0.k : Int), .bl t0.t])) := Le.new hr2
  refine q _ _ (by walk_at "le") ⟨r, rT, rfl, st_of upd_same, Tl.upL e19 ?_⟩
  have g1 : (i : QD D) * ((1 : QD D) / (gx : QD D)) = (i : QD D) / (gx : QD D) := by grind
  have g2 : (j : QD D) * shape ks p * ((1 : QD D) / (gx : QD D)) = shape ks p * ((j : QD D) / (gx : QD D)) := by grind
  rw [g1, g2] at hT
  exact hT
end
end MW

namespace MW
open PySem PySem.Spec PyProof.Rows L2
open MF (Root QD Plan Wf KOk shape sumQ Tile Sd Inside Down share)
open MF.QD (Sz)
local macro_rules | `(tactic| walk_at "up") => `(tactic| first | assumption | (refine MW.Nm.up (by assumption) ?_; walk_at "up") | (refine MW.Le.tup (by assumption) ?_; walk_at "up") | (refine MW.KindsAt.upL (by assumption) ?_; walk_at "up") | (refine MW.PlanAt.upL (by assumption) ?_; walk_at "up") | (refine MW.Tl.upL (by assumption) ?_; walk_at "up"))
local macro_rules | `(tactic| walk_at "le") => `(tactic| first | exact MW.Le.refl _ | assumption | (refine MW.Le.trans ?_ (by assumption); walk_at "le"))
section
variable {K : PySem.W.Frag} {mg : Str → Option Value} {w : World} {base : Heap} (T : Txt K mg)

theorem sc_at_upon : FnScope ["d", "kinds", "plan", "spot", "signs", "shapes", "part", "k", "low", "found"] ["d", "kinds", "plan", "spot", "signs"] (defScope s_at_upon) := ⟨rfl, rfl, rfl, by decide +kernel, rfl, by decide +kernel, by decide +kernel⟩
theorem ok_at_upon (hs : base.NoSeer) {n : Nat} (hn : n + 1 ≤ 14) (G_at_spot : T.at_spot.Ok w base (100 + 2 * n) (spAt K n anyP)) : T.at_upon.Ok w base (101 + 2 * n) (spAt K (n + 1) fun P => ∃ ps, P = .upon ps) := by
  have G_shape_by := ok_shape_A (w := w) T hs
  have G_less := ok_less (w := w) T hs
  have G_part_at := ok_part_at (w := w) T hs
  have G_grown_tile := ok_grown_tile (w := w) T hs
  refine FnOk.mono (j := 100 + 2 * n + 1) (T.at_upon.ok (k := 100 + 2 * n) sc_at_upon (fun vs H Q E h => ?_) (fun cdv A outer s H vs Q E hr h => ?_)) (by omega)
  · obtain ⟨_, _, _, _, _, _, _, _, _, _, _, _, _, _, rfl, _⟩ := h
    rfl
  obtain ⟨D, ks, P, t, s1, s2, px, py, u, v, sp, sg, x, y, rfl, ⟨ps, rfl⟩, hk, hkv, hP, wf, h60, dn, ins, hsp, hx, hy, hsg, zx, zy, q⟩ := h
  have nd := sc_at_upon.nd
  refine ⟨_, (pss_cons (ps_setLc (i := 5) (own := [("part", 6)]) (g := gName 6) (tt := tYes) rfl nd rfl rfl (sw_true rfl rfl rfl (by decide +kernel)) (pi_tup (pe_ix ix_tup (pv 2) pe_int (fun _ _ => rfl))) (blkOk_by (own := [("part", 6)]) (N := ["d", "kinds", "plan", "spot", "signs", "shapes", "part", "k", "low", "found"]) (sc := defScope s_at_upon) (by decide +kernel)) (fun _ _ _ _ _ => pg_name (i := 6) nd rfl (Or.inl rfl)) (fun _ _ _ _ _ => pts_nil) (fun _ _ _ _ _ => (pcl T.shape_by G_shape_by (hr.mono (by omega)) (pa_cons (pv 0) (pa_cons (pv 1) (pa_cons (pv 6) pa_nil))))))
      (pss_cons (ps_asg (pcl T.part_at G_part_at (hr.mono (by omega)) (pa_cons (pv 0) (pa_cons (pv 5) (pa_cons (pe_ix ix_tup (pv 3) pe_int (fun _ _ => rfl)) (pa_cons (pe_ix ix_tup (pv 4) pe_int (fun _ _ => rfl)) pa_nil))))) (pg_tup rfl (pgs_cons (pg_name (i := 7) nd rfl (by first | exact Or.inl rfl | exact Or.inr rfl)) (pgs_cons (pg_name (i := 8) nd rfl (by first | exact Or.inl rfl | exact Or.inr rfl)) pgs_nil))))
      (pss_cons (ps_set (i := 9) nd rfl (by first | exact Or.inl rfl | exact Or.inr rfl) (pcl T.at_spot G_at_spot (hr.mono (by omega)) (pa_cons (pv 0) (pa_cons (pv 1) (pa_cons (pe_ix ix_tup (pe_ix ix_tup (pv 2) pe_int (fun _ _ => rfl)) (pv 7) (fun _ _ => rfl)) (pa_cons (pe_tup (pa_cons (pe_ix ix_tup (pv 3) pe_int (fun _ _ => rfl)) (pa_cons (pcl T.less G_less (hr.mono (by omega)) (pa_cons (pe_ix ix_tup (pv 3) pe_int (fun _ _ => rfl)) (pa_cons (pv 8) pa_nil))) pa_nil))) (pa_cons (pv 4) pa_nil)))))))
      (pss_one (ps_ret (pe_tup (pa_cons (pcl T.grown_tile G_grown_tile (hr.mono (by omega)) (pa_cons (pv 0) (pa_cons (pe_glob (v := .ref T.aO) rfl T.mgONE rfl) (pa_cons (pe_glob (v := .ref T.aN) rfl T.mgNOUGHT rfl) (pa_cons (pv 8) (pa_cons (pe_ix ix_tup (pv 9) pe_int (fun _ _ => rfl)) pa_nil)))))) (pa_cons (pe_ix ix_tup (pv 9) pe_int (fun _ _ => rfl)) (pa_cons (pe_ix ix_tup (pv 9) pe_int (fun _ _ => rfl)) pa_nil))))))))), ?_⟩
  obtain ⟨a, b, us, rfl, ha, hb, al⟩ := hP
  obtain ⟨w1, w2, w3⟩ := wf
  have h60' : Plan.sizes ps ≤ 60 := by rw [Plan.size] at h60; omega
  cases dn with
  | @upon _ i p t0 hi dn0 =>
  have hm := List.mem_of_getElem? hi
  have wp := w3 p hm
  have zp : p.size ≤ 60 := by have := MF.size_mem hm; omega
  have zS := sml_shape hk wp zp
  have pS := MF.shape_pos hk wp
  have ly := MF.Down.lies hk wp dn0
  obtain ⟨f1, i0⟩ := MF.inside_upon ly ins
  have hix := MF.getElem?_map' (f := shape ks) hi
  have f2 : Sd s2 (sumQ ((ps.map (shape ks)).take i)) py (sumQ ((ps.map (shape ks)).take (i + 1))) := by rw [MF.sumQ_take hix]; exact f1
  have zL := MF.sz_shapes hk w3 h60' w2 i
  refine ⟨_, rfl, _, _, _, _, rfl, rfl, ha, at1, b, rfl, ⟨_, hb⟩, fun Dd hD => ?_⟩
  refine comp_tup (xs := us) (fun i z H' => ∃ p, ps[i]? = some p ∧ Nm K H' z (shape ks p)) (fun i z H H' e h => ⟨h.choose, h.choose_spec.1, h.choose_spec.2.upT e⟩) (fun i z H h => h.choose_spec.2.nint) hb (by rw [al.1]; omega) hD (fun i z H' hi e Q' q' => ?_) (fun ys H1 e1 hl hn' hr' => ?_) mono_name
  · obtain ⟨p, hp, hP⟩ := al.left hi
    have hm := List.mem_of_getElem? hp
    have := MF.size_mem hm
    exact ⟨rfl, _, rfl, _, rfl, _, rfl, D, ks, p, _, _, rfl, hk, hkv.upL e, (hP.upL e).mono (by omega), (w3 p hm).mono (by omega), by omega, fun v1 H1 e1 h1 => q' _ _ e1 ⟨p, hp, h1⟩⟩
  have al2 := al_of (f := shape ks) (ps := ps) (by rw [hn', al.1]) hr'
  have hlt : i < ps.length := (List.getElem?_eq_some_iff.mp hi).1
  obtain ⟨up, hup, hPp⟩ := al.right hi
  refine ⟨_, rfl, _, rfl, _, rfl, _, _, _, _, rfl, rfl, (by walk_at "up"), at1 (a := x) (b := y) (r := []), _, rfl, _, _, _, _, rfl, rfl, (by walk_at "up"), at1 (a := .int s1) (b := .int s2) (r := []), D, ps.map (shape ks), py, i, s2, Dd, ys, y, rfl, sq_of hl, al2, (by walk_at "up"), fun z hz => ?_, by rw [List.length_map]; exact hlt, by rw [List.length_map]; exact w2, f2, .of zy (by omega), fun z hz => ?_, fun j => .of (MF.sz_shapes hk w3 h60' w2 j), fun j => .of ((MF.sz_shapes hk w3 h60' w2 j).sub zy) (by omega), fun r bb H2 e2 hr2 hbb => ?_⟩
  · obtain ⟨z, hz2, rfl⟩ := List.mem_map.mp hz
    exact MF.shape_pos hk (w3 z hz2)
  · obtain ⟨z, hz2, rfl⟩ := List.mem_map.mp hz
    exact .of (sml_shape hk (w3 z hz2) (by have := MF.size_mem hz2; omega))
  refine ⟨_, _, rfl, hr2, rfl, _, _, rfl, _, _, rfl, rfl, ?_⟩
  refine ⟨_, rfl, _, rfl, _, rfl, _, _, _, _, rfl, rfl, (by walk_at "up"), at1 (a := .str "upon") (b := .ref b) (r := []), _, rfl, _, _, _, _, rfl, rfl, (by walk_at "up"), atI_nat hup, ?_⟩
  refine ⟨_, rfl, _, _, _, _, rfl, rfl, (by walk_at "up"), at0 (a := x) (r := [y]), _, rfl, _, _, _, _, rfl, rfl, (by walk_at "up"), at1 (a := x) (b := y) (r := []), _, rfl, D, py, _, _, _, rfl, (by walk_at "up"), hbb, .of zy (by omega), .of zL, fun v3 H3 e3 h3 => ⟨sz2, fun pI hpI => ?_⟩⟩
  have e4 : Le H3 (upd H3 pI (.tup [x, v3])) := Le.new hpI
  have hI : SqT K (upd H3 pI (.tup [x, v3])) pI [x, v3] := st_of upd_same
  generalize upd H3 pI (.tup [x, v3]) = H4 at e4 hI
  refine ⟨_, rfl, D, ks, p, t0, s1, s2, px, py - sumQ ((ps.map (shape ks)).take i), _, _, pI, sg, x, v3, rfl, trivial, hk, (by walk_at "up"), (by walk_at "up"), wp, zp, dn0, i0, hI, (by walk_at "up"), (by walk_at "up"), (by walk_at "up"), zx.mono (by omega), (zy.sub zL).mono (by omega), fun rF H5 e5 hF => ?_⟩
  obtain ⟨pF, uF, rfl, hF1, hF2⟩ := hF
  obtain ⟨t1, t2, t3, t4⟩ := tsz hk wp zp dn0 (by omega)
  refine ⟨_, rfl, _, rfl, _, rfl, _, _, _, _, rfl, rfl, hF1, at0, D, 1, 0, sumQ ((ps.map (shape ks)).take i), t0.x, t0.y, t0.w, t0.h, _, _, _, _, rfl, ⟨nmO T _, nmN T _, (by walk_at "up")⟩, hF2, ⟨.of Sz.one, .of Sz.zero, .of zL⟩, ⟨.of t1, .of t2, .of t3, .of t4⟩, .of (t1.mul Sz.one), .of (t2.mul Sz.one), fun rT H6 e6 hT => ?_⟩
  refine ⟨_, rfl, _, _, _, _, rfl, rfl, (by walk_at "up"), at1 (a := uF) (b := .int (t0.k : Int)) (r := [.bl t0.t]), _, rfl, _, _, _, _, rfl, rfl, (by walk_at "up"), at2 (a := uF) (b := .int (t0.k : Int)) (c := .bl t0.t) (r := []), sz3, fun r hr2 => ?_⟩
  have e7 : Le H6 (upd H6 r (.tup [rT, .int (t0.k : Int), .bl t0.t])) := Le.new hr2
  exact q _ _ (by walk_at "le") ⟨r, rT, rfl, st_of upd_same, Tl.upL e7 hT⟩
theorem sc_at_beside : FnScope ["d", "kinds", "plan", "spot", "signs", "shares", "k", "left", "inner", "found"] ["d", "kinds", "plan", "spot", "signs"] (defScope s_at_beside) := ⟨rfl, rfl, rfl, by decide +kernel, rfl, by decide +kernel, by decide +kernel⟩
theorem ok_at_beside (hs : base.NoSeer) {n : Nat} (hn : n + 1 ≤ 14) (G_at_spot : T.at_spot.Ok w base (100 + 2 * n) (spAt K n anyP)) : T.at_beside.Ok w base (101 + 2 * n) (spAt K (n + 1) fun P => ∃ ps, P = .beside ps) := by
  have G_shares_of := ok_shares_of (w := w) T hs n (by omega)
  have G_less := ok_less (w := w) T hs
  have G_over := ok_over (w := w) T hs
  have G_part_at := ok_part_at (w := w) T hs
  have G_grown_tile := ok_grown_tile (w := w) T hs
  refine FnOk.mono (j := 100 + 2 * n + 1) (T.at_beside.ok (k := 100 + 2 * n) sc_at_beside (fun vs H Q E h => ?_) (fun cdv A outer s H vs Q E hr h => ?_)) (by omega)
  · obtain ⟨_, _, _, _, _, _, _, _, _, _, _, _, _, _, rfl, _⟩ := h
    rfl
  obtain ⟨D, ks, P, t, s1, s2, px, py, u, v, sp, sg, x, y, rfl, ⟨ps, rfl⟩, hk, hkv, hP, wf, h60, dn, ins, hsp, hx, hy, hsg, zx, zy, q⟩ := h
  have nd := sc_at_beside.nd
  refine ⟨_, (pss_cons (ps_set (i := 5) nd rfl (by first | exact Or.inl rfl | exact Or.inr rfl) (pcl T.shares_of G_shares_of (hr.mono (by omega)) (pa_cons (pv 0) (pa_cons (pv 1) (pa_cons (pv 2) pa_nil)))))
      (pss_cons (ps_asg (pcl T.part_at G_part_at (hr.mono (by omega)) (pa_cons (pv 0) (pa_cons (pv 5) (pa_cons (pe_ix ix_tup (pv 3) pe_int (fun _ _ => rfl)) (pa_cons (pe_ix ix_tup (pv 4) pe_int (fun _ _ => rfl)) pa_nil))))) (pg_tup rfl (pgs_cons (pg_name (i := 6) nd rfl (by first | exact Or.inl rfl | exact Or.inr rfl)) (pgs_cons (pg_name (i := 7) nd rfl (by first | exact Or.inl rfl | exact Or.inr rfl)) pgs_nil))))
      (pss_cons (ps_set (i := 8) nd rfl (by first | exact Or.inl rfl | exact Or.inr rfl) (pe_tup (pa_cons (pcl T.over G_over (hr.mono (by omega)) (pa_cons (pv 0) (pa_cons (pcl T.less G_less (hr.mono (by omega)) (pa_cons (pe_ix ix_tup (pv 3) pe_int (fun _ _ => rfl)) (pa_cons (pv 7) pa_nil))) (pa_cons (pe_ix ix_list (pv 5) (pv 6) (fun _ _ => rfl)) pa_nil)))) (pa_cons (pcl T.over G_over (hr.mono (by omega)) (pa_cons (pv 0) (pa_cons (pe_ix ix_tup (pv 3) pe_int (fun _ _ => rfl)) (pa_cons (pe_ix ix_list (pv 5) (pv 6) (fun _ _ => rfl)) pa_nil)))) pa_nil))))
      (pss_cons (ps_set (i := 9) nd rfl (by first | exact Or.inl rfl | exact Or.inr rfl) (pcl T.at_spot G_at_spot (hr.mono (by omega)) (pa_cons (pv 0) (pa_cons (pv 1) (pa_cons (pe_ix ix_tup (pe_ix ix_tup (pv 2) pe_int (fun _ _ => rfl)) (pv 6) (fun _ _ => rfl)) (pa_cons (pv 8) (pa_cons (pv 4) pa_nil)))))))
      (pss_one (ps_ret (pe_tup (pa_cons (pcl T.grown_tile G_grown_tile (hr.mono (by omega)) (pa_cons (pv 0) (pa_cons (pe_ix ix_list (pv 5) (pv 6) (fun _ _ => rfl)) (pa_cons (pv 7) (pa_cons (pe_glob (v := .ref T.aN) rfl T.mgNOUGHT rfl) (pa_cons (pe_ix ix_tup (pv 9) pe_int (fun _ _ => rfl)) pa_nil)))))) (pa_cons (pe_ix ix_tup (pv 9) pe_int (fun _ _ => rfl)) (pa_cons (pe_ix ix_tup (pv 9) pe_int (fun _ _ => rfl)) pa_nil)))))))))), ?_⟩
  obtain ⟨a, b, us, rfl, ha, hb, al⟩ := id hP
  have w2 := wf.2.1
  have w3 := wf.2.2
  cases dn with
  | @beside _ i p t0 hi dn0 =>
  have hm := List.mem_of_getElem? hi
  have wp := w3 p hm
  have zp : p.size ≤ 60 := by have := MF.size_mem hm; rw [Plan.size] at h60; omega
  have ly := MF.Down.lies hk wp dn0
  have pf := MF.share_pos hk wf hm
  obtain ⟨f1, i0⟩ := MF.inside_beside pf ly ins
  have hix := MF.getElem?_map' (f := share ks ps) hi
  have f2 : Sd s1 (sumQ ((ps.map (share ks ps)).take i)) px (sumQ ((ps.map (share ks ps)).take (i + 1))) := by rw [MF.sumQ_take hix]; exact f1
  have zL := MF.sz_lefts hk wf h60 i
  have zF := MF.sz_share hk wf h60 hm
  have nF := MF.pos_ne pf
  have zd := zx.sub zL
  refine ⟨_, rfl, _, rfl, _, rfl, D, ks, ps, _, _, rfl, hk, hkv, hP, wf, h60, fun l ys H1 e1 hl al2 => ?_⟩
  have hlt : i < ps.length := (List.getElem?_eq_some_iff.mp hi).1
  obtain ⟨up, hup, hPp⟩ := al.right hi
  obtain ⟨us2, hus2, hNs⟩ := al2.right hix
  have nb := al2.nbag
  refine ⟨_, rfl, _, rfl, _, rfl, _, _, _, _, rfl, rfl, (by walk_at "up"), at0 (a := x) (r := [y]), _, rfl, _, _, _, _, rfl, rfl, (by walk_at "up"), at0 (a := .int s1) (r := [.int s2]), D, ps.map (share ks ps), px, i, s1, l, ys, x, rfl, sq_of hl, al2, (by walk_at "up"), fun z hz => ?_, by rw [List.length_map]; exact hlt, by rw [List.length_map]; exact w2, f2, .of zx (by omega), fun z hz => ?_, fun j => .of (MF.sz_lefts hk wf h60 j), fun j => .of ((MF.sz_lefts hk wf h60 j).sub zx) (by omega), fun r bb H2 e2 hr2 hbb => ?_⟩
  · obtain ⟨z, hz2, rfl⟩ := List.mem_map.mp hz
    exact MF.share_pos hk wf hz2
  · obtain ⟨z, hz2, rfl⟩ := List.mem_map.mp hz
    exact .of (MF.sz_share hk wf h60 hz2)
  have hl2 := e2.lst nb (sq_of (K := K) hl)
  refine ⟨_, _, rfl, hr2, rfl, _, _, rfl, _, _, rfl, rfl, ?_⟩
  refine ⟨_, rfl, _, rfl, _, _, _, _, rfl, rfl, (by walk_at "up"), at0 (a := x) (r := [y]), _, rfl, D, px, _, _, _, rfl, (by walk_at "up"), hbb, .of zx (by omega), .of zL, fun v3 H3 e3 h3 => ?_⟩
  have hl3 := e3.lst nb hl2
  refine ⟨_, rfl, _, rfl, _, _, _, _, rfl, rfl, hl3, atI_nat hus2, D, _, share ks ps p, _, _, rfl, h3, (by walk_at "up"), .of zd (by omega), .of zF, nF, fun v4 H4 e4 h4 => ?_⟩
  have hl4 := e4.lst nb hl3
  refine ⟨_, rfl, _, rfl, _, _, _, _, rfl, rfl, (by walk_at "up"), at1 (a := x) (b := y) (r := []), _, rfl, _, rfl, _, _, _, _, rfl, rfl, hl4, atI_nat hus2, D, py, share ks ps p, _, _, rfl, (by walk_at "up"), (by walk_at "up"), .of zy (by omega), .of zF, nF, fun v5 H5 e5 h5 => ⟨sz2, fun pI hpI => ?_⟩⟩
  have hl5 := e5.lst nb hl4
  have e6 : Le H5 (upd H5 pI (.tup [v4, v5])) := Le.new hpI
  have hl6 := e6.lst nb hl5
  have hI : SqT K (upd H5 pI (.tup [v4, v5])) pI [v4, v5] := st_of upd_same
  generalize upd H5 pI (.tup [v4, v5]) = H6 at e6 hI hl6
  refine ⟨_, rfl, _, rfl, _, rfl, _, _, _, _, rfl, rfl, (by walk_at "up"), at1 (a := .str "beside") (b := .ref b) (r := []), _, rfl, _, _, _, _, rfl, rfl, (by walk_at "up"), atI_nat hup, ?_⟩
  refine ⟨_, rfl, _, rfl, D, ks, p, t0, s1, s2, (px - sumQ ((ps.map (share ks ps)).take i)) / share ks ps p, py / share ks ps p, _, _, pI, sg, v4, v5, rfl, trivial, hk, (by walk_at "up"), (by walk_at "up"), wp, zp, dn0, i0, hI, (by walk_at "up"), (by walk_at "up"), (by walk_at "up"), (zd.div zF nF).mono (by omega), (zy.div zF nF).mono (by omega), fun rF H7 e7 hF => ?_⟩
  have hl7 := e7.lst nb hl6
  obtain ⟨pF, uF, rfl, hF1, hF2⟩ := hF
  obtain ⟨t1, t2, t3, t4⟩ := tsz hk wp zp dn0 (by omega)
  refine ⟨_, rfl, _, rfl, _, rfl, _, _, _, _, rfl, rfl, hl7, atI_nat hus2, _, rfl, _, rfl, _, _, _, _, rfl, rfl, hF1, at0, D, share ks ps p, sumQ ((ps.map (share ks ps)).take i), 0, t0.x, t0.y, t0.w, t0.h, _, _, _, _, rfl, ⟨(by walk_at "up"), (by walk_at "up"), nmN T _⟩, hF2, ⟨.of zF, .of zL, .of Sz.zero⟩, ⟨.of t1, .of t2, .of t3, .of t4⟩, .of (t1.mul zF), .of (t2.mul zF), fun rT H8 e8 hT => ?_⟩
  refine ⟨_, rfl, _, _, _, _, rfl, rfl, (by walk_at "up"), at1 (a := uF) (b := .int (t0.k : Int)) (r := [.bl t0.t]), _, rfl, _, _, _, _, rfl, rfl, (by walk_at "up"), at2 (a := uF) (b := .int (t0.k : Int)) (c := .bl t0.t) (r := []), sz3, fun r hr2 => ?_⟩
  have e9 : Le H8 (upd H8 r (.tup [rT, .int (t0.k : Int), .bl t0.t])) := Le.new hr2
  exact q _ _ (by walk_at "le") ⟨r, rT, rfl, st_of upd_same, Tl.upL e9 hT⟩
end
end MW

namespace MW
open PySem PySem.Spec PyProof.Rows L2
open MF (Root QD Plan Wf KOk shape sumQ Tile Sd Inside Down share)
open MF.QD (Sz)
local macro_rules | `(tactic| walk_at "up") => `(tactic| first | assumption | (refine MW.Nm.up (by assumption) ?_; walk_at "up") | (refine MW.Le.tup (by assumption) ?_; walk_at "up") | (refine MW.KindsAt.upL (by assumption) ?_; walk_at "up") | (refine MW.PlanAt.upL (by assumption) ?_; walk_at "up") | (refine MW.Tl.upL (by assumption) ?_; walk_at "up"))
local macro_rules | `(tactic| walk_at "le") => `(tactic| first | exact MW.Le.refl _ | assumption | (refine MW.Le.trans ?_ (by assumption); walk_at "le"))
section
variable {K : PySem.W.Frag} {mg : Str → Option Value} {w : World} {base : Heap} (T : Txt K mg)


theorem sc_at_spot : FnScope ["d", "kinds", "plan", "spot", "signs"] ["d", "kinds", "plan", "spot", "signs"] (defScope s_at_spot) := ⟨rfl, rfl, rfl, by decide +kernel, rfl, by decide +kernel, by decide +kernel⟩
theorem ok_at_spot (hs : base.NoSeer) : ∀ n : Nat, n ≤ 14 → T.at_spot.Ok w base (100 + 2 * n) (spAt K n anyP)
  | 0, _ => by
    have no : ∀ vs H Q E, ¬ spAt K 0 anyP vs H Q E := fun vs H Q E h => by
      obtain ⟨_, _, P, _, _, _, _, _, _, v, _, _, _, _, _, _, _, _, hP, _⟩ := h
      exact hP
    exact ⟨fun vs H Q E h => absurd h (no vs H Q E), fun A outer s H args us vs Q E _ _ _ _ h => absurd h (no vs H Q E)⟩
  | n + 1, hn => by
    have ih := ok_at_spot hs n (by omega)
    have G_at_turned := ok_at_turned T hs hn ih
    have G_at_grid := ok_at_grid T hs hn ih
    have G_at_upon := ok_at_upon T hs hn ih
    have G_at_beside := ok_at_beside T hs hn ih
    refine FnOk.mono (j := 101 + 2 * n + 1) (T.at_spot.ok (k := 101 + 2 * n) sc_at_spot (fun vs H Q E h => ?_) (fun cdv A outer s H vs Q E hr h => ?_)) (by omega)
    · obtain ⟨_, _, _, _, _, _, _, _, _, _, _, _, _, _, rfl, _⟩ := h
      rfl
    obtain ⟨D, ks, P, t, s1, s2, px, py, u, v, sp, sg, x, y, rfl, _, hk, hkv, hP, wf, h60, dn, ins, hsp, hx, hy, hsg, zx, zy, q⟩ := h
    have nd := sc_at_spot.nd
    refine ⟨_, (pss_cons (ps_if (pt_cmpR op_eq (pe_ix ix_tup (pv 2) pe_int (fun _ _ => rfl)) pe_str (nomark _)) (pss_one (ps_ret (pe_tup (pa_cons (pe_tup (pa_cons (pe_glob (v := .ref T.aN) rfl T.mgNOUGHT rfl) (pa_cons (pe_glob (v := .ref T.aN) rfl T.mgNOUGHT rfl) (pa_cons (pe_glob (v := .ref T.aO) rfl T.mgONE rfl) (pa_cons (pe_ix ix_tup (pv 1) (pe_ix ix_tup (pv 2) pe_int (fun _ _ => rfl)) (fun _ _ => rfl)) pa_nil))))) (pa_cons (pe_ix ix_tup (pv 2) pe_int (fun _ _ => rfl)) (pa_cons pe_bl pa_nil)))))) pss_nil)
      (pss_cons (ps_if (pt_cmpR op_eq (pe_ix ix_tup (pv 2) pe_int (fun _ _ => rfl)) pe_str (nomark _)) (pss_one (ps_ret (pcl T.at_turned G_at_turned (hr.mono (by omega)) (pa_cons (pv 0) (pa_cons (pv 1) (pa_cons (pv 2) (pa_cons (pv 3) (pa_cons (pv 4) pa_nil)))))))) pss_nil)
      (pss_cons (ps_if (pt_cmpR op_eq (pe_ix ix_tup (pv 2) pe_int (fun _ _ => rfl)) pe_str (nomark _)) (pss_one (ps_ret (pcl T.at_grid G_at_grid (hr.mono (by omega)) (pa_cons (pv 0) (pa_cons (pv 1) (pa_cons (pv 2) (pa_cons (pv 3) (pa_cons (pv 4) pa_nil)))))))) pss_nil)
      (pss_cons (ps_if (pt_cmpR op_eq (pe_ix ix_tup (pv 2) pe_int (fun _ _ => rfl)) pe_str (nomark _)) (pss_one (ps_ret (pcl T.at_upon G_at_upon (hr.mono (by omega)) (pa_cons (pv 0) (pa_cons (pv 1) (pa_cons (pv 2) (pa_cons (pv 3) (pa_cons (pv 4) pa_nil)))))))) pss_nil)
      (pss_one (ps_ret (pcl T.at_beside G_at_beside (hr.mono (by omega)) (pa_cons (pv 0) (pa_cons (pv 1) (pa_cons (pv 2) (pa_cons (pv 3) (pa_cons (pv 4) pa_nil)))))))))))), ?_⟩
    cases P with
    | kind k =>
      obtain ⟨a, rfl, ha⟩ := hP
      obtain ⟨b, us, rfl, hb, al⟩ := hkv
      obtain ⟨uk, huk, hn⟩ := kinds_ix al wf
      cases dn
      refine ⟨_, rfl, _, _, _, _, rfl, rfl, ha, at0, rfl, _, rfl, ifT rfl ?_⟩
      refine ⟨_, rfl, _, rfl, _, _, _, _, rfl, rfl, ha, at1, _, _, _, _, rfl, rfl, hb, huk, sz4, fun p1 hp1 => ?_⟩
      have e1 : Le H (upd H p1 (.tup [.ref T.aN, .ref T.aN, .ref T.aO, uk])) := Le.new hp1
      have h1 : SqT K (upd H p1 (.tup [.ref T.aN, .ref T.aN, .ref T.aO, uk])) p1 [.ref T.aN, .ref T.aN, .ref T.aO, uk] := st_of upd_same
      generalize upd H p1 (.tup [.ref T.aN, .ref T.aN, .ref T.aO, uk]) = H1 at e1 h1
      refine ⟨_, rfl, _, _, _, _, rfl, rfl, e1.tup ha, at1, sz3, fun r hr2 => ?_⟩
      have e2 : Le H1 (upd H1 r (.tup [.ref p1, .int (k : Int), .bl false])) := Le.new hr2
      exact q _ _ (e1.trans e2) ⟨r, _, rfl, st_of upd_same, p1, _, _, _, _, rfl, e2.tup h1, nmN T _, nmN T _, nmO T _, (hn.up e1).up e2⟩
    | turn p =>
      obtain ⟨a, up, rfl, ha, hp⟩ := id hP
      refine ⟨_, rfl, _, _, _, _, rfl, rfl, ha, at0, rfl, _, rfl, ifF (d_ne tk) ?_⟩
      refine ⟨_, rfl, _, _, _, _, rfl, rfl, ha, at0, rfl, _, rfl, ifT rfl ?_⟩
      exact ⟨_, rfl, _, rfl, _, rfl, _, rfl, _, rfl, D, ks, _, t, s1, s2, px, py, u, _, sp, sg, x, y, rfl, ⟨_, rfl⟩, hk, hkv, hP, wf, h60, dn, ins, hsp, hx, hy, hsg, zx, zy, q⟩
    | grid gx gy p =>
      obtain ⟨a, up, rfl, ha, hp⟩ := id hP
      refine ⟨_, rfl, _, _, _, _, rfl, rfl, ha, at0, rfl, _, rfl, ifF (d_ne gk) ?_⟩
      refine ⟨_, rfl, _, _, _, _, rfl, rfl, ha, at0, rfl, _, rfl, ifF (d_ne gt) ?_⟩
      refine ⟨_, rfl, _, _, _, _, rfl, rfl, ha, at0, rfl, _, rfl, ifT rfl ?_⟩
      exact ⟨_, rfl, _, rfl, _, rfl, _, rfl, _, rfl, D, ks, _, t, s1, s2, px, py, u, _, sp, sg, x, y, rfl, ⟨_, _, _, rfl⟩, hk, hkv, hP, wf, h60, dn, ins, hsp, hx, hy, hsg, zx, zy, q⟩
    | upon ps =>
      obtain ⟨a, b, us, rfl, ha, hb⟩ := id hP
      refine ⟨_, rfl, _, _, _, _, rfl, rfl, ha, at0, rfl, _, rfl, ifF (d_ne uk) ?_⟩
      refine ⟨_, rfl, _, _, _, _, rfl, rfl, ha, at0, rfl, _, rfl, ifF (d_ne ut) ?_⟩
      refine ⟨_, rfl, _, _, _, _, rfl, rfl, ha, at0, rfl, _, rfl, ifF (d_ne ug) ?_⟩
      refine ⟨_, rfl, _, _, _, _, rfl, rfl, ha, at0, rfl, _, rfl, ifT rfl ?_⟩
      exact ⟨_, rfl, _, rfl, _, rfl, _, rfl, _, rfl, D, ks, _, t, s1, s2, px, py, u, _, sp, sg, x, y, rfl, ⟨_, rfl⟩, hk, hkv, hP, wf, h60, dn, ins, hsp, hx, hy, hsg, zx, zy, q⟩
    | beside ps =>
      obtain ⟨a, b, us, rfl, ha, hb⟩ := id hP
      refine ⟨_, rfl, _, _, _, _, rfl, rfl, ha, at0, rfl, _, rfl, ifF (d_ne bk) ?_⟩
      refine ⟨_, rfl, _, _, _, _, rfl, rfl, ha, at0, rfl, _, rfl, ifF (d_ne bt) ?_⟩
      refine ⟨_, rfl, _, _, _, _, rfl, rfl, ha, at0, rfl, _, rfl, ifF (d_ne bg) ?_⟩
      refine ⟨_, rfl, _, _, _, _, rfl, rfl, ha, at0, rfl, _, rfl, ifF (d_ne bu) ?_⟩
      exact ⟨_, rfl, _, rfl, _, rfl, _, rfl, _, rfl, D, ks, _, t, s1, s2, px, py, u, _, sp, sg, x, y, rfl, ⟨_, rfl⟩, hk, hkv, hP, wf, h60, dn, ins, hsp, hx, hy, hsg, zx, zy, q⟩
def spIsPlace (K : PySem.W.Frag) : Sp := fun vs H Q _ => ∃ (D : Root) (p m : QD D) (u v : V), vs = [.int D.d, u, v] ∧ Nm K H u p ∧ Nm K H v m ∧ Sml p ∧ Sml m ∧ Sml (m - p) ∧ 0 ≤ p ∧ p < m ∧ ∀ H', Le H H' → Q (.bl true) H'
theorem sc_is_place : FnScope ["d", "thing", "end"] ["d", "thing", "end"] (defScope s_is_place) := ⟨rfl, rfl, rfl, by decide +kernel, rfl, by decide +kernel, by decide +kernel⟩
theorem ok_is_place (hs : base.NoSeer) : T.is_place.Ok w base 46 (spIsPlace K) := by
  have G_is_number := ok_is_number (w := w) (base := base) T
  have G_sign_of := ok_sign_of (w := w) (base := base) T
  have G_is_above := ok_is_above (w := w) T hs
  refine T.is_place.ok sc_is_place (fun vs H Q E h => ?_) (fun cdv A outer s H vs Q E hr h => ?_)
  · obtain ⟨_, _, _, _, _, rfl, _⟩ := h
    rfl
  obtain ⟨D, p, m, u, v, rfl, hu, hv, sp, sm, sd, p0, pm, q⟩ := h
  refine ⟨_, (pss_one (ps_ret (pe_and (pcl T.is_number G_is_number (hr.mono (by decide)) (pa_cons (pv 1) pa_nil)) (pe_and (pe_cmpR op_ge (pcl T.sign_of G_sign_of (hr.mono (by decide)) (pa_cons (pv 0) (pa_cons (pv 1) pa_nil))) pe_int (nomark _)) (pe_one (pcl T.is_above G_is_above (hr.mono (by decide)) (pa_cons (pv 0) (pa_cons (pv 2) (pa_cons (pv 1) pa_nil))))))))), ?_⟩
  have h0 : 0 ≤ p.sg := by
    have := MF.QD.sg_neg p
    have : ¬ p.sg < 0 := fun z => by have := this.mp z; grind
    omega
  refine ⟨_, rfl, D, p, _, rfl, hu, fun H1 e1 => ⟨true, rfl, iteT ⟨_, rfl, _, rfl, D, p, _, rfl, hu.up e1, sp, _, _, rfl, rfl, true, congrArg V.bl (decide_eq_true h0), iteT ?_⟩⟩⟩
  refine ⟨_, rfl, _, rfl, _, rfl, D, m, p, _, _, rfl, hv.up e1, hu.up e1, sm, sp, sd, fun b H2 e2 hb => ?_⟩
  have hb1 : b = true := hb.mpr pm
  subst hb1
  exact q _ (e1.trans e2)
/-- a tile with its kind's place and its turn -/
def T6 (K : PySem.W.Frag) (H : Hp) {D : Root} (v : V) (t : Tile D) : Prop := ∃ p a b c d, v = .ref p ∧ SqT K H p [a, b, c, d, .int (t.k : Int), .bl t.t] ∧ Nm K H a t.x ∧ Nm K H b t.y ∧ Nm K H c t.w ∧ Nm K H d t.h
def spTileAt (K : PySem.W.Frag) : Sp := fun vs H Q _ => ∃ (D : Root) (ks : List (QD D)) (P : Plan) (t : Tile D) (px py : QD D) (u v x y : V), vs = [.int D.d, u, v, x, y] ∧ KOk ks ∧ KindsAt K H u ks ∧ PlanAt K H 12 v P ∧ Wf ks.length 12 P ∧ P.size ≤ 60 ∧
  Down ks P t ∧ Inside t 1 1 px py ∧ Nm K H x px ∧ Nm K H y py ∧ Sz 1300000 px ∧ Sz 1300000 py ∧ ∀ r H', Le H H' → T6 K H' r t → Q r H'
theorem sc_tile_at : FnScope ["d", "kinds", "plan", "x", "y", "tile", "place", "is_turned"] ["d", "kinds", "plan", "x", "y"] (defScope s_tile_at) := ⟨rfl, rfl, rfl, by decide +kernel, rfl, by decide +kernel, by decide +kernel⟩
theorem ok_tile_at (hs : base.NoSeer) : T.tile_at.Ok w base 126 (spTileAt K) := by
  have G_look_kinds := ok_look_kinds (w := w) (base := base) T
  have G_look_plan := ok_look_plan (w := w) (base := base) T
  have G_is_place := ok_is_place (w := w) T hs
  have G_shape_by := ok_shape_A (w := w) T hs
  have G_at_spot := ok_at_spot (w := w) T hs 12 (by decide)
  refine T.tile_at.ok sc_tile_at (fun vs H Q E h => ?_) (fun cdv A outer s H vs Q E hr h => ?_)
  · obtain ⟨_, _, _, _, _, _, _, _, _, _, rfl, _⟩ := h
    rfl
  obtain ⟨D, ks, P, t, px, py, u, v, x, y, rfl, hk, hkv, hP, wf, h60, dn, ins, hx, hy, zx, zy, q⟩ := h
  have nd := sc_tile_at.nd
  refine ⟨_, (pss_cons (ps_expr (pcl T.look_kinds G_look_kinds (hr.mono (by decide)) (pa_cons (pv 0) (pa_cons (pv 1) pa_nil))))
      (pss_cons (ps_expr (pcl T.look_plan G_look_plan (hr.mono (by decide)) (pa_cons (pv 2) (pa_cons (pe_callB call_len_seq rfl T.b_len PySem.boot_len (pa_cons (pv 1) pa_nil)) pa_nil))))
      (pss_cons (ps_if (PW.pt (pw_or (pt_not (pt_val (pcl T.is_place G_is_place (hr.mono (by decide)) (pa_cons (pv 0) (pa_cons (pv 3) (pa_cons (pe_glob (v := .ref T.aO) rfl T.mgONE rfl) pa_nil)))))) (pw_or1 (pt_not (pt_val (pcl T.is_place G_is_place (hr.mono (by decide)) (pa_cons (pv 0) (pa_cons (pv 4) (pa_cons (pcl T.shape_by G_shape_by (hr.mono (by decide)) (pa_cons (pv 0) (pa_cons (pv 1) (pa_cons (pv 2) pa_nil)))) pa_nil))))))))) (pss_one ps_never) pss_nil)
      (pss_cons (ps_asg (pcl T.at_spot G_at_spot (hr.mono (by decide)) (pa_cons (pv 0) (pa_cons (pv 1) (pa_cons (pv 2) (pa_cons (pe_tup (pa_cons (pv 3) (pa_cons (pv 4) pa_nil))) (pa_cons (pe_tup (pa_cons pe_int (pa_cons pe_int pa_nil))) pa_nil)))))) (pg_tup rfl (pgs_cons (pg_name (i := 5) nd rfl (by first | exact Or.inl rfl | exact Or.inr rfl)) (pgs_cons (pg_name (i := 6) nd rfl (by first | exact Or.inl rfl | exact Or.inr rfl)) (pgs_cons (pg_name (i := 7) nd rfl (by first | exact Or.inl rfl | exact Or.inr rfl)) pgs_nil)))))
      (pss_one (ps_ret (pe_op op_catT (pv 5) (pe_tup (pa_cons (pv 6) (pa_cons (pv 7) pa_nil)))))))))), ?_⟩
  have ly := MF.Down.lies hk wf dn
  have zS := sml_shape hk wf h60
  obtain ⟨a1, a2, a3, a4, a5, a6⟩ := ly
  have ix : t.x ≤ px ∧ px < t.x + t.w := by
    rcases ins.x with ⟨_, h⟩ | ⟨h, _⟩
    · exact h
    · cases h
  have iy : t.y ≤ py ∧ py < t.y + t.h := by
    rcases ins.y with ⟨_, h⟩ | ⟨h, _⟩
    · exact h
    · cases h
  refine ⟨_, rfl, _, rfl, D, ks, _, rfl, hk, hkv, fun H1 e1 => ?_⟩
  obtain ⟨pk, us, rfl, hpk, al⟩ := id hkv
  refine ⟨_, rfl, _, rfl, pk, _, rfl, .inr (e1.tup hpk), ks.length, P, _, congrArg (fun z => [v, V.int z]) (by rw [al.1]), (by walk_at "up"), wf, h60, fun H2 e2 => ?_⟩
  refine ⟨_, rfl, _, rfl, D, px, 1, _, _, rfl, (by walk_at "up"), nmO T _, .of zx, .of Sz.one, .of (Sz.one.sub zx), by grind, by grind, fun H3 e3 => ⟨true, rfl, ifF rfl ?_⟩⟩
  refine ⟨_, rfl, _, rfl, _, rfl, _, rfl, _, rfl, D, ks, P, _, _, rfl, hk, (by walk_at "up"), PlanAt.mono (n := 12) (by walk_at "up") (by decide), wf.mono (by decide), h60, fun vS H4 e4 hS => ?_⟩
  refine ⟨D, py, shape ks P, _, _, rfl, (by walk_at "up"), hS, .of zy, .of zS, .of (zS.sub zy), by grind, by grind, fun H5 e5 => ⟨true, rfl, ifF rfl ?_⟩⟩
  refine ⟨_, rfl, _, rfl, _, rfl, _, rfl, _, rfl, sz2, fun pI hpI => ?_⟩
  have e6 : Le H5 (upd H5 pI (.tup [x, y])) := Le.new hpI
  have hI : SqT K (upd H5 pI (.tup [x, y])) pI [x, y] := st_of upd_same
  generalize upd H5 pI (.tup [x, y]) = H6 at e6 hI
  refine ⟨sz2, fun pG hpG => ?_⟩
  have e7 : Le H6 (upd H6 pG (.tup [.int 1, .int 1])) := Le.new hpG
  have hG : SqT K (upd H6 pG (.tup [.int 1, .int 1])) pG [.int 1, .int 1] := st_of upd_same
  generalize upd H6 pG (.tup [.int 1, .int 1]) = H7 at e7 hG
  refine ⟨D, ks, P, t, 1, 1, px, py, _, _, pI, pG, x, y, rfl, trivial, hk, (by walk_at "up"), (by walk_at "up"), wf, h60, dn, ins, (by walk_at "up"), (by walk_at "up"), (by walk_at "up"), hG, zx, zy, fun rF H8 e8 hF => ?_⟩
  obtain ⟨pF, uF, rfl, hF1, pt, b1, b2, b3, b4, rfl, hpt, n1, n2, n3, n4⟩ := hF
  refine ⟨_, _, rfl, hF1, rfl, _, _, rfl, _, _, rfl, _, _, rfl, rfl, ?_⟩
  refine ⟨_, rfl, _, rfl, _, rfl, sz2, fun p9 hp9 => ?_⟩
  have e9 : Le H8 (upd H8 p9 (.tup [.int (t.k : Int), .bl t.t])) := Le.new hp9
  refine ⟨pt, p9, _, _, rfl, rfl, e9.tup hpt, st_of upd_same, (fun z => nomatch z), sz_of (by show 6 ≤ 100000; decide), (fun z => nomatch z), fun _ r hr2 => ?_⟩
  have e10 : Le (upd H8 p9 (.tup [.int (t.k : Int), .bl t.t])) (upd (upd H8 p9 (.tup [.int (t.k : Int), .bl t.t])) r (.tup ([b1, b2, b3, b4] ++ [.int (t.k : Int), .bl t.t]))) := Le.new hr2
  exact q _ _ (by walk_at "le") ⟨r, _, _, _, _, rfl, st_of upd_same, (n1.up e9).up e10, (n2.up e9).up e10, (n3.up e9).up e10, (n4.up e9).up e10⟩
end
end MW

namespace MW
open PySem PySem.Spec PyProof.Rows L2
open MF (Root QD Plan Wf KOk shape sumQ Tile Sd Inside Down share)
open MF.QD (Sz)
local macro_rules | `(tactic| walk_at "up") => `(tactic| first | assumption | (refine MW.Nm.up (by assumption) ?_; walk_at "up") | (refine MW.Le.tup (by assumption) ?_; walk_at "up") | (refine MW.KindsAt.upL (by assumption) ?_; walk_at "up") | (refine MW.PlanAt.upL (by assumption) ?_; walk_at "up") | (refine MW.Tl.upL (by assumption) ?_; walk_at "up") | (refine MW.Le.bagAt (by assumption) ?_; walk_at "up"))
local macro_rules | `(tactic| walk_at "le") => `(tactic| first | exact MW.Le.refl _ | assumption | (refine MW.Le.trans ?_ (by assumption); walk_at "le"))

theorem nb3 {a b c : V} {r : List V} : NBag (a :: b :: c :: r) := fun g m e => by
  injection e with _ e
  injection e with _ e
  cases e
theorem pick {xs : List V} {i : Int} (h0 : 0 ≤ i) (h : i < (xs.length : Int)) : ∃ v, atI xs i = some v ∧ v ∈ xs := by
  have hk : i.toNat < xs.length := by omega
  have e : i = ((i.toNat : Nat) : Int) := by omega
  exact ⟨xs[i.toNat], at_of e (List.getElem?_eq_getElem hk), List.getElem_mem hk⟩
theorem mem_ints {ns : List Int} {v : V} (h : v ∈ ns.map V.int) : ∃ n, v = .int n ∧ n ∈ ns := by
  obtain ⟨n, hn, e⟩ := List.mem_map.mp h
  exact ⟨n, e.symm, hn⟩
theorem pow18 : (10 : Int) ^ (18 : Int).toNat = 1000000000000000000 := by decide
theorem pow6 : (10 : Int) ^ (6 : Int).toNat = 1000000 := by decide
section
variable {K : PySem.W.Frag} {mg : Str → Option Value} {w : World} {base : Heap} (T : Txt K mg)
/-! ### the bag -/
def spLBag (K : PySem.W.Frag) : Sp := fun vs H Q _ => ∃ (a : Addr) (ns : List Int) (k : Int), vs = [.ref a, .int k] ∧ SqL K H a (ns.map V.int) ∧ 0 ≤ k ∧ k < 4 ∧ ∀ p H', Le H H' → Bag H' p → Q (.ref p) H'
theorem sc_l_bag : FnScope ["_law_script", "_law_at", "_law_cell", "_law_great", "_law_primes", "_law_mixed"] ["_law_script", "_law_at"] (defScope s_l_bag) := ⟨rfl, rfl, rfl, by decide +kernel, rfl, by decide +kernel, by decide +kernel⟩
theorem ok_l_bag : T.l_bag.Ok w base 41 (spLBag K) := by
  refine T.l_bag.ok sc_l_bag (fun vs H Q E h => ?_) (fun cdv A outer s H vs Q E hr h => ?_)
  · obtain ⟨_, _, _, rfl, _⟩ := h
    rfl
  obtain ⟨a, ns, k, rfl, ha, k0, k4, q⟩ := h
  have nd := sc_l_bag.nd
  refine ⟨_, (pss_cons (ps_set (i := 2) nd rfl (by first | exact Or.inl rfl | exact Or.inr rfl) pe_int)
      (Evl.pss_cut (ps_if (pt_cmpR op_lt (pv 1) (pe_callB call_len_seq rfl T.b_len PySem.boot_len (pa_cons (pv 0) pa_nil)) (nomark _)) (pss_one (ps_set (i := 2) nd rfl (by first | exact Or.inl rfl | exact Or.inr rfl) (pe_ix ix_list (pv 0) (pv 1) (fun _ _ => rfl)))) pss_nil)
      (pss_cons (ps_set (i := 3) nd rfl (by first | exact Or.inl rfl | exact Or.inr rfl) pe_int)
      (Evl.pss_cut (ps_if (pt_cmpR op_ge (pe_callB call_abs rfl T.b_abs (by decide +kernel) (pa_cons (pv 2) pa_nil)) (pe_op op_pow pe_int pe_int) (nomark _)) (pss_one (ps_set (i := 3) nd rfl (by first | exact Or.inl rfl | exact Or.inr rfl) (pe_callB call_abs rfl T.b_abs (by decide +kernel) (pa_cons (pv 2) pa_nil)))) pss_nil)
      (pss_cons (ps_set (i := 4) nd rfl (by first | exact Or.inl rfl | exact Or.inr rfl) (pe_lst (pa_cons pe_int (pa_cons pe_int (pa_cons pe_int (pa_cons pe_int (pa_cons pe_int (pa_cons pe_int (pa_cons pe_int (pa_cons pe_int pa_nil))))))))))
      (pss_cons (ps_set (i := 5) nd rfl (by first | exact Or.inl rfl | exact Or.inr rfl) (pe_op op_add (pe_op op_add (pe_op op_add (pe_op op_mulB (pe_op op_mod (pv 2) pe_int) pe_int) (pe_op op_mulB (pe_op op_mulB pe_int (pv 1)) (pv 1))) (pe_op op_mulB pe_int (pv 1))) pe_int))
      (pss_one (ps_ret (pe_lst (pa_cons (pv 3) (pa_cons (pe_op op_mod (pv 5) (pe_ix ix_list (pv 4) (pe_op op_mod (pv 1) pe_int) (fun _ _ => rfl))) pa_nil))))))))))), ?_⟩
  refine ⟨fun σ' H' => H' = H ∧ ∃ z : Int, σ' = [some (.ref a), some (.int k), some (.int z), none, none, none], ?_, ?_⟩
  · refine ⟨_, rfl, _, rfl, a, _, rfl, .inl ha, _, _, rfl, rfl, _, rfl, ite2 (fun c => ?_) (fun c => ?_)⟩
    · have c' : k < ((ns.map V.int).length : Int) := of_decide_eq_true c
      obtain ⟨v, hv, hm⟩ := pick k0 c'
      obtain ⟨z, rfl, _⟩ := mem_ints hm
      exact ⟨_, rfl, _, rfl, a, _, _, _, rfl, rfl, ha, hv, rfl, z, rfl⟩
    · exact ⟨rfl, 0, rfl⟩
  rintro σ' H' ⟨rfl, z, rfl⟩
  refine ⟨fun σ' H'' => H'' = H' ∧ ∃ g : Int, 0 ≤ g ∧ σ' = [some (.ref a), some (.int k), some (.int z), some (.int g), none, none], ?_, ?_⟩
  · refine ⟨_, rfl, _, rfl, _, _, rfl, rfl, ⟨by decide, by decide, by decide⟩, _, _, rfl, rfl, _, rfl, ite2 (fun c => ?_) (fun c => ?_)⟩
    · exact ⟨_, rfl, _, rfl, rfl, _, by split <;> omega, rfl⟩
    · exact ⟨rfl, 0, Int.le_refl _, rfl⟩
  rintro σ' H'' ⟨rfl, g, g0, rfl⟩
  refine ⟨sz_of (by show 8 ≤ 100000; decide), fun p1 hp1 => ?_⟩
  have e1 : Le H'' (upd H'' p1 (.lst (([2147483647, 2147483629, 2147483587, 2147483579, 2147483563, 2147483549, 2147483543, 2147483497] : List Int).map V.int))) := Le.new hp1
  have hl : SqL K (upd H'' p1 (.lst (([2147483647, 2147483629, 2147483587, 2147483579, 2147483563, 2147483549, 2147483543, 2147483497] : List Int).map V.int))) p1 (([2147483647, 2147483629, 2147483587, 2147483579, 2147483563, 2147483549, 2147483543, 2147483497] : List Int).map V.int) := sq_of upd_same
  have z1 := Int.emod_nonneg z (show (2147483647 : Int) ≠ 0 by decide)
  have z2 := Int.emod_lt_of_pos z (show (0 : Int) < 2147483647 by decide)
  have b40 : (2 : Nat) ^ 40 = 1099511627776 := by decide
  have b20 : (2 : Nat) ^ 20 = 1048576 := by decide
  have b1 : Bd 40 (z % 2147483647) := by unfold Bd; omega
  have b2 : Bd 20 k := Bd.small (by omega) (by omega)
  have b3 : Bd 20 (104729 : Int) := Bd.small (by decide) (by decide)
  have b4 : Bd 20 (69623 : Int) := Bd.small (by decide) (by decide)
  have b5 : Bd 20 (7919 : Int) := Bd.small (by decide) (by decide)
  have k8 : k % 8 = k := Int.emod_eq_of_lt k0 (by omega)
  obtain ⟨v, hv, hm⟩ := pick (xs := ([2147483647, 2147483629, 2147483587, 2147483579, 2147483563, 2147483549, 2147483543, 2147483497] : List Int).map V.int) (i := k % 8) (by omega) (by show k % 8 < 8; omega)
  obtain ⟨n, rfl, hn⟩ := mem_ints hm
  have hnb : 0 < n ∧ n ≤ 2147483647 := by
    simp only [List.mem_cons, List.not_mem_nil, or_false] at hn
    omega
  refine ⟨_, rfl, _, _, rfl, rfl, (by show (0 : Int) < 2147483647; decide), _, _, rfl, rfl, mB b1 b4, _, rfl, _, _, rfl, rfl, mB b3 b2, _, rfl, _, _, rfl, rfl, mB (b3.mul b2) b2, _, _, rfl, rfl, _, rfl, _, _, rfl, rfl, mB b5 b2, _, _, rfl, rfl, _, _, rfl, rfl, ?_⟩
  refine ⟨_, rfl, _, rfl, _, rfl, _, rfl, _, _, rfl, rfl, (by show (0 : Int) < 8; decide), p1, _, _, _, rfl, rfl, hl, hv, _, _, rfl, rfl, hnb.1, sz2, fun p2 hp2 => ?_⟩
  have m1 := Int.emod_nonneg (z % 2147483647 * 69623 + 104729 * k * k + 7919 * k + 12345) (show n ≠ 0 by omega)
  have m2 := Int.emod_lt_of_pos (z % 2147483647 * 69623 + 104729 * k * k + 7919 * k + 12345) hnb.1
  exact q p2 _ (e1.trans (Le.new hp2)) ⟨_, upd_same, g, _, rfl, g0, m1, by omega⟩
def spTake : Sp := fun vs H Q _ => ∃ (b : Addr) (n : Int), vs = [.ref b, .int n] ∧ Bag H b ∧ 1 ≤ n ∧ n < 1073741824 ∧ ∀ (r : Int) H', Le H H' → 0 ≤ r → r < n → Q (.int r) H'
theorem sc_l_take : FnScope ["_law_bag_here", "_law_many", "_law_digit"] ["_law_bag_here", "_law_many"] (defScope s_l_take) := ⟨rfl, rfl, rfl, by decide +kernel, rfl, by decide +kernel, by decide +kernel⟩
theorem ok_l_take : T.l_take.Ok w base 41 spTake := by
  refine T.l_take.ok sc_l_take (fun vs H Q E h => ?_) (fun cdv A outer s H vs Q E hr h => ?_)
  · obtain ⟨_, _, rfl, _⟩ := h
    rfl
  obtain ⟨b, n, rfl, ⟨o, ho, g, m, rfl, g0, m0, m1⟩, n1, n2, q⟩ := h
  have nd := sc_l_take.nd
  refine ⟨_, (pss_cons (ps_if (pt_cmpR op_gt (pe_ix ix_list (pv 0) pe_int (fun _ _ => rfl)) pe_int (nomark _)) (pss_cons (ps_set (i := 2) nd rfl (by first | exact Or.inl rfl | exact Or.inr rfl) (pe_op op_mod (pe_ix ix_list (pv 0) pe_int (fun _ _ => rfl)) (pv 1)))
      (pss_cons (ps_asg (pe_op op_fdiv (pe_ix ix_list (pv 0) pe_int (fun _ _ => rfl)) (pv 1)) (pg_sub (pv 0) pe_int set_list))
      (pss_one (ps_ret (pv 2))))) pss_nil)
      (pss_cons (ps_asg (pe_op op_mod (pe_op op_add (pe_op op_mulB (pe_ix ix_list (pv 0) pe_int (fun _ _ => rfl)) pe_int) pe_int) pe_int) (pg_sub (pv 0) pe_int set_list))
      (pss_one (ps_ret (pe_op op_mod (pe_op op_fdiv (pe_op op_mod (pe_op op_pow (pe_ix ix_list (pv 0) pe_int (fun _ _ => rfl)) pe_int) pe_int) pe_int) (pv 1)))))), ?_⟩
  have hl : SqL K H b [.int g, .int m] := sq_of ho
  have hB : Baggy (.lst [.int g, .int m]) := ⟨g, m, rfl, g0, m0, m1⟩
  refine ⟨_, rfl, b, _, _, _, rfl, rfl, hl, at0, _, _, rfl, rfl, _, rfl, ite2 (fun c => ?_) (fun c => ?_)⟩
  · have c' : 0 < g := of_decide_eq_true c
    have d1 := Int.emod_nonneg g (show n ≠ 0 by omega)
    have d2 := Int.emod_lt_of_pos g (show 0 < n by omega)
    refine ⟨_, rfl, b, _, _, _, rfl, rfl, hl, at0, _, rfl, _, _, rfl, rfl, (by show (0 : Int) < n; omega), ?_⟩
    refine ⟨_, rfl, b, _, _, _, rfl, rfl, hl, at0, _, rfl, _, _, rfl, rfl, ⟨by omega, n2⟩, _, rfl, b, _, _, 0, rfl, rfl, ho, rfl, ?_⟩
    exact ⟨_, rfl, q _ _ (Le.bag ho hB ⟨g / n, m, rfl, Int.ediv_nonneg g0 (by omega), m0, m1⟩) d1 d2⟩
  · have b40 : (2 : Nat) ^ 40 = 1099511627776 := by decide
    have bm : Bd 40 m := by unfold Bd; omega
    have w1 := Int.emod_nonneg (m * 48271 + 2531011) (show (2147483647 : Int) ≠ 0 by decide)
    have w2 := Int.emod_lt_of_pos (m * 48271 + 2531011) (show (0 : Int) < 2147483647 by decide)
    refine ⟨_, rfl, b, _, _, _, rfl, rfl, hl, at1, _, _, rfl, rfl, mB bm (Bd.small (i := 48271) (by decide) (by decide)), _, _, rfl, rfl, _, _, rfl, rfl, (by show (0 : Int) < 2147483647; decide), _, rfl, b, _, _, 1, rfl, rfl, ho, rfl, ?_⟩
    generalize hx : (m * 48271 + 2531011) % 2147483647 = x at w1 w2
    have hle : Le H (upd H b (.lst [.int g, .int x])) := Le.bag ho hB ⟨g, x, rfl, g0, w1, by omega⟩
    have hs : SqL K (upd H b (.lst [.int g, .int x])) b [.int g, .int x] := sq_of upd_same
    have hq := q ((x ^ (3 : Int).toNat % 2147483629 / 64) % n) _ hle (Int.emod_nonneg _ (by omega)) (Int.emod_lt_of_pos _ (by omega))
    subst hx
    exact ⟨_, rfl, b, _, _, _, rfl, rfl, hs, at1, _, _, rfl, rfl, ⟨by decide, by decide, by show (_ : Int).natAbs < 2 ^ 64; omega⟩, _, _, rfl, rfl, (by show (0 : Int) < 2147483629; decide), _, _, rfl, rfl, ⟨by decide, by decide⟩, _, rfl, _, _, rfl, rfl, (by show (0 : Int) < n; omega), hq⟩
end
end MW

namespace MW
open PySem PySem.Spec PyProof.Rows L2
open MF (Root QD Plan Wf KOk shape sumQ Tile Sd Inside Down share)
open MF.QD (Sz)
local macro_rules | `(tactic| walk_at "up") => `(tactic| first | assumption | (refine MW.Nm.up (by assumption) ?_; walk_at "up") | (refine MW.Le.tup (by assumption) ?_; walk_at "up") | (refine MW.KindsAt.upL (by assumption) ?_; walk_at "up") | (refine MW.PlanAt.upL (by assumption) ?_; walk_at "up") | (refine MW.Tl.upL (by assumption) ?_; walk_at "up") | (refine MW.Le.bagAt (by assumption) ?_; walk_at "up"))
local macro_rules | `(tactic| walk_at "le") => `(tactic| first | exact MW.Le.refl _ | assumption | (refine MW.Le.trans ?_ (by assumption); walk_at "le"))


theorem nsq_of {v : Int} (h1 : v ≤ 35) (h : ∀ k : Int, -5 ≤ k → k ≤ 5 → k * k ≠ v) : ∀ k : Int, k * k ≠ v := fun k e => by
  by_cases hk : -5 ≤ k ∧ k ≤ 5
  · exact h k hk.1 hk.2 e
  · have : 36 ≤ k * k := by
      by_cases z : k < -5
      · have h1 := Int.mul_le_mul_of_nonneg_left (a := 6) (b := -k) (c := -k) (by omega) (by omega)
        have h2 : -k * -k = k * k := by grind
        omega
      · have h1 := Int.mul_le_mul_of_nonneg_left (a := 6) (b := k) (c := k) (by omega) (by omega)
        omega
    omega
theorem small_k (v : Int) (h : v ≠ 0 ∧ v ≠ 1 ∧ v ≠ 4 ∧ v ≠ 9 ∧ v ≠ 16 ∧ v ≠ 25) : ∀ k : Int, -5 ≤ k → k ≤ 5 → k * k ≠ v := fun k h1 h2 e => by
  have : k = -5 ∨ k = -4 ∨ k = -3 ∨ k = -2 ∨ k = -1 ∨ k = 0 ∨ k = 1 ∨ k = 2 ∨ k = 3 ∨ k = 4 ∨ k = 5 := by omega
  rcases this with rfl | rfl | rfl | rfl | rfl | rfl | rfl | rfl | rfl | rfl | rfl <;> omega
def root_of (v : Int) (h1 : 2 ≤ v) (h2 : v ≤ 30) (h : v ≠ 4 ∧ v ≠ 9 ∧ v ≠ 16 ∧ v ≠ 25) : Root := ⟨v, h1, h2, nsq_of (by omega) (small_k v (by omega))⟩
/-- the numbers from 2 on that are no squares -/
def nonsq (i : Nat) : List Int := ((List.range i).map fun (j : Nat) => (2 : Int) + (j : Int)).filter fun v => !([4, 9, 16, 25] : List Int).contains v
theorem nonsq_succ (i : Nat) : nonsq (i + 1) = nonsq i ++ if (!([4, 9, 16, 25] : List Int).contains (2 + (i : Int))) = true then [2 + (i : Int)] else [] := by
  unfold nonsq
  rw [List.range_succ, List.map_append, List.filter_append, List.map_cons, List.map_nil, List.filter_cons, List.filter_nil]
theorem nonsq_len (i : Nat) : (nonsq i).length ≤ i := by
  unfold nonsq
  refine Nat.le_trans (List.length_filter_le _ _) ?_
  rw [List.length_map, List.length_range]
  exact Nat.le_refl _
theorem inV_ints (v : Int) (ns : List Int) : inV (.int v) (ns.map V.int) = ns.contains v := by
  unfold inV
  induction ns with
  | nil => rfl
  | cons n r ih =>
    rw [List.map_cons, List.any_cons, ih, List.contains_cons]
    congr 1
    show (n == v) = (v == n)
    exact Bool.eq_iff_iff.mpr ⟨fun h => by rw [beq_iff_eq] at *; exact h.symm, fun h => by rw [beq_iff_eq] at *; exact h.symm⟩
section
variable {K : PySem.W.Frag} {mg : Str → Option Value} {w : World} {base : Heap} (T : Txt K mg)
def spRootL : Sp := fun vs H Q _ => ∃ b : Addr, vs = [.ref b] ∧ Bag H b ∧ ∀ (D : Root) H', Le H H' → Q (.int D.d) H'
theorem sc_l_root : FnScope ["_law_bag_here", "_law_some", "_law_d"] ["_law_bag_here"] (defScope s_l_root) := ⟨rfl, rfl, rfl, by decide +kernel, rfl, by decide +kernel, by decide +kernel⟩
theorem ok_l_root : T.l_root.Ok w base 42 spRootL := by
  have G_l_take := ok_l_take (w := w) (base := base) T
  refine T.l_root.ok sc_l_root (fun vs H Q E h => ?_) (fun cdv A outer s H vs Q E hr h => ?_)
  · obtain ⟨_, rfl, _⟩ := h
    rfl
  obtain ⟨b, rfl, hb, q⟩ := h
  have nd := sc_l_root.nd
  refine ⟨_, (pss_cons (ps_if (pt_cmpR op_eq (pcl T.l_take G_l_take (hr.mono (by decide)) (pa_cons (pv 0) (pa_cons pe_int pa_nil))) pe_int (nomark _)) (pss_one (ps_ret (pe_ix ix_list (pe_lst (pa_cons pe_int (pa_cons pe_int (pa_cons pe_int pa_nil)))) (pcl T.l_take G_l_take (hr.mono (by decide)) (pa_cons (pv 0) (pa_cons pe_int pa_nil))) (fun _ _ => rfl)))) pss_nil)
      (pss_cons (ps_setLc (i := 1) (own := [("_law_d", 2)]) (g := gName 2) rfl nd rfl rfl (sw_true rfl rfl rfl (by decide +kernel)) (pi_range2 rfl T.b_range (pa_cons pe_int (pa_cons pe_int pa_nil))) (blkOk_by (own := [("_law_d", 2)]) (N := ["_law_bag_here", "_law_some", "_law_d"]) (sc := defScope s_l_root) (by decide +kernel)) (fun _ _ _ _ _ => pg_name (i := 2) nd rfl (Or.inl rfl)) (fun _ _ _ _ _ => pts_one (pt_cmpR (r := rIn K true) op_notIn_seq (pv 2) (pe_lst (pa_cons pe_int (pa_cons pe_int (pa_cons pe_int (pa_cons pe_int pa_nil))))) (by rfl))) (fun _ _ _ _ _ => (pv 2)))
      (pss_one (ps_ret (pe_ix ix_list (pv 1) (pcl T.l_take G_l_take (hr.mono (by decide)) (pa_cons (pv 0) (pa_cons pe_int pa_nil))) (fun _ _ => rfl)))))), ?_⟩
  refine ⟨_, rfl, b, 2, rfl, hb, by decide, by decide, fun r H1 e1 r0 r1 => ⟨rfl, _, rfl, ite2 (fun c => ?_) (fun c => ?_)⟩⟩
  · refine ⟨sz3, fun p hp => ?_⟩
    have e2 : Le H1 (upd H1 p (.lst (([2, 3, 5] : List Int).map V.int))) := Le.new hp
    have hl : SqL K (upd H1 p (.lst (([2, 3, 5] : List Int).map V.int))) p (([2, 3, 5] : List Int).map V.int) := sq_of upd_same
    refine ⟨_, rfl, b, 3, rfl, e2.bagAt (e1.bagAt hb), by decide, by decide, fun r2 H2 e3 k0 k1 => ?_⟩
    obtain ⟨v, hv, hm⟩ := pick (xs := ([2, 3, 5] : List Int).map V.int) k0 (by show r2 < 3; exact k1)
    obtain ⟨n, rfl, hn⟩ := mem_ints hm
    simp only [List.mem_cons, List.not_mem_nil, or_false] at hn
    exact ⟨p, _, _, _, rfl, rfl, e3.lst nb3 hl, hv, q (root_of n (by omega) (by omega) (by omega)) _ ((e1.trans e2).trans e3)⟩
  · refine ⟨2, 31, rfl, ⟨by decide, by decide, by decide, by decide⟩, fun Dd hD => ?_⟩
    refine lc_range (lo := 2) (n := 29) (fun i H' => Le H1 H' ∧ H' Dd = some (.lst ((nonsq i).map V.int))) ⟨Le.new hD, upd_same⟩ (fun i H' hi p => ?_) (fun H' p => ?_)
    · obtain ⟨p1, p2⟩ := p
      refine ⟨rfl, _, rfl, sz4, fun pl hpl => ?_⟩
      have e2 : Le H' (upd H' pl (.lst (([4, 9, 16, 25] : List Int).map V.int))) := Le.new hpl
      refine ⟨pl, _, rfl, .inl (sq_of upd_same), rfl, rfl, _, rfl, ?_⟩
      have hk : upd H' pl (.lst (([4, 9, 16, 25] : List Int).map V.int)) Dd = some (.lst ((nonsq i).map V.int)) := by
        rw [upd_ne (ne_of_none p2 hpl)]; exact p2
      have hin : (if true = true then !inV (V.int (2 + (i : Int))) (([4, 9, 16, 25] : List Int).map V.int) else inV (V.int (2 + (i : Int))) (([4, 9, 16, 25] : List Int).map V.int)) = !([4, 9, 16, 25] : List Int).contains (2 + (i : Int)) := by
        rw [if_pos rfl, inV_ints]
      have hs := nonsq_succ i
      show (if (if true = true then !inV (V.int (2 + (i : Int))) (([4, 9, 16, 25] : List Int).map V.int) else inV (V.int (2 + (i : Int))) (([4, 9, 16, 25] : List Int).map V.int)) = true then _ else _)
      rw [hin]
      refine ite2 (fun c => ?_) (fun c => ?_)
      · rw [if_pos c] at hs
        refine ⟨_, rfl, _, hk, sz_lt (by rw [List.length_map]; have := nonsq_len i; omega), (p1.trans e2).mut hD, ?_⟩
        rw [hs, List.map_append, upd_same]
        rfl
      · rw [if_neg c, List.append_nil] at hs
        refine ⟨p1.trans e2, ?_⟩
        rw [hs]
        exact hk
    · obtain ⟨p1, p2⟩ := p
      have hsq : nonsq 29 = [2, 3, 5, 6, 7, 8, 10, 11, 12, 13, 14, 15, 17, 18, 19, 20, 21, 22, 23, 24, 26, 27, 28, 29, 30] := by decide +kernel
      rw [hsq] at p2
      refine ⟨_, rfl, _, rfl, b, 25, rfl, p1.bagAt (e1.bagAt hb), by decide, by decide, fun r2 H2 e3 k0 k1 => ?_⟩
      obtain ⟨v, hv, hm⟩ := pick (xs := ([2, 3, 5, 6, 7, 8, 10, 11, 12, 13, 14, 15, 17, 18, 19, 20, 21, 22, 23, 24, 26, 27, 28, 29, 30] : List Int).map V.int) k0 (by show r2 < 25; exact k1)
      obtain ⟨n, rfl, hn⟩ := mem_ints hm
      simp only [List.mem_cons, List.not_mem_nil, or_false] at hn
      exact ⟨Dd, _, _, _, rfl, rfl, e3.lst nb3 (sq_of p2), hv, q (root_of n (by omega) (by omega) (by omega)) _ ((e1.trans p1).trans e3)⟩
/-! ### numbers drawn -/
def spNumL (K : PySem.W.Frag) : Sp := fun vs H Q _ => ∃ (D : Root) (b : Addr), vs = [.ref b] ∧ Bag H b ∧ ∀ (x : QD D) v H', Le H H' → Nm K H' v x → Sz 24 x → Q v H'
theorem mem8 {a b c d e f g h v : V} (hm : v ∈ [a, b, c, d, e, f, g, h]) : v = a ∨ v = b ∨ v = c ∨ v = d ∨ v = e ∨ v = f ∨ v = g ∨ v = h := by
  simpa using hm
theorem sc_l_number : FnScope ["_law_bag_here", "_law_wide", "_law_a", "_law_b", "_law_c", "_law_way"] ["_law_bag_here"] (defScope s_l_number) := ⟨rfl, rfl, rfl, by decide +kernel, rfl, by decide +kernel, by decide +kernel⟩
theorem ok_l_number (hs : base.NoSeer) : T.l_number.Ok w base 43 (spNumL K) := by
  have G_l_take := ok_l_take (w := w) (base := base) T
  have G_l_low := ok_l_low (w := w) T hs
  refine T.l_number.ok sc_l_number (fun vs H Q E h => ?_) (fun cdv A outer s H vs Q E hr h => ?_)
  · obtain ⟨_, _, rfl, _⟩ := h
    rfl
  obtain ⟨D, b, rfl, hb, q⟩ := h
  have nd := sc_l_number.nd
  refine ⟨_, (pss_cons (ps_set (i := 1) nd rfl (by first | exact Or.inl rfl | exact Or.inr rfl) (pe_ix ix_list (pe_lst (pa_cons pe_int (pa_cons pe_int (pa_cons pe_int (pa_cons pe_int pa_nil))))) (pcl T.l_take G_l_take (hr.mono (by decide)) (pa_cons (pv 0) (pa_cons pe_int pa_nil))) (fun _ _ => rfl)))
      (pss_cons (ps_par (i := 2) (j := 3) rfl nd rfl rfl (by decide) rfl rfl (pa_cons (pe_op op_sub (pcl T.l_take G_l_take (hr.mono (by decide)) (pa_cons (pv 0) (pa_cons (pv 1) pa_nil))) (pe_op op_fdiv (pv 1) pe_int)) (pa_cons (pe_op op_sub (pcl T.l_take G_l_take (hr.mono (by decide)) (pa_cons (pv 0) (pa_cons (pv 1) pa_nil))) (pe_op op_fdiv (pv 1) pe_int)) pa_nil)) (by rfl))
      (pss_cons (ps_set (i := 4) nd rfl (by first | exact Or.inl rfl | exact Or.inr rfl) (pe_op op_add pe_int (pcl T.l_take G_l_take (hr.mono (by decide)) (pa_cons (pv 0) (pa_cons (pe_op op_sub (pv 1) pe_int) pa_nil)))))
      (pss_cons (ps_set (i := 5) nd rfl (by first | exact Or.inl rfl | exact Or.inr rfl) (pcl T.l_take G_l_take (hr.mono (by decide)) (pa_cons (pv 0) (pa_cons pe_int pa_nil))))
      (pss_one (ps_ret (pcl T.l_low G_l_low (hr.mono (by decide)) (pa_cons (pe_ix ix_list (pe_lst (pa_cons (pv 2) (pa_cons (pv 2) (pa_cons (pv 2) (pa_cons (pv 2) (pa_cons (pv 2) (pa_cons (pv 2) (pa_cons (pv 2) (pa_cons pe_int pa_nil))))))))) (pv 5) (fun _ _ => rfl)) (pa_cons (pe_ix ix_list (pe_lst (pa_cons (pv 3) (pa_cons (pv 3) (pa_cons (pv 3) (pa_cons (pv 3) (pa_cons (pv 3) (pa_cons pe_int (pa_cons pe_int (pa_cons (pv 3) pa_nil))))))))) (pv 5) (fun _ _ => rfl)) (pa_cons (pe_ix ix_list (pe_lst (pa_cons (pv 4) (pa_cons (pv 4) (pa_cons pe_int (pa_cons (pv 4) (pa_cons pe_int (pa_cons (pv 4) (pa_cons pe_int (pa_cons (pv 4) pa_nil))))))))) (pv 5) (fun _ _ => rfl)) pa_nil)))))))))), ?_⟩
  refine ⟨sz4, fun p hp => ?_⟩
  have e0 : Le H (upd H p (.lst [.int 4, .int 10, .int 100, .int 1000000])) := Le.new hp
  have hl : SqL K (upd H p (.lst [.int 4, .int 10, .int 100, .int 1000000])) p [.int 4, .int 10, .int 100, .int 1000000] := sq_of upd_same
  generalize upd H p (.lst [.int 4, .int 10, .int 100, .int 1000000]) = H0 at e0 hl
  refine ⟨_, rfl, b, 4, rfl, (by walk_at "up"), by decide, by decide, fun r1 H1 e1 k0 k1 => ?_⟩
  obtain ⟨v, hv, hm⟩ := pick (xs := ([4, 10, 100, 1000000] : List Int).map V.int) k0 (by show r1 < 4; exact k1)
  obtain ⟨wd, rfl, hw⟩ := mem_ints hm
  have hw2 : 4 ≤ wd ∧ wd ≤ 1000000 := by
    simp only [List.mem_cons, List.not_mem_nil, or_false] at hw
    omega
  refine ⟨p, _, _, _, rfl, rfl, e1.lst nb3 hl, hv, ?_⟩
  refine ⟨_, rfl, _, rfl, b, wd, rfl, (by walk_at "up"), by omega, by omega, fun r2 H2 e2 k2 k3 => ⟨_, rfl, _, _, rfl, rfl, ⟨by decide, by decide⟩, _, _, rfl, rfl, ?_⟩⟩
  refine ⟨_, rfl, _, rfl, b, wd, rfl, (by walk_at "up"), by omega, by omega, fun r3 H3 e3 k4 k5 => ⟨_, rfl, _, _, rfl, rfl, ⟨by decide, by decide⟩, _, _, rfl, rfl, _, _, rfl, ?_⟩⟩
  refine ⟨_, rfl, _, rfl, _, _, rfl, rfl, b, wd - 1, rfl, (by walk_at "up"), by omega, by omega, fun r4 H4 e4 k6 k7 => ⟨_, _, rfl, rfl, ?_⟩⟩
  refine ⟨_, rfl, b, 8, rfl, (by walk_at "up"), by decide, by decide, fun way H5 e5 k8 k9 => ?_⟩
  have ba : -500000 ≤ r2 - wd / 2 ∧ r2 - wd / 2 ≤ 1000000 := by omega
  have bb : -500000 ≤ r3 - wd / 2 ∧ r3 - wd / 2 ≤ 1000000 := by omega
  have bc : 1 ≤ 1 + r4 ∧ 1 + r4 ≤ 1000000 := by omega
  refine ⟨_, rfl, _, rfl, _, rfl, _, rfl, _, rfl, _, rfl, _, rfl, sz_of (by show 8 ≤ 100000; decide), fun p1 hp1 => ?_⟩
  have e6 : Le H5 (upd H5 p1 (.lst [.int (r2 - wd / 2), .int (r2 - wd / 2), .int (r2 - wd / 2), .int (r2 - wd / 2), .int (r2 - wd / 2), .int (r2 - wd / 2), .int (r2 - wd / 2), .int 0])) := Le.new hp1
  obtain ⟨v1, hv1, hm1⟩ := pick (xs := [V.int (r2 - wd / 2), .int (r2 - wd / 2), .int (r2 - wd / 2), .int (r2 - wd / 2), .int (r2 - wd / 2), .int (r2 - wd / 2), .int (r2 - wd / 2), .int 0]) k8 (by show way < 8; exact k9)
  obtain ⟨xa, rfl, hxa⟩ : ∃ xa : Int, v1 = .int xa ∧ -500000 ≤ xa ∧ xa ≤ 1000000 := by
    rcases mem8 hm1 with h | h | h | h | h | h | h | h <;> exact ⟨_, h, by omega, by omega⟩
  refine ⟨_, rfl, p1, _, _, _, rfl, rfl, sq_of upd_same, hv1, ?_⟩
  generalize upd H5 p1 (.lst [.int (r2 - wd / 2), .int (r2 - wd / 2), .int (r2 - wd / 2), .int (r2 - wd / 2), .int (r2 - wd / 2), .int (r2 - wd / 2), .int (r2 - wd / 2), .int 0]) = H6 at e6
  refine ⟨_, rfl, _, rfl, _, rfl, _, rfl, _, rfl, _, rfl, sz_of (by show 8 ≤ 100000; decide), fun p2 hp2 => ?_⟩
  have e7 : Le H6 (upd H6 p2 (.lst [.int (r3 - wd / 2), .int (r3 - wd / 2), .int (r3 - wd / 2), .int (r3 - wd / 2), .int (r3 - wd / 2), .int 0, .int 0, .int (r3 - wd / 2)])) := Le.new hp2
  obtain ⟨v2, hv2, hm2⟩ := pick (xs := [V.int (r3 - wd / 2), .int (r3 - wd / 2), .int (r3 - wd / 2), .int (r3 - wd / 2), .int (r3 - wd / 2), .int 0, .int 0, .int (r3 - wd / 2)]) k8 (by show way < 8; exact k9)
  obtain ⟨xb, rfl, hxb⟩ : ∃ xb : Int, v2 = .int xb ∧ -500000 ≤ xb ∧ xb ≤ 1000000 := by
    rcases mem8 hm2 with h | h | h | h | h | h | h | h <;> exact ⟨_, h, by omega, by omega⟩
  refine ⟨_, rfl, p2, _, _, _, rfl, rfl, sq_of upd_same, hv2, ?_⟩
  generalize upd H6 p2 (.lst [.int (r3 - wd / 2), .int (r3 - wd / 2), .int (r3 - wd / 2), .int (r3 - wd / 2), .int (r3 - wd / 2), .int 0, .int 0, .int (r3 - wd / 2)]) = H7 at e7
  refine ⟨_, rfl, _, rfl, _, rfl, _, rfl, _, rfl, sz_of (by show 8 ≤ 100000; decide), fun p3 hp3 => ?_⟩
  have e8 : Le H7 (upd H7 p3 (.lst [.int (1 + r4), .int (1 + r4), .int 1, .int (1 + r4), .int 1, .int (1 + r4), .int 1, .int (1 + r4)])) := Le.new hp3
  obtain ⟨v3, hv3, hm3⟩ := pick (xs := [V.int (1 + r4), .int (1 + r4), .int 1, .int (1 + r4), .int 1, .int (1 + r4), .int 1, .int (1 + r4)]) k8 (by show way < 8; exact k9)
  obtain ⟨xc, rfl, hxc⟩ : ∃ xc : Int, v3 = .int xc ∧ 1 ≤ xc ∧ xc ≤ 1000000 := by
    rcases mem8 hm3 with h | h | h | h | h | h | h | h <;> exact ⟨_, h, by omega, by omega⟩
  refine ⟨_, rfl, p3, _, _, _, rfl, rfl, sq_of upd_same, hv3, ?_⟩
  have e24 : (2 : Nat) ^ 24 = 16777216 := by decide
  exact ⟨D, QD.ofT xa xb xc, xa, xb, xc, rfl, by omega, u_bd hxc.1 hxc.2, rfl, fun v4 H8 e9 h9 => q _ _ _ (by walk_at "le") h9 (Sz.ofT (by omega) (by omega) (by omega))⟩
end
end MW

namespace MW
open PySem PySem.Spec PyProof.Rows L2
open MF (Root QD Plan Wf KOk shape sumQ Tile Sd Inside Down share)
open MF.QD (Sz)
local macro_rules | `(tactic| walk_at "up") => `(tactic| first | assumption | (refine MW.Nm.up (by assumption) ?_; walk_at "up") | (refine MW.Le.tup (by assumption) ?_; walk_at "up") | (refine MW.KindsAt.upL (by assumption) ?_; walk_at "up") | (refine MW.PlanAt.upL (by assumption) ?_; walk_at "up") | (refine MW.Tl.upL (by assumption) ?_; walk_at "up") | (refine MW.Le.bagAt (by assumption) ?_; walk_at "up"))
local macro_rules | `(tactic| walk_at "le") => `(tactic| first | exact MW.Le.refl _ | assumption | (refine MW.Le.trans ?_ (by assumption); walk_at "le"))



theorem Bag.app {H : Hp} {l b : Addr} {vs : List V} {o : HO} (hb : Bag H b) (hl : H l = some (.lst vs)) (nb : NBag vs) : Bag (upd H l o) b := by
  obtain ⟨ob, h1, h2⟩ := hb
  refine ⟨ob, ?_, h2⟩
  rw [upd_ne]
  · exact h1
  · intro e
    subst e
    rw [hl] at h1
    cases h1
    exact nb_lst nb h2
theorem Al.app {α β : Type} {F : α → β → Prop} {vs : List α} {xs : List β} {v : α} {x : β} (h : Al F vs xs) (k : F v x) : Al F (vs ++ [v]) (xs ++ [x]) := by
  induction vs generalizing xs with
  | nil =>
    cases xs with
    | nil => exact .one k
    | cons y r => have := h.1; simp at this
  | cons u r ih =>
    cases xs with
    | nil => have := h.1; simp at this
    | cons y s => exact .cons h.uncons.1 (ih h.uncons.2)
/-- kinds on the heap -/
def Kd (K : PySem.W.Frag) (H : Hp) {D : Root} (v : V) (ks : List (QD D)) : Prop := KOk ks ∧ KindsAt K H v ks
theorem nm_one {K : PySem.W.Frag} {H : Hp} {D : Root} {p : Addr} (h : SqT K H p [.int 1, .int 0, .int 1]) : Nm K H (.ref p) (1 : QD D) := by
  obtain ⟨h1, h2, h3⟩ := MF.QD.tri_one (D := D)
  exact ⟨p, rfl, by unfold tr; rw [h1, h2, h3]; exact h⟩
section
variable {K : PySem.W.Frag} {mg : Str → Option Value} {w : World} {base : Heap} (T : Txt K mg)
def spAboveL (K : PySem.W.Frag) : Sp := fun vs H Q _ => ∃ (D : Root) (b : Addr), vs = [.ref b, .int D.d] ∧ Bag H b ∧ ∀ (x : QD D) v H', Le H H' → Nm K H' v x → 0 < x → Sz 24 x → Q v H'
theorem sc_l_above : FnScope ["_law_bag_here", "_law_d", "_law_x", "_law_sign_here"] ["_law_bag_here", "_law_d"] (defScope s_l_above) := ⟨rfl, rfl, rfl, by decide +kernel, rfl, by decide +kernel, by decide +kernel⟩
theorem ok_l_above (hs : base.NoSeer) : T.l_above.Ok w base 44 (spAboveL K) := by
  have G_l_take := ok_l_take (w := w) (base := base) T
  have G_l_number := ok_l_number (w := w) T hs
  have G_l_sign := ok_l_sign (w := w) (base := base) T
  have G_l_minus := ok_l_minus (w := w) (base := base) T
  refine T.l_above.ok sc_l_above (fun vs H Q E h => ?_) (fun cdv A outer s H vs Q E hr h => ?_)
  · obtain ⟨_, _, rfl, _⟩ := h
    rfl
  obtain ⟨D, b, rfl, hb, q⟩ := h
  have nd := sc_l_above.nd
  refine ⟨_, (pss_cons (ps_set (i := 2) nd rfl (by first | exact Or.inl rfl | exact Or.inr rfl) (pcl T.l_number G_l_number (hr.mono (by decide)) (pa_cons (pv 0) pa_nil)))
      (pss_cons (ps_set (i := 3) nd rfl (by first | exact Or.inl rfl | exact Or.inr rfl) (pcl T.l_sign G_l_sign (hr.mono (by decide)) (pa_cons (pv 1) (pa_cons (pv 2) pa_nil))))
      (pss_cons (ps_if (pt_cmpR op_eq (pv 3) pe_int (nomark _)) (pss_one (ps_ret (pe_tup (pa_cons (pe_op op_add pe_int (pcl T.l_take G_l_take (hr.mono (by decide)) (pa_cons (pv 0) (pa_cons pe_int pa_nil)))) (pa_cons pe_int (pa_cons pe_int pa_nil)))))) pss_nil)
      (pss_one (ps_ret (pe_ifExp (pt_cmpR op_gt (pv 3) pe_int (nomark _)) (pv 2) (pcl T.l_minus G_l_minus (hr.mono (by decide)) (pa_cons (pv 2) pa_nil)))))))), ?_⟩
  refine ⟨_, rfl, D, b, rfl, hb, fun x v H1 e1 hx sx => ?_⟩
  refine ⟨_, rfl, _, rfl, D, x, _, rfl, hx, .of sx, fun H2 e2 => ⟨_, rfl, rfl, _, rfl, ?_⟩⟩
  rcases MF.QD.sg_cases x with ⟨g, px⟩ | ⟨g, px⟩ | ⟨g, px⟩
  · refine ifF (int_ne (by omega)) ⟨_, rfl, _, _, rfl, rfl, _, rfl, ifT (decide_eq_true (by omega)) ⟨_, rfl, q x _ _ (by walk_at "le") (by walk_at "up") px sx⟩⟩
  · refine ifT (int_eq (by omega)) ⟨_, rfl, b, 5, rfl, (by walk_at "up"), by decide, by decide, fun r H3 e3 r0 r1 => ⟨_, _, rfl, rfl, sz3, fun p hp => ?_⟩⟩
    have e4 : Le H3 (upd H3 p (.tup [.int (1 + r), .int 0, .int 1])) := Le.new hp
    refine q ((1 + r : Int) : QD D) _ _ (by walk_at "le") (nm_int _ (st_of upd_same)) (MF.QD.int_pos.mpr (by omega)) (Sz.int ?_)
    have e24 : (2 : Nat) ^ 24 = 16777216 := by decide
    omega
  · refine ifF (int_ne (by omega)) ⟨_, rfl, _, _, rfl, rfl, _, rfl, ifF (decide_eq_false (by omega)) ⟨_, rfl, D, x, _, rfl, (by walk_at "up"), fun v3 H3 e3 h3 => ?_⟩⟩
    exact q (-x) _ _ (by walk_at "le") h3 (by grind) (MF.QD.Sz.neg sx)
def spGridL : Sp := fun vs H Q _ => ∃ b : Addr, vs = [.ref b] ∧ Bag H b ∧ ∀ (g : Int) H', Le H H' → 1 ≤ g → g ≤ 1000000 → Q (.int g) H'
theorem sc_l_grid_size : FnScope ["_law_bag_here"] ["_law_bag_here"] (defScope s_l_grid_size) := ⟨rfl, rfl, rfl, by decide +kernel, rfl, by decide +kernel, by decide +kernel⟩
theorem ok_l_grid_size : T.l_grid_size.Ok w base 42 spGridL := by
  have G_l_take := ok_l_take (w := w) (base := base) T
  refine T.l_grid_size.ok sc_l_grid_size (fun vs H Q E h => ?_) (fun cdv A outer s H vs Q E hr h => ?_)
  · obtain ⟨_, rfl, _⟩ := h
    rfl
  obtain ⟨b, rfl, hb, q⟩ := h
  refine ⟨_, (pss_one (ps_ret (pe_op op_add pe_int (pcl T.l_take G_l_take (hr.mono (by decide)) (pa_cons (pv 0) (pa_cons (pe_ix ix_list (pe_lst (pa_cons pe_int (pa_cons pe_int (pa_cons pe_int (pa_cons pe_int (pa_cons pe_int (pa_cons pe_int (pa_cons pe_int (pa_cons (pe_op op_pow pe_int pe_int) pa_nil))))))))) (pcl T.l_take G_l_take (hr.mono (by decide)) (pa_cons (pv 0) (pa_cons pe_int pa_nil))) (fun _ _ => rfl)) pa_nil)))))), ?_⟩
  refine ⟨_, rfl, _, _, rfl, rfl, ⟨by decide, by decide, by decide⟩, sz_of (by show 8 ≤ 100000; decide), fun p hp => ?_⟩
  have e1 : Le H (upd H p (.lst [.int 2, .int 3, .int 5, .int 3, .int 2, .int 9, .int 4, .int (10 ^ (6 : Int).toNat)])) := Le.new hp
  refine ⟨_, rfl, b, 8, rfl, e1.bagAt hb, by decide, by decide, fun r H2 e2 k0 k1 => ?_⟩
  obtain ⟨v, hv, hm⟩ := pick (xs := ([2, 3, 5, 3, 2, 9, 4, 10 ^ (6 : Int).toNat] : List Int).map V.int) k0 (by show r < 8; exact k1)
  obtain ⟨n, rfl, hn⟩ := mem_ints hm
  rw [pow6] at hn
  have hn2 : 2 ≤ n ∧ n ≤ 1000000 := by
    simp only [List.mem_cons, List.not_mem_nil, or_false] at hn
    omega
  exact ⟨p, _, _, _, rfl, rfl, e2.lst nb3 (sq_of upd_same), hv, b, n, rfl, e2.bagAt (e1.bagAt hb), by omega, by omega, fun r2 H3 e3 k2 k3 => ⟨_, _, rfl, rfl, q _ _ ((e1.trans e2).trans e3) (by omega) (by omega)⟩⟩
def spEndL : Sp := fun vs H Q _ => ∃ (b : Addr) (n : Int), vs = [.ref b, .int n] ∧ Bag H b ∧ 1 ≤ n ∧ n ≤ 1000000 ∧ ∀ (r : Int) H', Le H H' → 0 ≤ r → r < n → Q (.int r) H'
theorem sc_l_end : FnScope ["_law_bag_here", "_law_many"] ["_law_bag_here", "_law_many"] (defScope s_l_end) := ⟨rfl, rfl, rfl, by decide +kernel, rfl, by decide +kernel, by decide +kernel⟩
theorem ok_l_end : T.l_end.Ok w base 42 spEndL := by
  have G_l_take := ok_l_take (w := w) (base := base) T
  refine T.l_end.ok sc_l_end (fun vs H Q E h => ?_) (fun cdv A outer s H vs Q E hr h => ?_)
  · obtain ⟨_, _, rfl, _⟩ := h
    rfl
  obtain ⟨b, n, rfl, hb, n1, n2, q⟩ := h
  refine ⟨_, (pss_one (ps_ret (pe_ix ix_list (pe_lst (pa_cons pe_int (pa_cons (pe_op op_sub (pv 1) pe_int) (pa_cons (pcl T.l_take G_l_take (hr.mono (by decide)) (pa_cons (pv 0) (pa_cons (pv 1) pa_nil))) pa_nil)))) (pcl T.l_take G_l_take (hr.mono (by decide)) (pa_cons (pv 0) (pa_cons pe_int pa_nil))) (fun _ _ => rfl)))), ?_⟩
  refine ⟨_, rfl, _, _, rfl, rfl, _, rfl, _, rfl, b, n, rfl, hb, n1, by omega, fun r H1 e1 k0 k1 => ⟨sz3, fun p hp => ?_⟩⟩
  have e2 : Le H1 (upd H1 p (.lst (([0, n - 1, r] : List Int).map V.int))) := Le.new hp
  refine ⟨_, rfl, b, 3, rfl, e2.bagAt (e1.bagAt hb), by decide, by decide, fun r2 H2 e3 k2 k3 => ?_⟩
  obtain ⟨v, hv, hm⟩ := pick (xs := ([0, n - 1, r] : List Int).map V.int) k2 (by show r2 < 3; exact k3)
  obtain ⟨m, rfl, hn⟩ := mem_ints hm
  have hn2 : 0 ≤ m ∧ m < n := by
    simp only [List.mem_cons, List.not_mem_nil, or_false] at hn
    omega
  exact ⟨p, _, _, _, rfl, rfl, e3.lst nb3 (sq_of upd_same), hv, q m _ ((e1.trans e2).trans e3) hn2.1 hn2.2⟩
def spPartOf (K : PySem.W.Frag) : Sp := fun vs H Q _ => ∃ (D : Root) (x : QD D) (n : Nat) (b : Addr) (u : V), vs = [.ref b, .int D.d, u] ∧ Bag H b ∧ Nm K H u x ∧ Sz n x ∧ n ≤ 8000000 ∧ 0 < x ∧ ∀ (y : QD D) v H', Le H H' → Nm K H' v y → 0 ≤ y → y < x → Sz (n + 40) y → Q v H'
theorem sc_l_part_of : FnScope ["_law_bag_here", "_law_d", "_law_x", "_law_wide"] ["_law_bag_here", "_law_d", "_law_x"] (defScope s_l_part_of) := ⟨rfl, rfl, rfl, by decide +kernel, rfl, by decide +kernel, by decide +kernel⟩
theorem ok_l_part_of (hs : base.NoSeer) : T.l_part_of.Ok w base 44 (spPartOf K) := by
  have G_l_take := ok_l_take (w := w) (base := base) T
  have G_l_low := ok_l_low (w := w) T hs
  have G_l_times := ok_l_times (w := w) T hs
  refine T.l_part_of.ok sc_l_part_of (fun vs H Q E h => ?_) (fun cdv A outer s H vs Q E hr h => ?_)
  · obtain ⟨_, _, _, _, _, rfl, _⟩ := h
    rfl
  obtain ⟨D, x, n, b, u, rfl, hb, hu, sx, hn, px, q⟩ := h
  have nd := sc_l_part_of.nd
  refine ⟨_, (pss_cons (ps_set (i := 3) nd rfl (by first | exact Or.inl rfl | exact Or.inr rfl) (pe_ix ix_list (pe_lst (pa_cons pe_int (pa_cons pe_int (pa_cons pe_int (pa_cons pe_int (pa_cons (pe_op op_pow pe_int pe_int) pa_nil)))))) (pcl T.l_take G_l_take (hr.mono (by decide)) (pa_cons (pv 0) (pa_cons pe_int pa_nil))) (fun _ _ => rfl)))
      (pss_one (ps_ret (pcl T.l_times G_l_times (hr.mono (by decide)) (pa_cons (pv 1) (pa_cons (pv 2) (pa_cons (pcl T.l_low G_l_low (hr.mono (by decide)) (pa_cons (pcl T.l_take G_l_take (hr.mono (by decide)) (pa_cons (pv 0) (pa_cons (pv 3) pa_nil))) (pa_cons pe_int (pa_cons (pv 3) pa_nil)))) pa_nil))))))), ?_⟩
  refine ⟨_, _, rfl, rfl, ⟨by decide, by decide, by decide⟩, sz_of (by show 5 ≤ 100000; decide), fun p hp => ?_⟩
  have e1 : Le H (upd H p (.lst [.int 2, .int 3, .int 7, .int 60, .int (10 ^ (6 : Int).toNat)])) := Le.new hp
  refine ⟨_, rfl, b, 5, rfl, e1.bagAt hb, by decide, by decide, fun r H2 e2 k0 k1 => ?_⟩
  obtain ⟨v, hv, hm⟩ := pick (xs := ([2, 3, 7, 60, 10 ^ (6 : Int).toNat] : List Int).map V.int) k0 (by show r < 5; exact k1)
  obtain ⟨wd, rfl, hw⟩ := mem_ints hm
  rw [pow6] at hw
  have hw2 : 2 ≤ wd ∧ wd ≤ 1000000 := by
    simp only [List.mem_cons, List.not_mem_nil, or_false] at hw
    omega
  refine ⟨p, _, _, _, rfl, rfl, e2.lst nb3 (sq_of upd_same), hv, ?_⟩
  have e12 := e1.trans e2
  generalize upd H p (.lst [.int 2, .int 3, .int 7, .int 60, .int (10 ^ (6 : Int).toNat)]) = H1 at e1 e2
  clear e1 e2
  refine ⟨_, rfl, _, rfl, _, rfl, _, rfl, b, wd, rfl, e12.bagAt hb, by omega, by omega, fun r2 H3 e3 k2 k3 => ?_⟩
  refine ⟨_, rfl, D, (r2 : QD D) / (wd : QD D), r2, 0, wd, rfl, by omega, u_bd (by omega) hw2.2, MF.QD.of_frac r2 wd, fun v4 H4 e4 h4 => ?_⟩
  have wp : (0 : QD D) < (wd : QD D) := MF.QD.int_pos.mpr (by omega)
  have wi := MF.QD.inv_pos wp
  have wn := MF.pos_ne wp
  have e20 : (2 : Nat) ^ 20 = 1048576 := by decide
  have sf : Sz 40 ((r2 : QD D) / (wd : QD D)) := (Sz.int (n := 20) (by omega)).div (Sz.int (n := 20) (by omega)) wn
  refine ⟨D, x, _, _, _, rfl, (by walk_at "up"), h4, .of sx (by omega), .of sf, fun v5 H5 e5 h5 => q _ _ _ (by walk_at "le") h5 ?_ ?_ ((sx.mul sf).mono (by omega))⟩
  · have r0 : (0 : QD D) ≤ (r2 : QD D) := by have := (MF.QD.int_le (D := D)).mpr k2; rw [MF.QD.int_zero] at this; exact this
    have h1 := MF.mul_nn wi r0
    have h2 := MF.mul_nn px h1
    rw [show x * ((r2 : QD D) / (wd : QD D)) = (r2 : QD D) * (wd : QD D)⁻¹ * x by grind]
    exact h2
  · have h1 : (r2 : QD D) < (wd : QD D) := (MF.QD.int_lt (D := D)).mpr k3
    have h2 := MF.QD.mul_lt px (MF.QD.mul_lt wi h1)
    rw [show x * ((r2 : QD D) / (wd : QD D)) = (r2 : QD D) * (wd : QD D)⁻¹ * x by grind]
    rw [show (wd : QD D) * (wd : QD D)⁻¹ * x = x by grind] at h2
    exact h2
end
end MW

namespace MW
open PySem PySem.Spec PyProof.Rows L2
open MF (Root QD Plan Wf KOk shape sumQ Tile Sd Inside Down share)
open MF.QD (Sz)
local macro_rules | `(tactic| walk_at "up") => `(tactic| first | assumption | (refine MW.Nm.up (by assumption) ?_; walk_at "up") | (refine MW.Le.tup (by assumption) ?_; walk_at "up") | (refine MW.KindsAt.upL (by assumption) ?_; walk_at "up") | (refine MW.PlanAt.upL (by assumption) ?_; walk_at "up") | (refine MW.Tl.upL (by assumption) ?_; walk_at "up") | (refine MW.Le.bagAt (by assumption) ?_; walk_at "up"))
local macro_rules | `(tactic| walk_at "le") => `(tactic| first | exact MW.Le.refl _ | assumption | (refine MW.Le.trans ?_ (by assumption); walk_at "le"))
theorem T6.upL {K : PySem.W.Frag} {H H' : Hp} {D : Root} {v : V} {t : Tile D} (e : Le H H') (h : T6 K H v t) : T6 K H' v t := by
  obtain ⟨p, a, b, c, d, h1, h2, h3, h4, h5, h6⟩ := h
  exact ⟨p, a, b, c, d, h1, e.tup h2, h3.up e, h4.up e, h5.up e, h6.up e⟩
theorem at4 {a b c d f : V} {r : List V} : atI (a :: b :: c :: d :: f :: r) 4 = some f := atI_nat (j := 4) rfl
theorem at5 {a b c d f g : V} {r : List V} : atI (a :: b :: c :: d :: f :: g :: r) 5 = some g := atI_nat (j := 5) rfl
theorem cut64 {a b c d f g : V} : cutV [a, b, c, d, f, g] none (some 4) = [a, b, c, d] := rfl
theorem cut62 {a b c d f g : V} : cutV [a, b, c, d, f, g] (some 4) none = [f, g] := rfl
/-- a tile's sides are small -/
def TSm {D : Root} (n : Nat) (t : Tile D) : Prop := Sz n t.x ∧ Sz n t.y ∧ Sz n t.w ∧ Sz n t.h
section
variable {K : PySem.W.Frag} {mg : Str → Option Value} {w : World} {base : Heap} (T : Txt K mg)
def spMovedL (K : PySem.W.Frag) : Sp := fun vs H Q _ => ∃ (D : Root) (f l b : QD D) (t : Tile D) (v uf ul ub : V), vs = [.int D.d, v, uf, ul, ub] ∧ (Nm K H uf f ∧ Nm K H ul l ∧ Nm K H ub b) ∧ T6 K H v t ∧ (Sz 30000 f ∧ Sz 30000 l ∧ Sz 30000 b) ∧ TSm 700000 t ∧
  ∀ r H', Le H H' → T6 K H' r (MF.moved f l b t) → Q r H'
theorem sc_l_moved : FnScope ["_law_d", "_law_tile", "_law_factor", "_law_left", "_law_low_here", "_law_x", "_law_y", "_law_width", "_law_height", "_law_side"] ["_law_d", "_law_tile", "_law_factor", "_law_left", "_law_low_here"] (defScope s_l_moved) := ⟨rfl, rfl, rfl, by decide +kernel, rfl, by decide +kernel, by decide +kernel⟩
theorem ok_l_moved (hs : base.NoSeer) : T.l_moved.Ok w base 44 (spMovedL K) := by
  have G_l_plus := ok_l_plus (w := w) T hs
  have G_l_times := ok_l_times (w := w) T hs
  refine T.l_moved.ok sc_l_moved (fun vs H Q E h => ?_) (fun cdv A outer s H vs Q E hr h => ?_)
  · obtain ⟨_, _, _, _, _, _, _, _, _, rfl, _⟩ := h
    rfl
  obtain ⟨D, f, l, b, t, v, uf, ul, ub, rfl, ⟨hf, hl, hb⟩, ⟨p, a1, a2, a3, a4, rfl, hp, n1, n2, n3, n4⟩, ⟨sf, sl, sb⟩, ⟨sx, sy, sz, sh⟩, q⟩ := h
  have nd := sc_l_moved.nd
  refine ⟨_, (pss_cons (ps_asg (pe_lc (own := [("_law_side", 9)]) (g := gName 9) (tt := tYes) rfl nd (pi_tup (pe_slice sl_tup (pv 1) po_none (po_some pe_int))) (blkOk_by (own := [("_law_side", 9)]) (N := ["_law_d", "_law_tile", "_law_factor", "_law_left", "_law_low_here", "_law_x", "_law_y", "_law_width", "_law_height", "_law_side"]) (sc := defScope s_l_moved) (by decide +kernel)) (fun _ _ _ _ _ => pg_name (i := 9) nd rfl (Or.inl rfl)) (fun _ _ _ _ _ => pts_nil) (fun _ _ _ _ _ => (pcl T.l_times G_l_times (hr.mono (by decide)) (pa_cons (pv 0) (pa_cons (pv 9) (pa_cons (pv 2) pa_nil)))))) (pg_unl rfl (pgs_cons (pg_name (i := 5) nd rfl (by first | exact Or.inl rfl | exact Or.inr rfl)) (pgs_cons (pg_name (i := 6) nd rfl (by first | exact Or.inl rfl | exact Or.inr rfl)) (pgs_cons (pg_name (i := 7) nd rfl (by first | exact Or.inl rfl | exact Or.inr rfl)) (pgs_cons (pg_name (i := 8) nd rfl (by first | exact Or.inl rfl | exact Or.inr rfl)) pgs_nil))))))
      (pss_one (ps_ret (pe_op op_catT (pe_tup (pa_cons (pcl T.l_plus G_l_plus (hr.mono (by decide)) (pa_cons (pv 5) (pa_cons (pv 3) pa_nil))) (pa_cons (pcl T.l_plus G_l_plus (hr.mono (by decide)) (pa_cons (pv 6) (pa_cons (pv 4) pa_nil))) (pa_cons (pv 7) (pa_cons (pv 8) pa_nil))))) (pe_slice sl_tup (pv 1) (po_some pe_int) po_none))))), ?_⟩
  refine ⟨_, rfl, _, rfl, p, _, rfl, hp, (by show ¬ (HT.sIx 6 0 none = 0 ∧ HT.sIx 6 6 (some 4) = 6); decide), fun p0 hp0 => ?_⟩
  rw [cut64]
  have e0 : Le H (upd H p0 (.tup [a1, a2, a3, a4])) := Le.new hp0
  have h0 : SqT K (upd H p0 (.tup [a1, a2, a3, a4])) p0 [a1, a2, a3, a4] := st_of upd_same
  generalize upd H p0 (.tup [a1, a2, a3, a4]) = H0 at e0 h0
  refine ⟨p0, rfl, ⟨_, h0⟩, fun Dd hD => ?_⟩
  refine comp_tup (xs := [a1, a2, a3, a4]) (fun i r H' => ∃ k, [t.x, t.y, t.w, t.h][i]? = some k ∧ Nm K H' r (k * f)) (fun i z H H' e h => ⟨h.choose, h.choose_spec.1, h.choose_spec.2.upT e⟩) (fun i z H h => h.choose_spec.2.nint) h0 (by show 4 ≤ 1000; decide) hD (fun i r H' hi e Q' q' => ?_) (fun ys H' e hl2 hn hr' => ?_) mono_name
  · have key : ∃ k : QD D, [t.x, t.y, t.w, t.h][i]? = some k ∧ Nm K H' r k ∧ Sz 700000 k := by
      rcases ix4 hi with ⟨rfl, rfl⟩ | ⟨rfl, rfl⟩ | ⟨rfl, rfl⟩ | ⟨rfl, rfl⟩
      · exact ⟨_, rfl, (n1.up e0).up e, sx⟩
      · exact ⟨_, rfl, (n2.up e0).up e, sy⟩
      · exact ⟨_, rfl, (n3.up e0).up e, sz⟩
      · exact ⟨_, rfl, (n4.up e0).up e, sh⟩
    obtain ⟨k, k1, k2, k3⟩ := key
    exact ⟨rfl, _, rfl, _, rfl, _, rfl, D, k, f, _, _, rfl, k2, (hf.up e0).up e, .of k3, .of sf, fun v3 H3 e4 h4 => q' _ _ e4 ⟨k, k1, h4⟩⟩
  · obtain ⟨y1, y2, y3, y4, rfl⟩ := list4 (show ys.length = 4 from hn)
    obtain ⟨k1, z1, m1⟩ := hr' 0 y1 rfl
    obtain ⟨k2, z2, m2⟩ := hr' 1 y2 rfl
    obtain ⟨k3, z3, m3⟩ := hr' 2 y3 rfl
    obtain ⟨k4, z4, m4⟩ := hr' 3 y4 rfl
    cases z1; cases z2; cases z3; cases z4
    refine ⟨Dd, _, rfl, sq_of hl2, rfl, _, _, rfl, _, _, rfl, _, _, rfl, _, _, rfl, rfl, ?_⟩
    refine ⟨_, rfl, _, rfl, D, t.x * f, l, _, _, rfl, m1, (by walk_at "up"), .of (sx.mul sf), .of sl, fun v1 H1 e1 h1 => ?_⟩
    refine ⟨_, rfl, _, rfl, D, t.y * f, b, _, _, rfl, (by walk_at "up"), (by walk_at "up"), .of (sy.mul sf), .of sb, fun v2 H2 e2 h2 => ?_⟩
    refine ⟨_, rfl, _, rfl, sz4, fun r hr2 => ?_⟩
    have e3 : Le H2 (upd H2 r (.tup [v1, v2, y3, y4])) := Le.new hr2
    have h3 : SqT K (upd H2 r (.tup [v1, v2, y3, y4])) r [v1, v2, y3, y4] := st_of upd_same
    generalize upd H2 r (.tup [v1, v2, y3, y4]) = H3 at e3 h3
    have hpe : SqT K H3 p [a1, a2, a3, a4, .int (t.k : Int), .bl t.t] := e3.tup (e2.tup (e1.tup (e.tup (e0.tup hp))))
    refine ⟨_, rfl, _, rfl, p, _, rfl, hpe, (by show ¬ (HT.sIx 6 0 (some 4) = 0 ∧ HT.sIx 6 6 none = 6); decide), fun p4 hp4 => ?_⟩
    rw [cut62]
    have e4 : Le H3 (upd H3 p4 (.tup [.int (t.k : Int), .bl t.t])) := Le.new hp4
    refine ⟨r, p4, _, _, rfl, rfl, e4.tup h3, st_of upd_same, (fun z => nomatch z), sz_of (by show 6 ≤ 100000; decide), (fun z => nomatch z), fun _ r5 hr5 => ?_⟩
    have e5 : Le (upd H3 p4 (.tup [.int (t.k : Int), .bl t.t])) (upd (upd H3 p4 (.tup [.int (t.k : Int), .bl t.t])) r5 (.tup ([v1, v2, y3, y4] ++ [.int (t.k : Int), .bl t.t]))) := Le.new hr5
    refine q _ _ (by walk_at "le") ⟨r5, v1, v2, y3, y4, rfl, st_of upd_same, ?_, ?_, ?_, ?_⟩
    · exact (((h1.up e2).up e3).up e4).up e5
    · exact ((h2.up e3).up e4).up e5
    · exact ((((m3.up e1).up e2).up e3).up e4).up e5
    · exact ((((m4.up e1).up e2).up e3).up e4).up e5
def spQuarterL (K : PySem.W.Frag) : Sp := fun vs H Q _ => ∃ (D : Root) (s : QD D) (t : Tile D) (v us : V), vs = [.int D.d, v, us] ∧ Nm K H us s ∧ T6 K H v t ∧ Sz 30000 s ∧ 0 < s ∧ TSm 700000 t ∧
  ∀ r H', Le H H' → T6 K H' r (MF.quarter s t) → Q r H'
theorem sc_l_quarter : FnScope ["_law_d", "_law_tile", "_law_shape_here", "_law_x", "_law_y", "_law_width", "_law_height", "_law_left", "_law_contrary_here", "_law_sides", "_law_side"] ["_law_d", "_law_tile", "_law_shape_here"] (defScope s_l_quarter) := ⟨rfl, rfl, rfl, by decide +kernel, rfl, by decide +kernel, by decide +kernel⟩
theorem ok_l_quarter (hs : base.NoSeer) : T.l_quarter.Ok w base 44 (spQuarterL K) := by
  have G_l_plus := ok_l_plus (w := w) T hs
  have G_l_minus := ok_l_minus (w := w) (base := base) T
  have G_l_times := ok_l_times (w := w) T hs
  have G_l_contrary := ok_l_contrary (w := w) T hs
  refine T.l_quarter.ok sc_l_quarter (fun vs H Q E h => ?_) (fun cdv A outer s H vs Q E hr h => ?_)
  · obtain ⟨_, _, _, _, _, rfl, _⟩ := h
    rfl
  obtain ⟨D, s, t, v, us, rfl, hu, ⟨p, a1, a2, a3, a4, rfl, hp, n1, n2, n3, n4⟩, ss, s0, ⟨sx, sy, sz, sh⟩, q⟩ := h
  have nd := sc_l_quarter.nd
  have sne := MF.pos_ne s0
  refine ⟨_, (pss_cons (ps_asg (pe_slice sl_tup (pv 1) po_none (po_some pe_int)) (pg_tup rfl (pgs_cons (pg_name (i := 3) nd rfl (by first | exact Or.inl rfl | exact Or.inr rfl)) (pgs_cons (pg_name (i := 4) nd rfl (by first | exact Or.inl rfl | exact Or.inr rfl)) (pgs_cons (pg_name (i := 5) nd rfl (by first | exact Or.inl rfl | exact Or.inr rfl)) (pgs_cons (pg_name (i := 6) nd rfl (by first | exact Or.inl rfl | exact Or.inr rfl)) pgs_nil))))))
      (pss_cons (ps_set (i := 7) nd rfl (by first | exact Or.inl rfl | exact Or.inr rfl) (pcl T.l_plus G_l_plus (hr.mono (by decide)) (pa_cons (pv 2) (pa_cons (pcl T.l_minus G_l_minus (hr.mono (by decide)) (pa_cons (pcl T.l_plus G_l_plus (hr.mono (by decide)) (pa_cons (pv 4) (pa_cons (pv 6) pa_nil))) pa_nil)) pa_nil))))
      (pss_cons (ps_set (i := 8) nd rfl (by first | exact Or.inl rfl | exact Or.inr rfl) (pcl T.l_contrary G_l_contrary (hr.mono (by decide)) (pa_cons (pv 0) (pa_cons (pv 2) pa_nil))))
      (pss_cons (ps_set (i := 9) nd rfl (by first | exact Or.inl rfl | exact Or.inr rfl) (pe_callTy call_tuple_of rfl T.b_tuple (by decide +kernel) (pa_cons (pe_lc (own := [("_law_side", 10)]) (g := gName 10) (tt := tYes) rfl nd (pi_tup (pe_tup (pa_cons (pv 7) (pa_cons (pv 3) (pa_cons (pv 6) (pa_cons (pv 5) pa_nil)))))) (blkOk_by (own := [("_law_side", 10)]) (N := ["_law_d", "_law_tile", "_law_shape_here", "_law_x", "_law_y", "_law_width", "_law_height", "_law_left", "_law_contrary_here", "_law_sides", "_law_side"]) (sc := defScope s_l_quarter) (by decide +kernel)) (fun _ _ _ _ _ => pg_name (i := 10) nd rfl (Or.inl rfl)) (fun _ _ _ _ _ => pts_nil) (fun _ _ _ _ _ => (pcl T.l_times G_l_times (hr.mono (by decide)) (pa_cons (pv 0) (pa_cons (pv 10) (pa_cons (pv 8) pa_nil)))))) pa_nil)))
      (pss_one (ps_ret (pe_op op_catT (pv 9) (pe_tup (pa_cons (pe_ix ix_tup (pv 1) pe_int (fun _ _ => rfl)) (pa_cons (pe_not (pe_ix ix_tup (pv 1) pe_int (fun _ _ => rfl))) pa_nil)))))))))), ?_⟩
  refine ⟨_, rfl, _, rfl, p, _, rfl, hp, (by show ¬ (HT.sIx 6 0 none = 0 ∧ HT.sIx 6 6 (some 4) = 6); decide), fun p0 hp0 => ?_⟩
  rw [cut64]
  have e0 : Le H (upd H p0 (.tup [a1, a2, a3, a4])) := Le.new hp0
  have h0 : SqT K (upd H p0 (.tup [a1, a2, a3, a4])) p0 [a1, a2, a3, a4] := st_of upd_same
  generalize upd H p0 (.tup [a1, a2, a3, a4]) = H0 at e0 h0
  refine ⟨_, _, rfl, h0, rfl, _, _, rfl, _, _, rfl, _, _, rfl, _, _, rfl, rfl, ?_⟩
  have s1 := sy.add sh
  have s2 := ss.add (MF.QD.Sz.neg s1)
  refine ⟨_, rfl, _, rfl, _, rfl, D, t.y, t.h, _, _, rfl, (by walk_at "up"), (by walk_at "up"), .of sy, .of sh, fun v1 H1 e1 h1 => ?_⟩
  refine ⟨D, t.y + t.h, _, rfl, h1, fun v2 H2 e2 h2 => ?_⟩
  refine ⟨D, s, -(t.y + t.h), _, _, rfl, (by walk_at "up"), h2, .of ss, .of (MF.QD.Sz.neg s1), fun v3 H3 e3 h3 => ?_⟩
  refine ⟨_, rfl, _, rfl, D, s, _, rfl, (by walk_at "up"), .of ss, sne, fun v4 H4 e4 h4 => ?_⟩
  refine ⟨_, rfl, _, rfl, _, rfl, _, rfl, sz4, fun p5 hp5 => ?_⟩
  have e5 : Le H4 (upd H4 p5 (.tup [v3, a1, a4, a3])) := Le.new hp5
  have h5 : SqT K (upd H4 p5 (.tup [v3, a1, a4, a3])) p5 [v3, a1, a4, a3] := st_of upd_same
  generalize upd H4 p5 (.tup [v3, a1, a4, a3]) = H5 at e5 h5
  refine ⟨p5, rfl, ⟨_, h5⟩, fun Dd hD => ?_⟩
  have m1 : Nm K H5 v3 (s + -(t.y + t.h)) := by walk_at "up"
  have m2 : Nm K H5 a1 t.x := by walk_at "up"
  have m3 : Nm K H5 a4 t.h := by walk_at "up"
  have m4 : Nm K H5 a3 t.w := by walk_at "up"
  have m5 : Nm K H5 v4 s⁻¹ := by walk_at "up"
  have m6 : SqT K H5 p [a1, a2, a3, a4, .int (t.k : Int), .bl t.t] := by walk_at "up"
  have e6 : Le H H5 := by walk_at "le"
  refine comp_tup (xs := [v3, a1, a4, a3]) (fun i r H' => ∃ k, [s + -(t.y + t.h), t.x, t.h, t.w][i]? = some k ∧ Nm K H' r (k * s⁻¹)) (fun i z H H' e h => ⟨h.choose, h.choose_spec.1, h.choose_spec.2.upT e⟩) (fun i z H h => h.choose_spec.2.nint) h5 (by show 4 ≤ 1000; decide) hD (fun i r H' hi e Q' q' => ?_) (fun ys H' e hl2 hn hr' => ?_) mono_name
  · have key : ∃ k : QD D, [s + -(t.y + t.h), t.x, t.h, t.w][i]? = some k ∧ Nm K H' r k ∧ Sml k := by
      rcases ix4 hi with ⟨rfl, rfl⟩ | ⟨rfl, rfl⟩ | ⟨rfl, rfl⟩ | ⟨rfl, rfl⟩
      · exact ⟨_, rfl, m1.up e, .of s2⟩
      · exact ⟨_, rfl, m2.up e, .of sx⟩
      · exact ⟨_, rfl, m3.up e, .of sh⟩
      · exact ⟨_, rfl, m4.up e, .of sz⟩
    obtain ⟨k, k1, k2, k3⟩ := key
    exact ⟨rfl, _, rfl, _, rfl, _, rfl, D, k, s⁻¹, _, _, rfl, k2, m5.up e, k3, .of (ss.inv sne), fun v6 H6 e7 h7 => q' _ _ e7 ⟨k, k1, h7⟩⟩
  · obtain ⟨y1, y2, y3, y4, rfl⟩ := list4 (show ys.length = 4 from hn)
    obtain ⟨k1, z1, j1⟩ := hr' 0 y1 rfl
    obtain ⟨k2, z2, j2⟩ := hr' 1 y2 rfl
    obtain ⟨k3, z3, j3⟩ := hr' 2 y3 rfl
    obtain ⟨k4, z4, j4⟩ := hr' 3 y4 rfl
    cases z1; cases z2; cases z3; cases z4
    refine ⟨Dd, _, rfl, .inl ⟨sq_of hl2, fun l hl3 => ?_⟩⟩
    have e7 : Le H' (upd H' l (.tup [y1, y2, y3, y4])) := Le.new hl3
    have h7 : SqT K (upd H' l (.tup [y1, y2, y3, y4])) l [y1, y2, y3, y4] := st_of upd_same
    generalize upd H' l (.tup [y1, y2, y3, y4]) = H7 at e7 h7
    refine ⟨_, rfl, _, rfl, _, _, _, _, rfl, rfl, (by walk_at "up"), at4 (a := a1) (b := a2) (c := a3) (d := a4) (f := .int (t.k : Int)) (r := [.bl t.t]), _, rfl, _, _, _, _, rfl, rfl, (by walk_at "up"), at5 (a := a1) (b := a2) (c := a3) (d := a4) (f := .int (t.k : Int)) (g := .bl t.t) (r := []), t.t, rfl, sz2, fun p8 hp8 => ?_⟩
    have e8 : Le H7 (upd H7 p8 (.tup [.int (t.k : Int), .bl (!t.t)])) := Le.new hp8
    refine ⟨l, p8, _, _, rfl, rfl, e8.tup h7, st_of upd_same, (fun z => nomatch z), sz_of (by show 6 ≤ 100000; decide), (fun z => nomatch z), fun _ r9 hr9 => ?_⟩
    have e9 : Le (upd H7 p8 (.tup [.int (t.k : Int), .bl (!t.t)])) (upd (upd H7 p8 (.tup [.int (t.k : Int), .bl (!t.t)])) r9 (.tup ([y1, y2, y3, y4] ++ [.int (t.k : Int), .bl (!t.t)]))) := Le.new hr9
    exact q _ _ (by walk_at "le") ⟨r9, y1, y2, y3, y4, rfl, st_of upd_same, ((j1.up e7).up e8).up e9, ((j2.up e7).up e8).up e9, ((j3.up e7).up e8).up e9, ((j4.up e7).up e8).up e9⟩
end
end MW

namespace MW
open PySem PySem.Spec PyProof.Rows L2
open MF (Root QD Plan Wf KOk shape sumQ Tile Sd Inside Down share)
open MF.QD (Sz)
local macro_rules | `(tactic| walk_at "up") => `(tactic| first | assumption | (refine MW.Nm.up (by assumption) ?_; walk_at "up") | (refine MW.Le.tup (by assumption) ?_; walk_at "up") | (refine MW.KindsAt.upL (by assumption) ?_; walk_at "up") | (refine MW.PlanAt.upL (by assumption) ?_; walk_at "up") | (refine MW.Tl.upL (by assumption) ?_; walk_at "up") | (refine MW.Le.bagAt (by assumption) ?_; walk_at "up") | (refine MW.T6.upL (by assumption) ?_; walk_at "up"))
local macro_rules | `(tactic| walk_at "le") => `(tactic| first | exact MW.Le.refl _ | assumption | (refine MW.Le.trans ?_ (by assumption); walk_at "le"))
theorem cut_take {xs : List V} (i : Nat) : cutV xs none (some (i : Int)) = xs.take i := by
  unfold cutV
  rw [HT.sIx_none, HT.sIx_nat, List.drop_zero, Nat.sub_zero, List.take_eq_take_iff]
  omega
theorem cut_take1 {xs : List V} (i : Nat) : cutV xs none (some ((i : Int) + 1)) = xs.take (i + 1) := cut_take (i + 1)
theorem slA_of {K : PySem.W.Frag} {H : Hp} {a : Addr} {xs : List V} {lo hi : Option Int} {Q : VK} (ha : SqT K H a xs) (q : ∀ c H', Le H H' → SqT K H' c (cutV xs lo hi) → Q (.ref c) H') : rSlA K (.ref a) lo hi H Q := by
  refine ⟨a, xs, rfl, ha, fun w => q a H (Le.refl _) ?_, fun _ p hp => q p _ (Le.new hp) (st_of upd_same)⟩
  have e : cutV xs lo hi = xs := by
    unfold cutV
    rw [w.1, w.2, List.drop_zero, Nat.sub_zero, List.take_length]
  rw [e]
  exact ha
theorem Al.take {α β : Type} {F : α → β → Prop} {vs : List α} {xs : List β} (h : Al F vs xs) (n : Nat) : Al F (vs.take n) (xs.take n) := by
  refine ⟨by rw [List.length_take, List.length_take, h.1], fun i u x a b => ?_⟩
  rw [List.getElem?_take] at a b
  by_cases c : i < n
  · rw [if_pos c] at a b; exact h.2 i u x a b
  · rw [if_neg c] at a; cases a
theorem nm_zero {K : PySem.W.Frag} {H : Hp} {D : Root} {p : Addr} (h : SqT K H p [.int 0, .int 0, .int 1]) : Nm K H (.ref p) (0 : QD D) := by
  obtain ⟨h1, h2, h3⟩ := MF.QD.tri_zero (D := D)
  exact ⟨p, rfl, by unfold tr; rw [h1, h2, h3]; exact h⟩
theorem take_take1 {α : Type} (xs : List α) (i : Nat) : (xs.take (i + 1)).take i = xs.take i := by
  rw [List.take_take, Nat.min_eq_left (by omega)]
section
variable {K : PySem.W.Frag} {mg : Str → Option Value} {w : World} {base : Heap} (T : Txt K mg)
def spDownL (K : PySem.W.Frag) (n : Nat) : Sp := fun vs H Q _ => ∃ (D : Root) (ks : List (QD D)) (P : Plan) (b : Addr) (u v : V), vs = [.ref b, .int D.d, u, v] ∧ Bag H b ∧ KOk ks ∧ KindsAt K H u ks ∧ PlanAt K H n v P ∧ Wf ks.length n P ∧ P.size ≤ 60 ∧
  ∀ (t : Tile D) r H', Le H H' → Down ks P t → T6 K H' r t → Q r H'
theorem sc_l_down : FnScope ["_law_bag_here", "_law_d", "_law_kinds_here", "_law_plan_here", "_law_nought", "_law_one", "_law_tile", "_law_left", "_law_low_here", "_law_at", "_law_shapes", "_law_part", "_law_whole", "_law_shares", "_law_shape_here"] ["_law_bag_here", "_law_d", "_law_kinds_here", "_law_plan_here"] (defScope s_l_down) := ⟨rfl, rfl, rfl, by decide +kernel, rfl, by decide +kernel, by decide +kernel⟩
theorem ok_l_down (hs : base.NoSeer) : ∀ n : Nat, n ≤ 14 → T.l_down.Ok w base (65 + n) (spDownL K n)
  | 0, _ => by
    have no : ∀ vs H Q E, ¬ spDownL K 0 vs H Q E := fun vs H Q E h => by
      obtain ⟨_, _, P, _, _, v, _, _, _, _, hP, _⟩ := h
      exact hP
    exact ⟨fun vs H Q E h => absurd h (no vs H Q E), fun A outer s H args us vs Q E _ _ _ _ h => absurd h (no vs H Q E)⟩
  | n + 1, hn14 => by
    have G_l_down := ok_l_down hs n (by omega)
    have G_l_shape := ok_l_shape_A (w := w) T hs
    have G_l_contrary := ok_l_contrary (w := w) T hs
    have G_l_times := ok_l_times (w := w) T hs
    have G_l_low := ok_l_low (w := w) T hs
    have G_l_sum := ok_l_sum (w := w) T hs
    have G_l_end := ok_l_end (w := w) (base := base) T
    have G_l_moved := ok_l_moved (w := w) T hs
    have G_l_quarter := ok_l_quarter (w := w) T hs
    refine FnOk.mono (j := 65 + n + 1) (T.l_down.ok (k := 65 + n) sc_l_down (fun vs H Q E h => ?_) (fun cdv A outer s H vs Q E hr h => ?_)) (by omega)
    · obtain ⟨_, _, _, _, _, _, rfl, _⟩ := h
      rfl
    obtain ⟨D, ks, P, ba, u, v, rfl, hba, hk, hkv, hP, wf, h60, q⟩ := h
    have nd := sc_l_down.nd
    refine ⟨_, (pss_cons (ps_asg (pe_tup (pa_cons (pe_tup (pa_cons pe_int (pa_cons pe_int (pa_cons pe_int pa_nil)))) (pa_cons (pe_tup (pa_cons pe_int (pa_cons pe_int (pa_cons pe_int pa_nil)))) pa_nil))) (pg_tup rfl (pgs_cons (pg_name (i := 4) nd rfl (by first | exact Or.inl rfl | exact Or.inr rfl)) (pgs_cons (pg_name (i := 5) nd rfl (by first | exact Or.inl rfl | exact Or.inr rfl)) pgs_nil))))
      (pss_cons (ps_if (pt_cmpR op_eq (pe_ix ix_tup (pv 3) pe_int (fun _ _ => rfl)) pe_str (nomark _)) (pss_one (ps_ret (pe_tup (pa_cons (pv 4) (pa_cons (pv 4) (pa_cons (pv 5) (pa_cons (pe_ix ix_tup (pv 2) (pe_ix ix_tup (pv 3) pe_int (fun _ _ => rfl)) (fun _ _ => rfl)) (pa_cons (pe_ix ix_tup (pv 3) pe_int (fun _ _ => rfl)) (pa_cons pe_bl pa_nil))))))))) pss_nil)
      (pss_cons (ps_if (pt_cmpR op_eq (pe_ix ix_tup (pv 3) pe_int (fun _ _ => rfl)) pe_str (nomark _)) (pss_one (ps_ret (pcl T.l_quarter G_l_quarter (hr.mono (by omega)) (pa_cons (pv 1) (pa_cons (pcl T.l_down G_l_down (hr.mono (by omega)) (pa_cons (pv 0) (pa_cons (pv 1) (pa_cons (pv 2) (pa_cons (pe_ix ix_tup (pv 3) pe_int (fun _ _ => rfl)) pa_nil))))) (pa_cons (pcl T.l_shape G_l_shape (hr.mono (by omega)) (pa_cons (pv 1) (pa_cons (pv 2) (pa_cons (pe_ix ix_tup (pv 3) pe_int (fun _ _ => rfl)) pa_nil)))) pa_nil)))))) pss_nil)
      (pss_cons (ps_if (pt_cmpR op_eq (pe_ix ix_tup (pv 3) pe_int (fun _ _ => rfl)) pe_str (nomark _)) (pss_cons (ps_set (i := 6) nd rfl (by first | exact Or.inl rfl | exact Or.inr rfl) (pcl T.l_down G_l_down (hr.mono (by omega)) (pa_cons (pv 0) (pa_cons (pv 1) (pa_cons (pv 2) (pa_cons (pe_ix ix_tup (pv 3) pe_int (fun _ _ => rfl)) pa_nil))))))
      (pss_cons (ps_set (i := 7) nd rfl (by first | exact Or.inl rfl | exact Or.inr rfl) (pcl T.l_low G_l_low (hr.mono (by omega)) (pa_cons (pcl T.l_end G_l_end (hr.mono (by omega)) (pa_cons (pv 0) (pa_cons (pe_ix ix_tup (pv 3) pe_int (fun _ _ => rfl)) pa_nil))) (pa_cons pe_int (pa_cons (pe_ix ix_tup (pv 3) pe_int (fun _ _ => rfl)) pa_nil)))))
      (pss_cons (ps_set (i := 8) nd rfl (by first | exact Or.inl rfl | exact Or.inr rfl) (pcl T.l_times G_l_times (hr.mono (by omega)) (pa_cons (pv 1) (pa_cons (pcl T.l_shape G_l_shape (hr.mono (by omega)) (pa_cons (pv 1) (pa_cons (pv 2) (pa_cons (pe_ix ix_tup (pv 3) pe_int (fun _ _ => rfl)) pa_nil)))) (pa_cons (pcl T.l_low G_l_low (hr.mono (by omega)) (pa_cons (pcl T.l_end G_l_end (hr.mono (by omega)) (pa_cons (pv 0) (pa_cons (pe_ix ix_tup (pv 3) pe_int (fun _ _ => rfl)) pa_nil))) (pa_cons pe_int (pa_cons (pe_ix ix_tup (pv 3) pe_int (fun _ _ => rfl)) pa_nil)))) pa_nil)))))
      (pss_one (ps_ret (pcl T.l_moved G_l_moved (hr.mono (by omega)) (pa_cons (pv 1) (pa_cons (pv 6) (pa_cons (pcl T.l_low G_l_low (hr.mono (by omega)) (pa_cons pe_int (pa_cons pe_int (pa_cons (pe_ix ix_tup (pv 3) pe_int (fun _ _ => rfl)) pa_nil)))) (pa_cons (pv 7) (pa_cons (pv 8) pa_nil))))))))))) pss_nil)
      (pss_cons (ps_set (i := 9) nd rfl (by first | exact Or.inl rfl | exact Or.inr rfl) (pcl T.l_end G_l_end (hr.mono (by omega)) (pa_cons (pv 0) (pa_cons (pe_callB call_len_seq rfl T.b_len PySem.boot_len (pa_cons (pe_ix ix_tup (pv 3) pe_int (fun _ _ => rfl)) pa_nil)) pa_nil))))
      (pss_cons (ps_set (i := 6) nd rfl (by first | exact Or.inl rfl | exact Or.inr rfl) (pcl T.l_down G_l_down (hr.mono (by omega)) (pa_cons (pv 0) (pa_cons (pv 1) (pa_cons (pv 2) (pa_cons (pe_ix ix_tup (pe_ix ix_tup (pv 3) pe_int (fun _ _ => rfl)) (pv 9) (fun _ _ => rfl)) pa_nil))))))
      (pss_cons (ps_setLc (i := 10) (own := [("_law_part", 11)]) (g := gName 11) (tt := tYes) rfl nd rfl rfl (sw_true rfl rfl rfl (by decide +kernel)) (pi_tup (pe_slice sl_tupA (pe_ix ix_tup (pv 3) pe_int (fun _ _ => rfl)) po_none (po_some (pe_op op_add (pv 9) pe_int)))) (blkOk_by (own := [("_law_part", 11)]) (N := ["_law_bag_here", "_law_d", "_law_kinds_here", "_law_plan_here", "_law_nought", "_law_one", "_law_tile", "_law_left", "_law_low_here", "_law_at", "_law_shapes", "_law_part", "_law_whole", "_law_shares", "_law_shape_here"]) (sc := defScope s_l_down) (by decide +kernel)) (fun _ _ _ _ _ => pg_name (i := 11) nd rfl (Or.inl rfl)) (fun _ _ _ _ _ => pts_nil) (fun _ _ _ _ _ => (pcl T.l_shape G_l_shape (hr.mono (by omega)) (pa_cons (pv 1) (pa_cons (pv 2) (pa_cons (pv 11) pa_nil))))))
      (pss_cons (ps_if (pt_cmpR op_eq (pe_ix ix_tup (pv 3) pe_int (fun _ _ => rfl)) pe_str (nomark _)) (pss_one (ps_ret (pcl T.l_moved G_l_moved (hr.mono (by omega)) (pa_cons (pv 1) (pa_cons (pv 6) (pa_cons (pv 5) (pa_cons (pv 4) (pa_cons (pcl T.l_sum G_l_sum (hr.mono (by omega)) (pa_cons (pe_slice sl_list (pv 10) po_none (po_some (pv 9))) pa_nil)) pa_nil)))))))) pss_nil)
      (pss_cons (ps_set (i := 12) nd rfl (by first | exact Or.inl rfl | exact Or.inr rfl) (pcl T.l_shape G_l_shape (hr.mono (by omega)) (pa_cons (pv 1) (pa_cons (pv 2) (pa_cons (pv 3) pa_nil)))))
      (pss_cons (ps_setLc (i := 13) (own := [("_law_shape_here", 14)]) (g := gName 14) (tt := tYes) rfl nd rfl rfl (sw_true rfl rfl rfl (by decide +kernel)) (pi_list (pv 10)) (blkOk_by (own := [("_law_shape_here", 14)]) (N := ["_law_bag_here", "_law_d", "_law_kinds_here", "_law_plan_here", "_law_nought", "_law_one", "_law_tile", "_law_left", "_law_low_here", "_law_at", "_law_shapes", "_law_part", "_law_whole", "_law_shares", "_law_shape_here"]) (sc := defScope s_l_down) (by decide +kernel)) (fun _ _ _ _ _ => pg_name (i := 14) nd rfl (Or.inl rfl)) (fun _ _ _ _ _ => pts_nil) (fun _ _ _ _ _ => (pcl T.l_times G_l_times (hr.mono (by omega)) (pa_cons (pv 1) (pa_cons (pv 12) (pa_cons (pcl T.l_contrary G_l_contrary (hr.mono (by omega)) (pa_cons (pv 1) (pa_cons (pv 14) pa_nil))) pa_nil))))))
      (pss_one (ps_ret (pcl T.l_moved G_l_moved (hr.mono (by omega)) (pa_cons (pv 1) (pa_cons (pv 6) (pa_cons (pe_ix ix_list (pv 13) (pv 9) (fun _ _ => rfl)) (pa_cons (pcl T.l_sum G_l_sum (hr.mono (by omega)) (pa_cons (pe_slice sl_list (pv 13) po_none (po_some (pv 9))) pa_nil)) (pa_cons (pv 4) pa_nil)))))))))))))))))), ?_⟩
    refine ⟨sz3, fun p1 hp1 => ?_⟩
    have e1 : Le H (upd H p1 (.tup [.int 0, .int 0, .int 1])) := Le.new hp1
    have h1 : Nm K (upd H p1 (.tup [.int 0, .int 0, .int 1])) (.ref p1) (0 : QD D) := nm_zero (st_of upd_same)
    generalize upd H p1 (.tup [.int 0, .int 0, .int 1]) = H1 at e1 h1
    refine ⟨sz3, fun p2 hp2 => ?_⟩
    have e2 : Le H1 (upd H1 p2 (.tup [.int 1, .int 0, .int 1])) := Le.new hp2
    have h2 : Nm K (upd H1 p2 (.tup [.int 1, .int 0, .int 1])) (.ref p2) (1 : QD D) := nm_one (st_of upd_same)
    generalize upd H1 p2 (.tup [.int 1, .int 0, .int 1]) = H2 at e2 h2
    refine ⟨sz2, fun p3 hp3 => ?_⟩
    have e3 : Le H2 (upd H2 p3 (.tup [.ref p1, .ref p2])) := Le.new hp3
    have h3 : SqT K (upd H2 p3 (.tup [.ref p1, .ref p2])) p3 [.ref p1, .ref p2] := st_of upd_same
    generalize upd H2 p3 (.tup [.ref p1, .ref p2]) = H3 at e3 h3
    refine ⟨_, _, rfl, h3, rfl, _, _, rfl, _, _, rfl, rfl, ?_⟩
    have hno : Nm K H3 (.ref p1) (0 : QD D) := by walk_at "up"
    have hon : Nm K H3 (.ref p2) (1 : QD D) := by walk_at "up"
    replace hba : Bag H3 ba := by walk_at "up"
    replace hkv : KindsAt K H3 u ks := by walk_at "up"
    replace hP : PlanAt K H3 (n + 1) v P := by walk_at "up"
    have e03 : Le H H3 := by walk_at "le"
    clear e1 e2 e3 h1 h2 h3 hp1 hp2 hp3
    cases P with
    | kind k =>
      obtain ⟨a, rfl, ha⟩ := hP
      obtain ⟨b, us, rfl, hb, al⟩ := hkv
      obtain ⟨uk, huk, hn⟩ := kinds_ix al wf
      refine ⟨_, rfl, _, _, _, _, rfl, rfl, ha, at0, rfl, _, rfl, ifT rfl ?_⟩
      refine ⟨_, rfl, _, rfl, _, rfl, _, rfl, _, rfl, _, _, _, _, rfl, rfl, ha, at1, _, _, _, _, rfl, rfl, hb, huk, _, rfl, _, _, _, _, rfl, rfl, ha, at1, sz_of (by show 6 ≤ 100000; decide), fun p4 hp4 => ?_⟩
      have e4 : Le H3 (upd H3 p4 (.tup [.ref p1, .ref p1, .ref p2, uk, .int (k : Int), .bl false])) := Le.new hp4
      exact q ⟨0, 0, 1, ks.getD k 0, k, false⟩ _ _ (by walk_at "le") .kind ⟨p4, _, _, _, _, rfl, st_of upd_same, hno.up e4, hno.up e4, hon.up e4, hn.up e4⟩
    | turn p =>
      obtain ⟨a, up, rfl, ha, hp⟩ := hP
      have wp : Wf ks.length n p := wf
      have zp : p.size ≤ 60 := by rw [Plan.size] at h60; omega
      refine ⟨_, rfl, _, _, _, _, rfl, rfl, ha, at0, rfl, _, rfl, ifF (d_ne tk) ?_⟩
      refine ⟨_, rfl, _, _, _, _, rfl, rfl, ha, at0, rfl, _, rfl, ifT rfl ?_⟩
      refine ⟨_, rfl, _, rfl, _, rfl, _, rfl, _, rfl, _, _, _, _, rfl, rfl, ha, at1, D, ks, p, ba, _, _, rfl, hba, hk, hkv, hp, wp, zp, fun t0 r1 H4 e4 dn0 h4 => ?_⟩
      refine ⟨_, rfl, _, rfl, _, rfl, _, _, _, _, rfl, rfl, e4.tup ha, at1 (a := .str "turn") (b := up) (r := []), D, ks, p, _, _, rfl, hk, (by walk_at "up"), PlanAt.mono (n := n) (by walk_at "up") (by omega), wp.mono (by omega), zp, fun vS H5 e5 hS => ?_⟩
      obtain ⟨t1, t2, t3, t4⟩ := tsz hk wp zp dn0 (by omega)
      exact ⟨D, shape ks p, t0, _, _, rfl, hS, h4.upL e5, (sml_shape hk wp zp).mono (by omega), MF.shape_pos hk wp, ⟨t1, t2, t3, t4⟩, fun r H6 e6 h6 => q _ _ _ (by walk_at "le") (.turn dn0) h6⟩
    | grid gx gy p =>
      obtain ⟨a, up, rfl, ha, hp⟩ := hP
      obtain ⟨w1, w2, w3, w4, wp⟩ := wf
      have zp : p.size ≤ 60 := by rw [Plan.size] at h60; omega
      have zS := sml_shape hk wp zp
      have zu := MF.int_sz (D := D) w1 w2
      have une := MF.pos_ne (MF.int_posQ (D := D) w1)
      have e20 : (2 : Nat) ^ 20 = 1048576 := by decide
      refine ⟨_, rfl, _, _, _, _, rfl, rfl, ha, at0, rfl, _, rfl, ifF (d_ne gk) ?_⟩
      refine ⟨_, rfl, _, _, _, _, rfl, rfl, ha, at0, rfl, _, rfl, ifF (d_ne gt) ?_⟩
      refine ⟨_, rfl, _, _, _, _, rfl, rfl, ha, at0, rfl, _, rfl, ifT rfl ?_⟩
      refine ⟨_, rfl, _, rfl, _, rfl, _, rfl, _, _, _, _, rfl, rfl, ha, at3, D, ks, p, ba, _, _, rfl, hba, hk, hkv, hp, wp, zp, fun t0 r1 H4 e4 dn0 h4 => ?_⟩
      have ha4 := e4.tup ha
      refine ⟨_, rfl, _, rfl, _, _, _, _, rfl, rfl, ha4, at1 (a := .str "grid") (b := .int gx) (r := [.int gy, up]), ba, gx, rfl, (by walk_at "up"), w1, w2, fun i H5 e5 i0 i1 => ?_⟩
      have ha5 := e5.tup ha4
      refine ⟨_, rfl, _, _, _, _, rfl, rfl, ha5, at1 (a := .str "grid") (b := .int gx) (r := [.int gy, up]), D, (i : QD D) / (gx : QD D), i, 0, gx, rfl, u_ne w1, u_bd w1 w2, MF.QD.of_frac i gx, fun vL H6 e6 hL => ?_⟩
      have ha6 := e6.tup ha5
      refine ⟨_, rfl, _, rfl, _, rfl, _, rfl, _, _, _, _, rfl, rfl, ha6, at3 (a := .str "grid") (b := .int gx) (c := .int gy) (d := up) (r := []), D, ks, p, _, _, rfl, hk, (by walk_at "up"), PlanAt.mono (n := n) (by walk_at "up") (by omega), wp.mono (by omega), zp, fun vS H7 e7 hS => ?_⟩
      have ha7 := e7.tup ha6
      refine ⟨_, rfl, _, rfl, _, _, _, _, rfl, rfl, ha7, at2 (a := .str "grid") (b := .int gx) (c := .int gy) (r := [up]), ba, gy, rfl, (by walk_at "up"), w3, w4, fun j H8 e8 j0 j1 => ?_⟩
      have ha8 := e8.tup ha7
      refine ⟨_, rfl, _, _, _, _, rfl, rfl, ha8, at1 (a := .str "grid") (b := .int gx) (r := [.int gy, up]), D, (j : QD D) / (gx : QD D), j, 0, gx, rfl, u_ne w1, u_bd w1 w2, MF.QD.of_frac j gx, fun vJ H9 e9 hJ => ?_⟩
      have ha9 := e9.tup ha8
      have zi : Sz 40 ((i : QD D) / (gx : QD D)) := (Sz.int (n := 20) (by omega)).div zu une
      have zj : Sz 40 ((j : QD D) / (gx : QD D)) := (Sz.int (n := 20) (by omega)).div zu une
      have zo : Sz 40 ((1 : QD D) / (gx : QD D)) := (Sz.one.mono (by omega : 0 ≤ 20)).div zu une
      have zl := zS.mul zj
      refine ⟨D, shape ks p, (j : QD D) / (gx : QD D), _, _, rfl, (by walk_at "up"), hJ, .of zS, .of zj, fun vB H10 e10 hB => ?_⟩
      have ha10 := e10.tup ha9
      refine ⟨_, rfl, _, rfl, _, rfl, _, _, _, _, rfl, rfl, ha10, at1 (a := .str "grid") (b := .int gx) (r := [.int gy, up]), D, (1 : QD D) / (gx : QD D), 1, 0, gx, rfl, u_ne w1, u_bd w1 w2, by rw [MF.QD.of_frac 1 gx, MF.QD.int_one], fun vF H11 e11 hF => ?_⟩
      obtain ⟨t1, t2, t3, t4⟩ := tsz hk wp zp dn0 (by omega)
      refine ⟨_, rfl, _, rfl, D, (1 : QD D) / (gx : QD D), (i : QD D) / (gx : QD D), shape ks p * ((j : QD D) / (gx : QD D)), t0, _, _, _, _, rfl, ⟨hF, (by walk_at "up"), (by walk_at "up")⟩, (by walk_at "up"), ⟨zo.mono (by omega), zi.mono (by omega), zl.mono (by omega)⟩, ⟨t1, t2, t3, t4⟩, fun r H12 e12 h12 => q _ _ _ (by walk_at "le") (.grid i0 i1 j0 j1 dn0) h12⟩
    | upon ps =>
      obtain ⟨a, b, us, rfl, ha, hb, al⟩ := id hP
      have hwf := wf
      obtain ⟨w1, w2, w3⟩ := wf
      have sp : Plan.sizes ps ≤ 60 := by rw [Plan.size] at h60; omega
      refine ⟨_, rfl, _, _, _, _, rfl, rfl, ha, at0, rfl, _, rfl, ifF (d_ne uk) ?_⟩
      refine ⟨_, rfl, _, _, _, _, rfl, rfl, ha, at0, rfl, _, rfl, ifF (d_ne ut) ?_⟩
      refine ⟨_, rfl, _, _, _, _, rfl, rfl, ha, at0, rfl, _, rfl, ifF (d_ne ug) ?_⟩
      have n1 : 1 ≤ (us.length : Int) := by have := al.1; omega
      have n2 : (us.length : Int) ≤ 1000000 := by have := al.1; omega
      refine ⟨_, rfl, _, rfl, _, _, _, _, rfl, rfl, ha, at1, b, _, rfl, .inr hb, ba, _, rfl, hba, n1, n2, fun i H4 e4 i0 i1 => ?_⟩
      obtain ⟨i, rfl⟩ := Int.eq_ofNat_of_zero_le i0
      have hi : i < us.length := by omega
      have hup := List.getElem?_eq_getElem hi
      obtain ⟨p, hip, hp⟩ := al.left hup
      generalize us[i] = up at hup hp
      have hm := List.mem_of_getElem? hip
      have wp := w3 p hm
      have zp : p.size ≤ 60 := by have := MF.size_mem hm; omega
      have ha4 := e4.tup ha
      have hb4 := e4.tup hb
      refine ⟨_, rfl, _, rfl, _, rfl, _, rfl, _, _, _, _, rfl, rfl, ha4, at1 (a := .str "upon") (b := .ref b) (r := []), _, rfl, _, _, _, _, rfl, rfl, hb4, atI_nat hup, D, ks, p, ba, _, _, rfl, (by walk_at "up"), hk, (by walk_at "up"), (by walk_at "up"), wp, zp, fun t0 r1 H5 e5 dn0 h5 => ?_⟩
      have ha5 := e5.tup ha4
      have hb5 := e5.tup hb4
      refine ⟨_, rfl, _, _, _, _, rfl, rfl, ha5, at1 (a := .str "upon") (b := .ref b) (r := []), _, rfl, _, _, rfl, rfl, _, rfl, slA_of hb5 fun c H6 e6 hc => ?_⟩
      rw [cut_take1] at hc
      have e36 : Le H3 H6 := by walk_at "le"
      refine ⟨c, rfl, ⟨_, hc⟩, fun Dd hD => ?_⟩
      refine comp_tup (xs := us.take (i + 1)) (fun k z H' => ∃ p, (ps.take (i + 1))[k]? = some p ∧ Nm K H' z (shape ks p)) (fun i z H H' e h => ⟨h.choose, h.choose_spec.1, h.choose_spec.2.upT e⟩) (fun i z H h => h.choose_spec.2.nint) hc (by rw [List.length_take, al.1]; omega) hD (fun k z H' hz e Q' q' => ?_) (fun ys H' e hl hn hr' => ?_) mono_name
      · obtain ⟨p', hp', hP'⟩ := (al.take (i + 1)).left hz
        have hm' := List.mem_of_mem_take (List.mem_of_getElem? hp')
        have := MF.size_mem hm'
        have e3' := e36.trans e
        exact ⟨rfl, _, rfl, _, rfl, _, rfl, D, ks, p', _, _, rfl, hk, hkv.up e3'.t, (hP'.up e3'.t).mono (by omega), (w3 p' hm').mono (by omega), by omega, fun v1 H1 e1 h1 => q' _ _ e1 ⟨p', hp', h1⟩⟩
      have al2 := al_of (f := shape ks) (ps := ps.take (i + 1)) (by rw [hn, List.length_take, List.length_take, al.1]) hr'
      obtain ⟨t1, t2, t3, t4⟩ := tsz hk wp zp dn0 (by omega)
      have ha6 := e.tup (e6.tup ha5)
      replace h5 : T6 K H' r1 t0 := (h5.upL e6).upL e
      have e3h := e36.trans e
      clear e4 e5 e6 ha4 ha5 hb4 hb5 e36 e hc
      refine ⟨_, rfl, _, _, _, _, rfl, rfl, ha6, at0 (a := .str "upon") (r := [.ref b]), rfl, _, rfl, ifT rfl ?_⟩
      have zL := MF.sz_shapes hk w3 sp w2 i
      refine ⟨_, rfl, _, rfl, _, rfl, _, rfl, _, rfl, _, rfl, _, rfl, Dd, ys, rfl, sq_of hl, fun l hl2 => ?_⟩
      rw [cut_take]
      have e7 : Le H' (upd H' l (.lst (ys.take i))) := Le.new hl2
      have al3 := (al2.take i).imp fun _ _ z => z.up e7
      rw [← List.map_take, take_take1] at al3
      refine ⟨D, l, _, _, rfl, sq_of upd_same, al3, fun x hx => ?_, fun k => ?_, fun v8 H8 e8 h8 => ?_⟩
      · obtain ⟨p', hp', rfl⟩ := List.mem_map.mp hx
        have hm' := List.mem_of_mem_take hp'
        have := MF.size_mem hm'
        exact .of (sml_shape hk (w3 p' hm') (by omega))
      · rw [List.map_take, List.take_take]
        exact .of (MF.sz_shapes hk w3 sp w2 _)
      rw [List.map_take] at h8
      exact ⟨D, 1, 0, _, t0, _, _, _, _, rfl, ⟨((hon.up e3h).up e7).up e8, ((hno.up e3h).up e7).up e8, h8⟩, (h5.upL e7).upL e8, ⟨Sz.one.mono (by omega), Sz.zero.mono (by omega), zL.mono (by omega)⟩, ⟨t1, t2, t3, t4⟩, fun r H9 e9 h9 => q _ _ _ (((e03.trans e3h).trans (e7.trans e8)).trans e9) (.upon hip dn0) h9⟩
    | beside ps =>
      obtain ⟨a, b, us, rfl, ha, hb, al⟩ := id hP
      have hwf := wf
      obtain ⟨w1, w2, w3⟩ := wf
      have sp : Plan.sizes ps ≤ 60 := by rw [Plan.size] at h60; omega
      refine ⟨_, rfl, _, _, _, _, rfl, rfl, ha, at0, rfl, _, rfl, ifF (d_ne bk) ?_⟩
      refine ⟨_, rfl, _, _, _, _, rfl, rfl, ha, at0, rfl, _, rfl, ifF (d_ne bt) ?_⟩
      refine ⟨_, rfl, _, _, _, _, rfl, rfl, ha, at0, rfl, _, rfl, ifF (d_ne bg) ?_⟩
      have n1 : 1 ≤ (us.length : Int) := by have := al.1; omega
      have n2 : (us.length : Int) ≤ 1000000 := by have := al.1; omega
      refine ⟨_, rfl, _, rfl, _, _, _, _, rfl, rfl, ha, at1, b, _, rfl, .inr hb, ba, _, rfl, hba, n1, n2, fun i H4 e4 i0 i1 => ?_⟩
      obtain ⟨i, rfl⟩ := Int.eq_ofNat_of_zero_le i0
      have hi : i < us.length := by omega
      have hup := List.getElem?_eq_getElem hi
      obtain ⟨p, hip, hp⟩ := al.left hup
      generalize us[i] = up at hup hp
      have hm := List.mem_of_getElem? hip
      have wp := w3 p hm
      have zp : p.size ≤ 60 := by have := MF.size_mem hm; omega
      have ha4 := e4.tup ha
      have hb4 := e4.tup hb
      refine ⟨_, rfl, _, rfl, _, rfl, _, rfl, _, _, _, _, rfl, rfl, ha4, at1 (a := .str "beside") (b := .ref b) (r := []), _, rfl, _, _, _, _, rfl, rfl, hb4, atI_nat hup, D, ks, p, ba, _, _, rfl, (by walk_at "up"), hk, (by walk_at "up"), (by walk_at "up"), wp, zp, fun t0 r1 H5 e5 dn0 h5 => ?_⟩
      have ha5 := e5.tup ha4
      have hb5 := e5.tup hb4
      refine ⟨_, rfl, _, _, _, _, rfl, rfl, ha5, at1 (a := .str "beside") (b := .ref b) (r := []), _, rfl, _, _, rfl, rfl, _, rfl, slA_of hb5 fun c H6 e6 hc => ?_⟩
      rw [cut_take1] at hc
      have e36 : Le H3 H6 := by walk_at "le"
      refine ⟨c, rfl, ⟨_, hc⟩, fun Dd hD => ?_⟩
      refine comp_tup (xs := us.take (i + 1)) (fun k z H' => ∃ p, (ps.take (i + 1))[k]? = some p ∧ Nm K H' z (shape ks p)) (fun i z H H' e h => ⟨h.choose, h.choose_spec.1, h.choose_spec.2.upT e⟩) (fun i z H h => h.choose_spec.2.nint) hc (by rw [List.length_take, al.1]; omega) hD (fun k z H' hz e Q' q' => ?_) (fun ys H' e hl hn hr' => ?_) mono_name
      · obtain ⟨p', hp', hP'⟩ := (al.take (i + 1)).left hz
        have hm' := List.mem_of_mem_take (List.mem_of_getElem? hp')
        have := MF.size_mem hm'
        have e3' := e36.trans e
        exact ⟨rfl, _, rfl, _, rfl, _, rfl, D, ks, p', _, _, rfl, hk, hkv.up e3'.t, (hP'.up e3'.t).mono (by omega), (w3 p' hm').mono (by omega), by omega, fun v1 H1 e1 h1 => q' _ _ e1 ⟨p', hp', h1⟩⟩
      have al2 := al_of (f := shape ks) (ps := ps.take (i + 1)) (by rw [hn, List.length_take, List.length_take, al.1]) hr'
      obtain ⟨t1, t2, t3, t4⟩ := tsz hk wp zp dn0 (by omega)
      have ha6 := e.tup (e6.tup ha5)
      replace h5 : T6 K H' r1 t0 := (h5.upL e6).upL e
      have e3h := e36.trans e
      clear e4 e5 e6 ha4 ha5 hb4 hb5 e36 e hc
      refine ⟨_, rfl, _, _, _, _, rfl, rfl, ha6, at0 (a := .str "beside") (r := [.ref b]), rfl, _, rfl, ifF (d_ne bu) ?_⟩
      have zL := MF.sz_lefts hk hwf h60 i
      have zF := MF.sz_share hk hwf h60 hm
      refine ⟨_, rfl, _, rfl, _, rfl, D, ks, .beside ps, _, _, rfl, hk, hkv.upL e3h, PlanAt.mono (n := n + 1) (hP.upL e3h) (by omega), hwf.mono (by omega), h60, fun vW H7 e7 hW => ?_⟩
      have hl7 := e7.lst al2.nbag (sq_of (K := K) hl)
      refine ⟨_, rfl, Dd, rfl, ⟨_, hl7⟩, fun D2 hD2 => ?_⟩
      refine comp_list (xs := ys) (fun k z H' => ∃ p, (ps.take (i + 1))[k]? = some p ∧ Nm K H' z (share ks ps p)) (fun i z H H' e h => ⟨h.choose, h.choose_spec.1, h.choose_spec.2.upT e⟩) (fun i z H h => h.choose_spec.2.nint) (fun H' e => e.lst al2.nbag hl7) (by rw [hn, List.length_take, al.1]; omega) hD2 (fun k z H8 hz e8 Q' q' => ?_) (fun zs H8 e8 hl8 hn8 hr8 => ?_) mono_name
      · obtain ⟨x, hx, hN⟩ := al2.left hz
        rw [List.getElem?_map] at hx
        obtain ⟨p', hp', rfl⟩ := Option.map_eq_some_iff.mp hx
        have hm' := List.mem_of_mem_take (List.mem_of_getElem? hp')
        have := MF.size_mem hm'
        have zS := sml_shape hk (w3 p' hm') (by omega)
        have nS := MF.pos_ne (MF.shape_pos hk (w3 p' hm'))
        refine ⟨rfl, _, rfl, _, rfl, _, rfl, _, rfl, D, shape ks p', _, rfl, (hN.up e7).up e8, .of zS, nS, fun v9 H9 e9 h9 => ?_⟩
        exact ⟨D, _, _, _, _, rfl, (hW.up e8).up e9, h9, .of (sml_shape hk hwf h60), .of (zS.inv nS), fun v10 H10 e10 h10 => q' _ _ (e9.trans e10) ⟨p', hp', h10⟩⟩
      have al4 := al_of (f := share ks ps) (ps := ps.take (i + 1)) (by rw [hn8, hn, List.length_take, List.length_take, al.1]) hr8
      have hix : ((ps.take (i + 1)).map (share ks ps))[i]? = some (share ks ps p) := by
        rw [List.getElem?_map, List.getElem?_take, if_pos (by omega), hip]; rfl
      obtain ⟨uf, huf, hFn⟩ := al4.right hix
      have e38 : Le H3 H8 := e3h.trans (e7.trans e8)
      refine ⟨_, rfl, _, rfl, _, rfl, _, rfl, _, _, _, _, rfl, rfl, sq_of hl8, atI_nat huf, _, rfl, _, rfl, _, rfl, D2, zs, rfl, sq_of hl8, fun l hl9 => ?_⟩
      rw [cut_take]
      have e9 : Le H8 (upd H8 l (.lst (zs.take i))) := Le.new hl9
      have al5 := (al4.take i).imp fun _ _ z => z.up e9
      rw [← List.map_take, take_take1] at al5
      refine ⟨D, l, _, _, rfl, sq_of upd_same, al5, fun x hx => ?_, fun k => ?_, fun v10 H10 e10 h10 => ?_⟩
      · obtain ⟨p', hp', rfl⟩ := List.mem_map.mp hx
        exact .of (MF.sz_share hk hwf h60 (List.mem_of_mem_take hp'))
      · rw [List.map_take, List.take_take]
        exact .of (MF.sz_lefts hk hwf h60 _)
      rw [List.map_take] at h10
      exact ⟨_, rfl, D, share ks ps p, _, 0, t0, _, _, _, _, rfl, ⟨(hFn.up e9).up e10, h10, ((hno.up e38).up e9).up e10⟩, (((h5.upL e7).upL e8).upL e9).upL e10, ⟨zF.mono (by omega), zL.mono (by omega), Sz.zero.mono (by omega)⟩, ⟨t1, t2, t3, t4⟩, fun r H11 e11 h11 => q _ _ _ (((e03.trans e38).trans (e9.trans e10)).trans e11) (.beside hip dn0) h11⟩
end
end MW

namespace MW
open PySem PySem.Spec PyProof.Rows L2
open MF (Root QD Plan Wf KOk shape sumQ Tile Sd Inside Down share)
open MF.QD (Sz)
local macro_rules | `(tactic| walk_at "up") => `(tactic| first | assumption | (refine MW.Nm.up (by assumption) ?_; walk_at "up") | (refine MW.Le.tup (by assumption) ?_; walk_at "up") | (refine MW.KindsAt.upL (by assumption) ?_; walk_at "up") | (refine MW.PlanAt.upL (by assumption) ?_; walk_at "up") | (refine MW.Tl.upL (by assumption) ?_; walk_at "up") | (refine MW.Le.bagAt (by assumption) ?_; walk_at "up") | (refine MW.T6.upL (by assumption) ?_; walk_at "up"))
local macro_rules | `(tactic| walk_at "le") => `(tactic| first | exact MW.Le.refl _ | assumption | (refine MW.Le.trans ?_ (by assumption); walk_at "le"))
theorem Kd.up {K : PySem.W.Frag} {H H' : Hp} {D : Root} {v : V} {ks : List (QD D)} (e : Le H H') (h : Kd K H v ks) : Kd K H' v ks := ⟨h.1, h.2.upL e⟩
theorem kd2 {K : PySem.W.Frag} {H : Hp} {D : Root} {a b : V} {x y : QD D} {p : Addr} (h : SqT K H p [a, b]) (ha : Nm K H a x) (hb : Nm K H b y) (px : 0 < x) (py : 0 < y) (sx : Sz 24 x) (sy : Sz 24 y) : Kd K H (.ref p) [x, y] := by
  refine ⟨⟨by show 1 ≤ 2; decide, by show 2 ≤ 3; decide, fun z hz => ?_, fun z hz => ?_⟩, p, _, rfl, h, .cons ha (.one hb)⟩
  · rcases List.mem_cons.mp hz with rfl | hz
    · exact px
    · rw [List.mem_singleton.mp hz]; exact py
  · rcases List.mem_cons.mp hz with rfl | hz
    · exact sx.mono (by omega)
    · rw [List.mem_singleton.mp hz]; exact sy.mono (by omega)
theorem kd3 {K : PySem.W.Frag} {H : Hp} {D : Root} {a b c : V} {x y z : QD D} {p : Addr} (h : SqT K H p [a, b, c]) (ha : Nm K H a x) (hb : Nm K H b y) (hc : Nm K H c z) (px : 0 < x) (py : 0 < y) (pz : 0 < z) (sx : Sz 24 x) (sy : Sz 24 y) (sz : Sz 24 z) : Kd K H (.ref p) [x, y, z] := by
  refine ⟨⟨by show 1 ≤ 3; decide, by show 3 ≤ 3; decide, fun t ht => ?_, fun t ht => ?_⟩, p, _, rfl, h, .cons ha (.cons hb (.one hc))⟩
  · rcases List.mem_cons.mp ht with rfl | ht
    · exact px
    rcases List.mem_cons.mp ht with rfl | ht
    · exact py
    · rw [List.mem_singleton.mp ht]; exact pz
  · rcases List.mem_cons.mp ht with rfl | ht
    · exact sx.mono (by omega)
    rcases List.mem_cons.mp ht with rfl | ht
    · exact sy.mono (by omega)
    · rw [List.mem_singleton.mp ht]; exact sz.mono (by omega)
theorem tyl {K : PySem.W.Frag} {H : Hp} {p : Addr} {xs : List V} (h : H p = some (.lst xs)) : tyV K "list" (.ref p) H := .inl ⟨rfl, _, sq_of h⟩
theorem one_pos {D : Root} : (0 : QD D) < 1 := by
  have := MF.QD.int_pos (D := D) (m := 1)
  rw [MF.QD.int_one] at this
  exact this.mpr (by decide)
section
variable {K : PySem.W.Frag} {mg : Str → Option Value} {w : World} {base : Heap} (T : Txt K mg)
def spKindsL (K : PySem.W.Frag) : Sp := fun vs H Q _ => ∃ (D : Root) (b : Addr), vs = [.ref b, .int D.d] ∧ Bag H b ∧ ∀ (ks : List (QD D)) v H', Le H H' → Kd K H' v ks → Q v H'
theorem sc_l_kinds : FnScope ["_law_bag_here", "_law_d", "_law_found", "_law_turn", "_law_way", "_law_part", "_law_kind"] ["_law_bag_here", "_law_d"] (defScope s_l_kinds) := ⟨rfl, rfl, rfl, by decide +kernel, rfl, by decide +kernel, by decide +kernel⟩
theorem ok_l_kinds (hs : base.NoSeer) : T.l_kinds.Ok w base 45 (spKindsL K) := by
  have G_l_take := ok_l_take (w := w) (base := base) T
  have G_l_above := ok_l_above (w := w) T hs
  have G_l_times := ok_l_times (w := w) T hs
  have G_l_low := ok_l_low (w := w) T hs
  have G_l_contrary := ok_l_contrary (w := w) T hs
  refine T.l_kinds.ok sc_l_kinds (fun vs H Q E h => ?_) (fun cdv A outer s H vs Q E hr h => ?_)
  · obtain ⟨_, _, rfl, _⟩ := h
    rfl
  obtain ⟨D, b, rfl, hb, q⟩ := h
  have nd := sc_l_kinds.nd
  refine ⟨_, (pss_cons (ps_set (i := 2) nd rfl (by first | exact Or.inl rfl | exact Or.inr rfl) (pe_lst (pa_cons (pcl T.l_above G_l_above (hr.mono (by decide)) (pa_cons (pv 0) (pa_cons (pv 1) pa_nil))) pa_nil)))
      (pss_cons (ps_for PassesOwn.never rfl (pi_range1 rfl T.b_range (pa_cons (pcl T.l_take G_l_take (hr.mono (by decide)) (pa_cons (pv 0) (pa_cons pe_int pa_nil))) pa_nil)) (pg_name (i := 3) nd rfl (by first | exact Or.inl rfl | exact Or.inr rfl)) (pss_cons (ps_set (i := 4) nd rfl (by first | exact Or.inl rfl | exact Or.inr rfl) (pcl T.l_take G_l_take (hr.mono (by decide)) (pa_cons (pv 0) (pa_cons pe_int pa_nil))))
      (pss_cons (ps_set (i := 5) nd rfl (by first | exact Or.inl rfl | exact Or.inr rfl) (pe_tup (pa_cons (pe_op op_add pe_int (pcl T.l_take G_l_take (hr.mono (by decide)) (pa_cons (pv 0) (pa_cons pe_int pa_nil)))) (pa_cons pe_int (pa_cons (pe_op op_add pe_int (pcl T.l_take G_l_take (hr.mono (by decide)) (pa_cons (pv 0) (pa_cons pe_int pa_nil)))) pa_nil)))))
      (pss_cons (ps_set (i := 6) nd rfl (by first | exact Or.inl rfl | exact Or.inr rfl) (pe_ix ix_list (pe_lst (pa_cons (pe_ix ix_list (pv 2) pe_int (fun _ _ => rfl)) (pa_cons (pcl T.l_contrary G_l_contrary (hr.mono (by decide)) (pa_cons (pv 1) (pa_cons (pe_ix ix_list (pv 2) pe_int (fun _ _ => rfl)) pa_nil))) pa_nil))) (pe_op op_mod (pv 4) pe_int) (fun _ _ => rfl)))
      (Evl.pss_cut (ps_if (pt_cmpR op_gt (pv 4) pe_int (nomark _)) (pss_one (ps_set (i := 6) nd rfl (by first | exact Or.inl rfl | exact Or.inr rfl) (pcl T.l_above G_l_above (hr.mono (by decide)) (pa_cons (pv 0) (pa_cons (pv 1) pa_nil))))) (pss_one (ps_if (pt_cmpR op_gt (pv 4) pe_int (nomark _)) (pss_one (ps_set (i := 6) nd rfl (by first | exact Or.inl rfl | exact Or.inr rfl) (pcl T.l_times G_l_times (hr.mono (by decide)) (pa_cons (pv 1) (pa_cons (pv 6) (pa_cons (pcl T.l_low G_l_low (hr.mono (by decide)) (pa_cons (pe_ix ix_tup (pv 5) pe_int (fun _ _ => rfl)) (pa_cons (pe_ix ix_tup (pv 5) pe_int (fun _ _ => rfl)) (pa_cons (pe_ix ix_tup (pv 5) pe_int (fun _ _ => rfl)) pa_nil)))) pa_nil)))))) pss_nil)))
      (pss_one (ps_expr (pe_bm PySem.F.plainAttrs_list PySem.F.slot_list_append PySem.F.type_list_append mt_append (pv 2) (pa_cons (pv 6) pa_nil)))))))))
      (pss_one (ps_ret (pe_callTy call_tuple_of rfl T.b_tuple (by decide +kernel) (pa_cons (pv 2) pa_nil)))))), ?_⟩
  refine ⟨_, rfl, _, rfl, D, b, rfl, hb, fun k0 u0 H1 e1 hu0 pk0 sk0 => ⟨sz1, fun p hp => ?_⟩⟩
  have ep : Le H1 (upd H1 p (.lst [u0])) := Le.new hp
  have hl0 : (upd H1 p (.lst [u0])) p = some (.lst [u0]) := upd_same
  have hu0p := hu0.up ep
  replace hb : Bag (upd H1 p (.lst [u0])) b := ep.bagAt (e1.bagAt hb)
  generalize upd H1 p (.lst [u0]) = H2 at ep hl0 hb hu0p
  refine ⟨_, rfl, b, 3, rfl, hb, by decide, by decide, fun n H3 e3 n0 n1 => ⟨n, rfl, by omega, by omega, ?_⟩⟩
  refine for_range (fun i σ H' => Le H1 H' ∧ Bag H' b ∧ ∃ (us : List V) (ks : List (QD D)) (o3 o4 o5 o6 : Option V), σ = [some (.ref b), some (.int D.d), some (.ref p), o3, o4, o5, o6] ∧ H' p = some (.lst (u0 :: us)) ∧ Al (fun u x => Nm K H' u x) (u0 :: us) (k0 :: ks) ∧ ks.length = i ∧ (∀ x ∈ k0 :: ks, 0 < x) ∧ ∀ x ∈ k0 :: ks, Sz 100 x)
    ⟨ep.trans e3, e3.bagAt hb, [], [], none, none, none, none, rfl, e3.keep hl0 (nb_lst (Al.nbag (D := D) (xs := [k0]) (.one hu0p))), .one (hu0p.up e3), rfl, fun x hx => by rw [List.mem_singleton.mp hx]; exact pk0, fun x hx => by rw [List.mem_singleton.mp hx]; exact sk0.mono (by omega)⟩ ?_ ?_
  · rintro i σ H' hi ⟨eH, hb', us, ks, o3, o4, o5, o6, rfl, hl, al, hlen, pos, szs⟩
    refine ⟨_, rfl, b, 6, rfl, hb', by decide, by decide, fun way H4 e4 w0 w1 => ?_⟩
    have nb := nb_lst al.nbag
    refine ⟨_, rfl, b, 9, rfl, (by walk_at "up"), by decide, by decide, fun a H5 e5 a0 a1 => ⟨_, _, rfl, rfl, ?_⟩⟩
    refine ⟨_, rfl, b, 9, rfl, (by walk_at "up"), by decide, by decide, fun c H6 e6 c0 c1 => ⟨_, _, rfl, rfl, sz3, fun pt hpt => ?_⟩⟩
    have e7 : Le H6 (upd H6 pt (.tup [.int (1 + a), .int 0, .int (1 + c)])) := Le.new hpt
    have h7 : SqT K (upd H6 pt (.tup [.int (1 + a), .int 0, .int (1 + c)])) pt [.int (1 + a), .int 0, .int (1 + c)] := st_of upd_same
    generalize upd H6 pt (.tup [.int (1 + a), .int 0, .int (1 + c)]) = H7 at e7 h7
    have e47 : Le H' H7 := by walk_at "le"
    have hl7 := e47.keep hl nb
    have hb7 : Bag H7 b := by walk_at "up"
    clear e4 e5 e6 e7
    have hn7 : Nm K H7 u0 k0 := al.uncons.1.up e47
    have kne := MF.pos_ne pk0
    refine ⟨_, rfl, _, _, _, _, rfl, rfl, sq_of hl7, at0, _, rfl, _, rfl, _, _, _, _, rfl, rfl, sq_of hl7, at0, D, k0, _, rfl, hn7, .of sk0, kne, fun vi H8 e8 h8 => ⟨sz2, fun pl hpl => ?_⟩⟩
    have e9 : Le H8 (upd H8 pl (.lst [u0, vi])) := Le.new hpl
    have h9 : (upd H8 pl (.lst [u0, vi])) pl = some (.lst [u0, vi]) := upd_same
    have m0 := Int.emod_nonneg way (show (2 : Int) ≠ 0 by decide)
    have m1 := Int.emod_lt_of_pos way (show (0 : Int) < 2 by decide)
    obtain ⟨vk, hvk, hm⟩ := pick (xs := [u0, vi]) (i := way % 2) m0 (by show way % 2 < 2; exact m1)
    refine ⟨_, rfl, _, _, rfl, rfl, (by show (0 : Int) < 2; decide), _, _, _, _, rfl, rfl, sq_of h9, hvk, ?_⟩
    have key : ∃ kd : QD D, Nm K (upd H8 pl (.lst [u0, vi])) vk kd ∧ 0 < kd ∧ Sz 24 kd := by
      rcases List.mem_cons.mp hm with rfl | hm
      · exact ⟨k0, (hn7.up e8).up e9, pk0, sk0⟩
      · rw [List.mem_singleton.mp hm]; exact ⟨k0⁻¹, h8.up e9, MF.QD.inv_pos pk0, sk0.inv kne⟩
    generalize upd H8 pl (.lst [u0, vi]) = H9 at e9 h9 key
    obtain ⟨kd, hkd, pkd, skd⟩ := key
    have e79 : Le H7 H9 := e8.trans e9
    have hb9 := e79.bagAt hb7
    have h79 := e79.tup h7
    have e4e : Le H' H9 := e47.trans e79
    clear e8 e9 h9 hl7 hb7 h7
    refine ⟨fun σ' H'' => Le H9 H'' ∧ ∃ (v : V) (k : QD D), σ' = [some (.ref b), some (.int D.d), some (.ref p), some (.int (0 + (i : Int))), some (.int way), some (.ref pt), some v] ∧ Nm K H'' v k ∧ 0 < k ∧ Sz 100 k, ?_, ?_⟩
    · refine ⟨_, rfl, _, _, rfl, rfl, _, rfl, ite2 (fun _ => ?_) (fun _ => ?_)⟩
      · exact ⟨_, rfl, _, rfl, D, b, rfl, hb9, fun x v H10 e10 hx px sx => ⟨e10, v, x, rfl, hx, px, sx.mono (by omega)⟩⟩
      · refine ⟨_, rfl, _, _, rfl, rfl, _, rfl, ite2 (fun _ => ?_) (fun _ => ?_)⟩
        · refine ⟨_, rfl, _, rfl, _, rfl, _, _, _, _, rfl, rfl, h79, at0, _, rfl, _, _, _, _, rfl, rfl, h79, at1, _, rfl, _, _, _, _, rfl, rfl, h79, at2, D, ((1 + a : Int) : QD D) / ((1 + c : Int) : QD D), 1 + a, 0, 1 + c, rfl, by omega, u_bd (by omega) (by omega), MF.QD.of_frac _ _, fun v10 H10 e10 h10 => ?_⟩
          have pa : (0 : QD D) < ((1 + a : Int) : QD D) := MF.QD.int_pos.mpr (by omega)
          have pc : (0 : QD D) < ((1 + c : Int) : QD D) := MF.QD.int_pos.mpr (by omega)
          have e20 : (2 : Nat) ^ 20 = 1048576 := by decide
          have sf : Sz 40 (((1 + a : Int) : QD D) / ((1 + c : Int) : QD D)) := (Sz.int (n := 20) (by omega)).div (Sz.int (n := 20) (by omega)) (MF.pos_ne pc)
          have pf : (0 : QD D) < ((1 + a : Int) : QD D) / ((1 + c : Int) : QD D) := by
            have h1 := MF.QD.mul_pos pa (MF.QD.inv_pos pc)
            rw [show ((1 + a : Int) : QD D) / ((1 + c : Int) : QD D) = ((1 + a : Int) : QD D) * ((1 + c : Int) : QD D)⁻¹ by grind]
            exact h1
          exact ⟨D, kd, _, _, _, rfl, hkd.up e10, h10, .of skd, .of sf, fun v11 H11 e11 h11 => ⟨e10.trans e11, v11, _, rfl, h11, MF.QD.mul_pos pkd pf, (skd.mul sf).mono (by omega)⟩⟩
        · exact ⟨Le.refl _, vk, kd, rfl, hkd, pkd, skd.mono (by omega)⟩
    · rintro σ' H'' ⟨e10, v, k, rfl, hk, pk, sk⟩
      have e11 := e4e.trans e10
      have hl11 := e11.keep hl nb
      refine ⟨_, rfl, tyl hl11, _, rfl, p, _, v, rfl, rfl, hl11, sz_lt (by have := al.1; simp only [List.length_cons] at this ⊢; omega), ?_⟩
      have et : LeT H'' (upd H'' p (.lst ((u0 :: us) ++ [v]))) := LeT.lst hl11
      refine ⟨(eH.trans e11).mut hp, Bag.app (e11.bagAt hb') hl11 al.nbag, us ++ [v], ks ++ [k], _, _, _, _, rfl, upd_same, ?_, by rw [List.length_append, hlen]; rfl, fun x hx => ?_, fun x hx => ?_⟩
      · exact Al.app (vs := u0 :: us) (xs := k0 :: ks) (al.imp fun _ _ z => (z.up e11).upT et) (hk.upT et)
      · rcases List.mem_append.mp (show x ∈ (k0 :: ks) ++ [k] from hx) with h | h
        · exact pos x h
        · rw [List.mem_singleton.mp h]; exact pk
      · rcases List.mem_append.mp (show x ∈ (k0 :: ks) ++ [k] from hx) with h | h
        · exact szs x h
        · rw [List.mem_singleton.mp h]; exact sk
  · rintro σ H' ⟨eH, hb', us, ks, o3, o4, o5, o6, rfl, hl, al, hlen, pos, szs⟩
    refine ⟨_, rfl, p, _, rfl, .inl ⟨sq_of hl, fun l hl2 => ?_⟩⟩
    have e4 : Le H' (upd H' l (.tup (u0 :: us))) := Le.new hl2
    exact q (k0 :: ks) _ _ ((e1.trans eH).trans e4) ⟨⟨by rw [List.length_cons]; omega, by rw [List.length_cons]; omega, pos, szs⟩, l, _, rfl, st_of upd_same, al.imp fun _ _ z => z.up e4⟩
theorem sc_l_twins : FnScope ["_law_bag_here", "_law_d", "_law_one", "_law_other", "_law_some"] ["_law_bag_here", "_law_d"] (defScope s_l_twins) := ⟨rfl, rfl, rfl, by decide +kernel, rfl, by decide +kernel, by decide +kernel⟩
theorem ok_l_twins (hs : base.NoSeer) : T.l_twins.Ok w base 46 (spKindsL K) := by
  have G_l_take := ok_l_take (w := w) (base := base) T
  have G_l_above := ok_l_above (w := w) T hs
  have G_l_kinds := ok_l_kinds (w := w) T hs
  have G_l_contrary := ok_l_contrary (w := w) T hs
  refine T.l_twins.ok sc_l_twins (fun vs H Q E h => ?_) (fun cdv A outer s H vs Q E hr h => ?_)
  · obtain ⟨_, _, rfl, _⟩ := h
    rfl
  obtain ⟨D, b, rfl, hb, q⟩ := h
  have nd := sc_l_twins.nd
  refine ⟨_, (pss_cons (ps_set (i := 2) nd rfl (by first | exact Or.inl rfl | exact Or.inr rfl) (pcl T.l_above G_l_above (hr.mono (by decide)) (pa_cons (pv 0) (pa_cons (pv 1) pa_nil))))
      (pss_cons (ps_set (i := 3) nd rfl (by first | exact Or.inl rfl | exact Or.inr rfl) (pcl T.l_contrary G_l_contrary (hr.mono (by decide)) (pa_cons (pv 1) (pa_cons (pv 2) pa_nil))))
      (pss_cons (ps_set (i := 4) nd rfl (by first | exact Or.inl rfl | exact Or.inr rfl) (pe_lst (pa_cons (pe_tup (pa_cons (pv 2) (pa_cons (pv 2) pa_nil))) (pa_cons (pe_tup (pa_cons (pv 2) (pa_cons (pv 3) pa_nil))) (pa_cons (pe_tup (pa_cons (pe_tup (pa_cons pe_int (pa_cons pe_int (pa_cons pe_int pa_nil)))) (pa_cons (pv 2) pa_nil))) (pa_cons (pe_tup (pa_cons (pv 2) (pa_cons (pv 2) (pa_cons (pv 3) pa_nil)))) (pa_cons (pe_tup (pa_cons (pv 3) (pa_cons (pe_tup (pa_cons pe_int (pa_cons pe_int (pa_cons pe_int pa_nil)))) (pa_cons (pv 2) pa_nil)))) (pa_cons (pe_tup (pa_cons (pv 2) (pa_cons (pv 3) (pa_cons (pv 2) pa_nil)))) pa_nil))))))))
      (pss_cons (ps_if (pt_cmpR op_eq (pcl T.l_take G_l_take (hr.mono (by decide)) (pa_cons (pv 0) (pa_cons pe_int pa_nil))) pe_int (nomark _)) (pss_one (ps_ret (pcl T.l_kinds G_l_kinds (hr.mono (by decide)) (pa_cons (pv 0) (pa_cons (pv 1) pa_nil))))) pss_nil)
      (pss_one (ps_ret (pe_ix ix_list (pv 4) (pcl T.l_take G_l_take (hr.mono (by decide)) (pa_cons (pv 0) (pa_cons pe_int pa_nil))) (fun _ _ => rfl)))))))), ?_⟩
  refine ⟨_, rfl, _, rfl, D, b, rfl, hb, fun x v1 H1 e1 h1 px sx => ?_⟩
  have xne := MF.pos_ne px
  refine ⟨_, rfl, _, rfl, D, x, _, rfl, h1, .of sx, xne, fun v2 H2 e2 h2 => ?_⟩
  have py := MF.QD.inv_pos px
  have sy := sx.inv xne
  have hx2 := h1.up e2
  have s0 : Sz 24 (1 : QD D) := Sz.one.mono (by omega)
  have p0 : (0 : QD D) < 1 := one_pos
  refine ⟨_, rfl, _, rfl, sz2, fun q1 hq1 => ?_⟩
  have f1 : Le H2 (upd H2 q1 (.tup [v1, v1])) := Le.new hq1
  have k1 : Kd K (upd H2 q1 (.tup [v1, v1])) (.ref q1) [x, x] := kd2 (st_of upd_same) (hx2.up f1) (hx2.up f1) px px sx sx
  have hx3 := hx2.up f1
  have hy3 := h2.up f1
  generalize upd H2 q1 (.tup [v1, v1]) = H3 at f1 k1 hx3 hy3
  refine ⟨_, rfl, _, rfl, sz2, fun q2 hq2 => ?_⟩
  have f2 : Le H3 (upd H3 q2 (.tup [v1, v2])) := Le.new hq2
  have k2 : Kd K (upd H3 q2 (.tup [v1, v2])) (.ref q2) [x, x⁻¹] := kd2 (st_of upd_same) (hx3.up f2) (hy3.up f2) px py sx sy
  have hx4 := hx3.up f2
  have hy4 := hy3.up f2
  generalize upd H3 q2 (.tup [v1, v2]) = H4 at f2 k2 hx4 hy4
  refine ⟨sz3, fun q3 hq3 => ?_⟩
  have f3 : Le H4 (upd H4 q3 (.tup [.int 1, .int 0, .int 1])) := Le.new hq3
  have n3 : Nm K (upd H4 q3 (.tup [.int 1, .int 0, .int 1])) (.ref q3) (1 : QD D) := nm_one (st_of upd_same)
  have hx5 := hx4.up f3
  have hy5 := hy4.up f3
  generalize upd H4 q3 (.tup [.int 1, .int 0, .int 1]) = H5 at f3 n3 hx5 hy5
  refine ⟨_, rfl, sz2, fun q4 hq4 => ?_⟩
  have f4 : Le H5 (upd H5 q4 (.tup [.ref q3, v1])) := Le.new hq4
  have k3 : Kd K (upd H5 q4 (.tup [.ref q3, v1])) (.ref q4) [1, x] := kd2 (st_of upd_same) (n3.up f4) (hx5.up f4) p0 px s0 sx
  have hx6 := hx5.up f4
  have hy6 := hy5.up f4
  generalize upd H5 q4 (.tup [.ref q3, v1]) = H6 at f4 k3 hx6 hy6
  refine ⟨_, rfl, _, rfl, _, rfl, sz3, fun q5 hq5 => ?_⟩
  have f5 : Le H6 (upd H6 q5 (.tup [v1, v1, v2])) := Le.new hq5
  have k4 : Kd K (upd H6 q5 (.tup [v1, v1, v2])) (.ref q5) [x, x, x⁻¹] := kd3 (st_of upd_same) (hx6.up f5) (hx6.up f5) (hy6.up f5) px px py sx sx sy
  have hx7 := hx6.up f5
  have hy7 := hy6.up f5
  generalize upd H6 q5 (.tup [v1, v1, v2]) = H7 at f5 k4 hx7 hy7
  refine ⟨_, rfl, sz3, fun q6 hq6 => ?_⟩
  have f6 : Le H7 (upd H7 q6 (.tup [.int 1, .int 0, .int 1])) := Le.new hq6
  have n6 : Nm K (upd H7 q6 (.tup [.int 1, .int 0, .int 1])) (.ref q6) (1 : QD D) := nm_one (st_of upd_same)
  have hx8 := hx7.up f6
  have hy8 := hy7.up f6
  generalize upd H7 q6 (.tup [.int 1, .int 0, .int 1]) = H8 at f6 n6 hx8 hy8
  refine ⟨_, rfl, sz3, fun q7 hq7 => ?_⟩
  have f7 : Le H8 (upd H8 q7 (.tup [v2, .ref q6, v1])) := Le.new hq7
  have k5 : Kd K (upd H8 q7 (.tup [v2, .ref q6, v1])) (.ref q7) [x⁻¹, 1, x] := kd3 (st_of upd_same) (hy8.up f7) (n6.up f7) (hx8.up f7) py p0 px sy s0 sx
  have hx9 := hx8.up f7
  have hy9 := hy8.up f7
  generalize upd H8 q7 (.tup [v2, .ref q6, v1]) = H9 at f7 k5 hx9 hy9
  refine ⟨_, rfl, _, rfl, _, rfl, sz3, fun q8 hq8 => ?_⟩
  have f8 : Le H9 (upd H9 q8 (.tup [v1, v2, v1])) := Le.new hq8
  have k6 : Kd K (upd H9 q8 (.tup [v1, v2, v1])) (.ref q8) [x, x⁻¹, x] := kd3 (st_of upd_same) (hx9.up f8) (hy9.up f8) (hx9.up f8) px py px sx sy sx
  generalize upd H9 q8 (.tup [v1, v2, v1]) = H10 at f8 k6
  have m5 := k5.up f8
  have m4 := k4.up (f6.trans (f7.trans f8))
  have m3 := k3.up (f5.trans (f6.trans (f7.trans f8)))
  have m2 := k2.up (f3.trans (f4.trans (f5.trans (f6.trans (f7.trans f8)))))
  have m1 := k1.up (f2.trans (f3.trans (f4.trans (f5.trans (f6.trans (f7.trans f8))))))
  have e10 : Le H H10 := (e1.trans e2).trans (f1.trans (f2.trans (f3.trans (f4.trans (f5.trans (f6.trans (f7.trans f8)))))))
  have all : ∀ v ∈ [V.ref q1, .ref q2, .ref q4, .ref q5, .ref q7, .ref q8], ∃ ks : List (QD D), Kd K H10 v ks := fun v hv => by
    simp only [List.mem_cons, List.not_mem_nil, or_false] at hv
    rcases hv with rfl | rfl | rfl | rfl | rfl | rfl
    · exact ⟨_, m1⟩
    · exact ⟨_, m2⟩
    · exact ⟨_, m3⟩
    · exact ⟨_, m4⟩
    · exact ⟨_, m5⟩
    · exact ⟨_, k6⟩
  refine ⟨sz_of (by show 6 ≤ 100000; decide), fun pl hpl => ?_⟩
  have e11 : Le H10 (upd H10 pl (.lst [.ref q1, .ref q2, .ref q4, .ref q5, .ref q7, .ref q8])) := Le.new hpl
  have h11 : SqL K (upd H10 pl (.lst [.ref q1, .ref q2, .ref q4, .ref q5, .ref q7, .ref q8])) pl [.ref q1, .ref q2, .ref q4, .ref q5, .ref q7, .ref q8] := sq_of upd_same
  generalize upd H10 pl (.lst [.ref q1, .ref q2, .ref q4, .ref q5, .ref q7, .ref q8]) = H11 at e11 h11
  have e0 := e10.trans e11
  refine ⟨_, rfl, b, 3, rfl, e0.bagAt hb, by decide, by decide, fun r H12 e12 r0 r1 => ⟨rfl, _, rfl, ite2 (fun _ => ?_) (fun _ => ?_)⟩⟩
  · exact ⟨_, rfl, _, rfl, D, b, rfl, (e0.trans e12).bagAt hb, fun ks v H13 e13 hk => q ks v _ ((e0.trans e12).trans e13) hk⟩
  · refine ⟨_, rfl, _, rfl, b, 6, rfl, (e0.trans e12).bagAt hb, by decide, by decide, fun r2 H13 e13 k0 k1 => ?_⟩
    obtain ⟨v, hv, hm⟩ := pick (xs := [V.ref q1, .ref q2, .ref q4, .ref q5, .ref q7, .ref q8]) k0 (by show r2 < 6; exact k1)
    obtain ⟨ks, hk⟩ := all v hm
    exact ⟨pl, _, _, _, rfl, rfl, e13.lst nb3 (e12.lst nb3 h11), hv, q ks v _ ((e0.trans e12).trans e13) (((hk.up e11).up e12).up e13)⟩
def spFewL (K : PySem.W.Frag) : Sp := fun vs H Q _ => ∃ (D : Root) (ks : List (QD D)) (n : Nat) (P : Plan) (b : Addr) (u v : V), vs = [.ref b, .int D.d, u, v] ∧ Bag H b ∧ Kd K H u ks ∧ PlanAt K H n v P ∧ Wf ks.length n P ∧
  ∀ (ks' : List (QD D)) r H', Le H H' → ks'.length = ks.length → Kd K H' r ks' → Q r H'
theorem sc_l_few_figures : FnScope ["_law_bag_here", "_law_d", "_law_kinds_here", "_law_plan_here", "_law_found", "_law_kind", "_law_x"] ["_law_bag_here", "_law_d", "_law_kinds_here", "_law_plan_here"] (defScope s_l_few_figures) := ⟨rfl, rfl, rfl, by decide +kernel, rfl, by decide +kernel, by decide +kernel⟩
theorem ok_l_few (hs : base.NoSeer) : T.l_few_figures.Ok w base 63 (spFewL K) := by
  have G_l_take := ok_l_take (w := w) (base := base) T
  have G_l_plans_in := ok_l_plans_in (w := w) (base := base) T 12
  have G_l_minus := ok_l_minus (w := w) (base := base) T
  have G_l_sign := ok_l_sign (w := w) (base := base) T
  have G_l_low := ok_l_low (w := w) T hs
  refine T.l_few_figures.ok sc_l_few_figures (fun vs H Q E h => ?_) (fun cdv A outer s H vs Q E hr h => ?_)
  · obtain ⟨_, _, _, _, _, _, _, rfl, _⟩ := h
    rfl
  obtain ⟨D, ks, n, P, b, u, v, rfl, hb, hkd, hP, wf, q⟩ := h
  have nd := sc_l_few_figures.nd
  refine ⟨_, (pss_cons (ps_if (pt_cmpR op_le (pcl T.l_plans_in G_l_plans_in (hr.mono (by decide)) (pa_cons (pv 3) (pa_cons (pe_callB call_len_seq rfl T.b_len PySem.boot_len (pa_cons (pv 2) pa_nil)) (pa_cons pe_int pa_nil)))) pe_int (nomark _)) (pss_one (ps_ret (pv 2))) pss_nil)
      (pss_cons (ps_set (i := 4) nd rfl (by first | exact Or.inl rfl | exact Or.inr rfl) (pe_lst pa_nil))
      (pss_cons (ps_for PassesOwn.never rfl (pi_tup (pv 2)) (pg_name (i := 5) nd rfl (by first | exact Or.inl rfl | exact Or.inr rfl)) (pss_cons (ps_set (i := 6) nd rfl (by first | exact Or.inl rfl | exact Or.inr rfl) (pcl T.l_low G_l_low (hr.mono (by decide)) (pa_cons (pe_op op_sub (pcl T.l_take G_l_take (hr.mono (by decide)) (pa_cons (pv 0) (pa_cons pe_int pa_nil))) pe_int) (pa_cons (pe_op op_sub (pcl T.l_take G_l_take (hr.mono (by decide)) (pa_cons (pv 0) (pa_cons pe_int pa_nil))) pe_int) (pa_cons (pe_op op_add pe_int (pcl T.l_take G_l_take (hr.mono (by decide)) (pa_cons (pv 0) (pa_cons pe_int pa_nil)))) pa_nil)))))
      (pss_one (ps_expr (pe_bm PySem.F.plainAttrs_list PySem.F.slot_list_append PySem.F.type_list_append mt_append (pv 4) (pa_cons (pe_ix ix_list (pe_lst (pa_cons (pe_tup (pa_cons pe_int (pa_cons pe_int (pa_cons pe_int pa_nil)))) (pa_cons (pv 6) (pa_cons (pcl T.l_minus G_l_minus (hr.mono (by decide)) (pa_cons (pv 6) pa_nil)) pa_nil)))) (pcl T.l_sign G_l_sign (hr.mono (by decide)) (pa_cons (pv 1) (pa_cons (pv 6) pa_nil))) (fun _ _ => rfl)) pa_nil))))))
      (pss_one (ps_ret (pe_callTy call_tuple_of rfl T.b_tuple (by decide +kernel) (pa_cons (pv 4) pa_nil))))))), ?_⟩
  obtain ⟨hk, a, us, rfl, ha, al⟩ := id hkd
  refine ⟨_, rfl, _, rfl, a, _, rfl, .inr ha, n, ks.length, P, v, congrArg (fun z : Nat => [v, V.int (z : Int), V.int 12]) al.1, hP, wf, fun H1 e1 => ⟨_, _, rfl, rfl, _, rfl, ite2 (fun _ => ?_) (fun _ => ?_)⟩⟩
  · exact ⟨_, rfl, q ks _ _ (Same.le e1) rfl (hkd.up (Same.le e1))⟩
  have e1' := Same.le e1
  refine ⟨sz_of (by show 0 ≤ 100000; decide), fun p hp => ?_⟩
  have e2 : Le H1 (upd H1 p (.lst [])) := Le.new hp
  have hl0 : (upd H1 p (.lst [])) p = some (.lst []) := upd_same
  have hb2 := e2.bagAt (e1'.bagAt hb)
  have ha2 := e2.tup (e1'.tup ha)
  generalize upd H1 p (.lst []) = H2 at e2 hl0 hb2 ha2
  refine ⟨_, rfl, a, rfl, ⟨_, ha2⟩, ?_⟩
  refine for_tup (xs := us) (fun i σ H' => Le H1 H' ∧ SqT K H' a us ∧ Bag H' b ∧ ∃ (ys : List V) (ls : List (QD D)) (o5 o6 : Option V), σ = [some (.ref b), some (.int D.d), some (.ref a), some v, some (.ref p), o5, o6] ∧ H' p = some (.lst ys) ∧ Al (fun u x => Nm K H' u x) ys ls ∧ ls.length = i ∧ (∀ x ∈ ls, 0 < x) ∧ ∀ x ∈ ls, Sz 100 x)
    ⟨e2, ha2, hb2, [], [], none, none, rfl, hl0, .nil, rfl, (fun x hx => nomatch hx), (fun x hx => nomatch hx)⟩ (fun i σ H' hi h => h.2.1) ?_ ?_
  · rintro i uk σ H' huk ⟨eH, ha', hb', ys, ls, o5, o6, rfl, hl, al', hlen, pos, szs⟩
    have hiu := (List.getElem?_eq_some_iff.mp huk).1
    have nb := nb_lst al'.nbag
    refine ⟨_, rfl, b, 9, rfl, hb', by decide, by decide, fun r1 H3 e3 a0 a1 => ⟨_, _, rfl, rfl, ?_⟩⟩
    refine ⟨_, rfl, b, 5, rfl, (by walk_at "up"), by decide, by decide, fun r2 H4 e4 b0 b1 => ⟨_, _, rfl, rfl, ?_⟩⟩
    refine ⟨_, rfl, b, 3, rfl, (by walk_at "up"), by decide, by decide, fun r3 H5 e5 c0 c1 => ⟨_, _, rfl, rfl, ?_⟩⟩
    refine ⟨D, QD.ofT (r1 - 4) (r2 - 2) (1 + r3), _, _, _, rfl, by omega, u_bd (by omega) (by omega), rfl, fun vx H6 e6 hx => ?_⟩
    have sx : Sz 5 (QD.ofT (r1 - 4) (r2 - 2) (1 + r3) : QD D) := Sz.ofT (by omega) (by show _ ≤ 32; omega) (by show _ ≤ 32; omega)
    generalize (QD.ofT (r1 - 4) (r2 - 2) (1 + r3) : QD D) = x at hx sx
    have e36 : Le H' H6 := by walk_at "le"
    clear e3 e4 e5 e6
    refine ⟨_, rfl, tyl (e36.keep hl nb), sz3, fun po hpo => ?_⟩
    have e7 : Le H6 (upd H6 po (.tup [.int 1, .int 0, .int 1])) := Le.new hpo
    have h7 : Nm K (upd H6 po (.tup [.int 1, .int 0, .int 1])) (.ref po) (1 : QD D) := nm_one (st_of upd_same)
    generalize upd H6 po (.tup [.int 1, .int 0, .int 1]) = H7 at e7 h7
    refine ⟨_, rfl, _, rfl, D, x, _, rfl, hx.up e7, fun vm H8 e8 h8 => ⟨sz3, fun pl hpl => ?_⟩⟩
    have e9 : Le H8 (upd H8 pl (.lst [.ref po, vx, vm])) := Le.new hpl
    have h9 : SqL K (upd H8 pl (.lst [.ref po, vx, vm])) pl [.ref po, vx, vm] := sq_of upd_same
    generalize upd H8 pl (.lst [.ref po, vx, vm]) = H9 at e9 h9
    have m1 := (h7.up e8).up e9
    have m2 := ((hx.up e7).up e8).up e9
    have m3 := h8.up e9
    refine ⟨_, rfl, _, rfl, D, x, _, rfl, m2, .of sx, fun H10 e10 => ?_⟩
    have key : ∃ (v : V) (k : QD D), atI [.ref po, vx, vm] x.sg = some v ∧ Nm K H10 v k ∧ 0 < k ∧ Sz 100 k := by
      rcases MF.QD.sg_cases x with ⟨g, px⟩ | ⟨g, px⟩ | ⟨g, px⟩
      · exact ⟨vx, x, by rw [g]; rfl, m2.up e10, px, sx.mono (by omega)⟩
      · exact ⟨.ref po, 1, by rw [g]; rfl, m1.up e10, one_pos, Sz.one.mono (by omega)⟩
      · exact ⟨vm, -x, by rw [g]; rfl, m3.up e10, by grind, (MF.QD.Sz.neg sx).mono (by omega)⟩
    obtain ⟨vk, k, hat, hk', pk, sk⟩ := key
    have e11 : Le H' H10 := e36.trans (e7.trans (e8.trans (e9.trans e10)))
    have hl11 := e11.keep hl nb
    refine ⟨pl, _, _, _, rfl, rfl, e10.lst nb3 h9, hat, p, _, vk, rfl, rfl, hl11, sz_lt (by have := al'.1; have := al.1; have := hk.most; omega), ?_⟩
    have et : LeT H10 (upd H10 p (.lst (ys ++ [vk]))) := LeT.lst hl11
    refine ⟨(eH.trans e11).mut hp, et.tup (e11.tup ha'), Bag.app (e11.bagAt hb') hl11 al'.nbag, ys ++ [vk], ls ++ [k], _, _, rfl, upd_same, Al.app (al'.imp fun _ _ z => (z.up e11).upT et) (hk'.upT et), by rw [List.length_append, hlen]; rfl, fun x hx => ?_, fun x hx => ?_⟩
    · rcases List.mem_append.mp hx with h | h
      · exact pos x h
      · rw [List.mem_singleton.mp h]; exact pk
    · rcases List.mem_append.mp hx with h | h
      · exact szs x h
      · rw [List.mem_singleton.mp h]; exact sk
  · rintro σ H' ⟨eH, ha', hb', ys, ls, o5, o6, rfl, hl, al', hlen, pos, szs⟩
    refine ⟨_, rfl, p, _, rfl, .inl ⟨sq_of hl, fun l hl2 => ?_⟩⟩
    have e4 : Le H' (upd H' l (.tup ys)) := Le.new hl2
    have el : ls.length = ks.length := by rw [hlen, al.1]
    exact q ls _ _ ((e1'.trans eH).trans e4) el ⟨⟨by rw [el]; exact hk.least, by rw [el]; exact hk.most, pos, szs⟩, l, _, rfl, st_of upd_same, al'.imp fun _ _ z => z.up e4⟩
end
end MW

namespace MW
open PySem PySem.Spec PyProof.Rows L2
open MF (Root QD Plan Wf KOk shape sumQ Tile Sd Inside Down share)
open MF.QD (Sz)
local macro_rules | `(tactic| walk_at "up") => `(tactic| first | assumption | (refine MW.Nm.up (by assumption) ?_; walk_at "up") | (refine MW.Le.tup (by assumption) ?_; walk_at "up") | (refine MW.KindsAt.upL (by assumption) ?_; walk_at "up") | (refine MW.PlanAt.upL (by assumption) ?_; walk_at "up") | (refine MW.Tl.upL (by assumption) ?_; walk_at "up") | (refine MW.Le.bagAt (by assumption) ?_; walk_at "up") | (refine MW.T6.upL (by assumption) ?_; walk_at "up"))
local macro_rules | `(tactic| walk_at "le") => `(tactic| first | exact MW.Le.refl _ | assumption | (refine MW.Le.trans ?_ (by assumption); walk_at "le"))
/-- a drawn part: how deep, how many plans, the plan -/
def Pt (K : PySem.W.Frag) (H : Hp) (many : Nat) (v : V) (t : Nat × Plan) : Prop := ∃ (a : Addr) (i j : Int) (u : V), v = .ref a ∧ SqT K H a [.int i, .int j, u] ∧ i = (t.1 : Int) ∧ j = (t.2.size : Int) ∧ PlanAt K H t.1 u t.2 ∧ Wf many t.1 t.2
theorem Pt.up {K : PySem.W.Frag} {H H' : Hp} {many : Nat} {v : V} {t : Nat × Plan} (e : LeT H H') (h : Pt K H many v t) : Pt K H' many v t := by
  obtain ⟨a, i, j, u, h1, h2, h3, h4, h5, h6⟩ := h
  exact ⟨a, i, j, u, h1, e.tup h2, h3, h4, h5.up e, h6⟩
def Item (K : PySem.W.Frag) (H : Hp) (many : Nat) (v : V) : Prop := ∃ t : Nat × Plan, Pt K H many v t ∧ t.1 ≤ 12 ∧ t.2.size ≤ 60
theorem Item.up {K : PySem.W.Frag} {H H' : Hp} {many : Nat} {v : V} (e : LeT H H') (h : Item K H many v) : Item K H' many v := by
  obtain ⟨t, h1, h2⟩ := h
  exact ⟨t, h1.up e, h2⟩
theorem Item.ref {K : PySem.W.Frag} {H : Hp} {many : Nat} {v : V} (h : Item K H many v) : ∃ a, v = .ref a := by
  obtain ⟨t, ⟨a, _, _, _, h1, _⟩, _⟩ := h
  exact ⟨a, h1⟩
theorem its_nbag {K : PySem.W.Frag} {H : Hp} {many : Nat} {ps : List V} (h : ∀ v ∈ ps, Item K H many v) : NBag ps := nbag_refs fun i u hu => (h u (List.mem_of_getElem? hu)).ref
theorem its_al {K : PySem.W.Frag} {H : Hp} {many : Nat} : ∀ {xs : List V}, (∀ v ∈ xs, Item K H many v) → ∃ its : List (Nat × Plan), Al (Pt K H many) xs its ∧ ∀ t ∈ its, t.1 ≤ 12 ∧ t.2.size ≤ 60
  | [], _ => ⟨[], .nil, fun t h => nomatch h⟩
  | v :: r, h => by
    obtain ⟨t, h1, h2⟩ := h v List.mem_cons_self
    obtain ⟨its, h3, h4⟩ := its_al (xs := r) fun u hu => h u (List.mem_cons_of_mem _ hu)
    exact ⟨t :: its, .cons h1 h3, fun z hz => (List.mem_cons.mp hz).elim (fun e => e ▸ h2) (h4 z)⟩
theorem mono_tup3 {K : PySem.W.Frag} {i j k : Nat} : ∀ (x : V) (σ : L2.St) (H : Hp) (Q Q' : L2.St → Hp → Prop), (∀ σ' H', Q σ' H' → Q' σ' H') → gTup K 3 (gCons (gName i) (gCons (gName j) (gCons (gName k) gNil))) x σ H Q → gTup K 3 (gCons (gName i) (gCons (gName j) (gCons (gName k) gNil))) x σ H Q' := by
  rintro x σ H Q Q' h ⟨a, xs, e, hs, hl, v1, r1, e1, v2, r2, e2, v3, r3, e3, e4, h5⟩
  exact ⟨a, xs, e, hs, hl, v1, r1, e1, v2, r2, e2, v3, r3, e3, e4, h _ _ h5⟩
theorem seqIx {k n : Nat} (h : k < n) : seqIndex? (k : Int) n = some k := by
  have e : (if (k : Int) < 0 then (k : Int) + (n : Int) else (k : Int)) = (k : Int) := if_neg (by omega)
  unfold seqIndex?
  simp only [e]
  rw [if_pos (by simp only [Bool.and_eq_true, decide_eq_true_eq]; omega), Int.toNat_natCast]
def rLenK (K : PySem.W.Frag) : List V → Hp → VK → Prop := fun xs H Q => ∃ p ys, xs = [.ref p] ∧ (SqL K H p ys ∨ SqT K H p ys) ∧ Q (.int ys.length) H
theorem call_lenK {X : Cx} {K : PySem.W.Frag} (hK : X.K = K := by rfl) : CallR X (.builtin "len") (rLenK K) := by
  subst hK
  exact call_len_seq
theorem pe_bmK {X : Cx} {K : PySem.W.Frag} {o e : Expr} {es : List Expr} {to : TE} {t : TA} {name : Str} {apos cpos : Pos} {T id : String} {r : V → List V → Hp → VK → Prop} (pa : PlainAttrs T) (slot : Slot T name id) (hty : typeOf (.builtin id) = pure (.type "method_descriptor")) (hm : MtR X id r) (ho : PE X o to) (ha : PA X (e :: es) t)
    (hK : X.K = K := by rfl)
    (hbase : attributeBase o name X.env (eval o X.env) = eval o X.env := by rfl)
    (hfew : ((backTo cpos (starEach (e :: es) X.env)).all (fun x => !x.1) && (backToKw cpos (keywordEach [] X.env)).all (fun x => x.1.isSome)
      && decide ((e :: es).length + ([] : List Keyword).length + (if ([] : List Keyword).isEmpty then 0 else 1) < 30)) = true := by rfl)
    (hline : (apos.endLine == cpos.line) = true := by rfl) (hs : starEach (e :: es) X.env = (false, eval e X.env) :: starEach es X.env := by rfl) (hplain : (backTo cpos (starEach es X.env)).any (·.1) = false := by rfl) :
    PE X (.Call (.Attribute o name apos) (e :: es) [] cpos) (tBM K T r to t) := by
  subst hK
  exact pe_bm pa slot hty hm ho ha hbase hfew hline hs hplain
theorem comp_range {g : TG} {te : TE} {vs : List Nat} {σ : L2.St} {H1 : Hp} {D : Addr} {Qd : Hp → Prop} {lo : Int} {n : Nat} (R : Nat → V → Hp → Prop) (up : ∀ i y H H', LeT H H' → R i y H → R i y H') (ni : ∀ i y H, R i y H → Nint y) (hz : n ≤ 1000) (hD : H1 D = none)
    (he : ∀ i H', i < n → Le H1 H' → ∀ Q : VK, (∀ y H'', Le H' H'' → R i y H'' → Q y H'') → g (.int (lo + i)) (wipe σ vs) H' fun σ2 H2 => wipe σ2 vs = wipe σ vs ∧ te σ2 H2 Q)
    (hd : ∀ ys H', Le H1 H' → H' D = some (.lst ys) → ys.length = n → (∀ i y, ys[i]? = some y → R i y H') → Qd H')
    (mono : ∀ x σ H (Q Q' : L2.St → Hp → Prop), (∀ σ' H', Q σ' H' → Q' σ' H') → g x σ H Q → g x σ H Q') :
    ∃ W : Nat → Nat → Hp → Prop, (∃ m, W 0 m (upd H1 D (.lst []))) ∧ ∀ i m H, W i m H →
      ((Itr lo n).stop i H ∧ Qd H) ∨ ((Itr lo n).go i H ∧ ∃ Nx : Hp → Prop, (∀ H', Nx H' → ∃ m', m' < m ∧ W (i + 1) m' H') ∧ ∀ x H', (Itr lo n).yld i H x H' → g x (wipe σ vs) H' fun σ2 H2 => wipe σ2 vs = wipe σ vs ∧ tYes σ2 H2 fun b H3 =>
        if b = true then te σ2 H3 fun y H4 => ∃ acc, H4 D = some (.lst acc) ∧ acc.length < sizeLine ∧ Nx (upd H4 D (.lst (acc ++ [y]))) else Nx H3) := by
  refine lc_range (Cv Le R H1 D) ⟨Le.new hD, [], upd_same, rfl, fun j y z => by simp at z⟩ (fun i H' hi p => ?_) (fun H' p => ?_)
  · refine mono _ _ _ _ _ ?_ (he i H' hi p.1 (fun y H4 => ∃ acc, H4 D = some (.lst acc) ∧ acc.length < sizeLine ∧ Cv Le R H1 D (i + 1) (upd H4 D (.lst (acc ++ [y])))) fun y H'' e r => ?_)
    · rintro σ2 H2 ⟨h1, h2⟩
      exact ⟨h1, h2⟩
    · exact cv_turn (G := Le) (S := Le) up (fun a b => a.trans b) (fun a h => a.mut h) (fun a => a.t) (fun e h hr => hk_le ni e h hr) hD p (by omega) e r
  · obtain ⟨p1, ys, p2, p3, p4⟩ := p
    exact hd ys H' p1 p2 p3 p4
theorem yesT {te : TE} {σ : L2.St} {H : Hp} {N : Hp → Prop} {Q : VK} (h : te σ H Q) : tYes σ H fun b H3 => if b = true then te σ H3 Q else N H3 := h
theorem its_sizes (its : List (Nat × Plan)) : ((its.map fun t => (t.2.size : Int)).sum) = ((Plan.sizes (its.map fun t => t.2) : Nat) : Int) := by
  induction its with
  | nil => rfl
  | cons t r ih => rw [List.map_cons, List.sum_cons, ih, List.map_cons, Plan.sizes]; omega
theorem ys_ints {ys : List V} {α : Type} {its : List α} {f : α → Int} (hl : ys.length = its.length) (h : ∀ (i : Nat) y, ys[i]? = some y → ∃ t, its[i]? = some t ∧ y = .int (f t)) : ys = (its.map f).map V.int := by
  induction ys generalizing its with
  | nil => cases its with | nil => rfl | cons p r => simp at hl
  | cons y r ih =>
    cases its with
    | nil => simp at hl
    | cons p ps =>
      obtain ⟨p', e1, e2⟩ := h 0 y rfl
      have e3 : p = p' := by simpa using e1
      subst e3
      rw [e2, List.map_cons, List.map_cons, ← ih (its := ps) (by simpa using hl) fun i z hz => by
        obtain ⟨p2, k1, k2⟩ := h (i + 1) z (by simpa using hz)
        exact ⟨p2, by simpa using k1, k2⟩]
theorem mem_erase {α : Type} {xs : List α} {k : Nat} {x : α} (h : x ∈ xs.eraseIdx k) : x ∈ xs := List.mem_of_mem_eraseIdx h
section
variable {K : PySem.W.Frag} {mg : Str → Option Value} {w : World} {base : Heap} (T : Txt K mg)
def spPlanL (K : PySem.W.Frag) : Sp := fun vs H Q _ => ∃ (many : Nat) (b : Addr), vs = [.ref b, .int (many : Int)] ∧ Bag H b ∧ 1 ≤ many ∧ many ≤ 3 ∧ ∀ (P : Plan) v H', Le H H' → PlanAt K H' 12 v P → Wf many 12 P → P.size ≤ 60 → Q v H'
theorem sc_l_plan : FnScope ["_law_bag_here", "_law_many", "_law_leaves", "_law_parts", "_law_k", "_law_turn", "_law_deep", "_law_size", "_law_plan_here", "_law_way", "_law_whole", "_law_count", "_law_some", "_law_inner", "_law_here", "_law_many_in", "_law_part", "_law_sizes", "_law_most"] ["_law_bag_here", "_law_many"] (defScope s_l_plan) := ⟨rfl, rfl, rfl, by decide +kernel, rfl, by decide +kernel, by decide +kernel⟩
theorem ok_l_plan : T.l_plan.Ok w base 43 (spPlanL K) := by
  have G_l_take := ok_l_take (w := w) (base := base) T
  have G_l_grid_size := ok_l_grid_size (w := w) (base := base) T
  refine T.l_plan.ok sc_l_plan (fun vs H Q E h => ?_) (fun cdv A outer s H0 vs Q E hr h => ?_)
  · obtain ⟨_, _, rfl, _⟩ := h
    rfl
  obtain ⟨many, b, rfl, hb, mn1, mn3, q⟩ := h
  have nd := sc_l_plan.nd
  refine ⟨_, (pss_cons (ps_set (i := 2) nd rfl (by first | exact Or.inl rfl | exact Or.inr rfl) (pe_op op_add pe_int (pcl T.l_take G_l_take (hr.mono (by decide)) (pa_cons (pv 0) (pa_cons (pe_ix ix_list (pe_lst (pa_cons pe_int (pa_cons pe_int (pa_cons pe_int pa_nil)))) (pcl T.l_take G_l_take (hr.mono (by decide)) (pa_cons (pv 0) (pa_cons pe_int pa_nil))) (fun _ _ => rfl)) pa_nil)))))
      (pss_cons (ps_set (i := 3) nd rfl (by first | exact Or.inl rfl | exact Or.inr rfl) (pe_lc (own := [("_law_k", 4)]) (g := gName 4) (tt := tYes) rfl nd (pi_range1 rfl T.b_range (pa_cons (pv 2) pa_nil)) (blkOk_by (own := [("_law_k", 4)]) (N := ["_law_bag_here", "_law_many", "_law_leaves", "_law_parts", "_law_k", "_law_turn", "_law_deep", "_law_size", "_law_plan_here", "_law_way", "_law_whole", "_law_count", "_law_some", "_law_inner", "_law_here", "_law_many_in", "_law_part", "_law_sizes", "_law_most"]) (sc := defScope s_l_plan) (by decide +kernel)) (fun _ _ _ _ _ => pg_name (i := 4) nd rfl (Or.inl rfl)) (fun _ _ _ _ _ => pts_nil) (fun _ _ _ _ _ => (pe_tup (pa_cons pe_int (pa_cons pe_int (pa_cons (pe_tup (pa_cons pe_str (pa_cons (pcl T.l_take G_l_take (hr.mono (by decide)) (pa_cons (pv 0) (pa_cons (pv 1) pa_nil))) pa_nil))) pa_nil)))))))
      (pss_cons (ps_for PassesOwn.never rfl (pi_range1 rfl T.b_range (pa_cons pe_int pa_nil)) (pg_name (i := 5) nd rfl (by first | exact Or.inl rfl | exact Or.inr rfl)) (pss_cons (ps_asg (pe_bm PySem.F.plainAttrs_list PySem.F.slot_list_pop PySem.F.type_list_pop mt_popAt (pv 3) (pa_cons (pcl T.l_take G_l_take (hr.mono (by decide)) (pa_cons (pv 0) (pa_cons (pe_callB call_len_seq rfl T.b_len PySem.boot_len (pa_cons (pv 3) pa_nil)) pa_nil))) pa_nil)) (pg_tup rfl (pgs_cons (pg_name (i := 6) nd rfl (by first | exact Or.inl rfl | exact Or.inr rfl)) (pgs_cons (pg_name (i := 7) nd rfl (by first | exact Or.inl rfl | exact Or.inr rfl)) (pgs_cons (pg_name (i := 8) nd rfl (by first | exact Or.inl rfl | exact Or.inr rfl)) pgs_nil)))))
      (pss_cons (ps_set (i := 9) nd rfl (by first | exact Or.inl rfl | exact Or.inr rfl) (pcl T.l_take G_l_take (hr.mono (by decide)) (pa_cons (pv 0) (pa_cons pe_int pa_nil))))
      (Evl.pss_cut (ps_if (pt_cmpR op_eq (pv 9) pe_int (nomark _)) (pss_one (ps_set (i := 10) nd rfl (by first | exact Or.inl rfl | exact Or.inr rfl) (pe_tup (pa_cons (pe_op op_add (pv 6) pe_int) (pa_cons (pe_op op_add (pv 7) pe_int) (pa_cons (pe_tup (pa_cons pe_str (pa_cons (pv 8) pa_nil))) pa_nil)))))) (pss_one (ps_if (pt_cmpR op_eq (pv 9) pe_int (nomark _)) (pss_one (ps_set (i := 10) nd rfl (by first | exact Or.inl rfl | exact Or.inr rfl) (pe_tup (pa_cons (pe_op op_add (pv 6) pe_int) (pa_cons (pe_op op_add (pv 7) pe_int) (pa_cons (pe_tup (pa_cons pe_str (pa_cons (pcl T.l_grid_size G_l_grid_size (hr.mono (by decide)) (pa_cons (pv 0) pa_nil)) (pa_cons (pcl T.l_grid_size G_l_grid_size (hr.mono (by decide)) (pa_cons (pv 0) pa_nil)) (pa_cons (pv 8) pa_nil))))) pa_nil)))))) (Evl.pss_cut (ps_set (i := 11) nd rfl (by first | exact Or.inl rfl | exact Or.inr rfl) (pe_callB (call_min2 rfl) rfl T.b_min (by decide +kernel) (pa_cons (pe_callB call_len_seq rfl T.b_len PySem.boot_len (pa_cons (pv 3) pa_nil)) (pa_cons (pe_op op_add pe_int (pcl T.l_take G_l_take (hr.mono (by decide)) (pa_cons (pv 0) (pa_cons (pe_ix ix_list (pe_lst (pa_cons pe_int (pa_cons pe_int (pa_cons pe_int (pa_cons pe_int pa_nil))))) (pcl T.l_take G_l_take (hr.mono (by decide)) (pa_cons (pv 0) (pa_cons pe_int pa_nil))) (fun _ _ => rfl)) pa_nil)))) pa_nil))))
      (pss_cons (ps_set (i := 12) nd rfl (by first | exact Or.inl rfl | exact Or.inr rfl) (pe_op op_cat (pe_lst (pa_cons (pe_tup (pa_cons (pv 6) (pa_cons (pv 7) (pa_cons (pv 8) pa_nil)))) pa_nil)) (pe_lc (own := [("_law_k", 4)]) (g := gName 4) (tt := tYes) rfl nd (pi_range1 rfl T.b_range (pa_cons (pv 11) pa_nil)) (blkOk_by (own := [("_law_k", 4)]) (N := ["_law_bag_here", "_law_many", "_law_leaves", "_law_parts", "_law_k", "_law_turn", "_law_deep", "_law_size", "_law_plan_here", "_law_way", "_law_whole", "_law_count", "_law_some", "_law_inner", "_law_here", "_law_many_in", "_law_part", "_law_sizes", "_law_most"]) (sc := defScope s_l_plan) (by decide +kernel)) (fun _ _ _ _ _ => pg_name (i := 4) nd rfl (Or.inl rfl)) (fun _ _ _ _ _ => pts_nil) (fun _ _ _ _ _ => (pe_bmK (K := K) PySem.F.plainAttrs_list PySem.F.slot_list_pop PySem.F.type_list_pop mt_popAt (pv 3) (pa_cons (pcl T.l_take G_l_take (hr.mono (by decide)) (pa_cons (pv 0) (pa_cons (pe_callB (r := rLenK K) call_lenK rfl T.b_len PySem.boot_len (pa_cons (pv 3) pa_nil)) pa_nil))) pa_nil))))))
      (Evl.pss_cut (ps_if (pt_cmpR op_eq (pe_callB call_len_seq rfl T.b_len PySem.boot_len (pa_cons (pv 12) pa_nil)) pe_int (nomark _)) (pss_one (ps_set (i := 12) nd rfl (by first | exact Or.inl rfl | exact Or.inr rfl) (pe_op op_cat (pv 12) (pv 12)))) pss_nil)
      (pss_cons (ps_set (i := 13) nd rfl (by first | exact Or.inl rfl | exact Or.inr rfl) (pe_callTy call_tuple_of rfl T.b_tuple (by decide +kernel) (pa_cons (pe_lc (own := [("_law_here", 14), ("_law_many_in", 15), ("_law_part", 16)]) (g := gTup K 3 (gCons (gName 14) (gCons (gName 15) (gCons (gName 16) gNil)))) (tt := tYes) rfl nd (pi_list (pv 12)) (blkOk_by (own := [("_law_here", 14), ("_law_many_in", 15), ("_law_part", 16)]) (N := ["_law_bag_here", "_law_many", "_law_leaves", "_law_parts", "_law_k", "_law_turn", "_law_deep", "_law_size", "_law_plan_here", "_law_way", "_law_whole", "_law_count", "_law_some", "_law_inner", "_law_here", "_law_many_in", "_law_part", "_law_sizes", "_law_most"]) (sc := defScope s_l_plan) (by decide +kernel)) (fun _ _ _ _ _ => pg_tup rfl (pgs_cons (pg_name (i := 14) nd rfl (Or.inl rfl)) (pgs_cons (pg_name (i := 15) nd rfl (Or.inl rfl)) (pgs_cons (pg_name (i := 16) nd rfl (Or.inl rfl)) pgs_nil)))) (fun _ _ _ _ _ => pts_nil) (fun _ _ _ _ _ => (pv 16))) pa_nil)))
      (pss_cons (ps_setLc (i := 17) (own := [("_law_here", 14), ("_law_many_in", 15), ("_law_part", 16)]) (g := gTup K 3 (gCons (gName 14) (gCons (gName 15) (gCons (gName 16) gNil)))) (tt := tYes) rfl nd rfl rfl (sw_true rfl rfl rfl (by decide +kernel)) (pi_list (pv 12)) (blkOk_by (own := [("_law_here", 14), ("_law_many_in", 15), ("_law_part", 16)]) (N := ["_law_bag_here", "_law_many", "_law_leaves", "_law_parts", "_law_k", "_law_turn", "_law_deep", "_law_size", "_law_plan_here", "_law_way", "_law_whole", "_law_count", "_law_some", "_law_inner", "_law_here", "_law_many_in", "_law_part", "_law_sizes", "_law_most"]) (sc := defScope s_l_plan) (by decide +kernel)) (fun _ _ _ _ _ => pg_tup rfl (pgs_cons (pg_name (i := 14) nd rfl (Or.inl rfl)) (pgs_cons (pg_name (i := 15) nd rfl (Or.inl rfl)) (pgs_cons (pg_name (i := 16) nd rfl (Or.inl rfl)) pgs_nil)))) (fun _ _ _ _ _ => pts_nil) (fun _ _ _ _ _ => (pv 15)))
      (pss_cons (ps_set (i := 18) nd rfl (by first | exact Or.inl rfl | exact Or.inr rfl) (pe_op op_add pe_int (pe_callB (cr_max rfl) rfl T.b_max (by decide +kernel) (pa_cons (pe_lc (own := [("_law_here", 14), ("_law_many_in", 15), ("_law_part", 16)]) (g := gTup K 3 (gCons (gName 14) (gCons (gName 15) (gCons (gName 16) gNil)))) (tt := tYes) rfl nd (pi_list (pv 12)) (blkOk_by (own := [("_law_here", 14), ("_law_many_in", 15), ("_law_part", 16)]) (N := ["_law_bag_here", "_law_many", "_law_leaves", "_law_parts", "_law_k", "_law_turn", "_law_deep", "_law_size", "_law_plan_here", "_law_way", "_law_whole", "_law_count", "_law_some", "_law_inner", "_law_here", "_law_many_in", "_law_part", "_law_sizes", "_law_most"]) (sc := defScope s_l_plan) (by decide +kernel)) (fun _ _ _ _ _ => pg_tup rfl (pgs_cons (pg_name (i := 14) nd rfl (Or.inl rfl)) (pgs_cons (pg_name (i := 15) nd rfl (Or.inl rfl)) (pgs_cons (pg_name (i := 16) nd rfl (Or.inl rfl)) pgs_nil)))) (fun _ _ _ _ _ => pts_nil) (fun _ _ _ _ _ => (pv 14))) pa_nil))))
      (pss_one (ps_set (i := 10) nd rfl (by first | exact Or.inl rfl | exact Or.inr rfl) (pe_tup (pa_cons (pv 18) (pa_cons (pe_op op_add pe_int (pe_callB (cr_sum rfl) rfl T.b_sum (by decide +kernel) (pa_cons (pv 17) pa_nil))) (pa_cons (pe_tup (pa_cons (pe_ix ix_list (pe_lst (pa_cons pe_str (pa_cons pe_str pa_nil))) (pe_op op_mod (pv 9) pe_int) (fun _ _ => rfl)) (pa_cons (pv 13) pa_nil))) pa_nil)))))))))))))))
      (pss_cons (ps_if (PW.pt (pw_or (pt_cmpR op_gt (pe_ix ix_tup (pv 10) pe_int (fun _ _ => rfl)) pe_int (nomark _)) (pw_or1 (pt_cmpR op_gt (pe_ix ix_tup (pv 10) pe_int (fun _ _ => rfl)) pe_int (nomark _))))) (pss_one (ps_ret (pv 8))) pss_nil)
      (pss_cons (ps_expr (pe_bm PySem.F.plainAttrs_list PySem.F.slot_list_append PySem.F.type_list_append mt_append (pv 3) (pa_cons (pv 10) pa_nil)))
      (pss_one (ps_if (PW.pt (pw_and (pt_cmpR op_eq (pe_callB call_len_seq rfl T.b_len PySem.boot_len (pa_cons (pv 3) pa_nil)) pe_int (nomark _)) (pw_and1 (pt_cmpR op_eq (pcl T.l_take G_l_take (hr.mono (by decide)) (pa_cons (pv 0) (pa_cons pe_int pa_nil))) pe_int (nomark _))))) (pss_one (ps_ret (pe_ix ix_tup (pv 10) pe_int (fun _ _ => rfl)))) pss_nil))))))))
      (pss_one (ps_ret (pe_ix ix_tup (pe_ix ix_list (pv 3) pe_int (fun _ _ => rfl)) pe_int (fun _ _ => rfl))))))), ?_⟩
  -- the leaves
  refine ⟨_, rfl, sz3, fun p1 hp1 => ?_⟩
  have e1 : Le H0 (upd H0 p1 (.lst (([2, 4, 12] : List Int).map V.int))) := Le.new hp1
  have h1 : SqL K (upd H0 p1 (.lst (([2, 4, 12] : List Int).map V.int))) p1 (([2, 4, 12] : List Int).map V.int) := sq_of upd_same
  refine ⟨_, rfl, b, 3, rfl, e1.bagAt hb, by decide, by decide, fun r1 H2 e2 k0 k1 => ?_⟩
  obtain ⟨v1, hv1, hm1⟩ := pick (xs := ([2, 4, 12] : List Int).map V.int) k0 (by show r1 < 3; exact k1)
  obtain ⟨n1, rfl, hn1⟩ := mem_ints hm1
  simp only [List.mem_cons, List.not_mem_nil, or_false] at hn1
  refine ⟨p1, _, _, _, rfl, rfl, e2.lst nb3 h1, hv1, b, n1, rfl, e2.bagAt (e1.bagAt hb), by omega, by omega, fun r2 H3 e3 l0 l1 => ⟨_, _, rfl, rfl, ?_⟩⟩
  have e03 : Le H0 H3 := (e1.trans e2).trans e3
  clear h1 e1 e2 e3
  refine ⟨_, rfl, 1 + r2, rfl, by omega, by omega, fun l hl0 => ?_⟩
  have f0 : H0 l = none := e03.back hl0
  refine comp_range (n := (1 + r2).toNat) (fun i y H' => Item K H' many y) (fun i y H H' e h => h.up e) (fun i y H h => by obtain ⟨a, rfl⟩ := h.ref; exact nint_ref) (by omega) hl0 (fun i H' hi e Q' q' => ?_) (fun ys H' e hl hn hr' => ?_) mono_name
  · refine ⟨rfl, _, rfl, _, rfl, b, many, rfl, (e03.trans e).bagAt hb, by omega, by omega, fun r H4 e4 r0 r1 => ⟨sz2, fun p2 hp2 => ?_⟩⟩
    obtain ⟨k, rfl⟩ := Int.eq_ofNat_of_zero_le r0
    have e5 : Le H4 (upd H4 p2 (.tup [.str "kind", .int (k : Int)])) := Le.new hp2
    have h5 : SqT K (upd H4 p2 (.tup [.str "kind", .int (k : Int)])) p2 [.str "kind", .int (k : Int)] := st_of upd_same
    generalize upd H4 p2 (.tup [.str "kind", .int (k : Int)]) = H5 at e5 h5
    refine ⟨sz3, fun p3 hp3 => ?_⟩
    have e6 : Le H5 (upd H5 p3 (.tup [.int 1, .int 1, .ref p2])) := Le.new hp3
    exact q' _ _ ((e4.trans e5).trans e6) ⟨(1, .kind k), ⟨p3, 1, 1, _, rfl, st_of upd_same, rfl, by rw [Plan.size]; rfl, ⟨p2, rfl, e6.tup h5⟩, by show k < many; omega⟩, by show 1 ≤ 12; decide, by rw [Plan.size]; decide⟩
  have e04 : Le H0 H' := e03.trans e
  have it4 : ∀ v ∈ ys, Item K H' many v := fun v hv => by
    obtain ⟨i, hi⟩ := List.mem_iff_getElem?.mp hv
    exact hr' i v hi
  clear hr' e e03 hl0
  -- the turns
  refine ⟨30, rfl, by decide, by decide, ?_⟩
  refine for_range (fun i σ H => Le H0 H ∧ ∃ (ps : List V) (o4 o5 o6 o7 o8 o9 o10 o11 o12 o13 o14 o15 o16 o17 o18 : Option V), σ = [some (.ref b), some (.int (many : Int)), some (.int (1 + r2)), some (.ref l), o4, o5, o6, o7, o8, o9, o10, o11, o12, o13, o14, o15, o16, o17, o18] ∧ H l = some (.lst ps) ∧ 1 ≤ ps.length ∧ ps.length ≤ 12 ∧ ∀ v ∈ ps, Item K H many v)
    ⟨e04, ys, none, none, none, none, none, none, none, none, none, none, none, none, none, none, none, rfl, hl, by omega, by omega, it4⟩ ?_ ?_
  · rintro turn σ H hturn ⟨e0, ps, o4, o5, o6, o7, o8, o9, o10, o11, o12, o13, o14, o15, o16, o17, o18, rfl, hps, ps1, ps2, its⟩ 
    have nb := nb_lst (its_nbag its)
    refine ⟨_, rfl, tyl hps, _, rfl, _, rfl, l, _, rfl, .inl (sq_of hps), b, (ps.length : Int), rfl, e0.bagAt hb, by omega, by omega, fun r H2 e2 r0 r1 => ?_⟩
    obtain ⟨k, rfl⟩ := Int.eq_ofNat_of_zero_le r0
    have hk : k < ps.length := by omega
    have hy := List.getElem?_eq_getElem hk
    have hit := its _ (List.getElem_mem hk)
    generalize ps[k] = y at hy hit
    have hps2 := e2.keep hps nb
    obtain ⟨⟨dp, P⟩, ⟨ay, di, si, up, rfl, hay, edi, esi, hup, wfP⟩, dp12, P60⟩ := hit
    have t2 : LeT H2 (upd H2 l (.lst (ps.eraseIdx k))) := LeT.lst hps2
    have t02 : LeT H (upd H2 l (.lst (ps.eraseIdx k))) := e2.t.trans t2
    have e3 : Le H0 (upd H2 l (.lst (ps.eraseIdx k))) := (e0.trans e2).mut f0
    have hl3 : (upd H2 l (.lst (ps.eraseIdx k))) l = some (.lst (ps.eraseIdx k)) := upd_same
    have it3 : ∀ v ∈ ps.eraseIdx k, Item K (upd H2 l (.lst (ps.eraseIdx k))) many v := fun v hv => (its v (mem_erase hv)).up t02
    have len3 : (ps.eraseIdx k).length ≤ 11 := by rw [List.length_eraseIdx_of_lt hk]; omega
    have hay3 := t02.tup hay
    have hup3 := hup.up t02
    refine ⟨l, ps, (k : Int), k, .ref ay, rfl, rfl, hps2, by omega, by omega, seqIx hk, hy, ay, _, rfl, hay3, rfl, _, _, rfl, _, _, rfl, _, _, rfl, rfl, ?_⟩
    generalize upd H2 l (.lst (ps.eraseIdx k)) = H3 at e3 hl3 it3 hay3 hup3
    generalize ps.eraseIdx k = qs at hl3 it3 len3
    clear t02 t2 hps2 e2 hay hup hps nb its e0 hy hk r1
    have nb3' := nb_lst (its_nbag it3)
    refine ⟨_, rfl, b, 6, rfl, e3.bagAt hb, by decide, by decide, fun way H4 e4 w0 w1 => ?_⟩
    have e04' := e3.trans e4
    have hl4 := e4.keep hl3 nb3'
    have it4' : ∀ v ∈ qs, Item K H4 many v := fun v hv => (it3 v hv).up e4.t
    have hay4 := e4.tup hay3
    have hup4 := hup3.upL e4
    clear e3 hl3 it3 hay3 hup3 e4
    refine ⟨fun σ' H' => Le H0 H' ∧ LeT H4 H' ∧ ∃ (vw : V) (t : Nat × Plan) (rs : List V) (o4 o11 o12 o13 o14 o15 o16 o17 o18 : Option V), σ' = [some (.ref b), some (.int (many : Int)), some (.int (1 + r2)), some (.ref l), o4, some (.int (0 + (turn : Int))), some (.int di), some (.int si), some up, some (.int way), some vw, o11, o12, o13, o14, o15, o16, o17, o18] ∧ Pt K H' many vw t ∧ H' l = some (.lst rs) ∧ rs.length ≤ 11 ∧ ∀ v ∈ rs, Item K H' many v, ?_, ?_⟩
    · refine ⟨_, rfl, rfl, _, rfl, ite2 (fun _ => ?_) (fun _ => ?_)⟩
      · -- turned
        refine ⟨_, rfl, _, _, rfl, rfl, _, rfl, _, _, rfl, rfl, _, rfl, sz2, fun p5 hp5 => ?_⟩
        have e5 : Same H4 (upd H4 p5 (.tup [.str "turn", up])) := Same.new hp5
        have h5 : SqT K (upd H4 p5 (.tup [.str "turn", up])) p5 [.str "turn", up] := st_of upd_same
        generalize upd H4 p5 (.tup [.str "turn", up]) = H5 at e5 h5
        refine ⟨sz3, fun p6 hp6 => ?_⟩
        have e6 : Same H5 (upd H5 p6 (.tup [.int (di + 1), .int (si + 1), .ref p5])) := Same.new hp6
        have e46 := e5.trans e6
        exact ⟨e04'.trans (Same.le e46), Same.t e46, .ref p6, (dp + 1, .turn P), qs, _, _, _, _, _, _, _, _, _, rfl, ⟨p6, _, _, _, rfl, st_of upd_same, by rw [edi]; rfl, by rw [esi, Plan.size]; show (P.size : Int) + 1 = _; omega, ⟨p5, up, rfl, (Same.le e6).tup h5, hup4.up (Same.t e46)⟩, wfP⟩, e46 _ _ hl4, len3, fun v hv => (it4' v hv).up (Same.t e46)⟩
      refine ⟨_, rfl, rfl, _, rfl, ite2 (fun _ => ?_) (fun _ => ?_)⟩
      · -- a grid
        refine ⟨_, rfl, _, _, rfl, rfl, _, rfl, _, _, rfl, rfl, _, rfl, b, rfl, e04'.bagAt hb, fun g1 H5 e5 g1a g1b => ?_⟩
        refine ⟨_, rfl, b, rfl, e5.bagAt (e04'.bagAt hb), fun g2 H6 e6 g2a g2b => ⟨_, rfl, sz4, fun p7 hp7 => ?_⟩⟩
        have e7 : Le H6 (upd H6 p7 (.tup [.str "grid", .int g1, .int g2, up])) := Le.new hp7
        have h7 : SqT K (upd H6 p7 (.tup [.str "grid", .int g1, .int g2, up])) p7 [.str "grid", .int g1, .int g2, up] := st_of upd_same
        generalize upd H6 p7 (.tup [.str "grid", .int g1, .int g2, up]) = H7 at e7 h7
        refine ⟨sz3, fun p8 hp8 => ?_⟩
        have e8 : Le H7 (upd H7 p8 (.tup [.int (di + 1), .int (si + 1), .ref p7])) := Le.new hp8
        have e48 : Le H4 (upd H7 p8 (.tup [.int (di + 1), .int (si + 1), .ref p7])) := ((e5.trans e6).trans e7).trans e8
        exact ⟨e04'.trans e48, e48.t, .ref p8, (dp + 1, .grid g1 g2 P), qs, _, _, _, _, _, _, _, _, _, rfl, ⟨p8, _, _, _, rfl, st_of upd_same, by rw [edi]; rfl, by rw [esi, Plan.size]; show (P.size : Int) + 1 = _; omega, ⟨p7, up, rfl, e8.tup h7, hup4.up e48.t⟩, ⟨g1a, g1b, g2a, g2b, wfP⟩⟩, e48.keep hl4 nb3', len3, fun v hv => (it4' v hv).up e48.t⟩
      -- upon, beside
      refine ⟨fun σ' H' => Le H4 H' ∧ ∃ cnt : Int, 0 ≤ cnt ∧ cnt ≤ 7 ∧ cnt ≤ qs.length ∧ σ' = [some (.ref b), some (.int (many : Int)), some (.int (1 + r2)), some (.ref l), o4, some (.int (0 + (turn : Int))), some (.int di), some (.int si), some up, some (.int way), o10, some (.int cnt), o12, o13, o14, o15, o16, o17, o18], ?_, ?_⟩
      · refine ⟨_, rfl, l, _, rfl, .inl (sq_of hl4), _, rfl, sz4, fun p5 hp5 => ?_⟩
        have e5 : Le H4 (upd H4 p5 (.lst (([1, 1, 2, 7] : List Int).map V.int))) := Le.new hp5
        have h5 : SqL K (upd H4 p5 (.lst (([1, 1, 2, 7] : List Int).map V.int))) p5 (([1, 1, 2, 7] : List Int).map V.int) := sq_of upd_same
        refine ⟨_, rfl, b, 4, rfl, e5.bagAt (e04'.bagAt hb), by decide, by decide, fun r H6 e6 k0 k1 => ?_⟩
        obtain ⟨v5, hv5, hm5⟩ := pick (xs := ([1, 1, 2, 7] : List Int).map V.int) k0 (by show r < 4; exact k1)
        obtain ⟨n5, rfl, hn5⟩ := mem_ints hm5
        simp only [List.mem_cons, List.not_mem_nil, or_false] at hn5
        refine ⟨p5, _, _, _, rfl, rfl, e6.lst nb3 h5, hv5, b, n5, rfl, e6.bagAt (e5.bagAt (e04'.bagAt hb)), by omega, by omega, fun r6 H7 e7 l0 l1 => ⟨_, _, rfl, rfl, _, _, rfl, ?_⟩⟩
        exact ⟨(e5.trans e6).trans e7, _, by split <;> omega, by split <;> omega, by split <;> omega, rfl⟩
      rintro σ' H5 ⟨e5, cnt, c0, c7, cq, rfl⟩
      have e05 := e04'.trans e5
      have hl5 := e5.keep hl4 nb3'
      have it5 : ∀ v ∈ qs, Item K H5 many v := fun v hv => (it4' v hv).up e5.t
      have hup5 := hup4.upL e5
      refine ⟨_, rfl, _, rfl, _, rfl, sz3, fun p6 hp6 => ?_⟩
      have e6 : Same H5 (upd H5 p6 (.tup [.int di, .int si, up])) := Same.new hp6
      have h6 : SqT K (upd H5 p6 (.tup [.int di, .int si, up])) p6 [.int di, .int si, up] := st_of upd_same
      generalize upd H5 p6 (.tup [.int di, .int si, up]) = H6 at e6 h6
      refine ⟨sz1, fun p7 hp7 => ?_⟩
      have e7 : Same H6 (upd H6 p7 (.lst [.ref p6])) := Same.new hp7
      have h7 : (upd H6 p7 (.lst [.ref p6])) p7 = some (.lst [.ref p6]) := upd_same
      have l7 : p7 ≠ l := fun z => by rw [z, e6 _ _ hl5] at hp7; cases hp7
      generalize upd H6 p7 (.lst [.ref p6]) = H7 at e7 h7
      have e57 := e6.trans e7
      have hl7 := e57 _ _ hl5
      have it7 : ∀ v ∈ qs, Item K H7 many v := fun v hv => (it5 v hv).up (Same.t e57)
      have im : Item K H7 many (.ref p6) := ⟨(dp, P), ⟨p6, di, si, up, rfl, (Same.le e7).tup h6, edi, esi, hup5.up (Same.t e57), wfP⟩, dp12, P60⟩
      have e07 := e05.trans (Same.le e57)
      have e47 : LeT H4 H7 := e5.t.trans (Same.t e57)
      clear e5 e6 e7 e57 h6 hl5 it5 hup5 e05
      refine ⟨_, rfl, cnt, rfl, by omega, by omega, fun Dd hD => ?_⟩
      have fD : H0 Dd = none := e07.back hD
      have nD : Dd ≠ l := fun z => by rw [z, hl7] at hD; cases hD
      have nD7 : Dd ≠ p7 := fun z => by rw [z, h7] at hD; cases hD
      refine lc_range (lo := 0) (n := cnt.toNat) (fun i H' => Le H0 H' ∧ LeT H7 H' ∧ H' p7 = some (.lst [.ref p6]) ∧ ∃ (acc rs : List V), H' Dd = some (.lst acc) ∧ H' l = some (.lst rs) ∧ acc.length = i ∧ rs.length + i = qs.length ∧ (∀ v ∈ acc, Item K H' many v) ∧ ∀ v ∈ rs, Item K H' many v) ?_ (fun i H' hi p => ?_) (fun H' p => ?_)
      · have tt : LeT H7 (upd H7 Dd (.lst [])) := Same.t (Same.new hD)
        exact ⟨e07.mut fD, tt, by rw [upd_ne (Ne.symm nD7)]; exact h7, [], qs, upd_same, by rw [upd_ne (Ne.symm nD)]; exact hl7, rfl, rfl, (fun v hv => nomatch hv), fun v hv => (it7 v hv).up tt⟩
      · obtain ⟨p1', p2', p3', acc, rs, ha, hrs, alen, rlen, ita, itr⟩ := p
        have rs1 : 1 ≤ rs.length := by omega
        have nbr := nb_lst (its_nbag itr)
        have nba := nb_lst (its_nbag ita)
        refine ⟨rfl, yesT ?_⟩
        refine ⟨_, rfl, tyl hrs, _, rfl, _, rfl, l, _, rfl, .inl (sq_of hrs), b, (rs.length : Int), rfl, p1'.bagAt hb, by omega, by omega, fun r H8 e8 r0 r1 => ?_⟩
        obtain ⟨k', rfl⟩ := Int.eq_ofNat_of_zero_le r0
        have hk' : k' < rs.length := by omega
        have hy' := List.getElem?_eq_getElem hk'
        have hit' := itr _ (List.getElem_mem hk')
        generalize rs[k'] = y' at hy' hit'
        have hrs8 := e8.keep hrs nbr
        have ha8 := e8.keep ha nba
        have h78 := e8.keep p3' (nb_lst (nbag_refs fun i u hu => by
          cases i with
          | zero => exact ⟨p6, by simpa using hu.symm⟩
          | succ i => simp at hu))
        have t8 : LeT H8 (upd H8 l (.lst (rs.eraseIdx k'))) := LeT.lst hrs8
        have ha9 : (upd H8 l (.lst (rs.eraseIdx k'))) Dd = some (.lst acc) := by rw [upd_ne nD]; exact ha8
        have t9 : LeT (upd H8 l (.lst (rs.eraseIdx k'))) (upd (upd H8 l (.lst (rs.eraseIdx k'))) Dd (.lst (acc ++ [y']))) := LeT.lst ha9
        have t19 := e8.t.trans (t8.trans t9)
        refine ⟨l, rs, (k' : Int), k', y', rfl, rfl, hrs8, by omega, by omega, seqIx hk', hy', acc, ha9, sz_lt (by omega), ((p1'.trans e8).mut f0).mut fD, p2'.trans t19, ?_, acc ++ [y'], rs.eraseIdx k', upd_same, ?_, by rw [List.length_append, alen]; rfl, by rw [List.length_eraseIdx_of_lt hk']; omega, fun v hv => ?_, fun v hv => (itr v (mem_erase hv)).up t19⟩
        · rw [upd_ne (Ne.symm nD7), upd_ne l7]; exact h78
        · rw [upd_ne (Ne.symm nD)]; exact upd_same
        · rcases List.mem_append.mp hv with h | h
          · exact (ita v h).up t19
          · rw [List.mem_singleton.mp h]; exact hit'.up t19
      · obtain ⟨p1', p2', p3', acc, rs, ha, hrs, alen, rlen, ita, itr⟩ := p
        refine ⟨p7, Dd, _, _, rfl, rfl, p3', ha, sz_of (by show 1 + acc.length ≤ 100000; omega), fun p9 hp9 => ?_⟩
        have e9 : Same H' (upd H' p9 (.lst ([.ref p6] ++ acc))) := Same.new hp9
        have h9 : (upd H' p9 (.lst ([.ref p6] ++ acc))) p9 = some (.lst ([.ref p6] ++ acc)) := upd_same
        generalize upd H' p9 (.lst ([.ref p6] ++ acc)) = H9 at e9 h9
        have it9 : ∀ v ∈ [V.ref p6] ++ acc, Item K H9 many v := fun v hv => by
          rcases List.mem_append.mp hv with h | h
          · rw [List.mem_singleton.mp h]; exact (im.up p2').up (Same.t e9)
          · exact (ita v h).up (Same.t e9)
        have l9 : ([V.ref p6] ++ acc).length ≤ 8 := by rw [List.length_append]; show 1 + acc.length ≤ 8; omega
        have l9a : 1 ≤ ([V.ref p6] ++ acc).length := by rw [List.length_append]; show 1 ≤ 1 + acc.length; omega
        generalize [V.ref p6] ++ acc = xs at h9 it9 l9 l9a
        have hl9 := e9 _ _ hrs
        have itr9 : ∀ v ∈ rs, Item K H9 many v := fun v hv => (itr v hv).up (Same.t e9)
        have e09 := p1'.trans (Same.le e9)
        have e49 : LeT H4 H9 := (e47.trans p2').trans (Same.t e9)
        have rl9 : rs.length ≤ 11 := by omega
        clear p1' p2' p3' ha hrs ita itr e9 alen rlen
        refine ⟨fun σ' H'' => Le H0 H'' ∧ LeT H4 H'' ∧ H'' l = some (.lst rs) ∧ (∀ v ∈ rs, Item K H'' many v) ∧ ∃ (pq : Addr) (xs : List V), σ' = [some (.ref b), some (.int (many : Int)), some (.int (1 + r2)), some (.ref l), o4, some (.int (0 + (turn : Int))), some (.int di), some (.int si), some up, some (.int way), o10, some (.int cnt), some (.ref pq), o13, o14, o15, o16, o17, o18] ∧ H'' pq = some (.lst xs) ∧ 2 ≤ xs.length ∧ xs.length ≤ 8 ∧ ∀ v ∈ xs, Item K H'' many v, ?_, ?_⟩
        · refine ⟨_, rfl, p9, _, rfl, .inl (sq_of h9), rfl, _, rfl, ite2 (fun c => ?_) (fun c => ?_)⟩
          · have c1 : xs.length = 1 := by
              have := V.int.inj (of_decide_eq_true c); omega
            refine ⟨_, rfl, _, rfl, p9, p9, _, _, rfl, rfl, h9, h9, sz_of (by omega), fun p10 hp10 => ?_⟩
            have e10 : Same H9 (upd H9 p10 (.lst (xs ++ xs))) := Same.new hp10
            exact ⟨e09.trans (Same.le e10), e49.trans (Same.t e10), e10 _ _ hl9, fun v hv => (itr9 v hv).up (Same.t e10), p10, xs ++ xs, rfl, upd_same, by rw [List.length_append]; omega, by rw [List.length_append]; omega, fun v hv => (it9 v ((List.mem_append.mp hv).elim id id)).up (Same.t e10)⟩
          · have c1 : xs.length ≠ 1 := fun z => c (decide_eq_true (congrArg V.int (by rw [z]; rfl)))
            exact ⟨e09, e49, hl9, itr9, p9, xs, rfl, h9, by omega, l9, it9⟩
        clear e09 e49 hl9 itr9 h9 it9 l9 l9a
        rintro σ' H10 ⟨e010, e410, hl10, itr10, pq, xs, rfl, hq, xs2, xs8, itx⟩
        obtain ⟨tts, al, tb⟩ := its_al itx
        have hlen := al.1
        -- the plans
        refine ⟨_, rfl, pq, rfl, ⟨_, sq_of hq⟩, fun D1 hD1 => ?_⟩
        refine comp_listS (xs := xs) (fun i z H' => ∃ t, tts[i]? = some t ∧ PlanAt K H' t.1 z t.2) (fun i z H H' e h => ⟨h.choose, h.choose_spec.1, h.choose_spec.2.up e⟩) (fun H' e => sq_of (e _ _ hq)) (by omega) hD1 (fun i z H11 hz e11 Q' q' => ?_) (fun ys1 H11 e11 hy1 hn1 hr1 => ?_) mono_tup3
        · obtain ⟨t, ht, a, i1, j1, u1, rfl, ha, _, _, hpl, _⟩ := al.left hz
          exact ⟨a, _, rfl, (Same.le e11).tup ha, rfl, _, _, rfl, _, _, rfl, _, _, rfl, rfl, rfl, _, rfl, q' _ _ (Same.refl _) ⟨t, ht, hpl.up (Same.t e11)⟩⟩
        have al1 : Al (fun z (t : Nat × Plan) => PlanAt K H11 t.1 z t.2) ys1 tts := ⟨by omega, fun i u x a c => by
          obtain ⟨t, ht, hp⟩ := hr1 i u a
          rw [ht] at c; cases c; exact hp⟩
        refine ⟨D1, _, rfl, .inl ⟨sq_of hy1, fun p12 hp12 => ?_⟩⟩
        have e12 : Same H11 (upd H11 p12 (.tup ys1)) := Same.new hp12
        have h12 : SqT K (upd H11 p12 (.tup ys1)) p12 ys1 := st_of upd_same
        generalize upd H11 p12 (.tup ys1) = H12 at e12 h12
        have f12 := e11.trans e12
        -- the sizes
        refine ⟨_, rfl, pq, rfl, ⟨_, sq_of (f12 _ _ hq)⟩, fun D2 hD2 => ?_⟩
        refine comp_listS (xs := xs) (fun i z H' => ∃ t : Nat × Plan, tts[i]? = some t ∧ z = .int (t.2.size : Int)) (fun i z H H' e h => h) (fun H' e => sq_of (e _ _ (f12 _ _ hq))) (by omega) hD2 (fun i z H13 hz e13 Q' q' => ?_) (fun ys2 H13 e13 hy2 hn2 hr2 => ?_) mono_tup3
        · obtain ⟨t, ht, a, i1, j1, u1, rfl, ha, _, ej, _, _⟩ := al.left hz
          exact ⟨a, _, rfl, (Same.le (f12.trans e13)).tup ha, rfl, _, _, rfl, _, _, rfl, _, _, rfl, rfl, rfl, _, rfl, q' _ _ (Same.refl _) ⟨t, ht, congrArg V.int ej⟩⟩
        have ey2 := ys_ints (f := fun t : Nat × Plan => (t.2.size : Int)) (by omega) hr2
        subst ey2
        have f13 := f12.trans e13
        -- the depths
        refine ⟨_, rfl, pq, rfl, ⟨_, sq_of (f13 _ _ hq)⟩, fun D3 hD3 => ?_⟩
        refine comp_listS (xs := xs) (fun i z H' => ∃ t : Nat × Plan, tts[i]? = some t ∧ z = .int (t.1 : Int)) (fun i z H H' e h => h) (fun H' e => sq_of (e _ _ (f13 _ _ hq))) (by omega) hD3 (fun i z H14 hz e14 Q' q' => ?_) (fun ys3 H14 e14 hy3 hn3 hr3 => ?_) mono_tup3
        · obtain ⟨t, ht, a, i1, j1, u1, rfl, ha, ei, _, _, _⟩ := al.left hz
          exact ⟨a, _, rfl, (Same.le (f13.trans e14)).tup ha, rfl, _, _, rfl, _, _, rfl, _, _, rfl, rfl, rfl, _, rfl, q' _ _ (Same.refl _) ⟨t, ht, congrArg V.int ei⟩⟩
        have ey3 := ys_ints (f := fun t : Nat × Plan => (t.1 : Int)) (by omega) hr3
        subst ey3
        have f14 := f13.trans e14
        refine ⟨D3, _, rfl, sq_of hy3, by rw [List.length_map]; omega, fun m hm hmax => ⟨_, _, rfl, rfl, ?_⟩⟩
        obtain ⟨t0, ht0, em⟩ := List.mem_map.mp hm
        have dm : ∀ t ∈ tts, (t.1 : Int) ≤ m := fun t ht => hmax _ (List.mem_map.mpr ⟨t, ht, rfl⟩)
        refine ⟨_, rfl, _, rfl, D2, _, rfl, sq_of (e14 _ _ hy2), _, _, rfl, rfl, sz2, fun p15 hp15 => ?_⟩
        have e15 : Same H14 (upd H14 p15 (.lst [.str "upon", .str "beside"])) := Same.new hp15
        have h15 : SqL K (upd H14 p15 (.lst [.str "upon", .str "beside"])) p15 [.str "upon", .str "beside"] := sq_of upd_same
        generalize upd H14 p15 (.lst [.str "upon", .str "beside"]) = H15 at e15 h15
        have m0 := Int.emod_nonneg way (show (2 : Int) ≠ 0 by decide)
        have m1 := Int.emod_lt_of_pos way (show (0 : Int) < 2 by decide)
        obtain ⟨vk, hvk, hmv⟩ := pick (xs := [V.str "upon", .str "beside"]) (i := way % 2) m0 (by show way % 2 < 2; exact m1)
        refine ⟨_, rfl, _, _, rfl, rfl, (by show (0 : Int) < 2; decide), _, _, _, _, rfl, rfl, h15, hvk, _, rfl, sz2, fun p16 hp16 => ?_⟩
        have e16 : Same H15 (upd H15 p16 (.tup [vk, .ref p12])) := Same.new hp16
        have h16 : SqT K (upd H15 p16 (.tup [vk, .ref p12])) p16 [vk, .ref p12] := st_of upd_same
        generalize upd H15 p16 (.tup [vk, .ref p12]) = H16 at e16 h16
        refine ⟨sz3, fun p17 hp17 => ?_⟩
        have e17 : Same H16 (upd H16 p17 (.tup [.int (1 + m), .int (1 + (tts.map fun t => (t.2.size : Int)).sum), .ref p16])) := Same.new hp17
        have h17 : SqT K (upd H16 p17 (.tup [.int (1 + m), .int (1 + (tts.map fun t => (t.2.size : Int)).sum), .ref p16])) p17 [.int (1 + m), .int (1 + (tts.map fun t => (t.2.size : Int)).sum), .ref p16] := st_of upd_same
        generalize upd H16 p17 (.tup [.int (1 + m), .int (1 + (tts.map fun t => (t.2.size : Int)).sum), .ref p16]) = H17 at e17 h17
        have g17 : Same H11 H17 := (((((e12.trans e13).trans e14).trans e15).trans e16).trans e17)
        have f17 := e11.trans g17
        have e1217 : Same H12 H17 := ((((e13.trans e14).trans e15).trans e16).trans e17)
        have al17 : Al (PlanAt K H17 t0.1) ys1 (tts.map fun t => t.2) := ⟨by rw [List.length_map]; exact al1.1, fun i u x a c => by
          obtain ⟨t, ht, hp⟩ := al1.left a
          rw [List.getElem?_map, ht] at c
          cases c
          have := dm t (List.mem_of_getElem? ht)
          exact (hp.up (Same.t g17)).mono (by omega)⟩
        have wfs : ∀ p ∈ tts.map (fun t : Nat × Plan => t.2), Wf many t0.1 p := fun p hp => by
          obtain ⟨t, ht, rfl⟩ := List.mem_map.mp hp
          obtain ⟨i, hi⟩ := List.mem_iff_getElem?.mp ht
          obtain ⟨u, _, a, i1, j1, u1, _, _, _, _, _, hw⟩ := al.right hi
          have := dm t ht
          exact hw.mono (by omega)
        have fin : ∃ t : Nat × Plan, Pt K H17 many (.ref p17) t := by
          rcases List.mem_cons.mp hmv with rfl | hmv
          · refine ⟨(t0.1 + 1, .upon (tts.map fun t => t.2)), p17, _, _, _, rfl, h17, by rw [← em]; show 1 + (t0.1 : Int) = _; omega, by rw [its_sizes, Plan.size]; omega, ⟨p16, p12, ys1, rfl, (Same.le e17).tup h16, (Same.le e1217).tup h12, al17⟩, ⟨by rw [List.length_map]; omega, by rw [List.length_map]; omega, wfs⟩⟩
          · cases List.mem_singleton.mp hmv
            refine ⟨(t0.1 + 1, .beside (tts.map fun t => t.2)), p17, _, _, _, rfl, h17, by rw [← em]; show 1 + (t0.1 : Int) = _; omega, by rw [its_sizes, Plan.size]; omega, ⟨p16, p12, ys1, rfl, (Same.le e17).tup h16, (Same.le e1217).tup h12, al17⟩, ⟨by rw [List.length_map]; omega, by rw [List.length_map]; omega, wfs⟩⟩
        obtain ⟨t, ht⟩ := fin
        exact ⟨e010.trans (Same.le f17), e410.trans (Same.t f17), .ref p17, t, rs, _, _, _, _, _, _, _, _, _, rfl, ht, f17 _ _ hl10, rl9, fun v hv => (itr10 v hv).up (Same.t f17)⟩
    · rintro σ' H' ⟨e5, t5, vw, ⟨dw, Pw⟩, rs, o4, o11, o12, o13, o14, o15, o16, o17, o18, rfl, ⟨aw, iw, jw, uw, rfl, haw, eiw, ejw, huw, wfw⟩, hrs, rl, itr⟩
      have hupE := (hup4.up t5).mono (show dp ≤ 12 from dp12)
      have wfE := wfP.mono (show dp ≤ 12 from dp12)
      refine ⟨_, rfl, _, _, _, _, rfl, rfl, haw, at0, _, _, rfl, rfl, _, rfl, ite2 (fun c => ifT rfl ⟨_, rfl, q P _ _ e5 hupE wfE P60⟩) (fun c => ⟨_, rfl, _, _, _, _, rfl, rfl, haw, at1, _, _, rfl, rfl, _, rfl, ite2 (fun c2 => ⟨_, rfl, q P _ _ e5 hupE wfE P60⟩) (fun c2 => ?_)⟩)⟩
      have b1 : dw ≤ 12 := by
        have : ¬ (12 : Int) < iw := fun z => c (decide_eq_true z)
        have e : iw = (dw : Int) := eiw
        omega
      have b2 : Pw.size ≤ 60 := by
        have : ¬ (60 : Int) < jw := fun z => c2 (decide_eq_true z)
        have e : jw = (Pw.size : Int) := ejw
        omega
      have nbr := its_nbag itr
      refine ⟨_, rfl, tyl hrs, _, rfl, l, _, _, rfl, rfl, hrs, sz_lt (by omega), ?_⟩
      have t6 : LeT H' (upd H' l (.lst (rs ++ [.ref aw]))) := LeT.lst hrs
      have e6 : Le H0 (upd H' l (.lst (rs ++ [.ref aw]))) := e5.mut f0
      have h6 : (upd H' l (.lst (rs ++ [.ref aw]))) l = some (.lst (rs ++ [.ref aw])) := upd_same
      have hw6 : Pt K (upd H' l (.lst (rs ++ [.ref aw]))) many (.ref aw) (dw, Pw) := Pt.up t6 ⟨aw, iw, jw, uw, rfl, haw, eiw, ejw, huw, wfw⟩
      have it6 : ∀ v ∈ rs ++ [V.ref aw], Item K (upd H' l (.lst (rs ++ [.ref aw]))) many v := fun v hv => by
        rcases List.mem_append.mp hv with h | h
        · exact (itr v h).up t6
        · rw [List.mem_singleton.mp h]; exact ⟨_, hw6, b1, b2⟩
      have l6 : 1 ≤ (rs ++ [V.ref aw]).length := by rw [List.length_append]; show 1 ≤ rs.length + 1; omega
      have l6b : (rs ++ [V.ref aw]).length ≤ 12 := by rw [List.length_append]; show rs.length + 1 ≤ 12; omega
      have haw6 := t6.tup haw
      have huw6 := huw.up t6
      generalize upd H' l (.lst (rs ++ [.ref aw])) = H6 at e6 h6 it6 haw6 huw6
      generalize rs ++ [V.ref aw] = ss at h6 it6 l6 l6b
      refine ⟨_, rfl, l, _, rfl, .inl (sq_of h6), rfl, _, rfl, ite2 (fun _ => ⟨_, rfl, b, 3, rfl, e6.bagAt hb, by decide, by decide, fun r H7 e7 r0 r1 => ⟨rfl, _, rfl, ite2 (fun _ => ?_) (fun _ => ?_)⟩⟩) (fun _ => ifF rfl ?_)⟩
      · exact ⟨_, rfl, _, _, _, _, rfl, rfl, e7.tup haw6, at2, q Pw _ _ (e6.trans e7) ((huw6.upL e7).mono (show dw ≤ 12 from b1)) (wfw.mono (show dw ≤ 12 from b1)) b2⟩
      · exact ⟨e6.trans e7, ss, _, _, _, _, _, _, _, _, _, _, _, _, _, _, _, rfl, e7.keep h6 (nb_lst (its_nbag it6)), l6, l6b, fun v hv => (it6 v hv).up e7.t⟩
      · exact ⟨e6, ss, _, _, _, _, _, _, _, _, _, _, _, _, _, _, _, rfl, h6, l6, l6b, it6⟩
  · rintro σ H ⟨e0, ps, o4, o5, o6, o7, o8, o9, o10, o11, o12, o13, o14, o15, o16, o17, o18, rfl, hps, ps1, ps2, its⟩
    have hy := List.getElem?_eq_getElem (show 0 < ps.length by omega)
    have hit := its _ (List.getElem_mem (show 0 < ps.length by omega))
    generalize ps[0] = y at hy hit
    obtain ⟨⟨dp, P⟩, ⟨ay, di, si, up, rfl, hay, edi, esi, hup, wfP⟩, dp12, P60⟩ := hit
    exact ⟨_, rfl, _, _, _, _, rfl, rfl, sq_of hps, atI_nat (j := 0) hy, _, _, _, _, rfl, rfl, hay, at2, q P _ _ e0 (hup.mono (show dp ≤ 12 from dp12)) (wfP.mono (show dp ≤ 12 from dp12)) P60⟩
end
end MW

namespace MW
open PySem PySem.Spec PyProof.Rows L2
open MF (Root QD Plan Wf KOk shape sumQ Tile Sd Inside Down share)
open MF.QD (Sz)
local macro_rules | `(tactic| walk_at "up") => `(tactic| first | assumption | (refine MW.Nm.up (by assumption) ?_; walk_at "up") | (refine MW.Le.tup (by assumption) ?_; walk_at "up") | (refine MW.KindsAt.upL (by assumption) ?_; walk_at "up") | (refine MW.PlanAt.upL (by assumption) ?_; walk_at "up") | (refine MW.Tl.upL (by assumption) ?_; walk_at "up") | (refine MW.Le.bagAt (by assumption) ?_; walk_at "up") | (refine MW.T6.upL (by assumption) ?_; walk_at "up"))
local macro_rules | `(tactic| walk_at "le") => `(tactic| first | exact MW.Le.refl _ | assumption | (refine MW.Le.trans ?_ (by assumption); walk_at "le"))
theorem planAt_wf {K : PySem.W.Frag} {H : Hp} {many : Nat} : ∀ {n m : Nat} {v : V} {P : Plan}, PlanAt K H n v P → Wf many m P → PlanAt K H m v P
  | 0, _, _, _, h, _ => h.elim
  | n + 1, 0, _, _, _, w => w.elim
  | n + 1, m + 1, v, .kind k, h, _ => h
  | n + 1, m + 1, v, .turn p, h, w => by obtain ⟨a, u, h1, h2, h3⟩ := h; exact ⟨a, u, h1, h2, planAt_wf (m := m) h3 w⟩
  | n + 1, m + 1, v, .upon ps, h, w => by
    obtain ⟨a, b, vs, h1, h2, h3, h4⟩ := h
    exact ⟨a, b, vs, h1, h2, h3, h4.1, fun i u x hu hx => planAt_wf (m := m) (h4.2 i u x hu hx) (w.2.2 x (List.mem_of_getElem? hx))⟩
  | n + 1, m + 1, v, .beside ps, h, w => by
    obtain ⟨a, b, vs, h1, h2, h3, h4⟩ := h
    exact ⟨a, b, vs, h1, h2, h3, h4.1, fun i u x hu hx => planAt_wf (m := m) (h4.2 i u x hu hx) (w.2.2 x (List.mem_of_getElem? hx))⟩
  | n + 1, m + 1, v, .grid x y p, h, w => by obtain ⟨a, u, h1, h2, h3⟩ := h; exact ⟨a, u, h1, h2, planAt_wf (m := m) h3 w.2.2.2.2⟩
/-- a plan that may be too great -/
def Big (K : PySem.W.Frag) (H : Hp) (many : Nat) (v : V) : Prop := ∃ P, PlanAt K H 14 v P ∧ Wf many 14 P
theorem Big.up {K : PySem.W.Frag} {H H' : Hp} {many : Nat} {v : V} (e : Le H H') (h : Big K H many v) : Big K H' many v := by
  obtain ⟨P, h1, h2⟩ := h
  exact ⟨P, h1.upL e, h2⟩
/-- a spot in a tile -/
def Spot (K : PySem.W.Frag) (H : Hp) {D : Root} (t : Tile D) (v : V) : Prop := ∃ (s : Addr) (vx vy : V) (px py : QD D), v = .ref s ∧ SqT K H s [vx, vy] ∧ Nm K H vx px ∧ Nm K H vy py ∧ Inside t 1 1 px py ∧ Sz 1300000 px ∧ Sz 1300000 py
theorem Spot.up {K : PySem.W.Frag} {H H' : Hp} {D : Root} {t : Tile D} {v : V} (e : Le H H') (h : Spot K H t v) : Spot K H' t v := by
  obtain ⟨s, vx, vy, px, py, h1, h2, h3, h4, h5⟩ := h
  exact ⟨s, vx, vy, px, py, h1, e.tup h2, h3.up e, h4.up e, h5⟩
def d3 {D : Root} (x : QD D) : PyData := .tuple [.int x.a, .int x.b, .int x.c]
def d6 {D : Root} (t : Tile D) : PyData := .tuple [d3 t.x, d3 t.y, d3 t.w, d3 t.h, .int (t.k : Int), .bool t.t]
theorem dpN {K : PySem.W.Frag} {H : Hp} {D : Root} {v : V} {x : QD D} (h : Nm K H v x) : Dp K H v (d3 x) := by
  obtain ⟨p, rfl, h⟩ := h
  exact dp3 h
theorem dp6 {K : PySem.W.Frag} {H : Hp} {D : Root} {v : V} {t : Tile D} (h : T6 K H v t) : Dp K H v (d6 t) := by
  obtain ⟨p, a, b, c, d, rfl, h2, h3, h4, h5, h6⟩ := h
  exact .tup h2 (.cons (dpN h3) (.cons (dpN h4) (.cons (dpN h5) (.cons (dpN h6) (.cons (.int _) (.cons (.bl _) .nil))))))
theorem shaped6 {D : Root} (t : Tile D) : SeqAt.shaped (d6 t) = true := by rfl
theorem eqv3s {D : Root} (x : QD D) : PyData.eqv (d3 x) (d3 x) = true := by
  unfold d3
  rw [eqv_num]
  exact decide_eq_true rfl
theorem eqv6 {D : Root} (t : Tile D) : PyData.eqv (d6 t) (d6 t) = true := by
  unfold d6
  simp only [PyData.eqv, PyData.eqvAll, eqv3s]
  simp
section
variable {K : PySem.W.Frag} {mg : Str → Option Value} {w : World} {base : Heap} (T : Txt K mg)
theorem sc_l_great_plan : FnScope ["_law_bag_here", "_law_many", "_law_plan_here", "_law_wide", "_law_high", "_law_some", "_law_thing"] ["_law_bag_here", "_law_many"] (defScope s_l_great_plan) := ⟨rfl, rfl, rfl, by decide +kernel, rfl, by decide +kernel, by decide +kernel⟩
theorem ok_l_great_plan : T.l_great_plan.Ok w base 64 (spPlanL K) := by
  have G_l_take := ok_l_take (w := w) (base := base) T
  have G_l_plan := ok_l_plan (w := w) (base := base) T
  have G_l_is_a_plan := ok_l_is_a_plan (w := w) (base := base) T
  refine T.l_great_plan.ok sc_l_great_plan (fun vs H Q E h => ?_) (fun cdv A outer s H vs Q E hr h => ?_)
  · obtain ⟨_, _, rfl, _⟩ := h
    rfl
  obtain ⟨many, b, rfl, hb, mn1, mn3, q⟩ := h
  have nd := sc_l_great_plan.nd
  refine ⟨_, (pss_cons (ps_set (i := 2) nd rfl (by first | exact Or.inl rfl | exact Or.inr rfl) (pcl T.l_plan G_l_plan (hr.mono (by decide)) (pa_cons (pv 0) (pa_cons (pv 1) pa_nil))))
      (pss_cons (ps_par (i := 3) (j := 4) rfl nd rfl rfl (by decide) rfl rfl (pa_cons (pe_op op_add pe_int (pcl T.l_take G_l_take (hr.mono (by decide)) (pa_cons (pv 0) (pa_cons (pe_op op_pow pe_int pe_int) pa_nil)))) (pa_cons (pe_op op_add pe_int (pcl T.l_take G_l_take (hr.mono (by decide)) (pa_cons (pv 0) (pa_cons (pe_op op_pow pe_int pe_int) pa_nil)))) pa_nil)) (by rfl))
      (pss_cons (ps_set (i := 5) nd rfl (by first | exact Or.inl rfl | exact Or.inr rfl) (pe_lst (pa_cons (pe_tup (pa_cons pe_str (pa_cons (pv 3) (pa_cons (pv 4) (pa_cons (pv 2) pa_nil))))) (pa_cons (pe_tup (pa_cons pe_str (pa_cons (pe_tup (pa_cons pe_str (pa_cons (pv 3) (pa_cons pe_int (pa_cons (pv 2) pa_nil))))) pa_nil))) (pa_cons (pe_tup (pa_cons pe_str (pa_cons (pe_tup (pa_cons (pv 2) (pa_cons (pe_tup (pa_cons pe_str (pa_cons pe_int (pa_cons (pv 4) (pa_cons (pv 2) pa_nil))))) pa_nil))) pa_nil))) (pa_cons (pe_tup (pa_cons pe_str (pa_cons (pe_tup (pa_cons (pe_tup (pa_cons pe_str (pa_cons (pv 2) pa_nil))) (pa_cons (pv 2) (pa_cons (pe_tup (pa_cons pe_str (pa_cons pe_int pa_nil))) pa_nil)))) pa_nil))) pa_nil))))))
      (pss_cons (ps_set (i := 6) nd rfl (by first | exact Or.inl rfl | exact Or.inr rfl) (pe_ix ix_list (pv 5) (pcl T.l_take G_l_take (hr.mono (by decide)) (pa_cons (pv 0) (pa_cons pe_int pa_nil))) (fun _ _ => rfl)))
      (pss_one (ps_ret (pe_ifExp (pt_val (pcl T.l_is_a_plan G_l_is_a_plan (hr.mono (by decide)) (pa_cons (pv 6) (pa_cons (pv 1) pa_nil)))) (pv 6) (pv 2)))))))), ?_⟩
  refine ⟨_, rfl, _, rfl, many, b, rfl, hb, mn1, mn3, fun P vP H1 e1 hP wfP P60 => ?_⟩
  refine ⟨_, rfl, _, _, rfl, rfl, ⟨by decide, by decide, by decide⟩, b, _, rfl, e1.bagAt hb, by decide, by decide, fun r2 H2 e2 a0 a1 => ⟨_, _, rfl, rfl, ?_⟩⟩
  refine ⟨_, rfl, _, _, rfl, rfl, ⟨by decide, by decide, by decide⟩, b, _, rfl, e2.bagAt (e1.bagAt hb), by decide, by decide, fun r3 H3 e3 b0 b1 => ⟨_, _, rfl, rfl, _, _, rfl, ?_⟩⟩
  rw [pow6] at a1 b1
  have g1 : 1 ≤ 1 + r2 := by omega
  have g2 : 1 + r2 ≤ 1000000 := by omega
  have g3 : 1 ≤ 1 + r3 := by omega
  have g4 : 1 + r3 ≤ 1000000 := by omega
  have e03 : Le H H3 := (e1.trans e2).trans e3
  have hP3 : PlanAt K H3 12 vP P := (hP.upL e2).upL e3
  clear e2 e3 a0 a1 b0 b1
  -- a grid
  refine ⟨_, rfl, _, rfl, _, rfl, sz4, fun q1 hq1 => ?_⟩
  have f1 : Le H3 (upd H3 q1 (.tup [.str "grid", .int (1 + r2), .int (1 + r3), vP])) := Le.new hq1
  have k1 : Big K (upd H3 q1 (.tup [.str "grid", .int (1 + r2), .int (1 + r3), vP])) many (.ref q1) := ⟨.grid (1 + r2) (1 + r3) P, ⟨q1, vP, rfl, st_of upd_same, PlanAt.mono (n := 12) (m := 13) (hP3.upL f1) (by omega)⟩, g1, g2, g3, g4, Wf.mono (n := 12) (m := 13) wfP (by omega)⟩
  have hP4 := hP3.upL f1
  generalize upd H3 q1 (.tup [.str "grid", .int (1 + r2), .int (1 + r3), vP]) = H4 at f1 k1 hP4
  -- a grid, turned
  refine ⟨_, rfl, _, rfl, sz4, fun q2 hq2 => ?_⟩
  have f2 : Le H4 (upd H4 q2 (.tup [.str "grid", .int (1 + r2), .int 2, vP])) := Le.new hq2
  have h2 : SqT K (upd H4 q2 (.tup [.str "grid", .int (1 + r2), .int 2, vP])) q2 [.str "grid", .int (1 + r2), .int 2, vP] := st_of upd_same
  have hP5 := hP4.upL f2
  generalize upd H4 q2 (.tup [.str "grid", .int (1 + r2), .int 2, vP]) = H5 at f2 h2 hP5
  refine ⟨sz2, fun q3 hq3 => ?_⟩
  have f3 : Le H5 (upd H5 q3 (.tup [.str "turn", .ref q2])) := Le.new hq3
  have k2 : Big K (upd H5 q3 (.tup [.str "turn", .ref q2])) many (.ref q3) := ⟨.turn (.grid (1 + r2) 2 P), ⟨q3, .ref q2, rfl, st_of upd_same, q2, vP, rfl, f3.tup h2, PlanAt.mono (n := 12) (m := 12) (hP5.upL f3) (by omega)⟩, g1, g2, by omega, by omega, Wf.mono (n := 12) (m := 12) wfP (by omega)⟩
  have hP6 := hP5.upL f3
  generalize upd H5 q3 (.tup [.str "turn", .ref q2]) = H6 at f3 k2 hP6
  -- beside
  refine ⟨_, rfl, _, rfl, _, rfl, sz4, fun q4 hq4 => ?_⟩
  have f4 : Le H6 (upd H6 q4 (.tup [.str "grid", .int 2, .int (1 + r3), vP])) := Le.new hq4
  have h4 : SqT K (upd H6 q4 (.tup [.str "grid", .int 2, .int (1 + r3), vP])) q4 [.str "grid", .int 2, .int (1 + r3), vP] := st_of upd_same
  have hP7 := hP6.upL f4
  generalize upd H6 q4 (.tup [.str "grid", .int 2, .int (1 + r3), vP]) = H7 at f4 h4 hP7
  refine ⟨sz2, fun q5 hq5 => ?_⟩
  have f5 : Le H7 (upd H7 q5 (.tup [vP, .ref q4])) := Le.new hq5
  have h5 : SqT K (upd H7 q5 (.tup [vP, .ref q4])) q5 [vP, .ref q4] := st_of upd_same
  have hP8 := hP7.upL f5
  have h4' := f5.tup h4
  generalize upd H7 q5 (.tup [vP, .ref q4]) = H8 at f5 h5 hP8 h4'
  refine ⟨sz2, fun q6 hq6 => ?_⟩
  have f6 : Le H8 (upd H8 q6 (.tup [.str "beside", .ref q5])) := Le.new hq6
  have k3 : Big K (upd H8 q6 (.tup [.str "beside", .ref q5])) many (.ref q6) := ⟨.beside [P, .grid 2 (1 + r3) P], ⟨q6, q5, _, rfl, st_of upd_same, f6.tup h5, .cons (PlanAt.mono (n := 12) (m := 13) (hP8.upL f6) (by omega)) (.one ⟨q4, vP, rfl, f6.tup h4', PlanAt.mono (n := 12) (m := 12) (hP8.upL f6) (by omega)⟩)⟩, by show 2 ≤ 2; decide, by show 2 ≤ 8; decide, fun p hp => by
    rcases List.mem_cons.mp hp with rfl | hp
    · exact Wf.mono (n := 12) (m := 13) wfP (by omega)
    · rw [List.mem_singleton.mp hp]; exact ⟨by omega, by omega, g3, g4, Wf.mono (n := 12) (m := 12) wfP (by omega)⟩⟩
  have hP9 := hP8.upL f6
  generalize upd H8 q6 (.tup [.str "beside", .ref q5]) = H9 at f6 k3 hP9
  -- upon
  refine ⟨_, rfl, sz2, fun q7 hq7 => ?_⟩
  have f7 : Le H9 (upd H9 q7 (.tup [.str "turn", vP])) := Le.new hq7
  have h7 : SqT K (upd H9 q7 (.tup [.str "turn", vP])) q7 [.str "turn", vP] := st_of upd_same
  have hP10 := hP9.upL f7
  generalize upd H9 q7 (.tup [.str "turn", vP]) = H10 at f7 h7 hP10
  refine ⟨_, rfl, sz2, fun q8 hq8 => ?_⟩
  have f8 : Le H10 (upd H10 q8 (.tup [.str "kind", .int 0])) := Le.new hq8
  have h8 : SqT K (upd H10 q8 (.tup [.str "kind", .int 0])) q8 [.str "kind", .int 0] := st_of upd_same
  have hP11 := hP10.upL f8
  have h7' := f8.tup h7
  generalize upd H10 q8 (.tup [.str "kind", .int 0]) = H11 at f8 h8 hP11 h7'
  refine ⟨sz3, fun q9 hq9 => ?_⟩
  have f9 : Le H11 (upd H11 q9 (.tup [.ref q7, vP, .ref q8])) := Le.new hq9
  have h9 : SqT K (upd H11 q9 (.tup [.ref q7, vP, .ref q8])) q9 [.ref q7, vP, .ref q8] := st_of upd_same
  have hP12 := hP11.upL f9
  have h7'' := f9.tup h7'
  have h8' := f9.tup h8
  generalize upd H11 q9 (.tup [.ref q7, vP, .ref q8]) = H12 at f9 h9 hP12 h7'' h8'
  refine ⟨sz2, fun q10 hq10 => ?_⟩
  have f10 : Le H12 (upd H12 q10 (.tup [.str "upon", .ref q9])) := Le.new hq10
  have k4 : Big K (upd H12 q10 (.tup [.str "upon", .ref q9])) many (.ref q10) := ⟨.upon [.turn P, P, .kind 0], ⟨q10, q9, _, rfl, st_of upd_same, f10.tup h9, .cons ⟨q7, vP, rfl, f10.tup h7'', PlanAt.mono (n := 12) (m := 12) (hP12.upL f10) (by omega)⟩ (.cons (PlanAt.mono (n := 12) (m := 13) (hP12.upL f10) (by omega)) (.one ⟨q8, rfl, f10.tup h8'⟩))⟩, by show 2 ≤ 3; decide, by show 3 ≤ 8; decide, fun p hp => by
    rcases List.mem_cons.mp hp with rfl | hp
    · exact Wf.mono (n := 12) (m := 12) wfP (by omega)
    rcases List.mem_cons.mp hp with rfl | hp
    · exact Wf.mono (n := 12) (m := 13) wfP (by omega)
    · rw [List.mem_singleton.mp hp]; show 0 < many; omega⟩
  have hP13 := hP12.upL f10
  generalize upd H12 q10 (.tup [.str "upon", .ref q9]) = H13 at f10 k4 hP13
  have e313 : Le H3 H13 := f1.trans (f2.trans (f3.trans (f4.trans (f5.trans (f6.trans (f7.trans (f8.trans (f9.trans f10))))))))
  have m1 := k1.up (f2.trans (f3.trans (f4.trans (f5.trans (f6.trans (f7.trans (f8.trans (f9.trans f10))))))))
  have m2 := k2.up (f4.trans (f5.trans (f6.trans (f7.trans (f8.trans (f9.trans f10))))))
  have m3 := k3.up (f7.trans (f8.trans (f9.trans f10)))
  have all : ∀ v ∈ [V.ref q1, .ref q3, .ref q6, .ref q10], Big K H13 many v := fun v hv => by
    simp only [List.mem_cons, List.not_mem_nil, or_false] at hv
    rcases hv with rfl | rfl | rfl | rfl
    · exact m1
    · exact m2
    · exact m3
    · exact k4
  clear k1 k2 k3 k4 m1 m2 m3 f1 f2 f3 f4 f5 f6 f7 f8 f9 f10
  refine ⟨sz4, fun pl hpl => ?_⟩
  have e14 : Le H13 (upd H13 pl (.lst [.ref q1, .ref q3, .ref q6, .ref q10])) := Le.new hpl
  have h14 : SqL K (upd H13 pl (.lst [.ref q1, .ref q3, .ref q6, .ref q10])) pl [.ref q1, .ref q3, .ref q6, .ref q10] := sq_of upd_same
  generalize upd H13 pl (.lst [.ref q1, .ref q3, .ref q6, .ref q10]) = H14 at e14 h14
  have e014 := (e03.trans e313).trans e14
  refine ⟨_, rfl, _, rfl, b, 4, rfl, e014.bagAt hb, by decide, by decide, fun r H15 e15 k0 k1 => ?_⟩
  obtain ⟨v, hv, hm⟩ := pick (xs := [V.ref q1, .ref q3, .ref q6, .ref q10]) k0 (by show r < 4; exact k1)
  refine ⟨pl, _, _, _, rfl, rfl, e15.lst nb3 h14, hv, ?_⟩
  obtain ⟨Pb, hPb, wfb⟩ := ((all v hm).up e14).up e15
  have hPe := (hP13.upL e14).upL e15
  refine ⟨_, rfl, _, rfl, 14, many, Pb, v, rfl, hPb, wfb, fun bb H16 e16 hbb => ⟨bb, rfl, ite2 (fun c => ?_) (fun c => ?_)⟩⟩
  · obtain ⟨x1, x2⟩ := hbb c
    exact ⟨_, rfl, q Pb _ _ ((e014.trans e15).trans (Same.le e16)) ((planAt_wf hPb x1).upL (Same.le e16)) x1 x2⟩
  · exact ⟨_, rfl, q P _ _ ((e014.trans e15).trans (Same.le e16)) (hPe.upL (Same.le e16)) wfP P60⟩
def spToldL (K : PySem.W.Frag) : Sp := fun vs H Q _ => ∃ (D : Root) (ks : List (QD D)) (P : Plan) (b : Addr) (u v : V), vs = [.ref b, .int D.d, u, v] ∧ Bag H b ∧ KOk ks ∧ KindsAt K H u ks ∧ PlanAt K H 12 v P ∧ Wf ks.length 12 P ∧ P.size ≤ 60 ∧ ∀ H', Le H H' → Q (.bl true) H'
theorem sc_l_is_told : FnScope ["_law_bag_here", "_law_d", "_law_kinds_here", "_law_plan_here", "_law_tile", "_law_x", "_law_y", "_law_spot", "_law_told"] ["_law_bag_here", "_law_d", "_law_kinds_here", "_law_plan_here"] (defScope s_l_is_told) := ⟨rfl, rfl, rfl, by decide +kernel, rfl, by decide +kernel, by decide +kernel⟩
theorem ok_l_is_told (hs : base.NoSeer) : T.l_is_told.Ok w base 127 (spToldL K) := by
  have G_l_is_whole := ok_l_is_whole (w := w) (base := base) T
  have G_tile_at := ok_tile_at (w := w) T hs
  have G_l_plus := ok_l_plus (w := w) T hs
  have G_l_part_of := ok_l_part_of (w := w) T hs
  have G_l_down := ok_l_down (w := w) T hs 12 (by decide)
  refine T.l_is_told.ok sc_l_is_told (fun vs H Q E h => ?_) (fun cdv A outer s H vs Q E hr h => ?_)
  · obtain ⟨_, _, _, _, _, _, rfl, _⟩ := h
    rfl
  obtain ⟨D, ks, P, b, u, v, rfl, hb, hk, hkv, hP, wf, h60, q⟩ := h
  have nd := sc_l_is_told.nd
  refine ⟨_, (pss_cons (ps_set (i := 4) nd rfl (by first | exact Or.inl rfl | exact Or.inr rfl) (pcl T.l_down G_l_down (hr.mono (by decide)) (pa_cons (pv 0) (pa_cons (pv 1) (pa_cons (pv 2) (pa_cons (pv 3) pa_nil))))))
      (pss_cons (ps_par (i := 5) (j := 6) rfl nd rfl rfl (by decide) rfl rfl (pa_cons (pcl T.l_plus G_l_plus (hr.mono (by decide)) (pa_cons (pe_ix ix_tup (pv 4) pe_int (fun _ _ => rfl)) (pa_cons (pcl T.l_part_of G_l_part_of (hr.mono (by decide)) (pa_cons (pv 0) (pa_cons (pv 1) (pa_cons (pe_ix ix_tup (pv 4) pe_int (fun _ _ => rfl)) pa_nil)))) pa_nil))) (pa_cons (pcl T.l_plus G_l_plus (hr.mono (by decide)) (pa_cons (pe_ix ix_tup (pv 4) pe_int (fun _ _ => rfl)) (pa_cons (pcl T.l_part_of G_l_part_of (hr.mono (by decide)) (pa_cons (pv 0) (pa_cons (pv 1) (pa_cons (pe_ix ix_tup (pv 4) pe_int (fun _ _ => rfl)) pa_nil)))) pa_nil))) pa_nil)) (by rfl))
      (pss_cons (ps_for PassesOwn.never rfl (pi_list (pe_lst (pa_cons (pe_tup (pa_cons (pe_ix ix_tup (pv 4) pe_int (fun _ _ => rfl)) (pa_cons (pe_ix ix_tup (pv 4) pe_int (fun _ _ => rfl)) pa_nil))) (pa_cons (pe_tup (pa_cons (pv 5) (pa_cons (pe_ix ix_tup (pv 4) pe_int (fun _ _ => rfl)) pa_nil))) (pa_cons (pe_tup (pa_cons (pe_ix ix_tup (pv 4) pe_int (fun _ _ => rfl)) (pa_cons (pv 6) pa_nil))) (pa_cons (pe_tup (pa_cons (pv 5) (pa_cons (pv 6) pa_nil))) pa_nil)))))) (pg_name (i := 7) nd rfl (by first | exact Or.inl rfl | exact Or.inr rfl)) (pss_cons (ps_set (i := 8) nd rfl (by first | exact Or.inl rfl | exact Or.inr rfl) (pcl T.tile_at G_tile_at (hr.mono (by decide)) (pa_cons (pv 1) (pa_cons (pv 2) (pa_cons (pv 3) (pa_cons (pe_ix ix_tup (pv 7) pe_int (fun _ _ => rfl)) (pa_cons (pe_ix ix_tup (pv 7) pe_int (fun _ _ => rfl)) pa_nil)))))))
      (pss_one (ps_if (PW.pt (pw_or (pt_not (pt_val (pe_callB call_isi rfl T.b_isinstance (by decide +kernel) (pa_cons (pv 8) (pa_cons (pe_bltn (v := .ty "tuple") rfl T.b_tuple (by decide +kernel) rfl) pa_nil))))) (pw_or (pt_cmpR (op_neD hr.units) (pv 8) (pv 4) (nomark _)) (pw_or (pt_not (pt_val (pe_callB call_isi rfl T.b_isinstance (by decide +kernel) (pa_cons (pe_ix ix_tup (pv 8) pe_int (fun _ _ => rfl)) (pa_cons (pe_bltn (v := .ty "bool") rfl T.b_bool (by decide +kernel) rfl) pa_nil))))) (pw_or1 (pt_not (pt_val (pcl T.l_is_whole G_l_is_whole (hr.mono (by decide)) (pa_cons (pe_ix ix_tup (pv 8) pe_int (fun _ _ => rfl)) pa_nil))))))))) (pss_one (ps_ret pe_bl)) pss_nil))))
      (pss_one (ps_ret pe_bl))))), ?_⟩
  refine ⟨_, rfl, _, rfl, _, rfl, _, rfl, D, ks, P, b, _, _, rfl, hb, hk, hkv, hP, wf, h60, fun t r1 H1 e1 dn hT => ?_⟩
  obtain ⟨a1, a2, a3, a4, a5, a6⟩ := MF.Down.lies hk wf dn
  obtain ⟨z1, z2, z3, z4⟩ := (MF.Down.sz hk wf h60 dn).all
  obtain ⟨p, c1, c2, c3, c4, rfl, hp, n1, n2, n3, n4⟩ := id hT
  refine ⟨_, rfl, _, _, _, _, rfl, rfl, hp, at0, _, rfl, _, rfl, _, rfl, _, _, _, _, rfl, rfl, hp, at2, D, t.w, 50000 * 12, b, _, rfl, e1.bagAt hb, n3, z3, by omega, a3, fun y1 v2 H2 e2 h2 y0 yw sy => ?_⟩
  refine ⟨D, t.x, y1, _, _, rfl, n1.up e2, h2, .of z1, .of sy, fun v3 H3 e3 h3 => ?_⟩
  refine ⟨_, rfl, _, _, _, _, rfl, rfl, e3.tup (e2.tup hp), at1 (a := c1) (b := c2) (r := [c3, c4, .int (t.k : Int), .bl t.t]), _, rfl, _, rfl, _, rfl, _, _, _, _, rfl, rfl, e3.tup (e2.tup hp), at3 (a := c1) (b := c2) (c := c3) (d := c4) (r := [.int (t.k : Int), .bl t.t]), D, t.h, 50000 * 12, b, _, rfl, e3.bagAt (e2.bagAt (e1.bagAt hb)), (n4.up e2).up e3, z4, by omega, a4, fun y2 v4 H4 e4 h4 w0 ww sw => ?_⟩
  refine ⟨D, t.y, y2, _, _, rfl, ((n2.up e2).up e3).up e4, h4, .of z2, .of sw, fun v5 H5 e5 h5 => ⟨_, _, rfl, ?_⟩⟩
  have e15 : Le H1 H5 := ((e2.trans e3).trans e4).trans e5
  have m1 := n1.up e15
  have m2 := n2.up e15
  have mx : Nm K H5 v3 (t.x + y1) := (h3.up e4).up e5
  have hT5 := hT.upL e15
  have hp5 := e15.tup hp
  have e05 := e1.trans e15
  have zx : Sz 1300000 (t.x + y1) := (z1.add sy).mono (by omega)
  have zy : Sz 1300000 (t.y + y2) := (z2.add sw).mono (by omega)
  have z1' : Sz 1300000 t.x := z1.mono (by omega)
  have z2' : Sz 1300000 t.y := z2.mono (by omega)
  have ix0 : Sd 1 t.x t.x (t.x + t.w) := .inl ⟨rfl, by grind, by grind⟩
  have ix1 : Sd 1 t.x (t.x + y1) (t.x + t.w) := .inl ⟨rfl, by grind, by grind⟩
  have iy0 : Sd 1 t.y t.y (t.y + t.h) := .inl ⟨rfl, by grind, by grind⟩
  have iy1 : Sd 1 t.y (t.y + y2) (t.y + t.h) := .inl ⟨rfl, by grind, by grind⟩
  clear e2 e3 e4 e5 h2 h3 h4 n1 n2 n3 n4
  -- the four spots
  refine ⟨_, rfl, _, _, _, _, rfl, rfl, hp5, at0 (a := c1) (r := [c2, c3, c4, .int (t.k : Int), .bl t.t]), _, rfl, _, _, _, _, rfl, rfl, hp5, at1 (a := c1) (b := c2) (r := [c3, c4, .int (t.k : Int), .bl t.t]), sz2, fun q1 hq1 => ?_⟩
  have f1 : Le H5 (upd H5 q1 (.tup [c1, c2])) := Le.new hq1
  have k1 : Spot K (upd H5 q1 (.tup [c1, c2])) t (.ref q1) := ⟨q1, _, _, _, _, rfl, st_of upd_same, m1.up f1, m2.up f1, ⟨ix0, iy0⟩, z1', z2'⟩
  generalize upd H5 q1 (.tup [c1, c2]) = H6 at f1 k1
  refine ⟨_, rfl, _, rfl, _, _, _, _, rfl, rfl, f1.tup hp5, at1 (a := c1) (b := c2) (r := [c3, c4, .int (t.k : Int), .bl t.t]), sz2, fun q2 hq2 => ?_⟩
  have f2 : Le H6 (upd H6 q2 (.tup [v3, c2])) := Le.new hq2
  have k2 : Spot K (upd H6 q2 (.tup [v3, c2])) t (.ref q2) := ⟨q2, _, _, _, _, rfl, st_of upd_same, (mx.up f1).up f2, (m2.up f1).up f2, ⟨ix1, iy0⟩, zx, z2'⟩
  generalize upd H6 q2 (.tup [v3, c2]) = H7 at f2 k2
  refine ⟨_, rfl, _, _, _, _, rfl, rfl, f2.tup (f1.tup hp5), at0 (a := c1) (r := [c2, c3, c4, .int (t.k : Int), .bl t.t]), _, rfl, sz2, fun q3 hq3 => ?_⟩
  have f3 : Le H7 (upd H7 q3 (.tup [c1, v5])) := Le.new hq3
  have k3 : Spot K (upd H7 q3 (.tup [c1, v5])) t (.ref q3) := ⟨q3, _, _, _, _, rfl, st_of upd_same, ((m1.up f1).up f2).up f3, ((h5.up f1).up f2).up f3, ⟨ix0, iy1⟩, z1', zy⟩
  generalize upd H7 q3 (.tup [c1, v5]) = H8 at f3 k3
  refine ⟨_, rfl, _, rfl, sz2, fun q4 hq4 => ?_⟩
  have f4 : Le H8 (upd H8 q4 (.tup [v3, v5])) := Le.new hq4
  have k4 : Spot K (upd H8 q4 (.tup [v3, v5])) t (.ref q4) := ⟨q4, _, _, _, _, rfl, st_of upd_same, (((mx.up f1).up f2).up f3).up f4, (((h5.up f1).up f2).up f3).up f4, ⟨ix1, iy1⟩, zx, zy⟩
  generalize upd H8 q4 (.tup [v3, v5]) = H9 at f4 k4
  have k3' := k3.up f4
  have k2' := k2.up (f3.trans f4)
  have k1' := k1.up (f2.trans (f3.trans f4))
  refine ⟨sz4, fun pl hpl => ?_⟩
  have f5 : Le H9 (upd H9 pl (.lst [.ref q1, .ref q2, .ref q3, .ref q4])) := Le.new hpl
  have h10 : SqL K (upd H9 pl (.lst [.ref q1, .ref q2, .ref q3, .ref q4])) pl [.ref q1, .ref q2, .ref q3, .ref q4] := sq_of upd_same
  have all : ∀ v ∈ [V.ref q1, .ref q2, .ref q3, .ref q4], Spot K (upd H9 pl (.lst [.ref q1, .ref q2, .ref q3, .ref q4])) t v := fun v hv => by
    simp only [List.mem_cons, List.not_mem_nil, or_false] at hv
    rcases hv with rfl | rfl | rfl | rfl
    · exact k1'.up f5
    · exact k2'.up f5
    · exact k3'.up f5
    · exact k4.up f5
  generalize upd H9 pl (.lst [.ref q1, .ref q2, .ref q3, .ref q4]) = H10 at f5 h10 all
  have e510 : Le H5 H10 := f1.trans (f2.trans (f3.trans (f4.trans f5)))
  have e010 := e05.trans e510
  have hT10 := hT5.upL e510
  clear f1 f2 f3 f4 f5 k1 k2 k3 k4 k1' k2' k3'
  refine ⟨pl, rfl, ⟨_, h10⟩, ?_⟩
  refine for_list (xs := [V.ref q1, .ref q2, .ref q3, .ref q4]) (fun i σ H' => Le H10 H' ∧ ∃ o7 o8 : Option V, σ = [some (.ref b), some (.int D.d), some u, some v, some (.ref p), some v3, some v5, o7, o8]) ⟨Le.refl _, none, none, rfl⟩ (fun i σ H' hi h => h.1.lst nb3 h10) ?_ ?_
  · rintro i vs σ H' hvs ⟨eH, o7, o8, rfl⟩
    obtain ⟨s, vx, vy, px, py, rfl, hsq, hx, hy, ins, zpx, zpy⟩ := (all vs (List.mem_of_getElem? hvs)).up eH
    have e0H := e010.trans eH
    refine ⟨_, rfl, _, rfl, _, rfl, _, rfl, _, _, _, _, rfl, rfl, hsq, at0, _, rfl, _, _, _, _, rfl, rfl, hsq, at1, D, ks, P, t, px, py, _, _, _, _, rfl, hk, hkv.upL e0H, hP.upL e0H, wf, h60, dn, ins, hx, hy, zpx, zpy, fun rT H11 e11 hR => ?_⟩
    have hT11 := (hT10.upL eH).upL e11
    obtain ⟨p', b1, b2, b3, b4, rfl, hp', _, _, _, _⟩ := id hR
    refine ⟨_, rfl, _, _, _, _, _, rfl, .ty _, tyT hp', k_tt, true, rfl, iteF ⟨_, rfl, _, rfl, d6 t, d6 t, dp6 hR, dp6 hT11, shaped6 t, shaped6 t, _, rfl, ifF (by rw [eqv6]; rfl) ?_⟩⟩
    refine ⟨_, rfl, _, _, _, _, rfl, rfl, hp', at5, _, _, _, _, _, rfl, .ty _, .base (.bl _), k_bb, true, rfl, iteF ?_⟩
    refine ⟨_, rfl, _, _, _, _, rfl, rfl, hp', at4, _, rfl, true, rfl, ifF rfl ?_⟩
    exact ⟨eH.trans e11, _, _, rfl⟩
  · rintro σ H' ⟨eH, o7, o8, rfl⟩
    exact q _ (e010.trans eH)
end
end MW

namespace MW
open PySem PySem.Spec PyProof.Rows L2
open MF (Root QD Plan Wf KOk shape sumQ Tile Sd Inside Down share)
open MF.QD (Sz)
theorem atI_last {xs : List V} {v : V} (h : xs[xs.length - 1]? = some v) : atI xs (-1) = some v := by
  have hn : 0 < xs.length := by
    have := (List.getElem?_eq_some_iff.mp h).1; omega
  unfold atI
  have e : ixN xs.length (-1) = some (xs.length - 1) := by
    unfold ixN
    rw [if_neg (by omega)]
    try rw [if_pos (by omega)]
    try simp
    try omega
  rw [e]
  exact h
/-- the script's ints stay whatever the bags become -/
def Script (K : PySem.W.Frag) (H : Hp) (a : Addr) (ns : List Int) : Prop := ∀ H', Le H H' → SqL K H' a (ns.map V.int)
section
variable {K : PySem.W.Frag} {mg : Str → Option Value} {w : World} {base : Heap} (T : Txt K mg)
def spLaw (K : PySem.W.Frag) : Sp := fun vs H Q _ => ∃ (a : Addr) (ns : List Int), vs = [.ref a] ∧ Script K H a ns ∧ ns.length ≤ 63 ∧ ∀ H', Q (.bl true) H'
theorem sc_law : FnScope ["_law_script", "_law_k", "_law_bag_here", "_law_d", "_law_kinds_here", "_law_plan_here", "_law_few", "_law_turn"] ["_law_script"] (defScope s_law) := ⟨rfl, rfl, rfl, by decide +kernel, rfl, by decide +kernel, by decide +kernel⟩
theorem ok_law (hs : base.NoSeer) : T.law.Ok w base 128 (spLaw K) := by
  have G_l_is_told := ok_l_is_told (w := w) T hs
  have G_l_plans_in := ok_l_plans_in (w := w) (base := base) T 12
  have G_l_contrary := ok_l_contrary (w := w) T hs
  have G_l_few_figures := ok_l_few (w := w) T hs
  have G_l_great_plan := ok_l_great_plan (w := w) (base := base) T
  have G_l_twins := ok_l_twins (w := w) T hs
  have G_l_root := ok_l_root (w := w) (base := base) T
  have G_l_bag := ok_l_bag (w := w) (base := base) T
  refine T.law.ok sc_law (fun vs H Q E h => ?_) (fun cdv A outer s H vs Q E hr h => ?_)
  · obtain ⟨_, _, rfl, _⟩ := h
    rfl
  obtain ⟨a, ns, rfl, hS, h63, q⟩ := h
  have nd := sc_law.nd
  refine ⟨_, (pss_cons (ps_for PassesOwn.never rfl (pi_range1 rfl T.b_range (pa_cons (pe_callB (call_max2 rfl) rfl T.b_max (by decide +kernel) (pa_cons pe_int (pa_cons (pe_callB (call_min2 rfl) rfl T.b_min (by decide +kernel) (pa_cons pe_int (pa_cons (pe_callB call_len_seq rfl T.b_len PySem.boot_len (pa_cons (pv 0) pa_nil)) pa_nil))) pa_nil))) pa_nil)) (pg_name (i := 1) nd rfl (by first | exact Or.inl rfl | exact Or.inr rfl)) (pss_cons (ps_set (i := 2) nd rfl (by first | exact Or.inl rfl | exact Or.inr rfl) (pcl T.l_bag G_l_bag (hr.mono (by decide)) (pa_cons (pv 0) (pa_cons (pv 1) pa_nil))))
      (pss_cons (ps_set (i := 3) nd rfl (by first | exact Or.inl rfl | exact Or.inr rfl) (pcl T.l_root G_l_root (hr.mono (by decide)) (pa_cons (pv 2) pa_nil)))
      (pss_cons (ps_set (i := 4) nd rfl (by first | exact Or.inl rfl | exact Or.inr rfl) (pcl T.l_twins G_l_twins (hr.mono (by decide)) (pa_cons (pv 2) (pa_cons (pv 3) pa_nil))))
      (pss_cons (ps_set (i := 5) nd rfl (by first | exact Or.inl rfl | exact Or.inr rfl) (pcl T.l_great_plan G_l_great_plan (hr.mono (by decide)) (pa_cons (pv 2) (pa_cons (pe_callB call_len_seq rfl T.b_len PySem.boot_len (pa_cons (pv 4) pa_nil)) pa_nil))))
      (Evl.pss_cut (ps_if (pt_cmpR op_gt (pcl T.l_plans_in G_l_plans_in (hr.mono (by decide)) (pa_cons (pv 5) (pa_cons (pe_callB call_len_seq rfl T.b_len PySem.boot_len (pa_cons (pv 4) pa_nil)) (pa_cons pe_int pa_nil)))) pe_int (nomark _)) (pss_cons (ps_set (i := 6) nd rfl (by first | exact Or.inl rfl | exact Or.inr rfl) (pcl T.l_few_figures G_l_few_figures (hr.mono (by decide)) (pa_cons (pv 2) (pa_cons (pv 3) (pa_cons (pv 4) (pa_cons (pv 5) pa_nil))))))
      (pss_one (ps_set (i := 4) nd rfl (by first | exact Or.inl rfl | exact Or.inr rfl) (pe_slice sl_tupA (pe_tup (pa_cons (pe_ix ix_tup (pv 6) pe_int (fun _ _ => rfl)) (pa_cons (pe_ix ix_tup (pv 6) (pe_un un_neg pe_int) (fun _ _ => rfl)) (pa_cons (pcl T.l_contrary G_l_contrary (hr.mono (by decide)) (pa_cons (pv 3) (pa_cons (pe_ix ix_tup (pv 6) pe_int (fun _ _ => rfl)) pa_nil))) pa_nil)))) po_none (po_some (pe_callB call_len_seq rfl T.b_len PySem.boot_len (pa_cons (pv 4) pa_nil))))))) pss_nil)
      (pss_one (ps_for PassesOwn.never rfl (pi_range1 rfl T.b_range (pa_cons pe_int pa_nil)) (pg_name (i := 7) nd rfl (by first | exact Or.inl rfl | exact Or.inr rfl)) (pss_one (ps_if (pt_not (pt_val (pcl T.l_is_told G_l_is_told (hr.mono (by decide)) (pa_cons (pv 2) (pa_cons (pv 3) (pa_cons (pv 4) (pa_cons (pv 5) pa_nil))))))) (pss_one (ps_ret pe_bl)) pss_nil))))))))))
      (pss_one (ps_ret pe_bl))), ?_⟩
  have hl : (ns.map V.int).length = ns.length := List.length_map _
  refine ⟨_, rfl, a, _, rfl, .inl (hS _ (Le.refl _)), _, _, rfl, _, _, rfl, _, rfl, by split <;> (try split) <;> omega, by split <;> (try split) <;> omega, ?_⟩
  refine for_range (fun i σ H' => Le H H' ∧ ∃ o1 o2 o3 o4 o5 o6 o7 : Option V, σ = [some (.ref a), o1, o2, o3, o4, o5, o6, o7]) ⟨Le.refl _, none, none, none, none, none, none, none, rfl⟩ ?_ ?_
  · rintro i σ H0 hi ⟨e0, o1, o2, o3, o4, o5, o6, o7, rfl⟩
    have hi4 : i < 4 := by
      revert hi
      split <;> (try split) <;> omega
    refine ⟨_, rfl, _, rfl, a, ns, 0 + (i : Int), rfl, hS _ e0, by omega, by omega, fun b H1 e1 hb1 => ?_⟩
    refine ⟨_, rfl, b, rfl, hb1, fun D H2 e2 => ?_⟩
    refine ⟨_, rfl, _, rfl, D, b, rfl, e2.bagAt hb1, fun ks v H3 e3 hkd => ?_⟩
    obtain ⟨hk, pk, us, rfl, hpk, al⟩ := id hkd
    have hlen := al.1
    have kl := hk.least
    have km := hk.most
    refine ⟨_, rfl, _, rfl, pk, _, rfl, .inr hpk, us.length, b, rfl, e3.bagAt (e2.bagAt hb1), by omega, by omega, fun P vP H4 e4 hP wf h60 => ?_⟩
    rw [hlen] at wf
    have hb4 := e4.bagAt (e3.bagAt (e2.bagAt hb1))
    have hkd4 := hkd.up e4
    have hpk4 := e4.tup hpk
    have e04 : Le H H4 := (((e0.trans e1).trans e2).trans e3).trans e4
    clear e0 e1 e2 e3 e4
    refine ⟨fun σ' H' => Le H4 H' ∧ ∃ (v' : V) (ls : List (QD D)) (o6 o7 : Option V), σ' = [some (.ref a), some (.int (0 + (i : Int))), some (.ref b), some (.int D.d), some v', some vP, o6, o7] ∧ Kd K H' v' ls ∧ ls.length = ks.length, ?_, ?_⟩
    · refine ⟨_, rfl, _, rfl, pk, _, rfl, .inr hpk4, 12, ks.length, P, vP, congrArg (fun z : Nat => [vP, V.int (z : Int), V.int 12]) hlen, hP, wf, fun H5 e5 => ⟨_, _, rfl, rfl, _, rfl, ite2 (fun _ => ?_) (fun _ => ?_)⟩⟩
      · have e5' := Same.le e5
        refine ⟨_, rfl, _, rfl, _, rfl, _, rfl, D, ks, 12, P, b, _, _, rfl, e5'.bagAt hb4, hkd4.up e5', hP.upL e5', wf, fun ls r H6 e6 ll hr6 => ?_⟩
        obtain ⟨hkl, pr, us2, rfl, hpr, al2⟩ := id hr6
        have ln2 := al2.1
        have g1 : 0 < us2.length := by omega
        have g2 : us2.length - 1 < us2.length := by omega
        have h0 := List.getElem?_eq_getElem g1
        have hlast := List.getElem?_eq_getElem g2
        obtain ⟨x0, hx0, n0⟩ := al2.left h0
        obtain ⟨xl, hxl, nl⟩ := al2.left hlast
        generalize us2[0] = u0 at h0 n0
        generalize us2[us2.length - 1] = ul at hlast nl
        have mx0 := List.mem_of_getElem? hx0
        have mxl := List.mem_of_getElem? hxl
        have p0 := hkl.pos _ mx0
        have pl := hkl.pos _ mxl
        have s0 := hkl.sz _ mx0
        have sl := hkl.sz _ mxl
        have ne0 := MF.pos_ne p0
        refine ⟨_, rfl, _, _, _, _, rfl, rfl, hpr, atI_nat (j := 0) h0, _, rfl, _, rfl, _, _, _, _, rfl, rfl, hpr, atI_last hlast, _, rfl, _, rfl, _, _, _, _, rfl, rfl, hpr, atI_nat (j := 0) h0, D, x0, _, rfl, n0, .of s0, ne0, fun vi H7 e7 h7 => ⟨sz3, fun pt hpt => ?_⟩⟩
        have e8 : Le H7 (upd H7 pt (.tup [u0, ul, vi])) := Le.new hpt
        have h8 : SqT K (upd H7 pt (.tup [u0, ul, vi])) pt [u0, ul, vi] := st_of upd_same
        have al3 : Al (fun u x => Nm K (upd H7 pt (.tup [u0, ul, vi])) u x) [u0, ul, vi] [x0, xl, x0⁻¹] := .cons ((n0.up e7).up e8) (.cons ((nl.up e7).up e8) (.one (h7.up e8)))
        generalize upd H7 pt (.tup [u0, ul, vi]) = H8 at e8 h8 al3
        have e48 := ((e5'.trans e6).trans e7).trans e8
        refine ⟨_, rfl, pk, _, rfl, .inr (e48.tup hpk4), _, rfl, slA_of h8 fun c H9 e9 hc => ?_⟩
        rw [cut_take] at hc
        refine ⟨e48.trans e9, .ref c, [x0, xl, x0⁻¹].take us.length, _, _, rfl, ⟨⟨?_, ?_, fun x hx => ?_, fun x hx => ?_⟩, c, _, rfl, hc, (al3.imp fun _ _ z => z.up e9).take _⟩, ?_⟩
        · rw [List.length_take]; show 1 ≤ min us.length 3; omega
        · rw [List.length_take]; show min us.length 3 ≤ 3; omega
        · have := List.mem_of_mem_take hx
          simp only [List.mem_cons, List.not_mem_nil, or_false] at this
          rcases this with rfl | rfl | rfl
          · exact p0
          · exact pl
          · exact MF.QD.inv_pos p0
        · have := List.mem_of_mem_take hx
          simp only [List.mem_cons, List.not_mem_nil, or_false] at this
          rcases this with rfl | rfl | rfl
          · exact s0
          · exact sl
          · exact s0.inv ne0
        · rw [List.length_take]; show min us.length 3 = ks.length; omega
      · exact ⟨Same.le e5, _, ks, _, _, rfl, hkd4.up (Same.le e5), rfl⟩
    · rintro σ' H5 ⟨e5, v', ls, o6, o7, rfl, ⟨hkl, hkv⟩, ll⟩
      have wf5 : Wf ls.length 12 P := by rw [ll]; exact wf
      refine ⟨3, rfl, by decide, by decide, ?_⟩
      refine for_range (fun j σ H' => Le H5 H' ∧ ∃ o7 : Option V, σ = [some (.ref a), some (.int (0 + (i : Int))), some (.ref b), some (.int D.d), some v', some vP, o6, o7]) ⟨Le.refl _, o7, rfl⟩ ?_ ?_
      · rintro j σ H6 hj ⟨e6, o7, rfl⟩
        have e46 := e5.trans e6
        refine ⟨_, rfl, _, rfl, _, rfl, _, rfl, D, ls, P, b, _, _, rfl, e46.bagAt hb4, hkl, hkv.upL e6, hP.upL e46, wf5, h60, fun H7 e7 => ⟨true, rfl, ifF rfl ?_⟩⟩
        exact ⟨e6.trans e7, _, rfl⟩
      · rintro σ H6 ⟨e6, o7, rfl⟩
        exact ⟨(e04.trans e5).trans e6, _, _, _, _, _, _, _, rfl⟩
  · rintro σ H' _
    exact q H'
end
end MW

namespace MW
open PySem PySem.Spec PyProof.Rows L2
/-! ### the end: the law's call, with what the seer asks handed on -/
section
variable {h : Heap} {H : Hp} {a : Addr} {S : Obj}
theorem hid_at (hA : ∀ b u, H b = some u → b = a) (ha : h.get? a = some S) {b : Addr} {o : Obj} (e : h.get? b = some o) (ne : o ≠ S) : (hidT h H).get? b = some o := hidT_get e (by
  cases q : H b with
  | none => rfl
  | some u =>
    have e' := hA b u q
    subst e'
    rw [ha] at e
    exact absurd (Option.some.inj e).symm ne)
theorem hid_ns {xs : Array Value} {n : Nat} (hA : ∀ b u, H b = some u → b = a) (ha : h.get? a = some S) (hS : S.data = .seq xs n) {b : Addr} {m : Str → Option Value} (x : h.Ns b m) : (hidT h H).Ns b m := by
  obtain ⟨o, es, ep, e, d, r⟩ := x
  refine ⟨o, es, ep, hid_at hA ha e (fun z => ?_), d, r⟩
  rw [z, hS] at d
  cases d
theorem hid_seer {xs : Array Value} {n : Nat} (hA : ∀ b u, H b = some u → b = a) (ha : h.get? a = some S) (hS : S.data = .seq xs n) (hc : S.cls = .type "list") (x : h.NoSeer) : (hidT h H).NoSeer where
  statics := let ⟨mc, p, q⟩ := x.statics; ⟨mc, hid_ns hA ha hS p, q⟩
  mods := let ⟨mc, p, q⟩ := x.mods; ⟨mc, hid_ns hA ha hS p, q⟩
  imp := let ⟨mc, p, q⟩ := x.imp; ⟨mc, hid_ns hA ha hS p, q⟩
  main := by
    obtain ⟨mg, bm, ob, p, q, r, t, u⟩ := x.main
    refine ⟨mg, bm, ob, hid_ns hA ha hS p, q, hid_at hA ha r (fun z => ?_), t, u⟩
    rw [z, hc] at t
    exact absurd (show ("list" : String) = "module" by injection t) (by decide)
end
theorem law_call_s {w : World} {K : PySem.W.Frag} {mg mb : Str → Option Value} {fa a : Addr} {s₁ : Shared} {vs : List Value} {ns : List Int} (T : Txt K mg) (hm : mg "law" = some (.ref fa))
    (KX : K.In s₁.heap) (hns : s₁.heap.Ns mainGlobals mg) (hb : s₁.heap.Ns builtinsNs mb) (hbb : ∀ x : Str, x ≠ "__name__" → mb x = bootBuiltins x) (hlim : s₁.heap.NoLimit) (hse : s₁.heap.NoSeer) (hg : s₁.gens = #[])
    (ha : s₁.heap.get? a = some { cls := .type "list", data := .seq vs.toArray }) (hi : IntsAre vs ns) (hl : ns.length ≤ 63) :
    codeAny (model PP w) callerA (.call (.ref fa) ⟨[.ref a], []⟩) (fun r s' => r = .ok (.ret (.bool true)) ∧ OldK s₁.heap s'.heap ∧ s'.os = s₁.os ∧ AllBare s'.gens) s₁ := by
  have rv := vals_ints hi
  have hz : (ns.map V.int).length ≤ sizeLine := by rw [List.length_map]; exact sz_of (by omega)
  have hfa : fa = T.law.f := by
    have := T.law.m
    rw [hm] at this
    exact Value.ref.inj (Option.some.inj this)
  subst hfa
  -- what is tracked at the start: the script, unless it is one of the module's own things
  obtain ⟨H, h1, hS⟩ : ∃ H : Hp, (∀ b u, H b = some u → b = a ∧ u = .frz { cls := .type "list", data := .seq vs.toArray } (.lst (ns.map V.int)) ∧ K.lookup a = none) ∧ SqL K H a (ns.map V.int) := by
    cases hk : K.lookup a with
    | none =>
      refine ⟨fun b => if b = a then some (.frz { cls := .type "list", data := .seq vs.toArray } (.lst (ns.map V.int))) else none, fun b u z => ?_, .inl (.inr ⟨_, if_pos rfl⟩)⟩
      by_cases c : b = a
      · have z' : some (HO.frz { cls := .type "list", data := .seq vs.toArray } (.lst (ns.map V.int))) = some u := (if_pos c).symm.trans z
        exact ⟨c, (Option.some.inj z').symm, rfl⟩
      · have z' : none = some u := (if_neg c).symm.trans z
        cases z'
    | some o =>
      have e := KX a o hk
      rw [ha] at e
      cases e
      refine ⟨fun _ => none, fun b u z => (by cases z), .inr ⟨_, vs.toArray, _, hk, rfl, rfl, rfl, ?_, by simpa using rv⟩⟩
      have := hi.length
      rw [List.size_toArray, this]
      exact sz_of (by omega)
  have hA : ∀ b u, H b = some u → b = a := fun b u z => (h1 b u z).1
  have hSc : Script K H a ns := fun H' e => by
    rcases hS with (z | ⟨o, z⟩) | z
    · have := (h1 a _ z).2.1
      cases this
    · exact .inl (.inr ⟨o, e.keep z nb_frz⟩)
    · exact .inr z
  have hKb : K.In (hidT s₁.heap H) := fun b o e => hidT_get (KX b o e) (by
    cases q : H b with
    | none => rfl
    | some u =>
      obtain ⟨c, _, n⟩ := h1 b u q
      rw [c, n] at e
      cases e)
  have hN : (hidT s₁.heap H).NoSeer := hid_seer hA ha rfl rfl hse
  have hM : Mod K mg (hidT s₁.heap H) := ⟨hKb, hid_ns hA ha rfl hns, ⟨mb, hid_ns hA ha rfl hb, hbb⟩, let ⟨mc, p, q⟩ := hlim; ⟨mc, hid_ns hA ha rfl p, q⟩⟩
  have hok : HOk PP w H s₁.heap := fun b u z => by
    obtain ⟨rfl, rfl, _⟩ := h1 b u z
    exact ⟨ha, hz, vs, _, rv, ha⟩
  have e0 : Env0 PP w K mg (hidT s₁.heap H) callerA [] s₁ H := ⟨rfl, hM, fun b o e => of_hidT e, Nat.le_of_eq (hidT_size _ _), trivial, fun b z => absurd (show b ∈ ([] : List Addr) from z) (by simp), hok, .of_eq hg⟩
  have hr : Room 128 callerA := ⟨rfl, by decide, by decide⟩
  refine codeAny_mono ((ok_law (w := w) T hN).run callerA [] s₁ H ⟨[.ref a], []⟩ [.ref a] [.ref a] (fun v _ => v = .bl true) (fun _ _ _ => False) hr e0 (T.law.b s₁ [.ref a] KX rfl) (.cons rfl .nil) ⟨a, ns, rfl, hSc, hl, fun _ => rfl⟩) fun r s' z => ?_
  match r, z with
  | .ok (.ret u), z =>
    obtain ⟨v, H', os, bare, un, hok', r', q⟩ := z
    have q' : v = .bl true := q
    subst q'
    have hu : u = Value.bool true := r'
    subst hu
    refine ⟨rfl, OldK.of_keep fun b o e => ?_, os, bare⟩
    cases q : H b with
    | none => exact un.keep b o e q (fun t => absurd (show b ∈ ([] : List Addr) from t) (by simp)) (by simp)
    | some t =>
      obtain ⟨_, rfl, _⟩ := h1 b t q
      obtain ⟨x1, _⟩ := hok b _ q
      obtain ⟨x2, _⟩ := hok' b _ (un.frzs b _ _ q)
      rw [e] at x1
      cases x1
      exact x2
theorem walk {l : PySem.W.OpenLaw} {q : Program} {loose : List Str} {XP : (Str → Option Value) → Heap → Prop} {YP : World → Heap → Prop} {d : DefRec} {K : Params → PySem.W.Frag} (hp : l.prog = PP) (hn : l.most = some 63) (hdf : d.params.defaults = []) (hd : d.name = "law")
    (hq : importsNone q = true) (hY : ∀ (w : World) (h : Heap), YP w h → (K w.params).In h)
    (F : ∀ (w : World) (mg : Str → Option Value) (h : Heap), (K w.params).In h → h.Ns mainGlobals mg → Nonempty (Txt (K w.params) mg)) :
    PySem.W.WalkO q loose XP YP l.row.toRowW d [] (fun f vs => PySem.call f vs) := by
  refine Att.attach_call hn hdf fun w s₀ s₁ mg mb fa o pm cd doc a vs ns G Y ho hd' hcd hmg hobj hints hlen hg => ?_
  have KX := hY w _ Y
  obtain ⟨T⟩ := F w mg _ KX G.T.g
  rw [hd] at hmg
  rw [hp]
  exact law_call_s T hmg KX G.T.g G.T.b G.T.builtins G.T.nolimit (G.T.seer hq) hg hobj hints hlen
/-- a def as the top has left it -/
def dfn {K : PySem.W.Frag} {h : Heap} {mg : Str → Option Value} {x : Str} {st : Stmt} {ps : List Str} (X : K.In h) (G : h.Ns mainGlobals mg) {f : Addr} {od an : Option Addr} {sl : Array (Option Value)} {oc kV dc pm cd ct : Value}
    (a : PySem.W.nsIn K mainGlobals x = some (some (.ref f))) (l : K.lookup f = some ⟨oc, od, .func (PySem.W.fnOf x x (defArgs st) (defBody st) (defScope st) .none kV dc pm an cd ct), sl⟩) (c : PySem.W.codeIn K cd x = true) (k : PySem.W.keepIn K (.ref f) = true)
    (b : ∀ (kV doc pm : Value) (an : Option Addr) (cdv ct : Value) (us : List Value), us.length = ps.length → bindArgs (PySem.W.fnOf x x (defArgs st) (defBody st) (defScope st) .none kV doc pm an cdv ct) ⟨us, []⟩ = pure (ps.zip us)) : Dfn K mg x st ps :=
  ⟨f, _, fun_mk l c k, (fun_mk (x := x) (qual := x) (st := st) l c k).binds b, PySem.W.mg_of X G a⟩
end MW

namespace MW
open PySem PySem.Spec PyProof.Rows L2
abbrev BdA (x : Str) (st : Stmt) (ps : List Str) : Prop := ∀ (kV doc pm : Value) (an : Option Addr) (cdv ct : Value) (us : List Value), us.length = ps.length → bindArgs (PySem.W.fnOf x x (defArgs st) (defBody st) (defScope st) .none kV doc pm an cdv ct) ⟨us, []⟩ = pure (ps.zip us)
theorem ba_is_whole : BdA "is_whole" s_is_whole ["thing"] := fun _ _ _ _ _ _ us hl => match us, hl with | [_], _ => rfl
theorem ba_shared : BdA "shared" s_shared ["one", "other"] := fun _ _ _ _ _ _ us hl => match us, hl with | [_, _], _ => rfl
theorem ba_is_number : BdA "is_number" s_is_number ["thing"] := fun _ _ _ _ _ _ us hl => match us, hl with | [_], _ => rfl
theorem ba_lowest : BdA "lowest" s_lowest ["a", "b", "c"] := fun _ _ _ _ _ _ us hl => match us, hl with | [_, _, _], _ => rfl
theorem ba_plus : BdA "plus" s_plus ["x", "y"] := fun _ _ _ _ _ _ us hl => match us, hl with | [_, _], _ => rfl
theorem ba_contrary_sign : BdA "contrary_sign" s_contrary_sign ["x"] := fun _ _ _ _ _ _ us hl => match us, hl with | [_], _ => rfl
theorem ba_less : BdA "less" s_less ["x", "y"] := fun _ _ _ _ _ _ us hl => match us, hl with | [_, _], _ => rfl
theorem ba_times : BdA "times" s_times ["d", "x", "y"] := fun _ _ _ _ _ _ us hl => match us, hl with | [_, _, _], _ => rfl
theorem ba_over : BdA "over" s_over ["d", "x", "y"] := fun _ _ _ _ _ _ us hl => match us, hl with | [_, _, _], _ => rfl
theorem ba_sign_of : BdA "sign_of" s_sign_of ["d", "x"] := fun _ _ _ _ _ _ us hl => match us, hl with | [_, _], _ => rfl
theorem ba_is_above : BdA "is_above" s_is_above ["d", "x", "y"] := fun _ _ _ _ _ _ us hl => match us, hl with | [_, _, _], _ => rfl
theorem ba_root_beneath : BdA "root_beneath" s_root_beneath ["square"] := fun _ _ _ _ _ _ us hl => match us, hl with | [_], _ => rfl
theorem ba_whole_beneath : BdA "whole_beneath" s_whole_beneath ["d", "x"] := fun _ _ _ _ _ _ us hl => match us, hl with | [_, _], _ => rfl
theorem ba_is_above_nought : BdA "is_above_nought" s_is_above_nought ["d", "thing"] := fun _ _ _ _ _ _ us hl => match us, hl with | [_, _], _ => rfl
theorem ba_are_kinds : BdA "are_kinds" s_are_kinds ["d", "thing"] := fun _ _ _ _ _ _ us hl => match us, hl with | [_, _], _ => rfl
theorem ba_look_kinds : BdA "look_kinds" s_look_kinds ["d", "thing"] := fun _ _ _ _ _ _ us hl => match us, hl with | [_, _], _ => rfl
theorem ba_are_parts : BdA "are_parts" s_are_parts ["thing"] := fun _ _ _ _ _ _ us hl => match us, hl with | [_], _ => rfl
theorem ba_is_count : BdA "is_count" s_is_count ["thing"] := fun _ _ _ _ _ _ us hl => match us, hl with | [_], _ => rfl
theorem ba_inner_of : BdA "inner_of" s_inner_of ["thing"] := fun _ _ _ _ _ _ us hl => match us, hl with | [_], _ => rfl
theorem ba_plans_in : BdA "plans_in" s_plans_in ["thing", "many", "deep"] := fun _ _ _ _ _ _ us hl => match us, hl with | [_, _, _], _ => rfl
theorem ba_is_plan : BdA "is_plan" s_is_plan ["thing", "many"] := fun _ _ _ _ _ _ us hl => match us, hl with | [_, _], _ => rfl
theorem ba_look_plan : BdA "look_plan" s_look_plan ["thing", "many"] := fun _ _ _ _ _ _ us hl => match us, hl with | [_, _], _ => rfl
theorem ba_sum_of : BdA "sum_of" s_sum_of ["some"] := fun _ _ _ _ _ _ us hl => match us, hl with | [_], _ => rfl
theorem ba_shape_by : BdA "shape_by" s_shape_by ["d", "kinds", "plan"] := fun _ _ _ _ _ _ us hl => match us, hl with | [_, _, _], _ => rfl
theorem ba_turned_tile : BdA "turned_tile" s_turned_tile ["d", "shape", "tile"] := fun _ _ _ _ _ _ us hl => match us, hl with | [_, _, _], _ => rfl
theorem ba_grown_tile : BdA "grown_tile" s_grown_tile ["d", "factor", "left", "low", "tile"] := fun _ _ _ _ _ _ us hl => match us, hl with | [_, _, _, _, _], _ => rfl
theorem ba_shares_of : BdA "shares_of" s_shares_of ["d", "kinds", "plan"] := fun _ _ _ _ _ _ us hl => match us, hl with | [_, _, _], _ => rfl
theorem ba_place_in : BdA "place_in" s_place_in ["d", "along", "sign"] := fun _ _ _ _ _ _ us hl => match us, hl with | [_, _, _], _ => rfl
theorem ba_part_at : BdA "part_at" s_part_at ["d", "sizes", "along", "sign"] := fun _ _ _ _ _ _ us hl => match us, hl with | [_, _, _, _], _ => rfl
theorem ba_at_turned : BdA "at_turned" s_at_turned ["d", "kinds", "plan", "spot", "signs"] := fun _ _ _ _ _ _ us hl => match us, hl with | [_, _, _, _, _], _ => rfl
theorem ba_at_grid : BdA "at_grid" s_at_grid ["d", "kinds", "plan", "spot", "signs"] := fun _ _ _ _ _ _ us hl => match us, hl with | [_, _, _, _, _], _ => rfl
theorem ba_at_upon : BdA "at_upon" s_at_upon ["d", "kinds", "plan", "spot", "signs"] := fun _ _ _ _ _ _ us hl => match us, hl with | [_, _, _, _, _], _ => rfl
theorem ba_at_beside : BdA "at_beside" s_at_beside ["d", "kinds", "plan", "spot", "signs"] := fun _ _ _ _ _ _ us hl => match us, hl with | [_, _, _, _, _], _ => rfl
theorem ba_at_spot : BdA "at_spot" s_at_spot ["d", "kinds", "plan", "spot", "signs"] := fun _ _ _ _ _ _ us hl => match us, hl with | [_, _, _, _, _], _ => rfl
theorem ba_is_place : BdA "is_place" s_is_place ["d", "thing", "end"] := fun _ _ _ _ _ _ us hl => match us, hl with | [_, _, _], _ => rfl
theorem ba_tile_at : BdA "tile_at" s_tile_at ["d", "kinds", "plan", "x", "y"] := fun _ _ _ _ _ _ us hl => match us, hl with | [_, _, _, _, _], _ => rfl
theorem ba_l_bag : BdA "_law_bag" s_l_bag ["_law_script", "_law_at"] := fun _ _ _ _ _ _ us hl => match us, hl with | [_, _], _ => rfl
theorem ba_l_take : BdA "_law_take" s_l_take ["_law_bag_here", "_law_many"] := fun _ _ _ _ _ _ us hl => match us, hl with | [_, _], _ => rfl
theorem ba_l_is_whole : BdA "_law_is_whole" s_l_is_whole ["_law_thing"] := fun _ _ _ _ _ _ us hl => match us, hl with | [_], _ => rfl
theorem ba_l_shared : BdA "_law_shared" s_l_shared ["_law_one", "_law_other"] := fun _ _ _ _ _ _ us hl => match us, hl with | [_, _], _ => rfl
theorem ba_l_low : BdA "_law_low" s_l_low ["_law_a", "_law_b", "_law_c"] := fun _ _ _ _ _ _ us hl => match us, hl with | [_, _, _], _ => rfl
theorem ba_l_plus : BdA "_law_plus" s_l_plus ["_law_x", "_law_y"] := fun _ _ _ _ _ _ us hl => match us, hl with | [_, _], _ => rfl
theorem ba_l_minus : BdA "_law_minus" s_l_minus ["_law_x"] := fun _ _ _ _ _ _ us hl => match us, hl with | [_], _ => rfl
theorem ba_l_times : BdA "_law_times" s_l_times ["_law_d", "_law_x", "_law_y"] := fun _ _ _ _ _ _ us hl => match us, hl with | [_, _, _], _ => rfl
theorem ba_l_contrary : BdA "_law_contrary" s_l_contrary ["_law_d", "_law_x"] := fun _ _ _ _ _ _ us hl => match us, hl with | [_, _], _ => rfl
theorem ba_l_sign : BdA "_law_sign" s_l_sign ["_law_d", "_law_x"] := fun _ _ _ _ _ _ us hl => match us, hl with | [_, _], _ => rfl
theorem ba_l_root : BdA "_law_root" s_l_root ["_law_bag_here"] := fun _ _ _ _ _ _ us hl => match us, hl with | [_], _ => rfl
theorem ba_l_number : BdA "_law_number" s_l_number ["_law_bag_here"] := fun _ _ _ _ _ _ us hl => match us, hl with | [_], _ => rfl
theorem ba_l_above : BdA "_law_above" s_l_above ["_law_bag_here", "_law_d"] := fun _ _ _ _ _ _ us hl => match us, hl with | [_, _], _ => rfl
theorem ba_l_kinds : BdA "_law_kinds" s_l_kinds ["_law_bag_here", "_law_d"] := fun _ _ _ _ _ _ us hl => match us, hl with | [_, _], _ => rfl
theorem ba_l_grid_size : BdA "_law_grid_size" s_l_grid_size ["_law_bag_here"] := fun _ _ _ _ _ _ us hl => match us, hl with | [_], _ => rfl
theorem ba_l_plan : BdA "_law_plan" s_l_plan ["_law_bag_here", "_law_many"] := fun _ _ _ _ _ _ us hl => match us, hl with | [_, _], _ => rfl
theorem ba_l_sum : BdA "_law_sum" s_l_sum ["_law_some"] := fun _ _ _ _ _ _ us hl => match us, hl with | [_], _ => rfl
theorem ba_l_shape : BdA "_law_shape" s_l_shape ["_law_d", "_law_kinds_here", "_law_plan_here"] := fun _ _ _ _ _ _ us hl => match us, hl with | [_, _, _], _ => rfl
theorem ba_l_plans_in : BdA "_law_plans_in" s_l_plans_in ["_law_thing", "_law_many", "_law_deep"] := fun _ _ _ _ _ _ us hl => match us, hl with | [_, _, _], _ => rfl
theorem ba_l_is_a_plan : BdA "_law_is_a_plan" s_l_is_a_plan ["_law_thing", "_law_many"] := fun _ _ _ _ _ _ us hl => match us, hl with | [_, _], _ => rfl
theorem ba_l_moved : BdA "_law_moved" s_l_moved ["_law_d", "_law_tile", "_law_factor", "_law_left", "_law_low_here"] := fun _ _ _ _ _ _ us hl => match us, hl with | [_, _, _, _, _], _ => rfl
theorem ba_l_quarter : BdA "_law_quarter" s_l_quarter ["_law_d", "_law_tile", "_law_shape_here"] := fun _ _ _ _ _ _ us hl => match us, hl with | [_, _, _], _ => rfl
theorem ba_l_part_of : BdA "_law_part_of" s_l_part_of ["_law_bag_here", "_law_d", "_law_x"] := fun _ _ _ _ _ _ us hl => match us, hl with | [_, _, _], _ => rfl
theorem ba_l_few_figures : BdA "_law_few_figures" s_l_few_figures ["_law_bag_here", "_law_d", "_law_kinds_here", "_law_plan_here"] := fun _ _ _ _ _ _ us hl => match us, hl with | [_, _, _, _], _ => rfl
theorem ba_l_twins : BdA "_law_twins" s_l_twins ["_law_bag_here", "_law_d"] := fun _ _ _ _ _ _ us hl => match us, hl with | [_, _], _ => rfl
theorem ba_l_great_plan : BdA "_law_great_plan" s_l_great_plan ["_law_bag_here", "_law_many"] := fun _ _ _ _ _ _ us hl => match us, hl with | [_, _], _ => rfl
theorem ba_l_end : BdA "_law_end" s_l_end ["_law_bag_here", "_law_many"] := fun _ _ _ _ _ _ us hl => match us, hl with | [_, _], _ => rfl
theorem ba_l_down : BdA "_law_down" s_l_down ["_law_bag_here", "_law_d", "_law_kinds_here", "_law_plan_here"] := fun _ _ _ _ _ _ us hl => match us, hl with | [_, _, _, _], _ => rfl
theorem ba_l_is_told : BdA "_law_is_told" s_l_is_told ["_law_bag_here", "_law_d", "_law_kinds_here", "_law_plan_here"] := fun _ _ _ _ _ _ us hl => match us, hl with | [_, _, _, _], _ => rfl
theorem ba_law : BdA "law" s_law ["_law_script"] := fun _ _ _ _ _ _ us hl => match us, hl with | [_], _ => rfl
section
variable {K : PySem.W.Frag} {h : Heap} {mg : Str → Option Value} {x : Str} {C : Prop}
theorem dfn_k {st : Stmt} {ps : List Str} (X : K.In h) (G : h.Ns mainGlobals mg) (b : BdA x st ps) {f : Addr} {od an : Option Addr} {sl : Array (Option Value)} {oc kV dc pm cd ct : Value} (k : Dfn K mg x st ps → C)
    (a : PySem.W.nsIn K mainGlobals x = some (some (.ref f))) (l : K.lookup f = some ⟨oc, od, .func (PySem.W.fnOf x x (defArgs st) (defBody st) (defScope st) .none kV dc pm an cd ct), sl⟩) (c : PySem.W.codeIn K cd x = true) (q : PySem.W.keepIn K (.ref f) = true) : C :=
  k (dfn X G a l c q b)
theorem num_k {i : Int} (X : K.In h) (G : h.Ns mainGlobals mg) {t : Tok} (k : ∀ t, mg x = some (.int i t) → C) (e : PySem.W.nsIn K mainGlobals x = some (some (.int i t))) : C := k t (PySem.W.mg_of X G e)
theorem tri_k {i j l : Int} (X : K.In h) (G : h.Ns mainGlobals mg) {p : Addr} {od : Option Addr} {n : Nat} {sl : Array (Option Value)} {t1 t2 t3 : Tok} (k : ∀ p, mg x = some (.ref p) → (∀ H, SqT K H p [.int i, .int j, .int l]) → C)
    (e : PySem.W.nsIn K mainGlobals x = some (some (.ref p))) (o : K.lookup p = some ⟨.type "tuple", od, .seq #[.int i t1, .int j t2, .int l t3] n, sl⟩) : C :=
  k p (PySem.W.mg_of X G e) fun H => .inr ⟨_, _, _, o, rfl, rfl, sz_of (by show 3 ≤ 100000; decide), .cons ⟨t1, rfl⟩ (.cons ⟨t2, rfl⟩ (.cons ⟨t3, rfl⟩ .nil))⟩
theorem none_k (X : K.In h) (G : h.Ns mainGlobals mg) (k : mg x = none → C) (e : PySem.W.nsIn K mainGlobals x = some none) : C := k (PySem.W.mg_none_of X G e)
end
end MW

open PySem PySem.W PyProof.Rows
set_option Elab.async false
set_option maxRecDepth 100000
set_option maxHeartbeats 0
theorem PySem.Challenge.cw_matefloors_k60_whole_spots_of_great_plan_holds : PySem.Challenge.rw_matefloors_k60_whole_spots_of_great_plan.Holds := by
  w_on; o_law; k_head; (case hw => w_witness2)
  k_fill
  refine MW.walk (l := PySem.Challenge.rw_matefloors_k60_whole_spots_of_great_plan) rfl rfl rfl rfl ?hq (fun w h Y => PySem.W.kIn_of Y) ?F
  case hq => decide +kernel
  case F =>
    intro w mg h KX G
    refine' MW.dfn_k (x := "is_whole") (mg := mg) KX G MW.ba_is_whole ?w0n ?w0a ?w0l ?w0c ?w0q; (case w0a => k_is); (case w0l => k_is); (case w0c => k_is); (case w0q => k_is)
    intro D_is_whole
    refine' MW.dfn_k (x := "shared") (mg := mg) KX G MW.ba_shared ?w1n ?w1a ?w1l ?w1c ?w1q; (case w1a => k_is); (case w1l => k_is); (case w1c => k_is); (case w1q => k_is)
    intro D_shared
    refine' MW.dfn_k (x := "is_number") (mg := mg) KX G MW.ba_is_number ?w2n ?w2a ?w2l ?w2c ?w2q; (case w2a => k_is); (case w2l => k_is); (case w2c => k_is); (case w2q => k_is)
    intro D_is_number
    refine' MW.dfn_k (x := "lowest") (mg := mg) KX G MW.ba_lowest ?w3n ?w3a ?w3l ?w3c ?w3q; (case w3a => k_is); (case w3l => k_is); (case w3c => k_is); (case w3q => k_is)
    intro D_lowest
    refine' MW.dfn_k (x := "plus") (mg := mg) KX G MW.ba_plus ?w4n ?w4a ?w4l ?w4c ?w4q; (case w4a => k_is); (case w4l => k_is); (case w4c => k_is); (case w4q => k_is)
    intro D_plus
    refine' MW.dfn_k (x := "contrary_sign") (mg := mg) KX G MW.ba_contrary_sign ?w5n ?w5a ?w5l ?w5c ?w5q; (case w5a => k_is); (case w5l => k_is); (case w5c => k_is); (case w5q => k_is)
    intro D_contrary_sign
    refine' MW.dfn_k (x := "less") (mg := mg) KX G MW.ba_less ?w6n ?w6a ?w6l ?w6c ?w6q; (case w6a => k_is); (case w6l => k_is); (case w6c => k_is); (case w6q => k_is)
    intro D_less
    refine' MW.dfn_k (x := "times") (mg := mg) KX G MW.ba_times ?w7n ?w7a ?w7l ?w7c ?w7q; (case w7a => k_is); (case w7l => k_is); (case w7c => k_is); (case w7q => k_is)
    intro D_times
    refine' MW.dfn_k (x := "over") (mg := mg) KX G MW.ba_over ?w8n ?w8a ?w8l ?w8c ?w8q; (case w8a => k_is); (case w8l => k_is); (case w8c => k_is); (case w8q => k_is)
    intro D_over
    refine' MW.dfn_k (x := "sign_of") (mg := mg) KX G MW.ba_sign_of ?w9n ?w9a ?w9l ?w9c ?w9q; (case w9a => k_is); (case w9l => k_is); (case w9c => k_is); (case w9q => k_is)
    intro D_sign_of
    refine' MW.dfn_k (x := "is_above") (mg := mg) KX G MW.ba_is_above ?w10n ?w10a ?w10l ?w10c ?w10q; (case w10a => k_is); (case w10l => k_is); (case w10c => k_is); (case w10q => k_is)
    intro D_is_above
    refine' MW.dfn_k (x := "root_beneath") (mg := mg) KX G MW.ba_root_beneath ?w11n ?w11a ?w11l ?w11c ?w11q; (case w11a => k_is); (case w11l => k_is); (case w11c => k_is); (case w11q => k_is)
    intro D_root_beneath
    refine' MW.dfn_k (x := "whole_beneath") (mg := mg) KX G MW.ba_whole_beneath ?w12n ?w12a ?w12l ?w12c ?w12q; (case w12a => k_is); (case w12l => k_is); (case w12c => k_is); (case w12q => k_is)
    intro D_whole_beneath
    refine' MW.dfn_k (x := "is_above_nought") (mg := mg) KX G MW.ba_is_above_nought ?w13n ?w13a ?w13l ?w13c ?w13q; (case w13a => k_is); (case w13l => k_is); (case w13c => k_is); (case w13q => k_is)
    intro D_is_above_nought
    refine' MW.dfn_k (x := "are_kinds") (mg := mg) KX G MW.ba_are_kinds ?w14n ?w14a ?w14l ?w14c ?w14q; (case w14a => k_is); (case w14l => k_is); (case w14c => k_is); (case w14q => k_is)
    intro D_are_kinds
    refine' MW.dfn_k (x := "look_kinds") (mg := mg) KX G MW.ba_look_kinds ?w15n ?w15a ?w15l ?w15c ?w15q; (case w15a => k_is); (case w15l => k_is); (case w15c => k_is); (case w15q => k_is)
    intro D_look_kinds
    refine' MW.dfn_k (x := "are_parts") (mg := mg) KX G MW.ba_are_parts ?w16n ?w16a ?w16l ?w16c ?w16q; (case w16a => k_is); (case w16l => k_is); (case w16c => k_is); (case w16q => k_is)
    intro D_are_parts
    refine' MW.dfn_k (x := "is_count") (mg := mg) KX G MW.ba_is_count ?w17n ?w17a ?w17l ?w17c ?w17q; (case w17a => k_is); (case w17l => k_is); (case w17c => k_is); (case w17q => k_is)
    intro D_is_count
    refine' MW.dfn_k (x := "inner_of") (mg := mg) KX G MW.ba_inner_of ?w18n ?w18a ?w18l ?w18c ?w18q; (case w18a => k_is); (case w18l => k_is); (case w18c => k_is); (case w18q => k_is)
    intro D_inner_of
    refine' MW.dfn_k (x := "plans_in") (mg := mg) KX G MW.ba_plans_in ?w19n ?w19a ?w19l ?w19c ?w19q; (case w19a => k_is); (case w19l => k_is); (case w19c => k_is); (case w19q => k_is)
    intro D_plans_in
    refine' MW.dfn_k (x := "is_plan") (mg := mg) KX G MW.ba_is_plan ?w20n ?w20a ?w20l ?w20c ?w20q; (case w20a => k_is); (case w20l => k_is); (case w20c => k_is); (case w20q => k_is)
    intro D_is_plan
    refine' MW.dfn_k (x := "look_plan") (mg := mg) KX G MW.ba_look_plan ?w21n ?w21a ?w21l ?w21c ?w21q; (case w21a => k_is); (case w21l => k_is); (case w21c => k_is); (case w21q => k_is)
    intro D_look_plan
    refine' MW.dfn_k (x := "sum_of") (mg := mg) KX G MW.ba_sum_of ?w22n ?w22a ?w22l ?w22c ?w22q; (case w22a => k_is); (case w22l => k_is); (case w22c => k_is); (case w22q => k_is)
    intro D_sum_of
    refine' MW.dfn_k (x := "shape_by") (mg := mg) KX G MW.ba_shape_by ?w23n ?w23a ?w23l ?w23c ?w23q; (case w23a => k_is); (case w23l => k_is); (case w23c => k_is); (case w23q => k_is)
    intro D_shape_by
    refine' MW.dfn_k (x := "turned_tile") (mg := mg) KX G MW.ba_turned_tile ?w24n ?w24a ?w24l ?w24c ?w24q; (case w24a => k_is); (case w24l => k_is); (case w24c => k_is); (case w24q => k_is)
    intro D_turned_tile
    refine' MW.dfn_k (x := "grown_tile") (mg := mg) KX G MW.ba_grown_tile ?w25n ?w25a ?w25l ?w25c ?w25q; (case w25a => k_is); (case w25l => k_is); (case w25c => k_is); (case w25q => k_is)
    intro D_grown_tile
    refine' MW.dfn_k (x := "shares_of") (mg := mg) KX G MW.ba_shares_of ?w26n ?w26a ?w26l ?w26c ?w26q; (case w26a => k_is); (case w26l => k_is); (case w26c => k_is); (case w26q => k_is)
    intro D_shares_of
    refine' MW.dfn_k (x := "place_in") (mg := mg) KX G MW.ba_place_in ?w27n ?w27a ?w27l ?w27c ?w27q; (case w27a => k_is); (case w27l => k_is); (case w27c => k_is); (case w27q => k_is)
    intro D_place_in
    refine' MW.dfn_k (x := "part_at") (mg := mg) KX G MW.ba_part_at ?w28n ?w28a ?w28l ?w28c ?w28q; (case w28a => k_is); (case w28l => k_is); (case w28c => k_is); (case w28q => k_is)
    intro D_part_at
    refine' MW.dfn_k (x := "at_turned") (mg := mg) KX G MW.ba_at_turned ?w29n ?w29a ?w29l ?w29c ?w29q; (case w29a => k_is); (case w29l => k_is); (case w29c => k_is); (case w29q => k_is)
    intro D_at_turned
    refine' MW.dfn_k (x := "at_grid") (mg := mg) KX G MW.ba_at_grid ?w30n ?w30a ?w30l ?w30c ?w30q; (case w30a => k_is); (case w30l => k_is); (case w30c => k_is); (case w30q => k_is)
    intro D_at_grid
    refine' MW.dfn_k (x := "at_upon") (mg := mg) KX G MW.ba_at_upon ?w31n ?w31a ?w31l ?w31c ?w31q; (case w31a => k_is); (case w31l => k_is); (case w31c => k_is); (case w31q => k_is)
    intro D_at_upon
    refine' MW.dfn_k (x := "at_beside") (mg := mg) KX G MW.ba_at_beside ?w32n ?w32a ?w32l ?w32c ?w32q; (case w32a => k_is); (case w32l => k_is); (case w32c => k_is); (case w32q => k_is)
    intro D_at_beside
    refine' MW.dfn_k (x := "at_spot") (mg := mg) KX G MW.ba_at_spot ?w33n ?w33a ?w33l ?w33c ?w33q; (case w33a => k_is); (case w33l => k_is); (case w33c => k_is); (case w33q => k_is)
    intro D_at_spot
    refine' MW.dfn_k (x := "is_place") (mg := mg) KX G MW.ba_is_place ?w34n ?w34a ?w34l ?w34c ?w34q; (case w34a => k_is); (case w34l => k_is); (case w34c => k_is); (case w34q => k_is)
    intro D_is_place
    refine' MW.dfn_k (x := "tile_at") (mg := mg) KX G MW.ba_tile_at ?w35n ?w35a ?w35l ?w35c ?w35q; (case w35a => k_is); (case w35l => k_is); (case w35c => k_is); (case w35q => k_is)
    intro D_tile_at
    refine' MW.dfn_k (x := "_law_bag") (mg := mg) KX G MW.ba_l_bag ?w36n ?w36a ?w36l ?w36c ?w36q; (case w36a => k_is); (case w36l => k_is); (case w36c => k_is); (case w36q => k_is)
    intro D_l_bag
    refine' MW.dfn_k (x := "_law_take") (mg := mg) KX G MW.ba_l_take ?w37n ?w37a ?w37l ?w37c ?w37q; (case w37a => k_is); (case w37l => k_is); (case w37c => k_is); (case w37q => k_is)
    intro D_l_take
    refine' MW.dfn_k (x := "_law_is_whole") (mg := mg) KX G MW.ba_l_is_whole ?w38n ?w38a ?w38l ?w38c ?w38q; (case w38a => k_is); (case w38l => k_is); (case w38c => k_is); (case w38q => k_is)
    intro D_l_is_whole
    refine' MW.dfn_k (x := "_law_shared") (mg := mg) KX G MW.ba_l_shared ?w39n ?w39a ?w39l ?w39c ?w39q; (case w39a => k_is); (case w39l => k_is); (case w39c => k_is); (case w39q => k_is)
    intro D_l_shared
    refine' MW.dfn_k (x := "_law_low") (mg := mg) KX G MW.ba_l_low ?w40n ?w40a ?w40l ?w40c ?w40q; (case w40a => k_is); (case w40l => k_is); (case w40c => k_is); (case w40q => k_is)
    intro D_l_low
    refine' MW.dfn_k (x := "_law_plus") (mg := mg) KX G MW.ba_l_plus ?w41n ?w41a ?w41l ?w41c ?w41q; (case w41a => k_is); (case w41l => k_is); (case w41c => k_is); (case w41q => k_is)
    intro D_l_plus
    refine' MW.dfn_k (x := "_law_minus") (mg := mg) KX G MW.ba_l_minus ?w42n ?w42a ?w42l ?w42c ?w42q; (case w42a => k_is); (case w42l => k_is); (case w42c => k_is); (case w42q => k_is)
    intro D_l_minus
    refine' MW.dfn_k (x := "_law_times") (mg := mg) KX G MW.ba_l_times ?w43n ?w43a ?w43l ?w43c ?w43q; (case w43a => k_is); (case w43l => k_is); (case w43c => k_is); (case w43q => k_is)
    intro D_l_times
    refine' MW.dfn_k (x := "_law_contrary") (mg := mg) KX G MW.ba_l_contrary ?w44n ?w44a ?w44l ?w44c ?w44q; (case w44a => k_is); (case w44l => k_is); (case w44c => k_is); (case w44q => k_is)
    intro D_l_contrary
    refine' MW.dfn_k (x := "_law_sign") (mg := mg) KX G MW.ba_l_sign ?w45n ?w45a ?w45l ?w45c ?w45q; (case w45a => k_is); (case w45l => k_is); (case w45c => k_is); (case w45q => k_is)
    intro D_l_sign
    refine' MW.dfn_k (x := "_law_root") (mg := mg) KX G MW.ba_l_root ?w46n ?w46a ?w46l ?w46c ?w46q; (case w46a => k_is); (case w46l => k_is); (case w46c => k_is); (case w46q => k_is)
    intro D_l_root
    refine' MW.dfn_k (x := "_law_number") (mg := mg) KX G MW.ba_l_number ?w47n ?w47a ?w47l ?w47c ?w47q; (case w47a => k_is); (case w47l => k_is); (case w47c => k_is); (case w47q => k_is)
    intro D_l_number
    refine' MW.dfn_k (x := "_law_above") (mg := mg) KX G MW.ba_l_above ?w48n ?w48a ?w48l ?w48c ?w48q; (case w48a => k_is); (case w48l => k_is); (case w48c => k_is); (case w48q => k_is)
    intro D_l_above
    refine' MW.dfn_k (x := "_law_kinds") (mg := mg) KX G MW.ba_l_kinds ?w49n ?w49a ?w49l ?w49c ?w49q; (case w49a => k_is); (case w49l => k_is); (case w49c => k_is); (case w49q => k_is)
    intro D_l_kinds
    refine' MW.dfn_k (x := "_law_grid_size") (mg := mg) KX G MW.ba_l_grid_size ?w50n ?w50a ?w50l ?w50c ?w50q; (case w50a => k_is); (case w50l => k_is); (case w50c => k_is); (case w50q => k_is)
    intro D_l_grid_size
    refine' MW.dfn_k (x := "_law_plan") (mg := mg) KX G MW.ba_l_plan ?w51n ?w51a ?w51l ?w51c ?w51q; (case w51a => k_is); (case w51l => k_is); (case w51c => k_is); (case w51q => k_is)
    intro D_l_plan
    refine' MW.dfn_k (x := "_law_sum") (mg := mg) KX G MW.ba_l_sum ?w52n ?w52a ?w52l ?w52c ?w52q; (case w52a => k_is); (case w52l => k_is); (case w52c => k_is); (case w52q => k_is)
    intro D_l_sum
    refine' MW.dfn_k (x := "_law_shape") (mg := mg) KX G MW.ba_l_shape ?w53n ?w53a ?w53l ?w53c ?w53q; (case w53a => k_is); (case w53l => k_is); (case w53c => k_is); (case w53q => k_is)
    intro D_l_shape
    refine' MW.dfn_k (x := "_law_plans_in") (mg := mg) KX G MW.ba_l_plans_in ?w54n ?w54a ?w54l ?w54c ?w54q; (case w54a => k_is); (case w54l => k_is); (case w54c => k_is); (case w54q => k_is)
    intro D_l_plans_in
    refine' MW.dfn_k (x := "_law_is_a_plan") (mg := mg) KX G MW.ba_l_is_a_plan ?w55n ?w55a ?w55l ?w55c ?w55q; (case w55a => k_is); (case w55l => k_is); (case w55c => k_is); (case w55q => k_is)
    intro D_l_is_a_plan
    refine' MW.dfn_k (x := "_law_moved") (mg := mg) KX G MW.ba_l_moved ?w56n ?w56a ?w56l ?w56c ?w56q; (case w56a => k_is); (case w56l => k_is); (case w56c => k_is); (case w56q => k_is)
    intro D_l_moved
    refine' MW.dfn_k (x := "_law_quarter") (mg := mg) KX G MW.ba_l_quarter ?w57n ?w57a ?w57l ?w57c ?w57q; (case w57a => k_is); (case w57l => k_is); (case w57c => k_is); (case w57q => k_is)
    intro D_l_quarter
    refine' MW.dfn_k (x := "_law_part_of") (mg := mg) KX G MW.ba_l_part_of ?w58n ?w58a ?w58l ?w58c ?w58q; (case w58a => k_is); (case w58l => k_is); (case w58c => k_is); (case w58q => k_is)
    intro D_l_part_of
    refine' MW.dfn_k (x := "_law_few_figures") (mg := mg) KX G MW.ba_l_few_figures ?w59n ?w59a ?w59l ?w59c ?w59q; (case w59a => k_is); (case w59l => k_is); (case w59c => k_is); (case w59q => k_is)
    intro D_l_few_figures
    refine' MW.dfn_k (x := "_law_twins") (mg := mg) KX G MW.ba_l_twins ?w60n ?w60a ?w60l ?w60c ?w60q; (case w60a => k_is); (case w60l => k_is); (case w60c => k_is); (case w60q => k_is)
    intro D_l_twins
    refine' MW.dfn_k (x := "_law_great_plan") (mg := mg) KX G MW.ba_l_great_plan ?w61n ?w61a ?w61l ?w61c ?w61q; (case w61a => k_is); (case w61l => k_is); (case w61c => k_is); (case w61q => k_is)
    intro D_l_great_plan
    refine' MW.dfn_k (x := "_law_end") (mg := mg) KX G MW.ba_l_end ?w62n ?w62a ?w62l ?w62c ?w62q; (case w62a => k_is); (case w62l => k_is); (case w62c => k_is); (case w62q => k_is)
    intro D_l_end
    refine' MW.dfn_k (x := "_law_down") (mg := mg) KX G MW.ba_l_down ?w63n ?w63a ?w63l ?w63c ?w63q; (case w63a => k_is); (case w63l => k_is); (case w63c => k_is); (case w63q => k_is)
    intro D_l_down
    refine' MW.dfn_k (x := "_law_is_told") (mg := mg) KX G MW.ba_l_is_told ?w64n ?w64a ?w64l ?w64c ?w64q; (case w64a => k_is); (case w64l => k_is); (case w64c => k_is); (case w64q => k_is)
    intro D_l_is_told
    refine' MW.dfn_k (x := "law") (mg := mg) KX G MW.ba_law ?w65n ?w65a ?w65l ?w65c ?w65q; (case w65a => k_is); (case w65l => k_is); (case w65c => k_is); (case w65q => k_is)
    intro D_law
    refine' MW.none_k (x := "len") (mg := mg) KX G ?zlenn ?zlene; (case zlene => k_is)
    intro z_len
    refine' MW.none_k (x := "abs") (mg := mg) KX G ?zabsn ?zabse; (case zabse => k_is)
    intro z_abs
    refine' MW.none_k (x := "int") (mg := mg) KX G ?zintn ?zinte; (case zinte => k_is)
    intro z_int
    refine' MW.none_k (x := "all") (mg := mg) KX G ?zalln ?zalle; (case zalle => k_is)
    intro z_all
    refine' MW.none_k (x := "sum") (mg := mg) KX G ?zsumn ?zsume; (case zsume => k_is)
    intro z_sum
    refine' MW.none_k (x := "max") (mg := mg) KX G ?zmaxn ?zmaxe; (case zmaxe => k_is)
    intro z_max
    refine' MW.none_k (x := "min") (mg := mg) KX G ?zminn ?zmine; (case zmine => k_is)
    intro z_min
    refine' MW.none_k (x := "tuple") (mg := mg) KX G ?ztuplen ?ztuplee; (case ztuplee => k_is)
    intro z_tuple
    refine' MW.none_k (x := "list") (mg := mg) KX G ?zlistn ?zliste; (case zliste => k_is)
    intro z_list
    refine' MW.none_k (x := "isinstance") (mg := mg) KX G ?zisinstancen ?zisinstancee; (case zisinstancee => k_is)
    intro z_isinstance
    refine' MW.none_k (x := "range") (mg := mg) KX G ?zrangen ?zrangee; (case zrangee => k_is)
    intro z_range
    refine' MW.none_k (x := "enumerate") (mg := mg) KX G ?zenumeraten ?zenumeratee; (case zenumeratee => k_is)
    intro z_enumerate
    refine' MW.none_k (x := "bool") (mg := mg) KX G ?zbooln ?zboole; (case zboole => k_is)
    intro z_bool
    refine' MW.none_k (x := "str") (mg := mg) KX G ?zstrn ?zstre; (case zstre => k_is)
    intro z_str
    refine' MW.num_k (x := "MOST_KINDS") (i := 3) (mg := mg) KX G ?zMOST_KINDSn ?zMOST_KINDSe; (case zMOST_KINDSe => k_is)
    intro t_MOST_KINDS m_MOST_KINDS
    refine' MW.num_k (x := "MOST_DEEP") (i := 12) (mg := mg) KX G ?zMOST_DEEPn ?zMOST_DEEPe; (case zMOST_DEEPe => k_is)
    intro t_MOST_DEEP m_MOST_DEEP
    refine' MW.num_k (x := "MOST_PLANS") (i := 60) (mg := mg) KX G ?zMOST_PLANSn ?zMOST_PLANSe; (case zMOST_PLANSe => k_is)
    intro t_MOST_PLANS m_MOST_PLANS
    refine' MW.num_k (x := "MOST_PARTS") (i := 8) (mg := mg) KX G ?zMOST_PARTSn ?zMOST_PARTSe; (case zMOST_PARTSe => k_is)
    intro t_MOST_PARTS m_MOST_PARTS
    refine' MW.tri_k (x := "NOUGHT") (i := 0) (j := 0) (l := 1) (mg := mg) KX G ?zNOUGHTn ?zNOUGHTe ?zNOUGHTo; (case zNOUGHTe => k_is); (case zNOUGHTo => k_is)
    intro p_NOUGHT m_NOUGHT t_NOUGHT
    refine' MW.tri_k (x := "ONE") (i := 1) (j := 0) (l := 1) (mg := mg) KX G ?zONEn ?zONEe ?zONEo; (case zONEe => k_is); (case zONEo => k_is)
    intro p_ONE m_ONE t_ONE
    exact ⟨{ is_whole := D_is_whole, shared := D_shared, is_number := D_is_number, lowest := D_lowest, plus := D_plus, contrary_sign := D_contrary_sign, less := D_less, times := D_times, over := D_over, sign_of := D_sign_of, is_above := D_is_above, root_beneath := D_root_beneath, whole_beneath := D_whole_beneath, is_above_nought := D_is_above_nought, are_kinds := D_are_kinds, look_kinds := D_look_kinds, are_parts := D_are_parts, is_count := D_is_count, inner_of := D_inner_of, plans_in := D_plans_in, is_plan := D_is_plan, look_plan := D_look_plan, sum_of := D_sum_of, shape_by := D_shape_by, turned_tile := D_turned_tile, grown_tile := D_grown_tile, shares_of := D_shares_of, place_in := D_place_in, part_at := D_part_at, at_turned := D_at_turned, at_grid := D_at_grid, at_upon := D_at_upon, at_beside := D_at_beside, at_spot := D_at_spot, is_place := D_is_place, tile_at := D_tile_at, l_bag := D_l_bag, l_take := D_l_take, l_is_whole := D_l_is_whole, l_shared := D_l_shared, l_low := D_l_low, l_plus := D_l_plus, l_minus := D_l_minus, l_times := D_l_times, l_contrary := D_l_contrary, l_sign := D_l_sign, l_root := D_l_root, l_number := D_l_number, l_above := D_l_above, l_kinds := D_l_kinds, l_grid_size := D_l_grid_size, l_plan := D_l_plan, l_sum := D_l_sum, l_shape := D_l_shape, l_plans_in := D_l_plans_in, l_is_a_plan := D_l_is_a_plan, l_moved := D_l_moved, l_quarter := D_l_quarter, l_part_of := D_l_part_of, l_few_figures := D_l_few_figures, l_twins := D_l_twins, l_great_plan := D_l_great_plan, l_end := D_l_end, l_down := D_l_down, l_is_told := D_l_is_told, law := D_law, b_len := z_len, b_abs := z_abs, b_int := z_int, b_all := z_all, b_sum := z_sum, b_max := z_max, b_min := z_min, b_tuple := z_tuple, b_list := z_list, b_isinstance := z_isinstance, b_range := z_range, b_enumerate := z_enumerate, b_bool := z_bool, b_str := z_str, aN := p_NOUGHT, aO := p_ONE, mgNOUGHT := m_NOUGHT, mgONE := m_ONE, tN := t_NOUGHT, tO := t_ONE, tKINDS := t_MOST_KINDS, mgMOST_KINDS := m_MOST_KINDS, tDEEP := t_MOST_DEEP, mgMOST_DEEP := m_MOST_DEEP, tPLANS := t_MOST_PLANS, mgMOST_PLANS := m_MOST_PLANS, tPARTS := t_MOST_PARTS, mgMOST_PARTS := m_MOST_PARTS }⟩

