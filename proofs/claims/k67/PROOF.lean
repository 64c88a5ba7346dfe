import PyProof.Rows.All
import Wide.All
import OpenK.AllK
import Wide.FinOn
import HandS.ForMost
import HandS.Star
import HandS.Gcd
import HandS.Wide
import HandS.WideBits
import HandS.IsInst
import HandS.Deep
import HandS.NoneIn
import HandS.TupAny
import HandS.Style
import HandS.Defaults
import HandS.Evl
import KE.GoesEnum
import HandS.HeadHook2
import HandS.Words
import PySem.Challenge.RW_drawarms_k67_whole_fitting_maps_and_bars
import HandS.More
import PyProof.ReprRoads
import PyProof.CallFns
import PyProof.IsRules
import HandS.HeadEnd
import HandS.Head0
import HandS.Head1
import HandS.Head2
import HandS.Head3
/-! part Ma1 -/
/-! Whole complex numbers. -/
namespace DL
/-- within 2 ^ n -/
def Bd (n : Nat) (i : Int) : Prop := i.natAbs < 2 ^ n
structure G where
  re : Int
  im : Int
  deriving DecidableEq
namespace G
instance : Zero G := ⟨⟨0, 0⟩⟩
instance : One G := ⟨⟨1, 0⟩⟩
instance : Add G := ⟨fun x y => ⟨x.re + y.re, x.im + y.im⟩⟩
instance : Neg G := ⟨fun x => ⟨-x.re, -x.im⟩⟩
instance : Sub G := ⟨fun x y => ⟨x.re - y.re, x.im - y.im⟩⟩
instance : Mul G := ⟨fun x y => ⟨x.re * y.re - x.im * y.im, x.re * y.im + x.im * y.re⟩⟩
instance : NatCast G := ⟨fun n => ⟨n, 0⟩⟩
instance : IntCast G := ⟨fun n => ⟨n, 0⟩⟩
instance (n : Nat) : OfNat G n := ⟨⟨n, 0⟩⟩
instance : SMul Nat G := ⟨fun n x => ⟨n * x.re, n * x.im⟩⟩
instance : SMul Int G := ⟨fun n x => ⟨n * x.re, n * x.im⟩⟩
def npow (x : G) : Nat → G
  | 0 => 1
  | n + 1 => npow x n * x
instance : HPow G Nat G := ⟨npow⟩
theorem ext {x y : G} (h1 : x.re = y.re) (h2 : x.im = y.im) : x = y := by
  cases x
  cases y
  simp_all
@[simp] theorem add_re (x y : G) : (x + y).re = x.re + y.re := rfl
@[simp] theorem add_im (x y : G) : (x + y).im = x.im + y.im := rfl
@[simp] theorem sub_re (x y : G) : (x - y).re = x.re - y.re := rfl
@[simp] theorem sub_im (x y : G) : (x - y).im = x.im - y.im := rfl
@[simp] theorem mul_re (x y : G) : (x * y).re = x.re * y.re - x.im * y.im := rfl
@[simp] theorem mul_im (x y : G) : (x * y).im = x.re * y.im + x.im * y.re := rfl
@[simp] theorem neg_re (x : G) : (-x).re = -x.re := rfl
@[simp] theorem neg_im (x : G) : (-x).im = -x.im := rfl
@[simp] theorem zero_re : (0 : G).re = 0 := rfl
@[simp] theorem zero_im : (0 : G).im = 0 := rfl
@[simp] theorem one_re : (1 : G).re = 1 := rfl
@[simp] theorem one_im : (1 : G).im = 0 := rfl
theorem nat_re (n : Nat) : ((n : Nat) : G).re = n := rfl
theorem nat_im (n : Nat) : ((n : Nat) : G).im = 0 := rfl
theorem int_re (n : Int) : ((n : Int) : G).re = n := rfl
theorem int_im (n : Int) : ((n : Int) : G).im = 0 := rfl
theorem lit_re (n : Nat) : (OfNat.ofNat n : G).re = n := rfl
theorem lit_im (n : Nat) : (OfNat.ofNat n : G).im = 0 := rfl
theorem nsm_re (n : Nat) (x : G) : (n • x).re = n * x.re := rfl
theorem nsm_im (n : Nat) (x : G) : (n • x).im = n * x.im := rfl
theorem zsm_re (n : Int) (x : G) : (n • x).re = n * x.re := rfl
theorem zsm_im (n : Int) (x : G) : (n • x).im = n * x.im := rfl
instance : Lean.Grind.CommRing G where
  nsmul := inferInstance
  zsmul := inferInstance
  add_zero x := by apply ext <;> simp
  add_comm x y := by apply ext <;> simp <;> omega
  add_assoc x y z := by apply ext <;> simp <;> omega
  mul_assoc x y z := by apply ext <;> simp <;> grind
  mul_one x := by apply ext <;> simp
  one_mul x := by apply ext <;> simp
  left_distrib x y z := by apply ext <;> simp <;> grind
  right_distrib x y z := by apply ext <;> simp <;> grind
  zero_mul x := by apply ext <;> simp
  mul_zero x := by apply ext <;> simp
  mul_comm x y := by apply ext <;> simp <;> grind
  neg_add_cancel x := by apply ext <;> simp <;> omega
  sub_eq_add_neg x y := by apply ext <;> simp <;> omega
  pow_zero x := rfl
  pow_succ x n := rfl
  ofNat_succ n := by apply ext <;> simp [lit_re, lit_im] <;> rfl
  ofNat_eq_natCast n := rfl
  nsmul_eq_natCast_mul n x := by apply ext <;> simp [nsm_re, nsm_im, nat_re, nat_im]
  intCast_neg n := by apply ext <;> simp [int_re, int_im]
  intCast_ofNat n := by apply ext <;> simp [int_re, int_im, lit_re, lit_im] <;> rfl
  neg_zsmul n x := by apply ext <;> simp [zsm_re, zsm_im] <;> grind
  zsmul_natCast_eq_nsmul n x := by apply ext <;> simp [zsm_re, zsm_im, nsm_re, nsm_im] <;> rfl
example (a b c : G) : (a + b) * c = c * b + a * c := by grind
end G
end DL

/-! part Ma2 -/
set_option linter.all false
/-! Divisors, the form. -/
namespace DL
namespace G
def conj (z : G) : G := ⟨z.re, -z.im⟩
def norm (z : G) : Int := z.re * z.re + z.im * z.im
def ofI (n : Int) : G := ⟨n, 0⟩
@[simp] theorem conj_re (z : G) : (conj z).re = z.re := rfl
@[simp] theorem conj_im (z : G) : (conj z).im = -z.im := rfl
@[simp] theorem ofI_re (n : Int) : (ofI n).re = n := rfl
@[simp] theorem ofI_im (n : Int) : (ofI n).im = 0 := rfl
theorem norm_mul (x y : G) : norm (x * y) = norm x * norm y := by simp only [norm, mul_re, mul_im]; grind
theorem norm_conj (x : G) : norm (conj x) = norm x := by simp only [norm, conj_re, conj_im]; grind
theorem mul_conj (x : G) : x * conj x = ofI (norm x) := by apply ext <;> simp [norm] <;> grind
theorem conj_mul (x y : G) : conj (x * y) = conj x * conj y := by apply ext <;> simp <;> grind
theorem sq_nn (a : Int) : 0 ≤ a * a := by
  rcases Int.le_total 0 a with h | h
  · exact Int.mul_nonneg h h
  · have := Int.mul_nonneg (show 0 ≤ -a by omega) (show 0 ≤ -a by omega)
    grind
theorem sq_pos {a : Int} (h : a ≠ 0) : 0 < a * a := by
  have h1 := sq_nn a
  have h2 : a * a ≠ 0 := fun e => by rcases Int.mul_eq_zero.mp e with z | z <;> exact h z
  omega
theorem norm_nn (x : G) : 0 ≤ norm x := by
  have h1 := sq_nn x.re
  have h2 := sq_nn x.im
  unfold norm
  omega
theorem norm_zero {x : G} (h : norm x = 0) : x = 0 := by
  have h1 := sq_nn x.re
  have h2 := sq_nn x.im
  unfold norm at h
  have e1 : x.re = 0 := Classical.byContradiction fun n => by have := sq_pos n; omega
  have e2 : x.im = 0 := Classical.byContradiction fun n => by have := sq_pos n; omega
  exact ext e1 e2
theorem norm_pos {x : G} (h : x ≠ 0) : 0 < norm x := by
  have h1 := norm_nn x
  have h2 : norm x ≠ 0 := fun e => h (norm_zero e)
  omega
theorem norm_0 : norm 0 = 0 := rfl
theorem mul_zero_or {x y : G} (h : x * y = 0) : x = 0 ∨ y = 0 := by
  have e := norm_mul x y
  rw [h, norm_0] at e
  rcases Int.mul_eq_zero.mp e.symm with z | z
  · exact .inl (norm_zero z)
  · exact .inr (norm_zero z)
theorem mul_ne {x y : G} (h : x ≠ 0) (h2 : y ≠ 0) : x * y ≠ 0 := fun e => (mul_zero_or e).elim h h2
theorem cancel {x y z : G} (hx : x ≠ 0) (h : x * y = x * z) : y = z := by
  have e : x * (y - z) = 0 := by grind
  rcases mul_zero_or e with z1 | z1
  · exact absurd z1 hx
  · grind
theorem one_ne : (1 : G) ≠ 0 := by decide
/-! ### Euclid -/
def near (n b : Int) : Int := (2 * n + b) / (2 * b)
/-- the quotient to the nearest -/
def qn (a b : G) : G := ⟨near (a * conj b).re (norm b), near (a * conj b).im (norm b)⟩
theorem near_of {p n : Int} (h : 0 < n) : -n ≤ 2 * (p - near p n * n) ∧ 2 * (p - near p n * n) ≤ n := by
  unfold near
  have h2 : (2 * n : Int) ≠ 0 := by omega
  have e := Int.mul_ediv_add_emod (2 * p + n) (2 * n)
  have l := Int.emod_nonneg (2 * p + n) h2
  have u := Int.emod_lt_of_pos (2 * p + n) (show 0 < 2 * n by omega)
  generalize (2 * p + n) / (2 * n) = q at *
  have : q * n = n * q := Int.mul_comm _ _
  have e2 : 2 * n * q = 2 * (n * q) := by grind
  constructor <;> omega
theorem sq_le {x n : Int} (h1 : -n ≤ 2 * x) (h2 : 2 * x ≤ n) : 4 * (x * x) ≤ n * n := by
  have h := Int.mul_nonneg (show 0 ≤ n - 2 * x by omega) (show 0 ≤ n + 2 * x by omega)
  have e : (n - 2 * x) * (n + 2 * x) = n * n - 4 * (x * x) := by grind
  omega
theorem step_norm (a : G) {b : G} (hb : b ≠ 0) : 2 * norm (a - qn a b * b) ≤ norm b := by
  have hn := norm_pos hb
  have e1 : (a - qn a b * b) * conj b = a * conj b - qn a b * ofI (norm b) := by
    have := mul_conj b
    grind
  have e2 : norm (a - qn a b * b) * norm b = norm (a * conj b - qn a b * ofI (norm b)) := by
    rw [← e1, norm_mul, norm_conj]
  have e3 : norm (a * conj b - qn a b * ofI (norm b)) = ((a * conj b).re - (qn a b).re * norm b) * ((a * conj b).re - (qn a b).re * norm b) + ((a * conj b).im - (qn a b).im * norm b) * ((a * conj b).im - (qn a b).im * norm b) := by
    unfold norm
    simp only [sub_re, sub_im, mul_re (qn a b), mul_im (qn a b), ofI_re, ofI_im]
    grind
  have x := near_of (p := (a * conj b).re) hn
  have y := near_of (p := (a * conj b).im) hn
  have x4 := sq_le x.1 x.2
  have y4 := sq_le y.1 y.2
  have e4 : (qn a b).re = near (a * conj b).re (norm b) := rfl
  have e5 : (qn a b).im = near (a * conj b).im (norm b) := rfl
  rw [← e4] at x4
  rw [← e5] at y4
  rw [e3] at e2
  generalize ((a * conj b).re - (qn a b).re * norm b) * ((a * conj b).re - (qn a b).re * norm b) = u at *
  generalize ((a * conj b).im - (qn a b).im * norm b) * ((a * conj b).im - (qn a b).im * norm b) = v at *
  generalize norm (a - qn a b * b) = r at *
  generalize norm b = n at *
  refine Classical.byContradiction fun c => ?_
  have h := Int.mul_le_mul_of_nonneg_right (show n + 1 ≤ 2 * r by omega) (show 0 ≤ n by omega)
  have h1 : (n + 1) * n = n * n + n := by grind
  have h2 : 2 * r * n = 2 * (r * n) := by grind
  omega
theorem step_lt (a : G) {b : G} (hb : b ≠ 0) : (norm (a - qn a b * b)).toNat < (norm b).toNat := by
  have h := step_norm a hb
  have h1 := norm_pos hb
  have h2 := norm_nn (a - qn a b * b)
  omega
def dv (a b : G) : G := if h : b = 0 then a else dv b (a - qn a b * b)
termination_by (norm b).toNat
decreasing_by exact step_lt a h
theorem dv_zero (a : G) : dv a 0 = a := by
  rw [dv]
  exact dif_pos rfl
theorem dv_next (a : G) {b : G} (h : b ≠ 0) : dv a b = dv b (a - qn a b * b) := by
  rw [dv]
  exact dif_neg h
/-- g divides z -/
def Dv (g z : G) : Prop := ∃ q, z = q * g
theorem Dv.zero (g : G) : Dv g 0 := ⟨0, by grind⟩
theorem Dv.refl (g : G) : Dv g g := ⟨1, by grind⟩
theorem Dv.trans {a b c : G} (h : Dv a b) (h2 : Dv b c) : Dv a c := by
  obtain ⟨q, rfl⟩ := h
  obtain ⟨r, rfl⟩ := h2
  exact ⟨r * q, by grind⟩
theorem dv_dvd (a b : G) : Dv (dv a b) a ∧ Dv (dv a b) b := by
  induction a, b using dv.induct with
  | case1 a => rw [dv_zero]; exact ⟨.refl a, .zero a⟩
  | case2 a b h ih =>
    rw [dv_next a h]
    obtain ⟨⟨p, hp⟩, ⟨q, hq⟩⟩ := ih
    refine ⟨⟨q + qn a b * p, ?_⟩, ⟨p, hp⟩⟩
    generalize dv b (a - qn a b * b) = g at *
    generalize qn a b = k at *
    grind
theorem dv_lin (a b : G) : ∃ s t, dv a b = s * a + t * b := by
  induction a, b using dv.induct with
  | case1 a => rw [dv_zero]; exact ⟨1, 0, by grind⟩
  | case2 a b h ih =>
    rw [dv_next a h]
    obtain ⟨s, t, e⟩ := ih
    refine ⟨t, s - t * qn a b, ?_⟩
    rw [e]
    generalize qn a b = k at *
    grind
/-- norms of the pairs on the way stay -/
theorem dv_norm (a b : G) : b = 0 ∨ norm (dv a b) ≤ norm b := by
  induction a, b using dv.induct with
  | case1 a => exact .inl rfl
  | case2 a b h ih =>
    right
    rw [dv_next a h]
    rcases ih with e | l
    · rw [e, dv_zero]
      exact Int.le_refl _
    · have := step_norm a h
      have := norm_nn (a - qn a b * b)
      omega
/-! ### quotients, units -/
def quo (z w : G) : G := ⟨(z * conj w).re / norm w, (z * conj w).im / norm w⟩
theorem quo_mul (q : G) {w : G} (h : w ≠ 0) : quo (q * w) w = q := by
  have hn := norm_pos h
  have e : q * w * conj w = q * ofI (norm w) := by
    have := mul_conj w
    grind
  unfold quo
  rw [e]
  apply ext
  · show (q * ofI (norm w)).re / norm w = q.re
    simp only [mul_re, ofI_re, ofI_im, Int.mul_zero, Int.sub_zero]
    exact Int.mul_ediv_cancel _ (by omega)
  · show (q * ofI (norm w)).im / norm w = q.im
    simp only [mul_im, ofI_re, ofI_im, Int.mul_zero, Int.zero_add]
    exact Int.mul_ediv_cancel _ (by omega)
def I1 : G := ⟨0, 1⟩
/-- in the first quarter -/
def Qf (z : G) : Prop := 0 < z.re ∧ 0 ≤ z.im
instance (z : G) : Decidable (Qf z) := inferInstanceAs (Decidable (_ ∧ _))
def unitOf (z : G) : G := if Qf z then 1 else if Qf (z * I1) then I1 else if Qf (z * -1) then -1 else -I1
theorem unit_norm (z : G) : norm (unitOf z) = 1 := by
  unfold unitOf
  split
  · decide
  · split
    · decide
    · split <;> decide
theorem unit_qf {z : G} (h : z ≠ 0) : Qf (z * unitOf z) := by
  have hz : z.re ≠ 0 ∨ z.im ≠ 0 := by
    refine Classical.byContradiction fun c => h ?_
    simp only [not_or, Classical.not_not] at c
    exact ext c.1 c.2
  unfold unitOf
  split
  · rename_i q
    have e : z * 1 = z := by grind
    rw [e]
    exact q
  · rename_i q1
    split
    · assumption
    · rename_i q2
      split
      · assumption
      · rename_i q3
        simp only [Qf, I1, mul_re, mul_im, neg_re, neg_im, one_re, one_im] at *
        omega
theorem unit_cases {u : G} (h : norm u = 1) : u = 1 ∨ u = I1 ∨ u = -1 ∨ u = -I1 := by
  have h1 := sq_nn u.re
  have h2 := sq_nn u.im
  unfold norm at h
  have b : ∀ a : Int, a * a ≤ 1 → a = -1 ∨ a = 0 ∨ a = 1 := fun a ha => by
    have l : -1 ≤ a := Classical.byContradiction fun c => by
      have := Int.mul_nonneg (show 0 ≤ -a - 2 by omega) (show 0 ≤ -a by omega)
      have e : (-a - 2) * (-a) = a * a + 2 * a := by grind
      omega
    have l : a ≤ 1 := Classical.byContradiction fun c => by
      have := Int.mul_nonneg (show 0 ≤ a - 2 by omega) (show 0 ≤ a by omega)
      have e : (a - 2) * a = a * a - 2 * a := by grind
      omega
    omega
  have r := b u.re (by omega)
  have i := b u.im (by omega)
  rcases r with r | r | r <;> rcases i with i | i | i <;> rw [r, i] at h <;> first
    | (exact absurd h (by decide))
    | (left; exact ext r i)
    | (right; left; exact ext r i)
    | (right; right; left; exact ext r i)
    | (right; right; right; exact ext r i)
/-- only one unit brings it there -/
theorem qf_unique {z u v : G} (hu : norm u = 1) (hv : norm v = 1) (q1 : Qf (z * u)) (q2 : Qf (z * v)) : u = v := by
  rcases unit_cases hu with rfl | rfl | rfl | rfl <;> rcases unit_cases hv with rfl | rfl | rfl | rfl <;> first
    | rfl
    | (exfalso; simp only [Qf, I1, mul_re, mul_im, neg_re, neg_im, one_re, one_im] at q1 q2; omega)
end G
open G
/-! ### four numbers -/
structure F4 where
  a : G
  b : G
  c : G
  d : G
  deriving DecidableEq
namespace F4
def det (x : F4) : G := x.a * x.d - x.b * x.c
def gc (x : F4) : G := dv (dv (dv (dv 0 x.a) x.b) x.c) x.d
def scl (s : G) (x : F4) : F4 := ⟨s * x.a, s * x.b, s * x.c, s * x.d⟩
def first (x : F4) : G := if x.a ≠ 0 then x.a else if x.b ≠ 0 then x.b else if x.c ≠ 0 then x.c else x.d
def red (x : F4) : F4 := ⟨quo x.a x.gc, quo x.b x.gc, quo x.c x.gc, quo x.d x.gc⟩
/-- the form -/
def form (x : F4) : F4 := scl (unitOf x.red.first) x.red
def Nz (x : F4) : Prop := x.a ≠ 0 ∨ x.b ≠ 0 ∨ x.c ≠ 0 ∨ x.d ≠ 0
theorem gc_dvd (x : F4) : Dv x.gc x.a ∧ Dv x.gc x.b ∧ Dv x.gc x.c ∧ Dv x.gc x.d := by
  unfold gc
  have h1 := dv_dvd 0 x.a
  have h2 := dv_dvd (dv 0 x.a) x.b
  have h3 := dv_dvd (dv (dv 0 x.a) x.b) x.c
  have h4 := dv_dvd (dv (dv (dv 0 x.a) x.b) x.c) x.d
  exact ⟨((h4.1.trans h3.1).trans h2.1).trans h1.2, (h4.1.trans h3.1).trans h2.2, h4.1.trans h3.2, h4.2⟩
theorem gc_lin (x : F4) : ∃ s t u v, x.gc = s * x.a + t * x.b + u * x.c + v * x.d := by
  unfold gc
  obtain ⟨s1, t1, e1⟩ := dv_lin 0 x.a
  obtain ⟨s2, t2, e2⟩ := dv_lin (dv 0 x.a) x.b
  obtain ⟨s3, t3, e3⟩ := dv_lin (dv (dv 0 x.a) x.b) x.c
  obtain ⟨s4, t4, e4⟩ := dv_lin (dv (dv (dv 0 x.a) x.b) x.c) x.d
  refine ⟨s4 * s3 * s2 * t1, s4 * s3 * t2, s4 * t3, t4, ?_⟩
  rw [e4, e3, e2, e1]
  grind
theorem gc_ne {x : F4} (h : x.Nz) : x.gc ≠ 0 := fun e => by
  obtain ⟨⟨p, hp⟩, ⟨q, hq⟩, ⟨r, hr⟩, ⟨s, hs⟩⟩ := gc_dvd x
  rw [e] at hp hq hr hs
  have z : ∀ y : G, y * 0 = 0 := fun y => by grind
  rw [z] at hp hq hr hs
  rcases h with h | h | h | h
  · exact h hp
  · exact h hq
  · exact h hr
  · exact h hs
/-- x is its gc times red, red has the gc 1 -/
theorem red_mul {x : F4} (h : x.Nz) : x = scl x.gc x.red := by
  have hg := gc_ne h
  obtain ⟨⟨p, hp⟩, ⟨q, hq⟩, ⟨r, hr⟩, ⟨s, hs⟩⟩ := gc_dvd x
  have k : ∀ y q : G, y = q * x.gc → y = x.gc * quo y x.gc := fun y q e => by
    conv => rhs; rw [e]
    rw [quo_mul q hg, e]
    grind
  have e : scl x.gc x.red = ⟨x.gc * quo x.a x.gc, x.gc * quo x.b x.gc, x.gc * quo x.c x.gc, x.gc * quo x.d x.gc⟩ := rfl
  rw [e, ← k x.a p hp, ← k x.b q hq, ← k x.c r hr, ← k x.d s hs]
theorem red_lin {x : F4} (h : x.Nz) : ∃ s t u v, (1 : G) = s * x.red.a + t * x.red.b + u * x.red.c + v * x.red.d := by
  obtain ⟨s, t, u, v, e⟩ := gc_lin x
  refine ⟨s, t, u, v, cancel (gc_ne h) ?_⟩
  have m := red_mul h
  have ea : x.a = x.gc * x.red.a := congrArg F4.a m
  have eb : x.b = x.gc * x.red.b := congrArg F4.b m
  have ec : x.c = x.gc * x.red.c := congrArg F4.c m
  have ed : x.d = x.gc * x.red.d := congrArg F4.d m
  generalize x.gc = g at *
  generalize x.red = y at *
  rw [ea, eb, ec, ed] at e
  grind
theorem scl_scl (s t : G) (x : F4) : scl s (scl t x) = scl (s * t) x := by
  have k : ∀ y : G, s * (t * y) = s * t * y := fun y => by grind
  simp only [scl, k]
theorem scl_cancel {s : G} (hs : s ≠ 0) {x y : F4} (h : scl s x = scl s y) : x = y := by
  have ha := cancel hs (congrArg F4.a h)
  have hb := cancel hs (congrArg F4.b h)
  have hc := cancel hs (congrArg F4.c h)
  have hd := cancel hs (congrArg F4.d h)
  cases x
  cases y
  simp_all
theorem first_ne {x : F4} (h : x.Nz) : x.first ≠ 0 := by
  unfold first
  split
  · assumption
  · split
    · assumption
    · split
      · assumption
      · rename_i h1 h2 h3
        rcases h with h | h | h | h
        · exact absurd h h1
        · exact absurd h h2
        · exact absurd h h3
        · exact h
theorem first_scl {s : G} (hs : s ≠ 0) (x : F4) : (scl s x).first = s * x.first := by
  have k : ∀ y : G, (s * y ≠ 0) ↔ (y ≠ 0) := fun y => ⟨fun h e => h (by rw [e]; grind), fun h => mul_ne hs h⟩
  unfold first scl
  simp only [k]
  split
  · rfl
  · split
    · rfl
    · split <;> rfl
theorem nz_scl {s : G} (hs : s ≠ 0) {x : F4} (h : x.Nz) : (scl s x).Nz := by
  rcases h with h | h | h | h
  · exact .inl (mul_ne hs h)
  · exact .inr (.inl (mul_ne hs h))
  · exact .inr (.inr (.inl (mul_ne hs h)))
  · exact .inr (.inr (.inr (mul_ne hs h)))
theorem nz_of_scl {s : G} {x : F4} (h : (scl s x).Nz) : x.Nz := by
  have k : ∀ y : G, s * y ≠ 0 → y ≠ 0 := fun y h e => h (by rw [e]; grind)
  rcases h with h | h | h | h
  · exact .inl (k _ h)
  · exact .inr (.inl (k _ h))
  · exact .inr (.inr (.inl (k _ h)))
  · exact .inr (.inr (.inr (k _ h)))
theorem red_nz {x : F4} (h : x.Nz) : x.red.Nz := nz_of_scl (s := x.gc) (by rw [← red_mul h]; exact h)
/-- of multiples of one another the forms are the same -/
theorem form_same {x y : F4} {s t : G} (hx : x.Nz) (hy : y.Nz) (hs : s ≠ 0) (ht : t ≠ 0) (h : scl s x = scl t y) : form x = form y := by
  have gx := gc_ne hx
  have gy := gc_ne hy
  have rx := red_nz hx
  have ry := red_nz hy
  -- A times the one reduced is B times the other
  have e : scl (s * x.gc) x.red = scl (t * y.gc) y.red := by
    rw [← scl_scl, ← scl_scl, ← red_mul hx, ← red_mul hy, h]
  have hA := mul_ne hs gx
  have hB := mul_ne ht gy
  generalize s * x.gc = A at *
  generalize t * y.gc = B at *
  obtain ⟨p1, p2, p3, p4, l1⟩ := red_lin hx
  obtain ⟨q1, q2, q3, q4, l2⟩ := red_lin hy
  unfold form
  generalize x.red = f at *
  generalize y.red = k at *
  have ea : A * f.a = B * k.a := congrArg F4.a e
  have eb : A * f.b = B * k.b := congrArg F4.b e
  have ec : A * f.c = B * k.c := congrArg F4.c e
  have ed : A * f.d = B * k.d := congrArg F4.d e
  -- each divides the other
  obtain ⟨v, hv⟩ : ∃ v, A = B * v := ⟨p1 * k.a + p2 * k.b + p3 * k.c + p4 * k.d, by grind⟩
  obtain ⟨r, hr⟩ : ∃ r, B = A * r := ⟨q1 * f.a + q2 * f.b + q3 * f.c + q4 * f.d, by grind⟩
  have vr : v * r = 1 := cancel hB (by grind)
  have nv : norm v = 1 := by
    have n1 : norm v * norm r = 1 := by rw [← norm_mul, vr]; rfl
    have n2 := norm_nn v
    exact Int.eq_one_of_mul_eq_one_right n2 n1
  have vne : v ≠ 0 := fun z => by rw [z] at nv; exact absurd nv (by decide)
  have ek : k = scl v f := by
    refine scl_cancel hB ?_
    rw [scl_scl, ← hv]
    exact e.symm
  have qx := unit_qf (first_ne rx)
  have qy := unit_qf (first_ne ry)
  rw [ek, first_scl vne] at qy
  rw [ek, first_scl vne, scl_scl]
  have n3 : norm (v * unitOf (v * f.first)) = 1 := by rw [norm_mul, nv, unit_norm]; decide
  have q3' : Qf (f.first * (v * unitOf (v * f.first))) := by
    have e3 : f.first * (v * unitOf (v * f.first)) = v * f.first * unitOf (v * f.first) := by grind
    rw [e3]
    exact qy
  have e4 := qf_unique (unit_norm _) n3 qx q3'
  rw [e4]
  congr 1
  grind
/-- the form is a multiple -/
theorem form_mul {x : F4} (h : x.Nz) : ∃ s t, s ≠ 0 ∧ t ≠ 0 ∧ scl s (form x) = scl t x := by
  refine ⟨x.gc, unitOf x.red.first, gc_ne h, fun z => ?_, ?_⟩
  · have := unit_norm x.red.first
    rw [z] at this
    exact absurd this (by decide)
  · unfold form
    have m := congrArg (scl (unitOf x.red.first)) (red_mul h)
    rw [m, scl_scl, scl_scl]
    congr 1
    grind
theorem form_nz {x : F4} (h : x.Nz) : (form x).Nz := by
  obtain ⟨s, t, hs, ht, e⟩ := form_mul h
  exact nz_of_scl (s := s) (by rw [e]; exact nz_scl ht h)
theorem form_form {x : F4} (h : x.Nz) : form (form x) = form x := by
  obtain ⟨s, t, hs, ht, e⟩ := form_mul h
  exact form_same (form_nz h) h hs ht e
theorem det_scl (s : G) (x : F4) : (scl s x).det = s * s * x.det := by
  unfold det scl
  grind
theorem nz_of_det {x : F4} (h : x.det ≠ 0) : x.Nz := by
  refine Classical.byContradiction fun c => h ?_
  simp only [Nz, not_or, Classical.not_not] at c
  obtain ⟨h1, h2, h3, h4⟩ := c
  unfold det
  rw [h1, h2, h3, h4]
  decide
theorem det_form {x : F4} (h : x.det ≠ 0) : (form x).det ≠ 0 := fun z => by
  obtain ⟨s, t, hs, ht, e⟩ := form_mul (nz_of_det h)
  have e2 := congrArg det e
  rw [det_scl, det_scl, z] at e2
  have : t * t * x.det = 0 := by rw [← e2]; grind
  rcases mul_zero_or this with q | q
  · rcases mul_zero_or q with q | q <;> exact ht q
  · exact h q
end F4
end DL

/-! part Ma3 -/
set_option linter.all false
/-! Places, maps through three of them. -/
namespace DL
open G F4
/-- the greatest common divisor of some ints -/
def gcdL (l : List Int) : Int := l.foldl (fun g x => (Int.gcd g x : Int)) 0
structure Pl where
  p : Int
  s : Int
  r : Int
  deriving DecidableEq
namespace Pl
def num (x : Pl) : G := ⟨x.p, x.s⟩
def den (x : Pl) : G := ofI x.r
def far : Pl := ⟨1, 0, 0⟩
def ok (x : Pl) : Prop := x = far ∨ (0 < x.r ∧ gcdL [x.p, x.s, x.r] = 1)
def low (p s r : Int) : Pl := ⟨p / gcdL [p, s, r], s / gcdL [p, s, r], r / gcdL [p, s, r]⟩
theorem g3_eq (p s r : Int) : gcdL [p, s, r] = (Int.gcd (Int.gcd p s : Int) r : Int) := by
  show ((Int.gcd (Int.gcd (Int.gcd 0 p : Int) s : Int) r : Nat) : Int) = _
  rw [Int.gcd_zero_left]
  have e : Int.gcd ((p.natAbs : Nat) : Int) s = Int.gcd p s := by
    unfold Int.gcd
    rw [Int.natAbs_natCast]
  rw [e]
theorem g3_dvd (p s r : Int) : gcdL [p, s, r] ∣ p ∧ gcdL [p, s, r] ∣ s ∧ gcdL [p, s, r] ∣ r := by
  rw [g3_eq]
  exact ⟨Int.dvd_trans (Int.gcd_dvd_left ..) (Int.gcd_dvd_left ..), Int.dvd_trans (Int.gcd_dvd_left ..) (Int.gcd_dvd_right ..), Int.gcd_dvd_right ..⟩
theorem dvd_g3 {k p s r : Int} (h1 : k ∣ p) (h2 : k ∣ s) (h3 : k ∣ r) : k ∣ gcdL [p, s, r] := by
  rw [g3_eq]
  exact Int.dvd_coe_gcd (Int.dvd_coe_gcd h1 h2) h3
theorem g3_nn (p s r : Int) : 0 ≤ gcdL [p, s, r] := by
  rw [g3_eq]
  exact Int.natCast_nonneg _
theorem g3_pos {p s r : Int} (h : r ≠ 0) : 0 < gcdL [p, s, r] := by
  have h1 := g3_nn p s r
  have h2 := (g3_dvd p s r).2.2
  have h3 : gcdL [p, s, r] ≠ 0 := fun e => by
    rw [e] at h2
    exact h (Int.zero_dvd.mp h2)
  omega
theorem g3_mul (k p s r : Int) (hk : 0 ≤ k) : gcdL [k * p, k * s, k * r] = k * gcdL [p, s, r] := by
  rw [g3_eq, g3_eq, Int.gcd_mul_left]
  have e : (((k.natAbs * Int.gcd p s : Nat)) : Int) = k * (Int.gcd p s : Int) := by
    rw [Int.natCast_mul, Int.natAbs_of_nonneg hk]
  rw [e, Int.gcd_mul_left, Int.natCast_mul, Int.natAbs_of_nonneg hk]
theorem low_mul {p s r : Int} : p = gcdL [p, s, r] * (low p s r).p ∧ s = gcdL [p, s, r] * (low p s r).s ∧ r = gcdL [p, s, r] * (low p s r).r := by
  obtain ⟨h1, h2, h3⟩ := g3_dvd p s r
  exact ⟨(Int.mul_ediv_cancel' h1).symm, (Int.mul_ediv_cancel' h2).symm, (Int.mul_ediv_cancel' h3).symm⟩
theorem low_one {p s r : Int} (h : r ≠ 0) : gcdL [(low p s r).p, (low p s r).s, (low p s r).r] = 1 := by
  have g := g3_pos (p := p) (s := s) h
  have hg := g3_nn p s r
  obtain ⟨e1, e2, e3⟩ := low_mul (p := p) (s := s) (r := r)
  have m := g3_mul (gcdL [p, s, r]) (low p s r).p (low p s r).s (low p s r).r hg
  rw [← e1, ← e2, ← e3] at m
  have m2 : gcdL [p, s, r] * gcdL [(low p s r).p, (low p s r).s, (low p s r).r] = gcdL [p, s, r] * 1 := by omega
  exact Int.eq_of_mul_eq_mul_left (by omega) m2
theorem low_ok {p s r : Int} (h : 0 < r) : (low p s r).ok := by
  refine .inr ⟨?_, low_one (by omega)⟩
  have g := g3_pos (p := p) (s := s) (show r ≠ 0 by omega)
  obtain ⟨_, _, e3⟩ := low_mul (p := p) (s := s) (r := r)
  refine Classical.byContradiction fun c => ?_
  have := Int.mul_nonneg (show 0 ≤ gcdL [p, s, r] by omega) (show 0 ≤ -(low p s r).r by omega)
  rw [Int.mul_neg] at this
  omega
theorem far_ok : far.ok := .inl rfl
theorem ok_r {x : Pl} (h : x.ok) : 0 ≤ x.r := by
  rcases h with rfl | ⟨h, _⟩
  · decide
  · omega
/-- two places are the same -/
theorem same {x y : Pl} (hx : x.ok) (hy : y.ok) (h1 : y.r * x.p = x.r * y.p) (h2 : y.r * x.s = x.r * y.s) : x = y := by
  rcases hx with rfl | ⟨rx, gx⟩
  · rcases hy with rfl | ⟨ry, gy⟩
    · rfl
    · simp only [far, Int.mul_one, Int.zero_mul] at h1
      omega
  · rcases hy with rfl | ⟨ry, gy⟩
    · simp only [far, Int.mul_one, Int.zero_mul] at h1
      omega
    · have d1 : x.r ∣ y.r := by
        have d := dvd_g3 (k := x.r) (p := y.r * x.p) (s := y.r * x.s) (r := y.r * x.r) ⟨_, h1⟩ ⟨_, h2⟩ ⟨_, Int.mul_comm _ _⟩
        rw [g3_mul _ _ _ _ (by omega), gx, Int.mul_one] at d
        exact d
      have d2 : y.r ∣ x.r := by
        have d := dvd_g3 (k := y.r) (p := x.r * y.p) (s := x.r * y.s) (r := x.r * y.r) ⟨_, h1.symm⟩ ⟨_, h2.symm⟩ ⟨_, Int.mul_comm _ _⟩
        rw [g3_mul _ _ _ _ (by omega), gy, Int.mul_one] at d
        exact d
      have er : x.r = y.r := Int.dvd_antisymm (by omega) (by omega) d1 d2
      rw [er] at h1 h2
      have e1 := Int.eq_of_mul_eq_mul_left (show y.r ≠ 0 by omega) h1
      have e2 := Int.eq_of_mul_eq_mul_left (show y.r ≠ 0 by omega) h2
      cases x
      cases y
      simp_all
def cross (x y : Pl) : G := y.den * x.num - x.den * y.num
theorem same_of_cross {x y : Pl} (hx : x.ok) (hy : y.ok) (h : cross x y = 0) : x = y := by
  have e1 := congrArg G.re h
  have e2 := congrArg G.im h
  simp only [cross, den, num, sub_re, sub_im, mul_re, mul_im, ofI_re, ofI_im, zero_re, zero_im] at e1 e2
  refine same hx hy ?_ ?_ <;> omega
theorem num_or {x : Pl} (h : x.ok) : x.num ≠ 0 ∨ x.den ≠ 0 := by
  rcases h with rfl | ⟨h, _⟩
  · exact .inl (by decide)
  · refine .inr fun e => ?_
    have := congrArg G.re e
    simp only [den, ofI_re, zero_re] at this
    omega
/-- the quotient's place -/
def spot (t b : G) : Pl := if b = 0 then far else low (t * conj b).re (t * conj b).im (norm b)
theorem spot_ok (t b : G) : (spot t b).ok := by
  unfold spot
  split
  · exact far_ok
  · rename_i h
    exact low_ok (norm_pos h)
theorem spot_eq (t b : G) : (spot t b).den * t = (spot t b).num * b := by
  unfold spot
  split
  · rename_i h
    rw [h]
    apply ext <;> simp [den, num, far]
  · rename_i h
    have hn := norm_pos h
    obtain ⟨e1, e2, e3⟩ := low_mul (p := (t * conj b).re) (s := (t * conj b).im) (r := norm b)
    have gp := g3_pos (p := (t * conj b).re) (s := (t * conj b).im) (show norm b ≠ 0 by omega)
    generalize hl : low (t * conj b).re (t * conj b).im (norm b) = l at *
    generalize gcdL [(t * conj b).re, (t * conj b).im, norm b] = g at *
    have hg : ofI g ≠ 0 := fun e => by
      have := congrArg G.re e
      simp only [ofI_re, zero_re] at this
      omega
    have hc : conj b ≠ 0 := fun e => by
      have := norm_conj b
      rw [e, norm_0] at this
      omega
    have f1 : t * conj b = ofI g * l.num := by
      apply ext
      · rw [e1]; simp [num]
      · rw [e2]; simp [num]
    have f2 : ofI (norm b) = ofI g * l.den := by
      apply ext
      · rw [ofI_re, e3]; simp [den]
      · simp [den]
    have f3 := mul_conj b
    refine cancel (mul_ne hg hc) ?_
    grind
theorem spot_iff {t b : G} (h : t ≠ 0 ∨ b ≠ 0) {g : Pl} (hg : g.ok) : spot t b = g ↔ g.den * t = g.num * b := by
  constructor
  · intro e
    rw [← e]
    exact spot_eq t b
  · intro e
    have e2 := spot_eq t b
    have h2 := spot_ok t b
    refine same_of_cross h2 hg ?_
    generalize spot t b = k at *
    unfold cross
    by_cases hb : b = 0
    · have ht : t ≠ 0 := h.resolve_right fun c => c hb
      refine cancel ht ?_
      rw [hb] at e e2
      have z1 : t * g.den = 0 := by grind
      have z2 : t * k.den = 0 := by grind
      grind
    · refine cancel hb ?_
      grind
theorem spot_scl {s t b : G} (hs : s ≠ 0) (h : t ≠ 0 ∨ b ≠ 0) : spot (s * t) (s * b) = spot t b := by
  refine (spot_iff ?_ (spot_ok t b)).mpr ?_
  · exact h.imp (mul_ne hs) (mul_ne hs)
  · have := spot_eq t b
    grind
/-- the mirror image in the first axis -/
def cj (x : Pl) : Pl := ⟨x.p, -x.s, x.r⟩
theorem cj_num (x : Pl) : x.cj.num = conj x.num := rfl
theorem cj_den (x : Pl) : x.cj.den = x.den := rfl
theorem cj_ok {x : Pl} (h : x.ok) : x.cj.ok := by
  rcases h with rfl | ⟨h, g⟩
  · exact .inl rfl
  · refine .inr ⟨h, ?_⟩
    show gcdL [x.p, -x.s, x.r] = 1
    rw [g3_eq] at g ⊢
    rw [Int.gcd_neg]
    exact g
theorem cj_inj {x y : Pl} (h : x.cj = y.cj) : x = y := by
  cases x
  cases y
  simp only [cj, Pl.mk.injEq] at h
  simp only [Pl.mk.injEq]
  omega
/-- as a map of a hand takes it -/
def hd (h : Int) (x : Pl) : Pl := if h = 1 then x.cj else x
theorem hd_ok {h : Int} {x : Pl} (o : x.ok) : (x.hd h).ok := by
  unfold hd
  split
  · exact cj_ok o
  · exact o
theorem hd_inj {h : Int} {x y : Pl} (e : x.hd h = y.hd h) : x = y := by
  unfold hd at e
  split at e
  · exact cj_inj e
  · exact e
theorem cross_ne {x y : Pl} (hx : x.ok) (hy : y.ok) (h : x ≠ y) : cross x y ≠ 0 := fun e => h (same_of_cross hx hy e)
end Pl
open Pl
namespace F4
def top (f : F4) (x : Pl) : G := f.a * x.num + x.den * f.b
def bot (f : F4) (x : Pl) : G := f.c * x.num + x.den * f.d
/-- where a map of a hand leads a place -/
def led (h : Int) (f : F4) (x : Pl) : Pl := spot (f.top (x.hd h)) (f.bot (x.hd h))
theorem tb_ne {f : F4} (hd : f.det ≠ 0) {x : Pl} (hx : x.ok) : f.top x ≠ 0 ∨ f.bot x ≠ 0 := by
  refine Classical.byContradiction fun c => ?_
  simp only [not_or, Classical.not_not] at c
  obtain ⟨h1, h2⟩ := c
  have e1 : f.det * x.num = 0 := by unfold det; unfold top at h1; unfold bot at h2; grind
  have e2 : f.det * x.den = 0 := by unfold det; unfold top at h1; unfold bot at h2; grind
  rcases num_or hx with n | n
  · exact (mul_zero_or e1).elim hd n
  · exact (mul_zero_or e2).elim hd n
theorem led_iff {h : Int} {f : F4} (hd : f.det ≠ 0) {x g : Pl} (hx : x.ok) (hg : g.ok) : led h f x = g ↔ g.den * f.top (x.hd h) = g.num * f.bot (x.hd h) :=
  spot_iff (tb_ne hd (hd_ok hx)) hg
theorem led_scl {h : Int} {f : F4} {s : G} (hs : s ≠ 0) (hd : f.det ≠ 0) {x : Pl} (hx : x.ok) : led h (scl s f) x = led h f x := by
  unfold led
  have e1 : (scl s f).top (x.hd h) = s * f.top (x.hd h) := by unfold top scl; grind
  have e2 : (scl s f).bot (x.hd h) = s * f.bot (x.hd h) := by unfold bot scl; grind
  rw [e1, e2]
  exact spot_scl hs (tb_ne hd (hd_ok hx))
theorem led_form {h : Int} {f : F4} (hd : f.det ≠ 0) {x : Pl} (hx : x.ok) : led h (form f) x = led h f x := by
  obtain ⟨s, t, hs, ht, e⟩ := form_mul (nz_of_det hd)
  rw [← led_scl hs (det_form hd) hx, e, led_scl ht hd hx]
/-- leads three places to 0, the far place, 1 -/
def three (u v w : Pl) : F4 :=
  let one := v.den * w.num - w.den * v.num
  let two := u.den * w.num - w.den * u.num
  ⟨u.den * one, -(u.num * one), v.den * two, -(v.num * two)⟩
def adj (f : F4) : F4 := ⟨f.d, -f.b, -f.c, f.a⟩
def mul (x y : F4) : F4 := ⟨x.a * y.a + x.b * y.c, x.a * y.b + x.b * y.d, x.c * y.a + x.d * y.c, x.c * y.b + x.d * y.d⟩
theorem det_three (u v w : Pl) : (three u v w).det = (cross w v) * (cross w u) * (cross u v) := by
  unfold three det cross
  grind
theorem det_three_ne {u v w : Pl} (hu : u.ok) (hv : v.ok) (hw : w.ok) (h1 : u ≠ v) (h2 : u ≠ w) (h3 : v ≠ w) : (three u v w).det ≠ 0 := by
  rw [det_three]
  exact mul_ne (mul_ne (cross_ne hw hv (Ne.symm h3)) (cross_ne hw hu (Ne.symm h2))) (cross_ne hu hv h1)
theorem det_mul (x y : F4) : (mul x y).det = x.det * y.det := by unfold mul det; grind
theorem det_adj (x : F4) : (adj x).det = x.det := by unfold adj det; grind
/-- leads three places to three others, the first ones taken as they come -/
def fit3 (u v w k l m : Pl) : F4 := mul (adj (three k l m)) (three u v w)
theorem fit3_1 (u v w k l m : Pl) : k.den * (fit3 u v w k l m).top u = k.num * (fit3 u v w k l m).bot u := by
  unfold fit3 mul adj three top bot
  grind
theorem fit3_2 (u v w k l m : Pl) : l.den * (fit3 u v w k l m).top v = l.num * (fit3 u v w k l m).bot v := by
  unfold fit3 mul adj three top bot
  grind
theorem fit3_3 (u v w k l m : Pl) : m.den * (fit3 u v w k l m).top w = m.num * (fit3 u v w k l m).bot w := by
  unfold fit3 mul adj three top bot
  grind
theorem adj_scl (s : G) (x : F4) : adj (scl s x) = scl s (adj x) := by
  have k : ∀ y : G, -(s * y) = s * -y := fun y => by grind
  simp only [adj, scl, k]
theorem mul_scl (s t : G) (x y : F4) : mul (scl s x) (scl t y) = scl (s * t) (mul x y) := by
  have k : ∀ a b c d : G, s * a * (t * b) + s * c * (t * d) = s * t * (a * b + c * d) := fun a b c d => by grind
  simp only [mul, scl, k]
theorem mul_scl_l (s : G) (x y : F4) : mul (scl s x) y = scl s (mul x y) := by
  have k : ∀ a b c d : G, s * a * b + s * c * d = s * (a * b + c * d) := fun a b c d => by grind
  simp only [mul, scl, k]
theorem scl_swap (s t : G) (x : F4) : scl s (scl t x) = scl t (scl s x) := by
  rw [scl_scl, scl_scl]
  congr 1
  grind
/-- the program's way there -/
def way3 (u v w k l m : Pl) : F4 := form (mul (form (adj (form (three k l m)))) (form (three u v w)))
theorem way3_eq {u v w k l m : Pl} (h1 : (three u v w).det ≠ 0) (h2 : (three k l m).det ≠ 0) : way3 u v w k l m = form (fit3 u v w k l m) := by
  unfold way3 fit3
  obtain ⟨s1, t1, hs1, ht1, e1⟩ := form_mul (nz_of_det h2)
  have d2 := det_form h2
  have d3 : (adj (form (three k l m))).det ≠ 0 := by rw [det_adj]; exact d2
  obtain ⟨s2, t2, hs2, ht2, e2⟩ := form_mul (nz_of_det d3)
  have d4 := det_form d3
  obtain ⟨s3, t3, hs3, ht3, e3⟩ := form_mul (nz_of_det h1)
  have d5 := det_form h1
  generalize form (three u v w) = C at *
  generalize form (adj (form (three k l m))) = B at *
  generalize form (three k l m) = A at *
  refine form_same (s := s1 * (s2 * s3)) (t := t1 * (t2 * t3)) ?_ ?_ (mul_ne hs1 (mul_ne hs2 hs3)) (mul_ne ht1 (mul_ne ht2 ht3)) ?_
  · exact nz_of_det (by rw [det_mul]; exact mul_ne d4 d5)
  · exact nz_of_det (by rw [det_mul, det_adj]; exact mul_ne h2 h1)
  · have e4 : scl s1 (mul (adj A) (three u v w)) = scl t1 (mul (adj (three k l m)) (three u v w)) := by
      rw [← mul_scl_l, ← adj_scl, e1, adj_scl, mul_scl_l]
    rw [← scl_scl s1, ← mul_scl s2 s3, e2, e3, mul_scl, scl_swap, e4, scl_swap, scl_scl]
end F4
end DL

/-! part Ma4 -/
set_option linter.all false
/-! How large the numbers get. -/
namespace DL
open G F4 Pl
theorem pow_le {n m : Nat} (h : n ≤ m) : 2 ^ n ≤ 2 ^ m := Nat.pow_le_pow_right (by decide) h
theorem Bd.mono {n m : Nat} {i : Int} (h : Bd n i) (l : n ≤ m) : Bd m i := Nat.lt_of_lt_of_le h (pow_le l)
theorem Bd.neg {n : Nat} {i : Int} (h : Bd n i) : Bd n (-i) := by
  unfold Bd at *
  omega
theorem Bd.add {n m : Nat} {i j : Int} (hi : Bd n i) (hj : Bd m j) : Bd (max n m + 1) (i + j) := by
  have h1 := hi.mono (Nat.le_max_left n m)
  have h2 := hj.mono (Nat.le_max_right n m)
  unfold Bd at *
  rw [Nat.pow_succ]
  omega
theorem Bd.sub {n m : Nat} {i j : Int} (hi : Bd n i) (hj : Bd m j) : Bd (max n m + 1) (i - j) := by
  have h := hi.add hj.neg
  rwa [← Int.sub_eq_add_neg] at h
theorem Bd.mul {n m : Nat} {i j : Int} (hi : Bd n i) (hj : Bd m j) : Bd (n + m) (i * j) := by
  unfold Bd at *
  rw [Int.natAbs_mul, Nat.pow_add]
  exact Nat.mul_lt_mul'' hi hj
theorem Bd.le {n : Nat} {i j : Int} (h0 : 0 ≤ i) (h : i ≤ j) (hj : Bd n j) : Bd n i := by
  unfold Bd at *
  omega
theorem Bd.div {n : Nat} {i j : Int} (hi : Bd n i) (hj : 0 < j) : Bd n (i / j) := by
  unfold Bd at *
  refine Nat.lt_of_le_of_lt ?_ hi
  have h1 := Int.ediv_mul_le i (show j ≠ 0 by omega)
  have h2 := Int.lt_ediv_add_one_mul_self i hj
  rcases Int.le_total 0 i with h | h
  · have a := Int.ediv_nonneg h (by omega : 0 ≤ j)
    have b := Int.ediv_le_self j h
    omega
  · have b : i ≤ i / j := by
      refine Int.le_ediv_of_mul_le hj ?_
      have := Int.mul_le_mul_of_nonpos_left h (show 1 ≤ j by omega)
      omega
    have c : i / j ≤ 0 := by
      have := Int.ediv_le_ediv hj h
      rwa [Int.zero_ediv] at this
    omega
theorem Bd.lit (n : Nat) (i : Int) (h : i.natAbs < 2 ^ n := by decide) : Bd n i := h
def Bz (n : Nat) (z : G) : Prop := Bd n z.re ∧ Bd n z.im
theorem Bz.mono {n m : Nat} {z : G} (h : Bz n z) (l : n ≤ m) : Bz m z := ⟨h.1.mono l, h.2.mono l⟩
theorem Bz.neg {n : Nat} {z : G} (h : Bz n z) : Bz n (-z) := ⟨h.1.neg, h.2.neg⟩
theorem Bz.conj {n : Nat} {z : G} (h : Bz n z) : Bz n (conj z) := ⟨h.1, h.2.neg⟩
theorem Bz.add {n m : Nat} {x y : G} (h : Bz n x) (k : Bz m y) : Bz (max n m + 1) (x + y) := ⟨h.1.add k.1, h.2.add k.2⟩
theorem Bz.sub {n m : Nat} {x y : G} (h : Bz n x) (k : Bz m y) : Bz (max n m + 1) (x - y) := ⟨h.1.sub k.1, h.2.sub k.2⟩
theorem Bz.mul {n m : Nat} {x y : G} (h : Bz n x) (k : Bz m y) : Bz (n + m + 1) (x * y) := by
  have a := (h.1.mul k.1).sub (h.2.mul k.2)
  have b := (h.1.mul k.2).add (h.2.mul k.1)
  rw [Nat.max_self] at a b
  exact ⟨a, b⟩
theorem ofI_mul (k : Int) (z : G) : ofI k * z = ⟨k * z.re, k * z.im⟩ := by apply ext <;> simp
theorem Bz.sc {n m : Nat} {k : Int} {z : G} (h : Bd n k) (g : Bz m z) : Bz (n + m) (ofI k * z) := by
  rw [ofI_mul]
  exact ⟨h.mul g.1, h.mul g.2⟩
theorem Bz.norm {n : Nat} {z : G} (h : Bz n z) : Bd (2 * n + 1) (norm z) := by
  have a := (h.1.mul h.1).add (h.2.mul h.2)
  rw [Nat.max_self] at a
  have e : n + n = 2 * n := by omega
  rw [e] at a
  exact a
/-- by the norm -/
theorem Bz.of {n : Nat} {z : G} (h : G.norm z < 2 ^ (2 * n)) : Bz n z := by
  have h1 := sq_nn z.re
  have h2 := sq_nn z.im
  have key : ∀ a : Int, a * a < 2 ^ (2 * n) → Bd n a := fun a ha => by
    unfold Bd
    refine Classical.byContradiction fun c => ?_
    have c := Nat.mul_le_mul (Nat.le_of_not_lt c) (Nat.le_of_not_lt c)
    have e : (2 ^ n * 2 ^ n : Nat) = 2 ^ (2 * n) := by rw [← Nat.pow_add]; congr 1; omega
    rw [e, ← Int.natAbs_mul] at c
    have p : ((2 ^ (2 * n) : Nat) : Int) = 2 ^ (2 * n) := by simp
    have q : (((a * a).natAbs : Nat) : Int) = a * a := Int.natAbs_of_nonneg (sq_nn a)
    omega
  unfold G.norm at h
  exact ⟨key _ (by omega), key _ (by omega)⟩
theorem norm_lt {n : Nat} {z : G} (h : Bz n z) : G.norm z < 2 ^ (2 * n + 1) := by
  have a := h.norm
  unfold Bd at a
  have p : ((2 ^ (2 * n + 1) : Nat) : Int) = 2 ^ (2 * n + 1) := by simp
  omega
theorem two_pow_pos (n : Nat) : (0 : Int) < 2 ^ n := Int.pow_pos (by decide)
theorem Bz.of_le {n : Nat} {z y : G} (h : G.norm z ≤ G.norm y) (hy : Bz n y) : Bz (n + 1) z := by
  refine Bz.of ?_
  have a := norm_lt hy
  have e : (2 : Int) ^ (2 * (n + 1)) = 2 ^ (2 * n + 1) * 2 := by
    rw [← Int.pow_succ]
    congr 1
  have := two_pow_pos (2 * n + 1)
  omega
structure B4 (n : Nat) (f : F4) : Prop where
  a : Bz n f.a
  b : Bz n f.b
  c : Bz n f.c
  d : Bz n f.d
theorem B4.mono {n m : Nat} {f : F4} (h : B4 n f) (l : n ≤ m) : B4 m f := ⟨h.a.mono l, h.b.mono l, h.c.mono l, h.d.mono l⟩
theorem norm_div_le {g z : G} (hg : g ≠ 0) : G.norm z ≤ G.norm (g * z) := by
  rw [norm_mul]
  have a := norm_pos hg
  have b := norm_nn z
  have := Int.mul_le_mul_of_nonneg_right (show 1 ≤ G.norm g by omega) b
  omega
theorem B4.form {n : Nat} {f : F4} (h : B4 n f) (nz : f.Nz) : B4 (n + 1) (form f) := by
  have hg := gc_ne nz
  have e := red_mul nz
  have k : ∀ y r : G, y = f.gc * r → Bz n y → Bz (n + 1) (unitOf f.red.first * r) := fun y r e b => by
    refine Bz.of_le (y := y) ?_ b
    rw [norm_mul, unit_norm, Int.one_mul, e]
    exact norm_div_le hg
  exact ⟨k _ _ (congrArg F4.a e) h.a, k _ _ (congrArg F4.b e) h.b, k _ _ (congrArg F4.c e) h.c, k _ _ (congrArg F4.d e) h.d⟩
theorem B4.red {n : Nat} {f : F4} (h : B4 n f) (nz : f.Nz) : B4 (n + 1) f.red := by
  have hg := gc_ne nz
  have e := red_mul nz
  have k : ∀ y r : G, y = f.gc * r → Bz n y → Bz (n + 1) r := fun y r e b => by
    refine Bz.of_le (y := y) ?_ b
    rw [e]
    exact norm_div_le hg
  exact ⟨k _ _ (congrArg F4.a e) h.a, k _ _ (congrArg F4.b e) h.b, k _ _ (congrArg F4.c e) h.c, k _ _ (congrArg F4.d e) h.d⟩
theorem B4.gc {n : Nat} {f : F4} (h : B4 n f) (nz : f.Nz) : Bz (n + 1) f.gc := by
  obtain ⟨⟨p, hp⟩, ⟨q, hq⟩, ⟨r, hr⟩, ⟨s, hs⟩⟩ := gc_dvd f
  have k : ∀ y t : G, y = t * f.gc → y ≠ 0 → Bz n y → Bz (n + 1) f.gc := fun y t e ne b => by
    refine Bz.of_le (y := y) ?_ b
    have ht : t ≠ 0 := fun z => ne (by rw [e, z]; grind)
    rw [e]
    exact norm_div_le ht
  rcases nz with z | z | z | z
  · exact k _ _ hp z h.a
  · exact k _ _ hq z h.b
  · exact k _ _ hr z h.c
  · exact k _ _ hs z h.d
structure BP (n : Nat) (x : Pl) : Prop where
  p : Bd n x.p
  s : Bd n x.s
  r : Bd n x.r
theorem BP.mono {n m : Nat} {x : Pl} (h : BP n x) (l : n ≤ m) : BP m x := ⟨h.p.mono l, h.s.mono l, h.r.mono l⟩
theorem BP.num {n : Nat} {x : Pl} (h : BP n x) : Bz n x.num := ⟨h.p, h.s⟩
theorem BP.cj {n : Nat} {x : Pl} (h : BP n x) : BP n x.cj := ⟨h.p, h.s.neg, h.r⟩
theorem BP.hd {n : Nat} {x : Pl} (h : BP n x) (k : Int) : BP n (x.hd k) := by
  unfold Pl.hd
  split
  · exact h.cj
  · exact h
theorem BP.low {n : Nat} {p s r : Int} (hp : Bd n p) (hs : Bd n s) (hr : Bd n r) (h : 0 < gcdL [p, s, r]) : BP n (low p s r) := ⟨hp.div h, hs.div h, hr.div h⟩
theorem bp_far (n : Nat) : BP (n + 1) far := ⟨Bd.mono (Bd.lit 1 1) (by omega), Bd.mono (Bd.lit 1 0) (by omega), Bd.mono (Bd.lit 1 0) (by omega)⟩
theorem BP.spot {n : Nat} {t b : G} (ht : Bz n t) (hb : Bz n b) : BP (2 * n + 1) (spot t b) := by
  unfold Pl.spot
  split
  · exact bp_far _
  · rename_i h
    have hn := norm_pos h
    have m := ht.mul hb.conj
    have e : n + n + 1 = 2 * n + 1 := by omega
    rw [e] at m
    exact BP.low m.1 m.2 hb.norm (g3_pos (by omega))
theorem B4.top {m n : Nat} {f : F4} {x : Pl} (h : B4 m f) (hx : BP n x) : Bz (m + n + 2) (f.top x) := by
  have := (h.a.mul hx.num).add (Bz.sc hx.r h.b)
  exact this.mono (by omega)
theorem B4.bot {m n : Nat} {f : F4} {x : Pl} (h : B4 m f) (hx : BP n x) : Bz (m + n + 2) (f.bot x) := by
  have := (h.c.mul hx.num).add (Bz.sc hx.r h.d)
  exact this.mono (by omega)
theorem B4.led {m n : Nat} {f : F4} {x : Pl} (k : Int) (h : B4 m f) (hx : BP n x) : BP (2 * (m + n) + 5) (led k f x) := by
  have := BP.spot (h.top (hx.hd k)) (h.bot (hx.hd k))
  exact this.mono (by omega)
theorem B4.adj {n : Nat} {f : F4} (h : B4 n f) : B4 n (adj f) := ⟨h.d, h.b.neg, h.c.neg, h.a⟩
theorem B4.mul {n m : Nat} {f g : F4} (h : B4 n f) (k : B4 m g) : B4 (n + m + 2) (mul f g) := by
  have z : ∀ {x y u v : G}, Bz n x → Bz m y → Bz n u → Bz m v → Bz (n + m + 2) (x * y + u * v) := fun a b c d => by
    have := (a.mul b).add (c.mul d)
    rwa [Nat.max_self] at this
  exact ⟨z h.a k.a h.b k.c, z h.a k.b h.b k.d, z h.c k.a h.d k.c, z h.c k.b h.d k.d⟩
theorem b_apart {n : Nat} {v w : Pl} (hv : BP n v) (hw : BP n w) : Bz (2 * n + 1) (v.den * w.num - w.den * v.num) := by
  have := (Bz.sc hv.r hw.num).sub (Bz.sc hw.r hv.num)
  exact this.mono (by omega)
theorem B4.three {n : Nat} {u v w : Pl} (hu : BP n u) (hv : BP n v) (hw : BP n w) : B4 (3 * n + 2) (three u v w) := by
  have one := b_apart hv hw
  have two := b_apart hu hw
  exact ⟨(Bz.sc hu.r one).mono (by omega), ((hu.num.mul one).mono (by omega)).neg, (Bz.sc hv.r two).mono (by omega), ((hv.num.mul two).mono (by omega)).neg⟩
theorem B4.fit3 {n : Nat} {u v w k l m : Pl} (hu : BP n u) (hv : BP n v) (hw : BP n w) (hk : BP n k) (hl : BP n l) (hm : BP n m) : B4 (6 * n + 6) (fit3 u v w k l m) :=
  ((B4.three hk hl hm).adj.mul (B4.three hu hv hw)).mono (by omega)
end DL

/-! part Ma5 -/
set_option linter.all false
/-! Tests. -/
namespace DL
open G F4 Pl
abbrev Te := Pl × Pl
instance : Inhabited Te := ⟨(far, far)⟩
/-! ### the first of some numbers -/
def firstFrom (p : Nat → Bool) : Nat → Nat → Option Nat
  | 0, _ => none
  | n + 1, i => if p i = true then some i else firstFrom p n (i + 1)
theorem firstFrom_none {p : Nat → Bool} : ∀ {n i : Nat}, (∀ j, i ≤ j → j < i + n → p j = false) → firstFrom p n i = none
  | 0, _, _ => rfl
  | n + 1, i, h => by
    unfold firstFrom
    rw [if_neg (by rw [h i (Nat.le_refl _) (by omega)]; decide)]
    exact firstFrom_none fun j a b => h j (by omega) (by omega)
theorem firstFrom_some {p : Nat → Bool} : ∀ {n i j : Nat}, i ≤ j → j < i + n → p j = true → (∀ k, i ≤ k → k < j → p k = false) → firstFrom p n i = some j
  | 0, _, _, h1, h2, _, _ => by omega
  | n + 1, i, j, h1, h2, hp, h => by
    unfold firstFrom
    by_cases e : i = j
    · subst e
      rw [if_pos hp]
    · rw [if_neg (by rw [h i (Nat.le_refl _) (by omega)]; decide)]
      exact firstFrom_some (by omega) (by omega) hp fun k a b => h k (by omega) b
theorem firstFrom_spec {p : Nat → Bool} : ∀ {n i : Nat}, match firstFrom p n i with
    | none => ∀ j, i ≤ j → j < i + n → p j = false
    | some j => i ≤ j ∧ j < i + n ∧ p j = true
  | 0, i => by
    show ∀ j, i ≤ j → j < i + 0 → p j = false
    intro j a b
    omega
  | n + 1, i => by
    unfold firstFrom
    by_cases e : p i = true
    · rw [if_pos e]
      exact ⟨Nat.le_refl _, by omega, e⟩
    · rw [if_neg e]
      have ih := firstFrom_spec (p := p) (n := n) (i := i + 1)
      cases q : firstFrom p n (i + 1) with
      | none =>
        rw [q] at ih
        intro j a b
        by_cases z : i = j
        · subst z
          cases k : p i with
          | true => exact absurd k e
          | false => rfl
        · exact ih j (by omega) (by omega)
      | some j =>
        rw [q] at ih
        obtain ⟨a, b, c⟩ := ih
        exact ⟨by omega, by omega, c⟩
/-! ### crossed tests -/
def crs (t u : Te) : Bool := decide (t.1 = u.1) != decide (t.2 = u.2)
def tat (ts : List Te) (i : Nat) : Te := ts.getD i default
def row1 (ts : List Te) (i : Nat) : Option Nat := firstFrom (fun j => crs (tat ts i) (tat ts j)) (ts.length - (i + 1)) (i + 1)
def cross1 (ts : List Te) : Option (Nat × Nat) := (firstFrom (fun i => (row1 ts i).isSome) ts.length 0).bind fun i => (row1 ts i).map fun j => (i, j)
theorem crs_comm (t u : Te) : crs t u = crs u t := by
  unfold crs
  rw [show decide (t.1 = u.1) = decide (u.1 = t.1) by simp [eq_comm], show decide (t.2 = u.2) = decide (u.2 = t.2) by simp [eq_comm]]
theorem cross1_none {ts : List Te} (h : cross1 ts = none) {i j : Nat} (hi : i < j) (hj : j < ts.length) : crs (tat ts i) (tat ts j) = false := by
  have s := firstFrom_spec (p := fun i => (row1 ts i).isSome) (n := ts.length) (i := 0)
  unfold cross1 at h
  cases q : firstFrom (fun i => (row1 ts i).isSome) ts.length 0 with
  | some k =>
    rw [q] at h s
    obtain ⟨_, _, c⟩ := s
    obtain ⟨x, hx⟩ := Option.isSome_iff_exists.mp c
    have h : (row1 ts k).map (fun j => (k, j)) = none := h
    rw [hx] at h
    cases h
  | none =>
    rw [q] at s
    have c := s i (Nat.zero_le _) (by omega)
    have s2 := firstFrom_spec (p := fun j => crs (tat ts i) (tat ts j)) (n := ts.length - (i + 1)) (i := i + 1)
    have e : firstFrom (fun j => crs (tat ts i) (tat ts j)) (ts.length - (i + 1)) (i + 1) = none := by
      have c : (row1 ts i).isSome = false := c
      cases r : row1 ts i with
      | none => exact r
      | some x => rw [r] at c; cases c
    rw [e] at s2
    exact s2 j (by omega) (by omega)
theorem uncrossed {ts : List Te} (h : cross1 ts = none) {t u : Te} (ht : t ∈ ts) (hu : u ∈ ts) : crs t u = false := by
  obtain ⟨i, hi, rfl⟩ := List.mem_iff_getElem.mp ht
  obtain ⟨j, hj, rfl⟩ := List.mem_iff_getElem.mp hu
  have k : ∀ i (h : i < ts.length), tat ts i = ts[i] := fun i h => by
    unfold tat
    rw [List.getD_eq_getElem?_getD, List.getElem?_eq_getElem h] <;> rfl
  rcases Nat.lt_trichotomy i j with l | l | l
  · have := cross1_none h l hj
    rwa [k i hi, k j hj] at this
  · subst l
    simp [crs]
  · have := cross1_none h l hi
    rw [k i hi, k j hj, crs_comm] at this
    exact this
theorem crs_false {t u : Te} (h : crs t u = false) : t.1 = u.1 ↔ t.2 = u.2 := by
  unfold crs at h
  by_cases a : t.1 = u.1 <;> by_cases b : t.2 = u.2 <;> simp [a, b] at h ⊢
/-! ### unlike tests -/
def isNew (ts : List Te) (i : Nat) : Bool := !decide (tat ts i ∈ ts.take i)
def unlike (ts : List Te) : List Nat := (List.range ts.length).filter (isNew ts)
theorem tat_mem {ts : List Te} {i : Nat} (h : i < ts.length) : tat ts i ∈ ts := by
  unfold tat
  rw [List.getD_eq_getElem?_getD, List.getElem?_eq_getElem h]
  exact List.getElem_mem h
theorem tat_eq {ts : List Te} {i : Nat} {t : Te} (h : ts[i]? = some t) : tat ts i = t := by
  unfold tat
  rw [List.getD_eq_getElem?_getD, h] <;> rfl
theorem unlike_lt {ts : List Te} {i : Nat} (h : i ∈ unlike ts) : i < ts.length := List.mem_range.mp (List.mem_filter.mp h).1
theorem unlike_sorted (ts : List Te) : (unlike ts).Pairwise (· < ·) := List.Pairwise.filter _ List.pairwise_lt_range
theorem unlike_ne {ts : List Te} {i j : Nat} (hj : j ∈ unlike ts) (hi : i < j) : tat ts i ≠ tat ts j := by
  have h := (List.mem_filter.mp hj).2
  have lj := unlike_lt hj
  intro e
  have m : tat ts j ∈ ts.take j := by
    rw [← e]
    have : tat ts i = (ts.take j)[i]'(by rw [List.length_take]; omega) := by
      rw [List.getElem_take]
      exact tat_eq (List.getElem?_eq_getElem (by omega))
    rw [this]
    exact List.getElem_mem _
  unfold isNew at h
  rw [decide_eq_true m] at h
  cases h
theorem unlike_all {ts : List Te} : ∀ (n : Nat) {t : Te}, ts[n]? = some t → ∃ i ∈ unlike ts, tat ts i = t := by
  intro n
  induction n using Nat.strongRecOn with
  | ind n ih =>
    intro t h
    have hl := (List.getElem?_eq_some_iff.mp h).1
    by_cases c : isNew ts n = true
    · exact ⟨n, List.mem_filter.mpr ⟨List.mem_range.mpr hl, c⟩, tat_eq h⟩
    · have c : decide (tat ts n ∈ ts.take n) = true := by
        unfold isNew at c
        cases q : decide (tat ts n ∈ ts.take n) with
        | true => rfl
        | false => rw [q] at c; exact absurd rfl c
      have m := of_decide_eq_true c
      rw [tat_eq h] at m
      obtain ⟨k, hk, e⟩ := List.mem_iff_getElem.mp m
      rw [List.length_take] at hk
      rw [List.getElem_take] at e
      exact ih k (by omega) (by rw [← e]; exact List.getElem?_eq_getElem (by omega))
theorem unlike_mem {ts : List Te} {t : Te} (h : t ∈ ts) : ∃ i ∈ unlike ts, tat ts i = t := by
  obtain ⟨n, hn, e⟩ := List.mem_iff_getElem.mp h
  exact unlike_all n (by rw [← e]; exact List.getElem?_eq_getElem hn)
/-- the first three unlike tests -/
def trio (ts : List Te) : List Te := ((unlike ts).take 3).map (tat ts)
theorem trio_mem {ts : List Te} {t : Te} (h : t ∈ trio ts) : t ∈ ts := by
  obtain ⟨i, hi, rfl⟩ := List.mem_map.mp h
  exact tat_mem (unlike_lt (List.mem_of_mem_take hi))
theorem trio_nodup (ts : List Te) : (trio ts).Nodup := by
  unfold trio
  have s : ((unlike ts).take 3).Pairwise (· < ·) := (unlike_sorted ts).sublist (List.take_sublist _ _)
  refine List.pairwise_map.mpr (List.Pairwise.imp_of_mem ?_ s)
  intro a b ha hb l
  exact unlike_ne (List.mem_of_mem_take hb) l
theorem trio_len (ts : List Te) : (trio ts).length = min 3 (unlike ts).length := by
  unfold trio
  rw [List.length_map, List.length_take]
/-! ### spare places -/
def spares : List Pl := [⟨0, 0, 1⟩, ⟨1, 0, 1⟩, ⟨2, 0, 1⟩, ⟨3, 0, 1⟩, ⟨4, 0, 1⟩]
def spare (used : List Pl) : Pl := (spares.filter fun p => !decide (p ∈ used)).headD far
theorem sub_len {α : Type} [DecidableEq α] : ∀ {a b : List α}, a.Nodup → (∀ x ∈ a, x ∈ b) → a.length ≤ b.length
  | [], b, _, _ => Nat.zero_le _
  | x :: a, b, nd, h => by
    have nx := (List.nodup_cons.mp nd).1
    have ih := sub_len (a := a) (b := b.erase x) (List.nodup_cons.mp nd).2 fun y hy => by
      have ne : y ≠ x := fun e => nx (by rw [← e]; exact hy)
      exact (List.mem_erase_of_ne ne).mpr (h y (List.mem_cons_of_mem _ hy))
    have e := List.length_erase_of_mem (h x List.mem_cons_self)
    have p : 0 < b.length := List.length_pos_of_mem (h x List.mem_cons_self)
    rw [List.length_cons]
    omega
theorem spare_some {used : List Pl} (h : used.length ≤ 4) : spares.filter (fun p => !decide (p ∈ used)) ≠ [] := fun e => by
  have k : ∀ x ∈ spares, x ∈ used := fun x hx => by
    refine Classical.byContradiction fun c => ?_
    have : x ∈ spares.filter (fun p => !decide (p ∈ used)) := List.mem_filter.mpr ⟨hx, by simp [c]⟩
    rw [e] at this
    cases this
  have := sub_len (a := spares) (by decide) k
  have e5 : spares.length = 5 := rfl
  omega
theorem spare_mem {used : List Pl} (h : used.length ≤ 4) : spare used ∈ spares ∧ spare used ∉ used := by
  have n := spare_some h
  have m : spare used ∈ spares.filter fun p => !decide (p ∈ used) := by
    unfold spare
    cases q : spares.filter fun p => !decide (p ∈ used) with
    | nil => exact absurd q n
    | cons a r => exact List.mem_cons_self
  obtain ⟨a, b⟩ := List.mem_filter.mp m
  exact ⟨a, by simpa using b⟩
theorem spares_ok : ∀ x ∈ spares, x.ok := by
  intro x hx
  simp only [spares, List.mem_cons, List.not_mem_nil, or_false] at hx
  rcases hx with rfl | rfl | rfl | rfl | rfl <;> exact .inr ⟨by decide, by decide⟩
theorem spares_bd : ∀ x ∈ spares, BP 3 x := by
  intro x hx
  simp only [spares, List.mem_cons, List.not_mem_nil, or_false] at hx
  rcases hx with rfl | rfl | rfl | rfl | rfl <;> exact ⟨Bd.lit 3 _, Bd.lit 3 _, Bd.lit 3 _⟩
def padN : Nat → List Pl → List Pl
  | 0, l => l
  | k + 1, l => padN k (l ++ [spare l])
def pad3 (l : List Pl) : List Pl := padN (3 - l.length) l
theorem padN_spec : ∀ (k : Nat) (l : List Pl), l.length + k ≤ 3 → l.Nodup → (∀ x ∈ l, x.ok) →
    (padN k l).length = l.length + k ∧ (padN k l).Nodup ∧ (∀ x ∈ padN k l, x.ok) ∧ ∃ r, padN k l = l ++ r ∧ ∀ x ∈ r, x ∈ spares
  | 0, l, _, nd, ok => ⟨rfl, nd, ok, [], by rw [List.append_nil] <;> rfl, fun x hx => by cases hx⟩
  | k + 1, l, hl, nd, ok => by
    obtain ⟨m, nm⟩ := spare_mem (used := l) (by omega)
    have nd2 : (l ++ [spare l]).Nodup := by
      refine List.nodup_append.mpr ⟨nd, by simp, fun a ha b hb e => ?_⟩
      rw [List.mem_singleton.mp hb] at e
      exact nm (e ▸ ha)
    have ok2 : ∀ x ∈ l ++ [spare l], x.ok := fun x hx => by
      rcases List.mem_append.mp hx with h | h
      · exact ok x h
      · rw [List.mem_singleton.mp h]
        exact spares_ok _ m
    have len2 : (l ++ [spare l]).length = l.length + 1 := by simp
    obtain ⟨a, b, c, r, d, e⟩ := padN_spec k (l ++ [spare l]) (by omega) nd2 ok2
    refine ⟨by rw [show padN (k + 1) l = padN k (l ++ [spare l]) from rfl, a]; omega, b, c, spare l :: r, ?_, fun x hx => ?_⟩
    · rw [show padN (k + 1) l = padN k (l ++ [spare l]) from rfl, d, List.append_assoc] <;> rfl
    · rcases List.mem_cons.mp hx with h | h
      · rw [h]; exact m
      · exact e x h
theorem pad3_spec {l : List Pl} (hl : l.length ≤ 3) (nd : l.Nodup) (ok : ∀ x ∈ l, x.ok) : (pad3 l).length = 3 ∧ (pad3 l).Nodup ∧ (∀ x ∈ pad3 l, x.ok) ∧ ∃ r, pad3 l = l ++ r ∧ ∀ x ∈ r, x ∈ spares := by
  obtain ⟨a, b⟩ := padN_spec (3 - l.length) l (by omega) nd ok
  exact ⟨by unfold pad3; omega, b⟩
theorem pad3_len (l : List Pl) (hl : l.length ≤ 3) : (pad3 l).length = 3 := by
  have k : ∀ (n : Nat) (l : List Pl), (padN n l).length = l.length + n := by
    intro n
    induction n with
    | zero => intro l; rfl
    | succ n ih => intro l; rw [show padN (n + 1) l = padN n (l ++ [spare l]) from rfl, ih]; simp; omega
  unfold pad3
  rw [k]
  omega
/-! ### the map through them -/
/-- a map of a hand through three tests -/
def way (h : Int) (s g : List Pl) : F4 := way3 ((s.getD 0 far).hd h) ((s.getD 1 far).hd h) ((s.getD 2 far).hd h) (g.getD 0 far) (g.getD 1 far) (g.getD 2 far)
def raw (h : Int) (s g : List Pl) : F4 := fit3 ((s.getD 0 far).hd h) ((s.getD 1 far).hd h) ((s.getD 2 far).hd h) (g.getD 0 far) (g.getD 1 far) (g.getD 2 far)
/-- three different places -/
structure Tri (l : List Pl) : Prop where
  len : l.length = 3
  nd : l.Nodup
  ok : ∀ x ∈ l, x.ok
theorem Tri.eq {l : List Pl} (t : Tri l) : ∃ u v w, l = [u, v, w] ∧ u.ok ∧ v.ok ∧ w.ok ∧ u ≠ v ∧ u ≠ w ∧ v ≠ w := by
  obtain ⟨hl, nd, ok⟩ := t
  match l, hl with
  | [u, v, w], _ =>
    simp only [List.nodup_cons, List.mem_cons, List.not_mem_nil, or_false, not_or, not_false_eq_true, List.nodup_nil, and_true] at nd
    exact ⟨u, v, w, rfl, ok u (by simp), ok v (by simp), ok w (by simp), nd.1.1, nd.1.2, nd.2⟩
theorem Tri.det {l : List Pl} (t : Tri l) (h : Int) : (three ((l.getD 0 far).hd h) ((l.getD 1 far).hd h) ((l.getD 2 far).hd h)).det ≠ 0 := by
  obtain ⟨u, v, w, rfl, hu, hv, hw, h1, h2, h3⟩ := t.eq
  exact det_three_ne (hd_ok hu) (hd_ok hv) (hd_ok hw) (fun e => h1 (hd_inj e)) (fun e => h2 (hd_inj e)) fun e => h3 (hd_inj e)
theorem Tri.det0 {l : List Pl} (t : Tri l) : (three (l.getD 0 far) (l.getD 1 far) (l.getD 2 far)).det ≠ 0 := by
  obtain ⟨u, v, w, rfl, hu, hv, hw, h1, h2, h3⟩ := t.eq
  exact det_three_ne hu hv hw h1 h2 h3
theorem raw_det {h : Int} {s g : List Pl} (ts : Tri s) (tg : Tri g) : (raw h s g).det ≠ 0 := by
  unfold raw fit3
  rw [det_mul, det_adj]
  exact mul_ne tg.det0 (ts.det h)
theorem way_raw {h : Int} {s g : List Pl} (ts : Tri s) (tg : Tri g) : way h s g = form (raw h s g) := way3_eq (ts.det h) tg.det0
theorem way_det {h : Int} {s g : List Pl} (ts : Tri s) (tg : Tri g) : (way h s g).det ≠ 0 := by
  rw [way_raw ts tg]
  exact det_form (raw_det ts tg)
theorem way_form {h : Int} {s g : List Pl} (ts : Tri s) (tg : Tri g) : form (way h s g) = way h s g := by
  rw [way_raw ts tg]
  exact form_form (nz_of_det (raw_det ts tg))
theorem way_leads {h : Int} {s g : List Pl} (ts : Tri s) (tg : Tri g) {i : Nat} {x y : Pl} (hx : s[i]? = some x) (hy : g[i]? = some y) : led h (way h s g) x = y := by
  have d := raw_det (h := h) ts tg
  have okx := ts.ok x (List.mem_of_getElem? hx)
  have oky := tg.ok y (List.mem_of_getElem? hy)
  rw [way_raw ts tg, led_form d okx, led_iff d okx oky]
  obtain ⟨u, v, w, rfl, _⟩ := ts.eq
  obtain ⟨k, l, m, rfl, _⟩ := tg.eq
  match i, hx, hy with
  | 0, hx, hy => cases hx; cases hy; exact fit3_1 ..
  | 1, hx, hy => cases hx; cases hy; exact fit3_2 ..
  | 2, hx, hy => cases hx; cases hy; exact fit3_3 ..
  | i + 3, hx, hy => simp at hx
/-! ### fitting -/
theorem all_eq {α : Type} {p q : α → Bool} : ∀ {l : List α}, (∀ x ∈ l, p x = q x) → l.all p = l.all q
  | [], _ => rfl
  | x :: l, h => by
    rw [List.all_cons, List.all_cons, h x List.mem_cons_self, all_eq fun y hy => h y (List.mem_cons_of_mem _ hy)]
def fitB (h : Int) (f : F4) (ts : List Te) : Bool := ts.all fun t => decide (led h f t.1 = t.2)
def relB (h : Int) (f : F4) (ts : List Te) : Bool := ts.all fun t => decide (t.2.den * f.top (t.1.hd h) = t.2.num * f.bot (t.1.hd h))
structure Valid (ts : List Te) : Prop where
  s : ∀ t ∈ ts, t.1.ok
  g : ∀ t ∈ ts, t.2.ok
theorem fit_rel {h : Int} {f : F4} (hd : f.det ≠ 0) {ts : List Te} (v : Valid ts) : fitB h f ts = relB h f ts := by
  unfold fitB relB
  refine all_eq fun t ht => ?_
  exact decide_eq_decide.mpr (led_iff hd (v.s t ht) (v.g t ht))
def srcs (ts : List Te) : List Pl := pad3 ((trio ts).map (·.1))
def gols (ts : List Te) : List Pl := pad3 ((trio ts).map (·.2))
theorem trio_le (ts : List Te) : (trio ts).length ≤ 3 := by rw [trio_len]; omega
theorem tri_of {ts : List Te} (v : Valid ts) (h : cross1 ts = none) : Tri (srcs ts) ∧ Tri (gols ts) := by
  have hl := trio_le ts
  have key : ∀ a ∈ trio ts, ∀ b ∈ trio ts, (a.1 = b.1 ↔ a.2 = b.2) := fun a ha b hb => crs_false (uncrossed h (trio_mem ha) (trio_mem hb))
  have nd := trio_nodup ts
  have n1 : ((trio ts).map (·.1)).Nodup := List.pairwise_map.mpr (List.Pairwise.imp_of_mem (fun ha hb ne e => ne (Prod.ext e ((key _ ha _ hb).mp e))) nd)
  have n2 : ((trio ts).map (·.2)).Nodup := List.pairwise_map.mpr (List.Pairwise.imp_of_mem (fun ha hb ne e => ne (Prod.ext ((key _ ha _ hb).mpr e) e)) nd)
  have o1 : ∀ x ∈ (trio ts).map (·.1), x.ok := fun x hx => by
    obtain ⟨t, ht, rfl⟩ := List.mem_map.mp hx
    exact v.s t (trio_mem ht)
  have o2 : ∀ x ∈ (trio ts).map (·.2), x.ok := fun x hx => by
    obtain ⟨t, ht, rfl⟩ := List.mem_map.mp hx
    exact v.g t (trio_mem ht)
  obtain ⟨a1, a2, a3, _⟩ := pad3_spec (by rw [List.length_map]; exact hl) n1 o1
  obtain ⟨b1, b2, b3, _⟩ := pad3_spec (by rw [List.length_map]; exact hl) n2 o2
  exact ⟨⟨a1, a2, a3⟩, b1, b2, b3⟩
theorem pad3_at {l : List Pl} {i : Nat} {x : Pl} (h : l[i]? = some x) : (pad3 l)[i]? = some x := by
  have k : ∀ (n : Nat) (l : List Pl), l[i]? = some x → (padN n l)[i]? = some x := by
    intro n
    induction n with
    | zero => exact fun l h => h
    | succ n ih =>
      intro l h
      refine ih _ ?_
      rw [List.getElem?_append_left (List.getElem?_eq_some_iff.mp h).1]
      exact h
  exact k _ _ h
theorem trio_led {ts : List Te} (v : Valid ts) (h : cross1 ts = none) (k : Int) {t : Te} (ht : t ∈ trio ts) : led k (way k (srcs ts) (gols ts)) t.1 = t.2 := by
  obtain ⟨a, b⟩ := tri_of v h
  obtain ⟨i, hi, e⟩ := List.mem_iff_getElem.mp ht
  refine way_leads a b (i := i) (pad3_at ?_) (pad3_at ?_)
  · rw [List.getElem?_map, List.getElem?_eq_getElem hi, e] <;> rfl
  · rw [List.getElem?_map, List.getElem?_eq_getElem hi, e] <;> rfl
/-- up to three unlike tests are fitted -/
theorem few_fit {ts : List Te} (v : Valid ts) (h : cross1 ts = none) (k : Int) (few : (unlike ts).length ≤ 3) : fitB k (way k (srcs ts) (gols ts)) ts = true := by
  refine List.all_eq_true.mpr fun t ht => decide_eq_true (trio_led v h k ?_)
  obtain ⟨i, hi, rfl⟩ := unlike_mem ht
  refine List.mem_map_of_mem ?_
  rw [List.take_of_length_le few]
  exact hi
/-- three or more: no places are spared -/
theorem pad3_full {l : List Pl} (h : l.length = 3) : pad3 l = l := by
  unfold pad3
  rw [h] <;> rfl
theorem srcs_full {ts : List Te} (h : 3 ≤ (unlike ts).length) : srcs ts = (trio ts).map (·.1) := pad3_full (by rw [List.length_map, trio_len]; omega)
theorem gols_full {ts : List Te} (h : 3 ≤ (unlike ts).length) : gols ts = (trio ts).map (·.2) := pad3_full (by rw [List.length_map, trio_len]; omega)
/-! ### what the law says -/
/-- the law's own map through three tests, not reduced -/
def lawRaw (k : Int) (ts : List Te) : F4 := raw k ((trio ts).map (·.1)) ((trio ts).map (·.2))
def lawCan (k : Int) (ts : List Te) : Bool := (cross1 ts).isNone && (decide ((unlike ts).length < 3) || relB k (lawRaw k ts) ts)
/-- the program's map for tests -/
def chartFor (k : Int) (ts : List Te) : Option F4 := if cross1 ts = none then (if fitB k (way k (srcs ts) (gols ts)) ts = true then some (way k (srcs ts) (gols ts)) else none) else none
theorem can_chart {ts : List Te} (v : Valid ts) (k : Int) : (chartFor k ts).isSome = lawCan k ts := by
  unfold chartFor lawCan
  cases h : cross1 ts with
  | some x => rfl
  | none =>
    rw [if_pos rfl]
    show _ = (decide ((unlike ts).length < 3) || relB k (lawRaw k ts) ts)
    by_cases few : (unlike ts).length < 3
    · rw [few_fit v h k (by omega), decide_eq_true few] <;> rfl
    · obtain ⟨a, b⟩ := tri_of v h
      have e : fitB k (way k (srcs ts) (gols ts)) ts = relB k (lawRaw k ts) ts := by
        have ra : lawRaw k ts = raw k (srcs ts) (gols ts) := by
          unfold lawRaw
          rw [srcs_full (by omega), gols_full (by omega)]
        have d := raw_det (h := k) a b
        rw [ra, ← fit_rel d v, way_raw a b]
        unfold fitB
        exact all_eq fun t ht => by rw [led_form d (v.s t ht)]
      rw [e, decide_eq_false few, Bool.false_or]
      cases relB k (lawRaw k ts) ts <;> rfl
end DL

/-! part Ma6 -/
set_option linter.all false
/-! Plain facts for the defs on whole complex numbers. -/
namespace DL
open G F4 Pl
/-- a norm that is small enough -/
def NB (z : G) : Prop := ∃ w, Bz 3999 w ∧ norm z ≤ norm w
theorem NB.bz {z : G} (h : NB z) : Bz 4000 z := by
  obtain ⟨w, h1, h2⟩ := h
  exact Bz.of_le h2 h1
theorem NB.of {z : G} (h : Bz 3999 z) : NB z := ⟨z, h, Int.le_refl _⟩
theorem NB.le {y z : G} (h : NB z) (l : norm y ≤ norm z) : NB y := by
  obtain ⟨w, h1, h2⟩ := h
  exact ⟨w, h1, Int.le_trans l h2⟩
theorem NB.dv {a b : G} (ha : NB a) (hb : NB b) : NB (G.dv a b) := by
  rcases dv_norm a b with e | l
  · rw [e, dv_zero]; exact ha
  · exact hb.le l
theorem NB.step {a b : G} (hb : NB b) (h : b ≠ 0) : NB (a - qn a b * b) := by
  refine hb.le ?_
  have := step_norm a h
  have := norm_nn (a - qn a b * b)
  omega
theorem NB.zero : NB 0 := .of ((show Bz 2 0 from ⟨Bd.lit 2 0, Bd.lit 2 0⟩).mono (by decide))
theorem NB.fold : ∀ {l : List G} {g : G}, NB g → (∀ x ∈ l, NB x) → NB (l.foldl G.dv g)
  | [], g, h, _ => h
  | x :: l, g, h, h2 => NB.fold (l := l) (g := G.dv g x) (h.dv (h2 x List.mem_cons_self)) fun y hy => h2 y (List.mem_cons_of_mem _ hy)
theorem div_mod {x y : G} (h : Dv y x) (hy : y ≠ 0) : (x * conj y).re % norm y = 0 ∧ (x * conj y).im % norm y = 0 := by
  obtain ⟨q, rfl⟩ := h
  have e : q * y * conj y = q * ofI (norm y) := by
    have := mul_conj y
    grind
  rw [e]
  have e1 : (q * ofI (norm y)).re = q.re * norm y := by simp
  have e2 : (q * ofI (norm y)).im = q.im * norm y := by simp
  rw [e1, e2]
  exact ⟨Int.mul_emod_left .., Int.mul_emod_left ..⟩
/-! ### the unit -/
def U3 : List G := [1, I1, -1]
theorem unit_at {x : G} : ∀ {i : Nat} {u : G}, U3[i]? = some u → (∀ j v, j < i → U3[j]? = some v → ¬Qf (x * v)) → Qf (x * u) → unitOf x = u
  | 0, u, h, _, q => by
    cases h
    unfold unitOf
    have e : x * 1 = x := by grind
    rw [e] at q
    rw [if_pos q]
  | 1, u, h, n, q => by
    cases h
    have n0 := n 0 1 (by decide) rfl
    have e : x * 1 = x := by grind
    rw [e] at n0
    unfold unitOf
    rw [if_neg n0, if_pos q]
  | 2, u, h, n, q => by
    cases h
    have n0 := n 0 1 (by decide) rfl
    have n1 := n 1 I1 (by decide) rfl
    have e : x * 1 = x := by grind
    rw [e] at n0
    unfold unitOf
    rw [if_neg n0, if_neg n1, if_pos q]
  | i + 3, u, h, _, _ => by cases h
theorem unit_last {x : G} (n : ∀ j v, j < 3 → U3[j]? = some v → ¬Qf (x * v)) : unitOf x = -I1 := by
  have n0 := n 0 1 (by decide) rfl
  have n1 := n 1 I1 (by decide) rfl
  have n2 := n 2 (-1) (by decide) rfl
  have e : x * 1 = x := by grind
  rw [e] at n0
  unfold unitOf
  rw [if_neg n0, if_neg n1, if_neg n2]
def rot (x : G) : Nat → G
  | 0 => x
  | i + 1 => ⟨0 - (rot x i).im, (rot x i).re⟩
theorem rot_mul (z : G) : (⟨0 - z.im, z.re⟩ : G) = z * I1 := by apply G.ext <;> simp [I1]
theorem rot_at {x : G} : ∀ {i : Nat}, i < 4 → (∀ j, j < i → ¬Qf (rot x j)) → Qf (rot x i) → rot x i = x * unitOf x
  | 0, _, _, q => by
    have q : Qf x := q
    unfold unitOf
    rw [if_pos q]
    show x = x * 1
    grind
  | 1, _, n, q => by
    have n0 : ¬Qf x := n 0 (by decide)
    have e : rot x 1 = x * I1 := rot_mul x
    rw [e] at q ⊢
    unfold unitOf
    rw [if_neg n0, if_pos q]
  | 2, _, n, q => by
    have n0 : ¬Qf x := n 0 (by decide)
    have n1 := n 1 (by decide)
    have e1 : rot x 1 = x * I1 := rot_mul x
    have e : rot x 2 = x * -1 := by
      have : rot x 2 = rot x 1 * I1 := rot_mul _
      have i2 : I1 * I1 = -1 := by decide
      rw [this, e1]
      grind
    rw [e1] at n1
    rw [e] at q ⊢
    unfold unitOf
    rw [if_neg n0, if_neg n1, if_pos q]
  | 3, _, n, q => by
    have n0 : ¬Qf x := n 0 (by decide)
    have n1 := n 1 (by decide)
    have n2 := n 2 (by decide)
    have e1 : rot x 1 = x * I1 := rot_mul x
    have i2 : I1 * I1 = -1 := by decide
    have e2 : rot x 2 = x * -1 := by
      have : rot x 2 = rot x 1 * I1 := rot_mul _
      rw [this, e1]
      grind
    have e : rot x 3 = x * -I1 := by
      have : rot x 3 = rot x 2 * I1 := rot_mul _
      rw [this, e2]
      grind
    rw [e1] at n1
    rw [e2] at n2
    rw [e]
    unfold unitOf
    rw [if_neg n0, if_neg n1, if_neg n2]
theorem rot_ends {x : G} (h : x ≠ 0) (n : ∀ j, j < 4 → ¬Qf (rot x j)) : False := by
  have n0 : ¬Qf x := n 0 (by decide)
  have n1 := n 1 (by decide)
  have n2 := n 2 (by decide)
  have n3 := n 3 (by decide)
  have e1 : rot x 1 = x * I1 := rot_mul x
  have i2 : I1 * I1 = -1 := by decide
  have e2 : rot x 2 = x * -1 := by
    have : rot x 2 = rot x 1 * I1 := rot_mul _
    rw [this, e1]
    grind
  have e : rot x 3 = x * -I1 := by
    have : rot x 3 = rot x 2 * I1 := rot_mul _
    rw [this, e2]
    grind
  rw [e1] at n1
  rw [e2] at n2
  rw [e] at n3
  have u := unit_qf h
  unfold unitOf at u
  rw [if_neg n0, if_neg n1, if_neg n2] at u
  exact n3 u
theorem rot_bz {n : Nat} {x : G} (h : Bz n x) : ∀ i, Bz n (rot x i)
  | 0 => h
  | i + 1 => by
    have k := rot_bz h i
    refine ⟨?_, k.1⟩
    show Bd n (0 - (rot x i).im)
    have e : 0 - (rot x i).im = -(rot x i).im := by omega
    rw [e]
    exact k.2.neg
/-! ### four numbers -/
def F4.l (f : F4) : List G := [f.a, f.b, f.c, f.d]
theorem gc_fold (f : F4) : f.l.foldl dv 0 = f.gc := rfl
theorem red_map (f : F4) : f.l.map (fun x => quo x f.gc) = f.red.l := rfl
theorem first_at {f : F4} (h : f.Nz) : (f.l.filter fun x => !decide (x = 0))[0]? = some f.first := by
  unfold F4.l F4.first
  by_cases ha : f.a = 0
  · by_cases hb : f.b = 0
    · by_cases hc : f.c = 0
      · by_cases hd : f.d = 0
        · exact absurd h (by unfold F4.Nz; simp [ha, hb, hc, hd])
        · simp [ha, hb, hc, hd]
      · simp [ha, hb, hc]
    · simp [ha, hb]
  · simp [ha]
theorem scl_map (s : G) (f : F4) : f.l.map (fun x => s * x) = (F4.scl s f).l := rfl
theorem scl_map' (s : G) (f : F4) : f.l.map (fun x => x * s) = (F4.scl s f).l := by
  rw [← scl_map]
  refine List.map_congr_left fun x _ => ?_
  grind
theorem gc_mem {f : F4} (h : f.Nz) : f.gc ≠ 0 ∧ ∀ x ∈ f.l, Dv f.gc x := by
  refine ⟨gc_ne h, fun x hx => ?_⟩
  have k := gc_dvd f
  unfold F4.l at hx
  simp only [List.mem_cons, List.not_mem_nil, or_false] at hx
  rcases hx with rfl | rfl | rfl | rfl
  · exact k.1
  · exact k.2.1
  · exact k.2.2.1
  · exact k.2.2.2
theorem mem_l {n : Nat} {f : F4} (h : B4 n f) : ∀ x ∈ f.l, Bz n x := by
  intro x hx
  unfold F4.l at hx
  simp only [List.mem_cons, List.not_mem_nil, or_false] at hx
  rcases hx with rfl | rfl | rfl | rfl
  · exact h.a
  · exact h.b
  · exact h.c
  · exact h.d
theorem NB.gc {f : F4} (h : B4 3999 f) : NB f.gc := NB.fold .zero fun x hx => .of (mem_l h x hx)
theorem qf_dec (z : G) : (decide (0 < z.re) && decide (0 ≤ z.im)) = true ↔ Qf z := by
  unfold Qf
  simp
/-! ### divisors of ints -/
theorem gcd_abs (a b : Int) : Int.gcd (if a < 0 then -a else a) (if b < 0 then -b else b) = Int.gcd a b := by
  by_cases h : a < 0 <;> by_cases k : b < 0 <;> simp [h, k]
theorem gcd_step {a b : Int} : Int.gcd b (a % b) = Int.gcd a b := by
  have e : a % b = a - b * (a / b) := Int.emod_def a b
  rw [e, Int.gcd_sub_mul_left_right, Int.gcd_comm]
end DL

/-! part Ma7 -/
set_option linter.all false
/-! Plain facts on tests, for the walks. -/
namespace DL
open G F4 Pl
theorem row1_some {ts : List Te} {i j : Nat} (hij : i < j) (hj : j < ts.length) (hc : crs (tat ts i) (tat ts j) = true) (h : ∀ k, i < k → k < j → crs (tat ts i) (tat ts k) = false) : row1 ts i = some j :=
  firstFrom_some (by omega) (by omega) hc fun k a b => h k (by omega) b
theorem row1_none {ts : List Te} {i : Nat} (h : ∀ k, i < k → k < ts.length → crs (tat ts i) (tat ts k) = false) : row1 ts i = none :=
  firstFrom_none fun k a b => h k (by omega) (by omega)
theorem cross1_at {ts : List Te} {i j : Nat} (hi : i < ts.length) (h0 : ∀ k, k < i → row1 ts k = none) (h : row1 ts i = some j) : cross1 ts = some (i, j) := by
  unfold cross1
  rw [firstFrom_some (j := i) (Nat.zero_le _) (by omega) (by rw [h] <;> rfl) (fun k _ b => by rw [h0 k b] <;> rfl)]
  show (row1 ts i).map (fun j => (i, j)) = _
  rw [h] <;> rfl
theorem cross1_no {ts : List Te} (h : ∀ k, k < ts.length → row1 ts k = none) : cross1 ts = none := by
  unfold cross1
  rw [firstFrom_none fun k _ b => by rw [h k (by omega)] <;> rfl] <;> rfl
/-- where the tests are not kept -/
def late (h : Int) (f : F4) (ts : List Te) : List Nat := (List.range ts.length).filter fun i => !decide (led h f (tat ts i).1 = (tat ts i).2)
theorem late_ne {h : Int} {f : F4} {ts : List Te} (k : fitB h f ts = false) : late h f ts ≠ [] := fun e => by
  unfold fitB at k
  obtain ⟨t, ht, hn⟩ := List.all_eq_false.mp k
  obtain ⟨i, hi, e2⟩ := List.mem_iff_getElem.mp ht
  have m : i ∈ late h f ts := by
    refine List.mem_filter.mpr ⟨List.mem_range.mpr hi, ?_⟩
    rw [tat_eq (List.getElem?_eq_getElem hi), e2]
    cases z : decide (led h f t.1 = t.2) with
    | true => exact absurd z hn
    | false => rfl
  rw [e] at m
  cases m
theorem late_form {h : Int} {f : F4} (hd : f.det ≠ 0) {ts : List Te} (v : Valid ts) : late h (form f) ts = late h f ts := by
  unfold late
  refine List.filter_congr fun i hi => ?_
  rw [led_form hd (v.s _ (tat_mem (List.mem_range.mp hi)))]
theorem unlike_pos {ts : List Te} (h : ts ≠ []) : 0 < (unlike ts).length := by
  obtain ⟨t, ht⟩ := List.exists_mem_of_ne_nil _ h
  obtain ⟨i, hi, _⟩ := unlike_mem ht
  exact List.length_pos_of_mem hi
/-- bounds of tests -/
def BT (ts : List Te) : Prop := ∀ t ∈ ts, BP 230 t.1 ∧ BP 230 t.2
theorem pad_bp {l : List Pl} (h : ∀ x ∈ l, BP 230 x) (hl : l.length ≤ 3) (nd : l.Nodup) (ok : ∀ x ∈ l, x.ok) : ∀ x ∈ pad3 l, BP 230 x := by
  obtain ⟨_, _, _, r, e, hr⟩ := pad3_spec hl nd ok
  intro x hx
  rw [e] at hx
  rcases List.mem_append.mp hx with z | z
  · exact h x z
  · exact (spares_bd x (hr x z)).mono (by decide)
theorem srcs_bp {ts : List Te} (v : Valid ts) (b : BT ts) (h : cross1 ts = none) : (∀ x ∈ srcs ts, BP 230 x) ∧ (∀ x ∈ gols ts, BP 230 x) := by
  have hl := trio_le ts
  have key : ∀ a ∈ trio ts, ∀ b ∈ trio ts, (a.1 = b.1 ↔ a.2 = b.2) := fun a ha b hb => crs_false (uncrossed h (trio_mem ha) (trio_mem hb))
  have nd := trio_nodup ts
  have n1 : ((trio ts).map (·.1)).Nodup := List.pairwise_map.mpr (List.Pairwise.imp_of_mem (fun ha hb ne e => ne (Prod.ext e ((key _ ha _ hb).mp e))) nd)
  have n2 : ((trio ts).map (·.2)).Nodup := List.pairwise_map.mpr (List.Pairwise.imp_of_mem (fun ha hb ne e => ne (Prod.ext ((key _ ha _ hb).mpr e) e)) nd)
  refine ⟨pad_bp (fun x hx => ?_) (by rw [List.length_map]; exact hl) n1 (fun x hx => ?_), pad_bp (fun x hx => ?_) (by rw [List.length_map]; exact hl) n2 (fun x hx => ?_)⟩ <;> obtain ⟨t, ht, rfl⟩ := List.mem_map.mp hx
  · exact (b t (trio_mem ht)).1
  · exact v.s t (trio_mem ht)
  · exact (b t (trio_mem ht)).2
  · exact v.g t (trio_mem ht)
theorem way_b4 {h : Int} {s g : List Pl} (ts : Tri s) (tg : Tri g) (bs : ∀ x ∈ s, BP 230 x) (bg : ∀ x ∈ g, BP 230 x) : B4 1400 (way h s g) := by
  rw [way_raw ts tg]
  have d := raw_det (h := h) ts tg
  obtain ⟨u, v, w, rfl, _⟩ := ts.eq
  obtain ⟨k, l, m, rfl, _⟩ := tg.eq
  have b : B4 _ (raw h [u, v, w] [k, l, m]) := B4.fit3 ((bs u (by simp)).hd h) ((bs v (by simp)).hd h) ((bs w (by simp)).hd h) (bg k (by simp)) (bg l (by simp)) (bg m (by simp))
  exact (b.form (nz_of_det d)).mono (by decide)
theorem raw_b4 {h : Int} {s g : List Pl} (ts : Tri s) (tg : Tri g) (bs : ∀ x ∈ s, BP 230 x) (bg : ∀ x ∈ g, BP 230 x) : B4 1400 (raw h s g) := by
  obtain ⟨u, v, w, rfl, _⟩ := ts.eq
  obtain ⟨k, l, m, rfl, _⟩ := tg.eq
  have b : B4 _ (raw h [u, v, w] [k, l, m]) := B4.fit3 ((bs u (by simp)).hd h) ((bs v (by simp)).hd h) ((bs w (by simp)).hd h) (bg k (by simp)) (bg l (by simp)) (bg m (by simp))
  exact b.mono (by decide)
theorem pad3_le {l : List Pl} (n : Nat) : ∀ l : List Pl, (padN n l).length = l.length + n := by
  induction n with
  | zero => intro l; rfl
  | succ n ih =>
    intro l
    show (padN n (l ++ [spare l])).length = _
    rw [ih]
    simp
    omega
theorem chart_some {h : Int} {ts : List Te} {f : F4} (v : Valid ts) (b : BT ts) (e : chartFor h ts = some f) : cross1 ts = none ∧ f = way h (srcs ts) (gols ts) ∧ f.det ≠ 0 ∧ form f = f ∧ B4 1400 f ∧ fitB h f ts = true := by
  unfold chartFor at e
  by_cases hc : cross1 ts = none
  · rw [if_pos hc] at e
    cases hf : fitB h (way h (srcs ts) (gols ts)) ts with
    | false => rw [hf] at e; cases e
    | true =>
      rw [hf, if_pos rfl] at e
      cases e
      obtain ⟨t1, t2⟩ := tri_of v hc
      obtain ⟨b1, b2⟩ := srcs_bp v b hc
      exact ⟨hc, rfl, way_det t1 t2, way_form t1 t2, way_b4 t1 t2 b1 b2, hf⟩
  · rw [if_neg hc] at e
    cases e
theorem chart_none {h : Int} {ts : List Te} (hc : cross1 ts = none) (e : chartFor h ts = none) : fitB h (way h (srcs ts) (gols ts)) ts = false := by
  unfold chartFor at e
  rw [if_pos hc] at e
  cases hf : fitB h (way h (srcs ts) (gols ts)) ts with
  | false => rfl
  | true => rw [hf, if_pos rfl] at e; cases e
theorem many_of {h : Int} {ts : List Te} (v : Valid ts) (hc : cross1 ts = none) (e : chartFor h ts = none) : 4 ≤ (unlike ts).length := by
  refine Classical.byContradiction fun z => ?_
  have := few_fit v hc h (by omega)
  rw [chart_none hc e] at this
  cases this
theorem padN_step {n : Nat} {l : List Pl} (h : l.length < 3) (e : padN (3 - l.length) l = padN n l) : padN (3 - (l ++ [spare l]).length) (l ++ [spare l]) = padN (3 - l.length) l := by
  have : 3 - l.length = (3 - (l ++ [spare l]).length) + 1 := by simp; omega
  rw [this] <;> rfl
theorem head_get {α : Type} {l : List α} (d : α) (h : l ≠ []) : l[0]? = some (l.headD d) := by
  cases l with
  | nil => exact absurd rfl h
  | cons a r => rfl
end DL

/-! part Dl1 -/
set_option Elab.async false
set_option linter.all false
set_option maxRecDepth 100000
set_option maxHeartbeats 4000000
/-! A data layer over the hand layer: which datum an expression is worth. -/
namespace DL
open PySem PySem.Spec PyProof.Rows L2
abbrev D := PyData
abbrev Ex := @Evl.Ex
/-- what is tracked but for the addresses O -/
def vw (O : List Addr) (H : Hp) : Hp := fun a => if a ∈ O then none else H a
theorem vw_of {O : List Addr} {H : Hp} {a : Addr} {o : HO} (h : vw O H a = some o) : a ∉ O ∧ H a = some o := by
  unfold vw at h
  split at h
  · cases h
  · exact ⟨by assumption, h⟩
theorem vw_at {O : List Addr} {H : Hp} {a : Addr} (h : a ∉ O) : vw O H a = H a := if_neg h
theorem vw_sub {O : List Addr} {H : Hp} : Ex (vw O H) H := fun _ _ h => (vw_of h).2
/-- all that is tracked but for the addresses A stays -/
def Stp (A : List Addr) (H H' : Hp) : Prop := ∀ a o, a ∉ A → H a = some o → H' a = some o
theorem Stp.refl {A : List Addr} {H : Hp} : Stp A H H := fun _ _ _ h => h
theorem Stp.trans {A : List Addr} {H H1 H2 : Hp} (a : Stp A H H1) (b : Stp A H1 H2) : Stp A H H2 := fun x o n h => b x o n (a x o n h)
theorem Stp.of {A : List Addr} {H H' : Hp} (e : Ex H H') : Stp A H H' := fun x o _ h => e x o h
theorem Stp.vw {A O : List Addr} {H H' : Hp} (s : Stp A H H') (h : ∀ a ∈ A, a ∈ O) : Ex (vw O H) (vw O H') := fun a o e => by
  obtain ⟨n, e⟩ := vw_of e
  rw [vw_at n]
  exact s a o (fun z => n (h a z)) e
section
variable {K : PySem.W.Frag} {H H' : Hp}
mutual
theorem dp_mono (e : Ex H H') : ∀ (d : D) (v : V), Dp K H v d → Dp K H' v d
  | .none, _, h => by cases h; exact .non
  | .bool b, _, h => by cases h; exact .bl b
  | .int i, _, h => by cases h; exact .int i
  | .str x, _, h => by cases h; exact .str x
  | .list ds, _, h => by
    cases h with
    | lst hs ha => exact .lst (Evl.ex_l e hs) (dpa_mono e ds _ ha)
  | .tuple ds, _, h => by
    cases h with
    | tup hs ha => exact .tup (Evl.ex_t e hs) (dpa_mono e ds _ ha)
  | .dict _, _, h => by cases h
theorem dpa_mono (e : Ex H H') : ∀ (ds : List D) (vs : List V), DpAll K H vs ds → DpAll K H' vs ds
  | [], _, h => by cases h; exact .nil
  | d :: ds, _, h => by
    cases h with
    | cons h1 h2 => exact .cons (dp_mono e d _ h1) (dpa_mono e ds _ h2)
end
theorem _root_.L2.DpAll.len : ∀ {vs : List V} {ds : List D}, DpAll K H vs ds → vs.length = ds.length
  | _, _, .nil => rfl
  | _, _, .cons _ t => congrArg (· + 1) (L2.DpAll.len t)
theorem _root_.L2.DpAll.get : ∀ {vs : List V} {ds : List D} {i : Nat} {d : D}, DpAll K H vs ds → ds[i]? = some d → ∃ v, vs[i]? = some v ∧ Dp K H v d
  | _, _, _, _, .nil, e => by simp at e
  | _, _, 0, _, .cons r _, e => by
    simp only [List.getElem?_cons_zero, Option.some.injEq] at e
    subst e
    exact ⟨_, rfl, r⟩
  | _, _, i + 1, d, .cons _ t, e => by
    obtain ⟨v, h1, h2⟩ := L2.DpAll.get (i := i) (d := d) t (by simpa using e)
    exact ⟨v, by simpa using h1, h2⟩
theorem _root_.L2.DpAll.getV : ∀ {vs : List V} {ds : List D} {i : Nat} {v : V}, DpAll K H vs ds → vs[i]? = some v → ∃ d, ds[i]? = some d ∧ Dp K H v d
  | _, _, _, _, .nil, e => by simp at e
  | _, _, 0, _, .cons r _, e => by
    simp only [List.getElem?_cons_zero, Option.some.injEq] at e
    subst e
    exact ⟨_, rfl, r⟩
  | _, _, i + 1, d, .cons _ t, e => by
    obtain ⟨v, h1, h2⟩ := L2.DpAll.getV (i := i) (v := d) t (by simpa using e)
    exact ⟨v, by simpa using h1, h2⟩
theorem _root_.L2.DpAll.app : ∀ {vs ws : List V} {ds es : List D}, DpAll K H vs ds → DpAll K H ws es → DpAll K H (vs ++ ws) (ds ++ es)
  | _, _, _, _, .nil, s => s
  | _, _, _, _, .cons r t, s => .cons r (L2.DpAll.app t s)
theorem _root_.L2.DpAll.take : ∀ {vs : List V} {ds : List D} (n : Nat), DpAll K H vs ds → DpAll K H (vs.take n) (ds.take n)
  | _, _, 0, _ => .nil
  | _, _, _ + 1, .nil => .nil
  | _, _, n + 1, .cons r t => .cons r (L2.DpAll.take n t)
theorem _root_.L2.DpAll.drop : ∀ {vs : List V} {ds : List D} (n : Nat), DpAll K H vs ds → DpAll K H (vs.drop n) (ds.drop n)
  | _, _, 0, r => r
  | _, _, _ + 1, .nil => .nil
  | _, _, n + 1, .cons _ t => L2.DpAll.drop n t
theorem _root_.L2.DpAll.set : ∀ {vs : List V} {ds : List D} (i : Nat) {v : V} {d : D}, DpAll K H vs ds → Dp K H v d → DpAll K H (vs.set i v) (ds.set i d)
  | _, _, _, _, _, .nil, _ => .nil
  | _, _, 0, _, _, .cons _ t, r => .cons r t
  | _, _, i + 1, _, _, .cons q t, r => .cons q (L2.DpAll.set i t r)
theorem dp_int {v : V} {i : Int} (h : Dp K H v (.int i)) : v = .int i := by cases h; rfl
theorem dp_bl {v : V} {b : Bool} (h : Dp K H v (.bool b)) : v = .bl b := by cases h; rfl
theorem dp_non {v : V} (h : Dp K H v .none) : v = .non := by cases h; rfl
theorem dp_str {v : V} {x : Str} (h : Dp K H v (.str x)) : v = .str x := by cases h; rfl
theorem dp_tup {v : V} {ds : List D} (h : Dp K H v (.tuple ds)) : ∃ a xs, v = .ref a ∧ SqT K H a xs ∧ DpAll K H xs ds := by
  cases h with
  | tup hs ha => exact ⟨_, _, rfl, hs, ha⟩
theorem dp_lst {v : V} {ds : List D} (h : Dp K H v (.list ds)) : ∃ a xs, v = .ref a ∧ SqL K H a xs ∧ DpAll K H xs ds := by
  cases h with
  | lst hs ha => exact ⟨_, _, rfl, hs, ha⟩
end
/-- what a slot holds: nothing told, a datum, an owned list -/
inductive SV where
  | no | dat (d : D) | own (a : Addr)
def VR (K : PySem.W.Frag) (W : Hp) (v : V) : SV → Prop
  | .no => True
  | .dat d => Dp K W v d
  | .own a => v = .ref a
theorem VR.mono {K : PySem.W.Frag} {W W' : Hp} {v : V} (e : Ex W W') : ∀ {s : SV}, VR K W v s → VR K W' v s
  | .no, _ => trivial
  | .dat d, h => dp_mono e d v h
  | .own _, h => h
inductive VRs (K : PySem.W.Frag) (W : Hp) : List V → List SV → Prop
  | nil : VRs K W [] []
  | cons {v : V} {s : SV} {vs : List V} {ss : List SV} : VR K W v s → VRs K W vs ss → VRs K W (v :: vs) (s :: ss)
theorem VRs.mono {K : PySem.W.Frag} {W W' : Hp} (e : Ex W W') : ∀ {vs : List V} {ss : List SV}, VRs K W vs ss → VRs K W' vs ss
  | _, _, .nil => .nil
  | _, _, .cons a b => .cons (a.mono e) (VRs.mono e b)
theorem VRs.len {K : PySem.W.Frag} {W : Hp} : ∀ {vs : List V} {ss : List SV}, VRs K W vs ss → vs.length = ss.length
  | _, _, .nil => rfl
  | _, _, .cons _ t => congrArg (· + 1) (VRs.len t)
theorem VRs.get {K : PySem.W.Frag} {W : Hp} : ∀ {vs : List V} {ss : List SV} {i : Nat} {s : SV}, VRs K W vs ss → ss[i]? = some s → ∃ v, vs[i]? = some v ∧ VR K W v s
  | _, _, _, _, .nil, e => by simp at e
  | _, _, 0, _, .cons r _, e => by
    simp only [List.getElem?_cons_zero, Option.some.injEq] at e
    subst e
    exact ⟨_, rfl, r⟩
  | _, _, i + 1, d, .cons _ t, e => by
    obtain ⟨v, h1, h2⟩ := VRs.get (i := i) (s := d) t (by simpa using e)
    exact ⟨v, by simpa using h1, h2⟩
/-- the slots -/
structure SD (K : PySem.W.Frag) (W : Hp) (Δ : List SV) (σ : L2.St) : Prop where
  len : Δ.length = σ.length
  at_ : ∀ (i : Nat) (s : SV), Δ[i]? = some s → s = .no ∨ ∃ v, σ[i]? = some (some v) ∧ VR K W v s
theorem SD.mono {K : PySem.W.Frag} {W W' : Hp} {Δ : List SV} {σ : L2.St} (e : Ex W W') (h : SD K W Δ σ) : SD K W' Δ σ :=
  ⟨h.len, fun i s q => (h.at_ i s q).imp id fun ⟨v, a, b⟩ => ⟨v, a, b.mono e⟩⟩
theorem SD.set {K : PySem.W.Frag} {W : Hp} {Δ : List SV} {σ : L2.St} (h : SD K W Δ σ) (i : Nat) {v : V} {s : SV} (r : VR K W v s) : SD K W (Δ.set i s) (σ.set i (some v)) := by
  refine ⟨by rw [List.length_set, List.length_set]; exact h.len, fun j t q => ?_⟩
  by_cases e : i = j
  · subst e
    have hi : i < Δ.length := by
      have := (List.getElem?_eq_some_iff.mp q).1
      rwa [List.length_set] at this
    rw [List.getElem?_set_self hi] at q
    cases q
    exact .inr ⟨v, List.getElem?_set_self (by rw [← h.len]; exact hi), r⟩
  · rw [List.getElem?_set_ne e] at q
    rcases h.at_ j t q with z | ⟨u, a, b⟩
    · exact .inl z
    · exact .inr ⟨u, by rw [List.getElem?_set_ne e]; exact a, b⟩
abbrev Cont := List (Addr × List D)
abbrev adr (C : Cont) : List Addr := C.map (·.1)
structure Own (K : PySem.W.Frag) (O : List Addr) (C : Cont) (H : Hp) : Prop where
  own : ∀ p ∈ C, ∃ vs, H p.1 = some (.lst vs) ∧ DpAll K (vw (O ++ adr C) H) vs p.2
  trk : ∀ a ∈ O, ∃ o, H a = some o
  nd : (adr C).Nodup
structure Hold (K : PySem.W.Frag) (O : List Addr) (Δ : List SV) (C : Cont) (σ : L2.St) (H : Hp) : Prop where
  sd : SD K (vw (O ++ adr C) H) Δ σ
  ow : Own K O C H
/-- a step: what is not owned stays; what is owned behind it was owned or is new -/
structure Nxt (K : PySem.W.Frag) (O : List Addr) (C : Cont) (H : Hp) (C' : Cont) (H' : Hp) : Prop where
  stp : Stp (adr C) H H'
  sub : ∀ a ∈ adr C', a ∈ adr C ∨ H a = none
  ow : Own K O C' H'
section
variable {K : PySem.W.Frag} {O : List Addr} {Δ : List SV} {C C' C2 : Cont} {σ : L2.St} {H H' H2 : Hp}
theorem Nxt.out (n : Nxt K O C H C' H') {a : Addr} {o : HO} (h : a ∉ DL.adr C) (q : H a = some o) : a ∉ DL.adr C' := fun z => by
  rcases n.sub a z with y | y
  · exact h y
  · rw [q] at y; cases y
theorem Nxt.trans (a : Nxt K O C H C' H') (b : Nxt K O C' H' C2 H2) : Nxt K O C H C2 H2 := by
  refine ⟨fun x o n q => b.stp x o (a.out n q) (a.stp x o n q), fun x hx => ?_, b.ow⟩
  rcases b.sub x hx with y | y
  · exact a.sub x y
  · by_cases z : x ∈ DL.adr C
    · exact .inl z
    · right
      cases q : H x with
      | none => rfl
      | some o =>
        have := a.stp x o z q
        rw [y] at this
        cases this
theorem Nxt.view (a : Nxt K O C H C' H') : Ex (vw (O ++ DL.adr C) H) (vw (O ++ DL.adr C') H') := fun x o e => by
  obtain ⟨n, h⟩ := vw_of e
  have n1 : x ∉ O := fun z => n (List.mem_append_left _ z)
  have n2 : x ∉ DL.adr C := fun z => n (List.mem_append_right _ z)
  have n3 := a.out n2 h
  rw [vw_at fun z => (List.mem_append.mp z).elim n1 n3]
  exact a.stp x o n2 h
theorem Own.refl (h : Own K O C H) : Nxt K O C H C H := ⟨.refl, fun _ z => .inl z, h⟩
/-- only new things are tracked -/
theorem Own.ex (h : Own K O C H) (e : Ex H H') : Nxt K O C H C H' := by
  refine ⟨.of e, fun _ z => .inl z, ⟨fun p hp => ?_, fun a ha => ?_, h.nd⟩⟩
  · obtain ⟨vs, a, b⟩ := h.own p hp
    exact ⟨vs, e _ _ a, dpa_mono ((Stp.of (A := []) e).vw fun _ z => nomatch z) _ _ b⟩
  · obtain ⟨o, q⟩ := h.trk a ha
    exact ⟨o, e _ _ q⟩
theorem Hold.nxt (h : Hold K O Δ C σ H) (n : Nxt K O C H C' H') : Hold K O Δ C' σ H' := ⟨h.sd.mono n.view, n.ow⟩
theorem Own.seen (h : Own K O C H) {p : Addr} (hp : H p = none) : p ∉ O ++ DL.adr C := fun z => by
  rcases List.mem_append.mp z with z | z
  · obtain ⟨o, q⟩ := h.trk p z
    rw [hp] at q; cases q
  · obtain ⟨x, hx, e⟩ := List.mem_map.mp z
    obtain ⟨vs, q, _⟩ := h.own x hx
    rw [e, hp] at q; cases q
theorem Hold.set (h : Hold K O Δ C σ H) (i : Nat) {v : V} {s : SV} (r : VR K (vw (O ++ DL.adr C) H) v s) : Hold K O (Δ.set i s) C (σ.set i (some v)) H := ⟨h.sd.set i r, h.ow⟩
/-- a new tuple, a new list -/
theorem Own.newT (h : Own K O C H) {p : Addr} {xs : List V} {ds : List D} (hp : H p = none) (r : DpAll K (vw (O ++ DL.adr C) H) xs ds) :
    Nxt K O C H C (upd H p (.tup xs)) ∧ Dp K (vw (O ++ DL.adr C) (upd H p (.tup xs))) (.ref p) (.tuple ds) := by
  have n := h.ex (Evl.Ex.new (o := .tup xs) hp)
  refine ⟨n, .tup (SqT.of ?_) (dpa_mono n.view _ _ r)⟩
  rw [vw_at (h.seen hp), upd_same]
theorem Own.newL (h : Own K O C H) {p : Addr} {xs : List V} {ds : List D} (hp : H p = none) (r : DpAll K (vw (O ++ DL.adr C) H) xs ds) :
    Nxt K O C H C (upd H p (.lst xs)) ∧ Dp K (vw (O ++ DL.adr C) (upd H p (.lst xs))) (.ref p) (.list ds) := by
  have n := h.ex (Evl.Ex.new (o := .lst xs) hp)
  refine ⟨n, .lst (SqL.of ?_) (dpa_mono n.view _ _ r)⟩
  rw [vw_at (h.seen hp), upd_same]
end
/-! ### the weakest readings -/
def Bst (X : Cx) (e : Expr) : TE := fun σ H Q => ∀ pins s, Inv X pins σ H s → wpAny (model X.prog X.w) X.A (eval e X.env) (EP X pins σ Q) X.xe s
def BstT (X : Cx) (e : Expr) : TT := fun σ H Q => ∀ pins s, Inv X pins σ H s → wpAny (model X.prog X.w) X.A (isTrue e X.env (eval e X.env)) (TP X pins σ Q) X.xe s
def BstA (X : Cx) (es : List Expr) : TA := fun σ H Q => ∀ pos pins s, Inv X pins σ H s → wpAny (model X.prog X.w) X.A (spliced (backTo pos (starEach es X.env))) (AP X pins σ Q) X.xe s
def BstS (X : Cx) (st : Stmt) : TS := fun E σ H => ∀ pins s, Inv X pins σ H s → wpAny (model X.prog X.w) X.A (exec st X.env) (SP X pins E) X.xe s
def BstB (X : Cx) (sts : List Stmt) : TS := fun E σ H => ∀ pins s, Inv X pins σ H s → wpAny (model X.prog X.w) X.A (execs sts X.env) (SP X pins E) X.xe s
section
variable {X : Cx} {e : Expr} {es : List Expr} {st : Stmt} {sts : List Stmt} {σ : L2.St} {H : Hp}
theorem bst : PE X e (Bst X e) := ⟨fun pins s σ H Q I h => h pins s I⟩
theorem bstT : PT X e (BstT X e) := ⟨fun pins s σ H Q I h => h pins s I⟩
theorem bstA : PA X es (BstA X es) := ⟨fun pos pins s σ H Q I h => h pos pins s I⟩
theorem bstS : PS X st (BstS X st) := ⟨fun pins s σ H D I h => h pins s I⟩
theorem bstB : PSs X sts (BstB X sts) := ⟨fun pins s σ H D I h => h pins s I⟩
theorem goE {t : TE} (p : PE X e t) {Q : VK} (h : t σ H Q) : Bst X e σ H Q := fun pins s I => p.run pins s σ H Q I h
theorem goT {t : TT} (p : PT X e t) {Q : Bool → Hp → Prop} (h : t σ H Q) : BstT X e σ H Q := fun pins s I => p.run pins s σ H Q I h
theorem goA {t : TA} (p : PA X es t) {Q : List V → Hp → Prop} (h : t σ H Q) : BstA X es σ H Q := fun pos pins s I => p.run pos pins s σ H Q I h
theorem goS {t : TS} (p : PS X st t) {E : Ends} (h : t E σ H) : BstS X st E σ H := fun pins s I => p.run pins s σ H E I h
theorem goB {t : TS} (p : PSs X sts t) {E : Ends} (h : t E σ H) : BstB X sts E σ H := fun pins s I => p.run pins s σ H E I h
end
/-! ### judgements -/
/-- the expression comes to something of P -/
def EvP (X : Cx) (O : List Addr) (e : Expr) (Δ : List SV) (C : Cont) (P : SV → Cont → Prop) : Prop :=
  ∀ σ H, Hold X.K O Δ C σ H → ∀ Q : VK, (∀ v H' s C', Nxt X.K O C H C' H' → VR X.K (vw (O ++ adr C') H') v s → P s C' → Q v H') → Bst X e σ H Q
/-- .. to this datum, nothing changed -/
def EvD (X : Cx) (O : List Addr) (e : Expr) (Δ : List SV) (C : Cont) (d : D) : Prop :=
  ∀ σ H, Hold X.K O Δ C σ H → ∀ Q : VK, (∀ v H', Nxt X.K O C H C H' → Dp X.K (vw (O ++ adr C) H') v d → Q v H') → Bst X e σ H Q
def EvT (X : Cx) (O : List Addr) (e : Expr) (Δ : List SV) (C : Cont) (b : Bool) : Prop :=
  ∀ σ H, Hold X.K O Δ C σ H → ∀ Q : Bool → Hp → Prop, (∀ H', Nxt X.K O C H C H' → Q b H') → BstT X e σ H Q
def TvP (X : Cx) (O : List Addr) (e : Expr) (Δ : List SV) (C : Cont) (P : Bool → Cont → Prop) : Prop :=
  ∀ σ H, Hold X.K O Δ C σ H → ∀ Q : Bool → Hp → Prop, (∀ b H' C', Nxt X.K O C H C' H' → P b C' → Q b H') → BstT X e σ H Q
def EvA (X : Cx) (O : List Addr) (es : List Expr) (Δ : List SV) (C : Cont) (ss : List SV) : Prop :=
  ∀ σ H, Hold X.K O Δ C σ H → ∀ Q : List V → Hp → Prop, (∀ vs H', Nxt X.K O C H C H' → VRs X.K (vw (O ++ adr C) H') vs ss → Q vs H') → BstA X es σ H Q
def AvP (X : Cx) (O : List Addr) (es : List Expr) (Δ : List SV) (C : Cont) (P : List SV → Cont → Prop) : Prop :=
  ∀ σ H, Hold X.K O Δ C σ H → ∀ Q : List V → Hp → Prop, (∀ vs H' ss C', Nxt X.K O C H C' H' → VRs X.K (vw (O ++ adr C') H') vs ss → P ss C' → Q vs H') → BstA X es σ H Q
/-- a block: N behind it, R of what it returns -/
def BvP (X : Cx) (O : List Addr) (sts : List Stmt) (Δ : List SV) (C : Cont) (N : List SV → Cont → Prop) (R : SV → Cont → Prop) : Prop :=
  ∀ σ H, Hold X.K O Δ C σ H → ∀ E : Ends, (∀ σ' H' Δ' C', Nxt X.K O C H C' H' → Hold X.K O Δ' C' σ' H' → N Δ' C' → E.nx σ' H') →
    (∀ v H' s C', Nxt X.K O C H C' H' → VR X.K (vw (O ++ adr C') H') v s → R s C' → E.rt v H') → BstB X sts E σ H
section
variable {X : Cx} {O : List Addr} {e : Expr} {es : List Expr} {Δ : List SV} {C : Cont}
theorem EvD.p {d : D} (h : EvD X O e Δ C d) {P : SV → Cont → Prop} (hp : P (.dat d) C) : EvP X O e Δ C P := fun σ H hd Q q =>
  h σ H hd Q fun v H' n r => q v H' (.dat d) C n r hp
theorem EvT.p {b : Bool} (h : EvT X O e Δ C b) {P : Bool → Cont → Prop} (hp : P b C) : TvP X O e Δ C P := fun σ H hd Q q =>
  h σ H hd Q fun H' n => q b H' C n hp
theorem EvA.p {ss : List SV} (h : EvA X O es Δ C ss) {P : List SV → Cont → Prop} (hp : P ss C) : AvP X O es Δ C P := fun σ H hd Q q =>
  h σ H hd Q fun v H' n r => q v H' ss C n r hp
theorem EvP.d {d : D} (h : EvP X O e Δ C fun s C' => s = .dat d ∧ C' = C) : EvD X O e Δ C d := fun σ H hd Q q =>
  h σ H hd Q fun v H' s C' n r ⟨e1, e2⟩ => by
    subst e1 e2
    exact q v H' n r
theorem EvP.imp {P P' : SV → Cont → Prop} (h : EvP X O e Δ C P) (i : ∀ s C', P s C' → P' s C') : EvP X O e Δ C P' := fun σ H hd Q q =>
  h σ H hd Q fun v H' s C' n r p => q v H' s C' n r (i s C' p)
end
end DL

/-! part Dl2 -/
set_option Elab.async false
set_option linter.all false
set_option maxRecDepth 100000
set_option maxHeartbeats 4000000
/-! Expressions. -/
namespace DL
open PySem PySem.Spec PyProof.Rows L2
section
variable {X : Cx} {O : List Addr} {Δ : List SV} {C : Cont} {P : SV → Cont → Prop} {pos : Pos}
/-! ### names, constants -/
theorem ev_name {i : Nat} {x : Str} {d : D} (hΔ : Δ[i]? = some (.dat d)) (hN : X.N[i]? = some x := by rfl) (hv : Vis X.env.scope x := by first | exact Or.inl rfl | exact Or.inr (Or.inl rfl) | exact Or.inr (Or.inr rfl))
    (h1 : (x == ("__debug__" : Str)) = false := by decide) (h2 : (x == ("__classdict__" : Str)) = false := by decide) : EvD X O (.Name x pos) Δ C d := fun σ H hd Q q => by
  rcases hd.sd.at_ i _ hΔ with z | ⟨v, a, b⟩
  · cases z
  · exact goE (pe_var hN hv h1 h2) ⟨v, a, q v H hd.ow.refl b⟩
theorem vp_own {i : Nat} {x : Str} {a : Addr} (hΔ : Δ[i]? = some (.own a)) (hp : P (.own a) C) (hN : X.N[i]? = some x := by rfl) (hv : Vis X.env.scope x := by first | exact Or.inl rfl | exact Or.inr (Or.inl rfl) | exact Or.inr (Or.inr rfl))
    (h1 : (x == ("__debug__" : Str)) = false := by decide) (h2 : (x == ("__classdict__" : Str)) = false := by decide) : EvP X O (.Name x pos) Δ C P := fun σ H hd Q q => by
  rcases hd.sd.at_ i _ hΔ with z | ⟨v, a, b⟩
  · cases z
  · exact goE (pe_var hN hv h1 h2) ⟨v, a, q v H _ C hd.ow.refl b hp⟩
theorem ev_int {i : Int} {j} : EvD X O (.Constant (.int i) j pos) Δ C (.int i) := fun σ H hd Q q => goE pe_int (q _ H hd.ow.refl (.int i))
theorem ev_bl {b : Bool} {j} : EvD X O (.Constant (.bool b) j pos) Δ C (.bool b) := fun σ H hd Q q => goE pe_bl (q _ H hd.ow.refl (.bl b))
theorem ev_non {j} : EvD X O (.Constant .none j pos) Δ C .none := fun σ H hd Q q => goE pe_non (q _ H hd.ow.refl .non)
theorem ev_str {x : Str} {j} : EvD X O (.Constant (.str x) j pos) Δ C (.str x) := fun σ H hd Q q => goE pe_str (q _ H hd.ow.refl (.str x))
/-- a name of the module -/
def Glo (K : PySem.W.Frag) (mg : Str → Option Value) (x : Str) (d : D) : Prop := ∃ u v, mg x = some u ∧ RelV v u ∧ ∀ W : Hp, Dp K W v d
theorem ev_glo {x : Str} {d : D} (h : Glo X.K X.mg x d) (hg : Gl X x := by rfl) (h1 : (x == ("__debug__" : Str)) = false := by decide) : EvD X O (.Name x pos) Δ C d := fun σ H hd Q q => by
  obtain ⟨u, v, a, b, c⟩ := h
  exact goE (pe_glob hg a b h1) (q v H hd.ow.refl (c _))
/-! ### operators -/
/-- what an operator gives of two data -/
def OpD (K : PySem.W.Frag) (O : List Addr) (r : R2) (C : Cont) (d e z : D) : Prop :=
  ∀ H v w, Own K O C H → Dp K (vw (O ++ adr C) H) v d → Dp K (vw (O ++ adr C) H) w e → ∀ Q : VK, (∀ u H', Nxt K O C H C H' → Dp K (vw (O ++ adr C) H') u z → Q u H') → r v w H Q
def UnD (K : PySem.W.Frag) (O : List Addr) (r : V → Hp → VK → Prop) (C : Cont) (d z : D) : Prop :=
  ∀ H v, Own K O C H → Dp K (vw (O ++ adr C) H) v d → ∀ Q : VK, (∀ u H', Nxt K O C H C H' → Dp K (vw (O ++ adr C) H') u z → Q u H') → r v H Q
/-- .. a built-in of its arguments -/
def CaD (K : PySem.W.Frag) (O : List Addr) (r : List V → Hp → VK → Prop) (C : Cont) (ss : List SV) (z : D) : Prop :=
  ∀ H vs, Own K O C H → VRs K (vw (O ++ adr C) H) vs ss → ∀ Q : VK, (∀ u H', Nxt K O C H C H' → Dp K (vw (O ++ adr C) H') u z → Q u H') → r vs H Q
variable {a b : Expr} {r : R2} {d e z : D}
theorem op_core {ta tb : TE} (P1 : SV → Cont → Prop) (ha : EvP X O a Δ C P1) (hb : ∀ s C1, P1 s C1 → ∃ d, s = .dat d ∧ EvP X O b Δ C1 fun t C2 => ∃ e z, t = .dat e ∧ OpD X.K O r C2 d e z ∧ P (.dat z) C2)
    {σ : L2.St} {H : Hp} (hd : Hold X.K O Δ C σ H) {Q : VK} (q : ∀ v H' s C', Nxt X.K O C H C' H' → VR X.K (vw (O ++ adr C') H') v s → P s C' → Q v H') : tOp r (Bst X a) (Bst X b) σ H Q := by
  refine ha σ H hd _ fun v H1 s C1 n1 r1 p1 => ?_
  obtain ⟨d, rfl, h2⟩ := hb s C1 p1
  refine h2 σ H1 (hd.nxt n1) _ fun w H2 t C2 n2 r2 ⟨e, z, et, od, p⟩ => ?_
  subst et
  exact od H2 v w n2.ow (dp_mono n2.view _ _ r1) r2 Q fun u H3 n3 r3 => q u H3 (.dat z) C2 ((n1.trans n2).trans n3) r3 p
theorem vp_op {op : Operator} (ho : OpR X (binaryOp op) r) (h : EvP X O a Δ C fun s C1 => ∃ d, s = .dat d ∧ EvP X O b Δ C1 fun t C2 => ∃ e z, t = .dat e ∧ OpD X.K O r C2 d e z ∧ P (.dat z) C2) : EvP X O (.BinOp a op b pos) Δ C P :=
  fun σ H hd Q q => goE (pe_op ho bst bst) (op_core (ta := Bst X a) (tb := Bst X b) _ h (fun _ _ h => h) hd q)
theorem ev_op {op : Operator} (ho : OpR X (binaryOp op) r) (ha : EvD X O a Δ C d) (hb : EvD X O b Δ C e) (od : OpD X.K O r C d e z) : EvD X O (.BinOp a op b pos) Δ C z :=
  EvP.d (vp_op ho (ha.p ⟨d, rfl, hb.p ⟨e, z, rfl, od, rfl, rfl⟩⟩))
theorem vp_cmp {op : CmpOp} (ho : OpR X (compareOp op) r) (h : EvP X O a Δ C fun s C1 => ∃ d, s = .dat d ∧ EvP X O b Δ C1 fun t C2 => ∃ e z, t = .dat e ∧ OpD X.K O r C2 d e z ∧ P (.dat z) C2)
    (hm : behindInMarks op b = false := by first | exact nomark _ | rfl) : EvP X O (.Compare a [op] [b] pos) Δ C P :=
  fun σ H hd Q q => goE (pe_cmpR ho bst bst hm) (op_core (ta := Bst X a) (tb := Bst X b) _ h (fun _ _ h => h) hd q)
theorem ev_cmp {op : CmpOp} (ho : OpR X (compareOp op) r) (ha : EvD X O a Δ C d) (hb : EvD X O b Δ C e) (od : OpD X.K O r C d e z) (hm : behindInMarks op b = false := by first | exact nomark _ | rfl) : EvD X O (.Compare a [op] [b] pos) Δ C z :=
  EvP.d (vp_cmp ho (ha.p ⟨d, rfl, hb.p ⟨e, z, rfl, od, rfl, rfl⟩⟩) hm)
theorem tv_cmp {PT : Bool → Cont → Prop} {op : CmpOp} (ho : OpR X (compareOp op) r) (h : EvP X O a Δ C fun s C1 => ∃ d, s = .dat d ∧ EvP X O b Δ C1 fun t C2 => ∃ e z, t = .dat e ∧ OpD X.K O r C2 d e (.bool z) ∧ PT z C2)
    (hm : behindInMarks op b = false := by first | exact nomark _ | rfl) : TvP X O (.Compare a [op] [b] pos) Δ C PT :=
  fun σ H hd Q q => by
    refine goT (pt_cmpR ho bst bst hm) ?_
    refine h σ H hd _ fun v H1 s C1 n1 r1 ⟨d, es, h2⟩ => ?_
    subst es
    refine h2 σ H1 (hd.nxt n1) _ fun w H2 t C2 n2 r2 ⟨e, z, et, od, p⟩ => ?_
    subst et
    refine od H2 v w n2.ow (dp_mono n2.view _ _ r1) r2 _ fun u H3 n3 r3 => ?_
    rw [dp_bl r3]
    exact ⟨z, rfl, q z H3 C2 ((n1.trans n2).trans n3) p⟩
theorem TvP.det {b : Bool} {e : Expr} (h : TvP X O e Δ C fun s C' => s = b ∧ C' = C) : EvT X O e Δ C b := fun σ H hd Q q =>
  h σ H hd Q fun v H' C' n ⟨e1, e2⟩ => by
    subst e1 e2
    exact q H' n
theorem et_cmp {op : CmpOp} {k : Bool} (ho : OpR X (compareOp op) r) (ha : EvD X O a Δ C d) (hb : EvD X O b Δ C e) (od : OpD X.K O r C d e (.bool k)) (hm : behindInMarks op b = false := by first | exact nomark _ | rfl) : EvT X O (.Compare a [op] [b] pos) Δ C k :=
  TvP.det (tv_cmp ho (ha.p ⟨d, rfl, hb.p ⟨e, k, rfl, od, rfl, rfl⟩⟩) hm)
/-! #### of ints -/
theorem od_int {K : PySem.W.Frag} {g : Int → Int → Int} {i j : Int} : OpD K O (rI0 fun i j => .int (g i j)) C (.int i) (.int j) (.int (g i j)) := fun H v w ow r1 r2 Q q => by
  rw [dp_int r1, dp_int r2]
  exact ⟨i, j, rfl, rfl, q _ H ow.refl (.int _)⟩
theorem od_intB {K : PySem.W.Frag} {g : Int → Int → Bool} {i j : Int} : OpD K O (rI0 fun i j => .bl (g i j)) C (.int i) (.int j) (.bool (g i j)) := fun H v w ow r1 r2 Q q => by
  rw [dp_int r1, dp_int r2]
  exact ⟨i, j, rfl, rfl, q _ H ow.refl (.bl _)⟩
theorem od_intC {K : PySem.W.Frag} {Cc : Int → Int → Prop} {g : Int → Int → Int} {i j : Int} (hc : Cc i j) : OpD K O (rI Cc fun i j => .int (g i j)) C (.int i) (.int j) (.int (g i j)) := fun H v w ow r1 r2 Q q => by
  rw [dp_int r1, dp_int r2]
  exact ⟨i, j, rfl, rfl, hc, q _ H ow.refl (.int _)⟩
theorem mulW {n m : Nat} {i j : Int} (hi : Bd n i) (hj : Bd m j) (h : n + m ≤ 900000) : CMulW i j :=
  wide_mul (a := n + 1) (b := m + 1) (Nat.lt_of_lt_of_le hi (Nat.pow_le_pow_right (by decide) (Nat.le_succ n))) (Nat.lt_of_lt_of_le hj (Nat.pow_le_pow_right (by decide) (Nat.le_succ m))) (Nat.succ_pos _) (Nat.succ_pos _) (by omega)
theorem divW {n : Nat} {i j : Int} (h0 : 0 < j) (hj : Bd n j) (h : n ≤ 8999) : CDivW i j :=
  wide_div (b := n + 1) h0 (Nat.lt_of_lt_of_le hj (Nat.pow_le_pow_right (by decide) (Nat.le_succ n))) (Nat.succ_pos _) (by omega)
section
variable {i j : Int}
theorem ev_add (ha : EvD X O a Δ C (.int i)) (hb : EvD X O b Δ C (.int j)) : EvD X O (.BinOp a .Add b pos) Δ C (.int (i + j)) := ev_op op_add ha hb od_int
theorem ev_sub (ha : EvD X O a Δ C (.int i)) (hb : EvD X O b Δ C (.int j)) : EvD X O (.BinOp a .Sub b pos) Δ C (.int (i - j)) := ev_op op_sub ha hb od_int
theorem ev_mul {n m : Nat} (ha : EvD X O a Δ C (.int i)) (hb : EvD X O b Δ C (.int j)) (hi : Bd n i) (hj : Bd m j) (h : n + m ≤ 900000 := by decide) : EvD X O (.BinOp a .Mult b pos) Δ C (.int (i * j)) := ev_op op_mulW ha hb (od_intC (mulW hi hj h))
theorem ev_div {n : Nat} (ha : EvD X O a Δ C (.int i)) (hb : EvD X O b Δ C (.int j)) (h0 : 0 < j) (hj : Bd n j) (h : n ≤ 8999 := by decide) : EvD X O (.BinOp a .FloorDiv b pos) Δ C (.int (i / j)) := ev_op op_fdivW ha hb (od_intC (divW h0 hj h))
theorem ev_mod (ha : EvD X O a Δ C (.int i)) (hb : EvD X O b Δ C (.int j)) (h0 : 0 < j) : EvD X O (.BinOp a .Mod b pos) Δ C (.int (i % j)) := ev_op op_mod ha hb (od_intC h0)
theorem ev_lt (ha : EvD X O a Δ C (.int i)) (hb : EvD X O b Δ C (.int j)) : EvD X O (.Compare a [.Lt] [b] pos) Δ C (.bool (decide (i < j))) := ev_cmp op_lt ha hb od_intB
theorem ev_gt (ha : EvD X O a Δ C (.int i)) (hb : EvD X O b Δ C (.int j)) : EvD X O (.Compare a [.Gt] [b] pos) Δ C (.bool (decide (j < i))) := ev_cmp op_gt ha hb od_intB
theorem et_lt (ha : EvD X O a Δ C (.int i)) (hb : EvD X O b Δ C (.int j)) : EvT X O (.Compare a [.Lt] [b] pos) Δ C (decide (i < j)) := et_cmp op_lt ha hb od_intB
theorem et_le (ha : EvD X O a Δ C (.int i)) (hb : EvD X O b Δ C (.int j)) : EvT X O (.Compare a [.LtE] [b] pos) Δ C (decide (i ≤ j)) := et_cmp op_le ha hb od_intB
theorem et_gt (ha : EvD X O a Δ C (.int i)) (hb : EvD X O b Δ C (.int j)) : EvT X O (.Compare a [.Gt] [b] pos) Δ C (decide (j < i)) := et_cmp op_gt ha hb od_intB
theorem et_ge (ha : EvD X O a Δ C (.int i)) (hb : EvD X O b Δ C (.int j)) : EvT X O (.Compare a [.GtE] [b] pos) Δ C (decide (j ≤ i)) := et_cmp op_ge ha hb od_intB
theorem vp_un {op : UnaryOp} {ru : V → Hp → VK → Prop} (ho : UnR X (unaryOp op) ru) (h : EvP X O a Δ C fun s C1 => ∃ d z, s = .dat d ∧ UnD X.K O ru C1 d z ∧ P (.dat z) C1) : EvP X O (.UnaryOp op a pos) Δ C P := fun σ H hd Q q =>
  goE (pe_un ho bst) (h σ H hd _ fun v H1 s C1 n1 r1 ⟨d, z, es, od, p⟩ => by
    subst es
    exact od H1 v n1.ow r1 Q fun u H2 n2 r2 => q u H2 (.dat z) C1 (n1.trans n2) r2 p)
theorem ev_neg (ha : EvD X O a Δ C (.int i)) : EvD X O (.UnaryOp .USub a pos) Δ C (.int (-i)) :=
  EvP.d (vp_un un_neg (ha.p ⟨_, .int (-i), rfl, fun H v ow r Q q => ⟨i, dp_int r, q _ H ow.refl (.int _)⟩, rfl, rfl⟩))
end
/-! #### == of data -/
theorem od_eq {K : PySem.W.Frag} (sd : SeqAt.shaped d = true) (se : SeqAt.shaped e = true) : OpD K O (rEqD K) C d e (.bool (PyData.eqv d e)) := fun H v w ow r1 r2 Q q =>
  ⟨d, e, dp_mono vw_sub _ _ r1, dp_mono vw_sub _ _ r2, sd, se, q _ H ow.refl (.bl _)⟩
theorem od_ne {K : PySem.W.Frag} (sd : SeqAt.shaped d = true) (se : SeqAt.shaped e = true) : OpD K O (rNeD K) C d e (.bool (!PyData.eqv d e)) := fun H v w ow r1 r2 Q q =>
  ⟨d, e, dp_mono vw_sub _ _ r1, dp_mono vw_sub _ _ r2, sd, se, q _ H ow.refl (.bl _)⟩
theorem hu64 {k : Nat} {A : Around} (hr : Room k A) : A.units + 64 < cLine := by have := hr.un; omega
theorem hu65 {k : Nat} {A : Around} (hr : Room k A) : A.units + 65 < cLine := by have := hr.un; omega
section
variable {k : Nat} (hr : Room k X.A)
include hr
theorem ev_eq (ha : EvD X O a Δ C d) (hb : EvD X O b Δ C e) (sd : SeqAt.shaped d = true) (se : SeqAt.shaped e = true) : EvD X O (.Compare a [.Eq] [b] pos) Δ C (.bool (PyData.eqv d e)) := ev_cmp (op_eqD (hu64 hr)) ha hb (od_eq sd se)
theorem ev_ne (ha : EvD X O a Δ C d) (hb : EvD X O b Δ C e) (sd : SeqAt.shaped d = true) (se : SeqAt.shaped e = true) : EvD X O (.Compare a [.NotEq] [b] pos) Δ C (.bool (!PyData.eqv d e)) := ev_cmp (op_neD (hu64 hr)) ha hb (od_ne sd se)
theorem et_eq (ha : EvD X O a Δ C d) (hb : EvD X O b Δ C e) (sd : SeqAt.shaped d = true) (se : SeqAt.shaped e = true) : EvT X O (.Compare a [.Eq] [b] pos) Δ C (PyData.eqv d e) := et_cmp (op_eqD (hu64 hr)) ha hb (od_eq sd se)
theorem et_ne (ha : EvD X O a Δ C d) (hb : EvD X O b Δ C e) (sd : SeqAt.shaped d = true) (se : SeqAt.shaped e = true) : EvT X O (.Compare a [.NotEq] [b] pos) Δ C (!PyData.eqv d e) := et_cmp (op_neD (hu64 hr)) ha hb (od_ne sd se)
end
/-! #### in, not in -/
def seqOf : D → Option (List D)
  | .list ds => some ds
  | .tuple ds => some ds
  | _ => none
def rInS (K : PySem.W.Frag) (neg : Bool) : R2 := fun x y H Q => ∃ d e ds, Dp K H x d ∧ Dp K H y e ∧ seqOf e = some ds ∧ SeqAt.shaped d = true ∧ PyData.canLayAll0 ds = true ∧
  Q (.bl (if neg then !ds.any fun z => PyData.eqv z d else ds.any fun z => PyData.eqv z d)) H
theorem op_inS (hu : X.A.units + 65 < cLine) : OpR X (compareOp .In) (rInS X.K false) := by
  rintro pins s σ H x y v u Q I rx ry ⟨d, e, ds, hd, he, hs, sd, se, q⟩
  obtain ⟨as, r1⟩ := Dp.reads I d x v hd rx
  obtain ⟨bs, r2⟩ := Dp.reads I e y u he ry
  have rm := room_in_shaped (xs := ds) sd hu
  have fin : EP X pins σ Q (.bool (ds.any fun z => PyData.eqv z d)) s := ⟨.bl _, H, I, rfl, q⟩
  cases e with
  | list es => cases hs; exact SeqAt.in_list_reads r2 r1 se (SeqAt.canLay_of_shaped sd) rm fin
  | tuple es => cases hs; exact SeqAt.in_tuple_reads r2 r1 se (SeqAt.canLay_of_shaped sd) rm fin
  | _ => cases hs
theorem op_notInS (hu : X.A.units + 65 < cLine) : OpR X (compareOp .NotIn) (rInS X.K true) := by
  rintro pins s σ H x y v u Q I rx ry ⟨d, e, ds, hd, he, hs, sd, se, q⟩
  obtain ⟨as, r1⟩ := Dp.reads I d x v hd rx
  obtain ⟨bs, r2⟩ := Dp.reads I e y u he ry
  have rm := room_in_shaped (xs := ds) sd hu
  have fin : EP X pins σ Q (.bool (!ds.any fun z => PyData.eqv z d)) s := ⟨.bl _, H, I, rfl, q⟩
  cases e with
  | list es => cases hs; exact SeqAt.notIn_list_reads r2 r1 se (SeqAt.canLay_of_shaped sd) rm fin
  | tuple es => cases hs; exact SeqAt.notIn_tuple_reads r2 r1 se (SeqAt.canLay_of_shaped sd) rm fin
  | _ => cases hs
theorem od_in {K : PySem.W.Frag} {neg : Bool} {ds : List D} (hs : seqOf e = some ds) (sd : SeqAt.shaped d = true) (se : PyData.canLayAll0 ds = true) :
    OpD K O (rInS K neg) C d e (.bool (if neg then !ds.any fun z => PyData.eqv z d else ds.any fun z => PyData.eqv z d)) := fun H v w ow r1 r2 Q q =>
  ⟨d, e, ds, dp_mono vw_sub _ _ r1, dp_mono vw_sub _ _ r2, hs, sd, se, q _ H ow.refl (.bl _)⟩
/-! #### is None -/
theorem ev_isN {j pos'} (ha : EvD X O a Δ C d) : EvD X O (.Compare a [.Is] [.Constant .none j pos'] pos) Δ C (.bool (match d with | .none => true | _ => false)) := fun σ H hd Q q =>
  goE (pe_cmp (pc_isN bst)) (ha σ H hd _ fun v H1 n1 r1 => q _ H1 n1 (by cases r1 <;> exact .bl _))
theorem et_isN {j pos'} (ha : EvD X O a Δ C d) : EvT X O (.Compare a [.Is] [.Constant .none j pos'] pos) Δ C (match d with | .none => true | _ => false) := fun σ H hd Q q =>
  goT (pt_cmp (pc_isN bst)) (ha σ H hd _ fun v H1 n1 r1 => ⟨_, rfl, by have := q H1 n1; cases r1 <;> exact this⟩)
theorem et_notN {j pos'} (ha : EvD X O a Δ C d) : EvT X O (.Compare a [.IsNot] [.Constant .none j pos'] pos) Δ C (match d with | .none => false | _ => true) := fun σ H hd Q q =>
  goT (pt_cmp (pc_notN bst)) (ha σ H hd _ fun v H1 n1 r1 => ⟨_, rfl, by have := q H1 n1; cases r1 <;> exact this⟩)
/-! ### and, or, not; a if t else b -/
theorem et_val {k : Bool} (h : EvD X O a Δ C (.bool k)) (he : ∀ whole, isTrue a X.env whole = (do let v ← whole; standAt a.pos; holding [v] (truthy v)) := by intro _; rfl) : EvT X O a Δ C k := fun σ H hd Q q =>
  goT (pt_val bst he) (h σ H hd _ fun v H1 n1 r1 => ⟨k, dp_bl r1, q H1 n1⟩)
theorem et_not {k : Bool} (h : EvT X O a Δ C k) : EvT X O (.UnaryOp .Not a pos) Δ C (!k) := fun σ H hd Q q => goT (pt_not bstT) (h σ H hd _ fun H1 n1 => q H1 n1)
/-- a chain of and, or as a test -/
def EvW (X : Cx) (O : List Addr) (e : Expr) (Δ : List SV) (C : Cont) (k : Bool) : Prop :=
  ∃ t, PW X e t ∧ ∀ σ H, Hold X.K O Δ C σ H → ∀ Q : Bool → Hp → Prop, (∀ H', Nxt X.K O C H C H' → Q k H') → t σ H Q
theorem EvW.t {k : Bool} (h : EvW X O a Δ C k) : EvT X O a Δ C k := fun σ H hd Q q => by
  obtain ⟨t, w, h⟩ := h
  exact goT w.pt (h σ H hd Q q)
variable {rest : List Expr}
theorem ew_and1 {k : Bool} (h : EvT X O a Δ C k) : EvW X O (.BoolOp .And [a] pos) Δ C k := ⟨_, pw_and1 bstT, h⟩
theorem ew_or1 {k : Bool} (h : EvT X O a Δ C k) : EvW X O (.BoolOp .Or [a] pos) Δ C k := ⟨_, pw_or1 bstT, h⟩
theorem ew_and {k l : Bool} (h : EvT X O a Δ C k) (h2 : k = true → EvW X O (.BoolOp .And (b :: rest) pos) Δ C l) : EvW X O (.BoolOp .And (a :: b :: rest) pos) Δ C (k && l) := by
  cases k with
  | true =>
    obtain ⟨t, w, g⟩ := h2 rfl
    exact ⟨_, pw_and bstT w, fun σ H hd Q q => h σ H hd _ fun H1 n1 => iteT (g σ H1 (hd.nxt n1) Q fun H2 n2 => q H2 (n1.trans n2))⟩
  | false => exact ⟨_, pw_and bstT ⟨fun wh pins s σ H Q I z => (z : False).elim⟩, fun σ H hd Q q => h σ H hd _ fun H1 n1 => iteF (q H1 n1)⟩
theorem ew_or {k l : Bool} (h : EvT X O a Δ C k) (h2 : k = false → EvW X O (.BoolOp .Or (b :: rest) pos) Δ C l) : EvW X O (.BoolOp .Or (a :: b :: rest) pos) Δ C (k || l) := by
  cases k with
  | false =>
    obtain ⟨t, w, g⟩ := h2 rfl
    exact ⟨_, pw_or bstT w, fun σ H hd Q q => h σ H hd _ fun H1 n1 => iteF (g σ H1 (hd.nxt n1) Q fun H2 n2 => q H2 (n1.trans n2))⟩
  | true => exact ⟨_, pw_or bstT ⟨fun wh pins s σ H Q I z => (z : False).elim⟩, fun σ H hd Q q => h σ H hd _ fun H1 n1 => iteT (q H1 n1)⟩
/-- .. as values -/
theorem ev_one {op} (h : EvD X O a Δ C d) : EvD X O (.BoolOp op [a] pos) Δ C d := fun σ H hd Q q => goE (pe_one bst) (h σ H hd Q q)
theorem ev_and {k : Bool} {l : Bool} (h : EvD X O a Δ C (.bool k)) (h2 : k = true → EvD X O (.BoolOp .And (b :: rest) pos) Δ C (.bool l)) : EvD X O (.BoolOp .And (a :: b :: rest) pos) Δ C (.bool (k && l)) := fun σ H hd Q q =>
  goE (pe_and bst bst) (h σ H hd _ fun v H1 n1 r1 => ⟨k, dp_bl r1, by
    cases k with
    | true => exact iteT (h2 rfl σ H1 (hd.nxt n1) Q fun w H2 n2 r2 => q w H2 (n1.trans n2) r2)
    | false => exact iteF (q _ H1 n1 (.bl _))⟩)
theorem ev_or {k : Bool} {l : Bool} (h : EvD X O a Δ C (.bool k)) (h2 : k = false → EvD X O (.BoolOp .Or (b :: rest) pos) Δ C (.bool l)) : EvD X O (.BoolOp .Or (a :: b :: rest) pos) Δ C (.bool (k || l)) := fun σ H hd Q q =>
  goE (pe_or bst bst) (h σ H hd _ fun v H1 n1 r1 => ⟨k, dp_bl r1, by
    cases k with
    | false => exact iteF (h2 rfl σ H1 (hd.nxt n1) Q fun w H2 n2 r2 => q w H2 (n1.trans n2) r2)
    | true => exact iteT (q _ H1 n1 (.bl _))⟩)
theorem ev_not {k : Bool} (h : EvD X O a Δ C (.bool k)) : EvD X O (.UnaryOp .Not a pos) Δ C (.bool (!k)) := fun σ H hd Q q =>
  goE (pe_not bst) (h σ H hd _ fun v H1 n1 r1 => ⟨k, dp_bl r1, q _ H1 n1 (.bl _)⟩)
theorem vp_if {c : Expr} (h : TvP X O c Δ C fun k C1 => if k = true then EvP X O a Δ C1 P else EvP X O b Δ C1 P) : EvP X O (.IfExp c a b pos) Δ C P := fun σ H hd Q q =>
  goE (pe_ifExp bstT bst bst) (h σ H hd _ fun k H1 C1 n1 p => by
    cases k with
    | true => exact iteT ((show EvP X O a Δ C1 P from p) σ H1 (hd.nxt n1) Q fun v H2 s C2 n2 => q v H2 s C2 (n1.trans n2))
    | false => exact iteF ((show EvP X O b Δ C1 P from p) σ H1 (hd.nxt n1) Q fun v H2 s C2 n2 => q v H2 s C2 (n1.trans n2)))
theorem ev_if {c : Expr} {k : Bool} (h : EvT X O c Δ C k) (h1 : k = true → EvD X O a Δ C d) (h2 : k = false → EvD X O b Δ C d) : EvD X O (.IfExp c a b pos) Δ C d := by
  refine EvP.d (vp_if (h.p ?_))
  cases k with
  | true => exact iteT ((h1 rfl).p ⟨rfl, rfl⟩)
  | false => exact iteF ((h2 rfl).p ⟨rfl, rfl⟩)
/-! ### argument lists, displays -/
variable {es : List Expr} {PA' : List SV → Cont → Prop} {ss : List SV} {ds : List D}
theorem av_nil (h : PA' [] C) : AvP X O [] Δ C PA' := fun σ H hd Q q => goA pa_nil (q [] H [] C hd.ow.refl .nil h)
theorem av_cons (h : EvP X O a Δ C fun s C1 => AvP X O es Δ C1 fun ss C2 => PA' (s :: ss) C2) (hs : starEach (a :: es) X.env = (false, eval a X.env) :: starEach es X.env := by rfl) : AvP X O (a :: es) Δ C PA' := fun σ H hd Q q =>
  goA (pa_cons bst bstA hs) (h σ H hd _ fun v H1 s C1 n1 r1 h2 => h2 σ H1 (hd.nxt n1) _ fun vs H2 ss C2 n2 r2 p => q (v :: vs) H2 (s :: ss) C2 (n1.trans n2) (.cons (r1.mono n2.view) r2) p)
theorem dats {K : PySem.W.Frag} {W : Hp} : ∀ {vs : List V} {ds : List D}, DpAll K W vs ds → VRs K W vs (ds.map .dat)
  | _, _, .nil => .nil
  | _, _, .cons a b => .cons a (dats b)
theorem datsOf {K : PySem.W.Frag} {W : Hp} : ∀ {ds : List D} {vs : List V}, VRs K W vs (ds.map .dat) → DpAll K W vs ds
  | [], _, h => by cases h; exact .nil
  | d :: ds, _, h => by
    cases h with
    | cons a b => exact .cons a (datsOf b)
theorem vrsApp {K : PySem.W.Frag} {W : Hp} : ∀ {vs ws : List V} {ss ts : List SV}, VRs K W vs ss → VRs K W ws ts → VRs K W (vs ++ ws) (ss ++ ts)
  | _, _, _, _, .nil, s => s
  | _, _, _, _, .cons r t, s => .cons r (vrsApp t s)
theorem dp_seq {K : PySem.W.Frag} {W : Hp} {v : V} {e : D} {ds : List D} (h : Dp K W v e) (hs : seqOf e = some ds) : ∃ p xs, v = .ref p ∧ (SqT K W p xs ∨ SqL K W p xs) ∧ DpAll K W xs ds := by
  cases e with
  | list l =>
    cases hs
    obtain ⟨p, xs, e, a, b⟩ := dp_lst h
    exact ⟨p, xs, e, .inr a, b⟩
  | tuple l =>
    cases hs
    obtain ⟨p, xs, e, a, b⟩ := dp_tup h
    exact ⟨p, xs, e, .inl a, b⟩
  | _ => cases hs
theorem av_star {p : Pos} (h : EvP X O a Δ C fun s C1 => ∃ e ds, s = .dat e ∧ seqOf e = some ds ∧ AvP X O es Δ C1 fun ss C2 => PA' (ds.map .dat ++ ss) C2) (hs : starEach (.Starred a p :: es) X.env = (true, eval a X.env) :: starEach es X.env := by rfl) :
    AvP X O (.Starred a p :: es) Δ C PA' := fun σ H hd Q q =>
  goA (StX.pa_star bst bstA hs) (h σ H hd _ fun v H1 s C1 n1 r1 ⟨e, ds, e1, e2, h2⟩ => by
    subst e1
    obtain ⟨p, xs, ev, hq, ha⟩ := dp_seq r1 e2
    exact ⟨p, xs, ev, hq.imp (Evl.ex_t vw_sub) (Evl.ex_l vw_sub), h2 σ H1 (hd.nxt n1) _ fun vs H2 ss C2 n2 r2 p => q (xs ++ vs) H2 _ C2 (n1.trans n2) (vrsApp (dats (dpa_mono n2.view _ _ ha)) r2) p⟩)
theorem EvA.of (h : AvP X O es Δ C fun ss' C' => ss' = ss ∧ C' = C) : EvA X O es Δ C ss := fun σ H hd Q q =>
  h σ H hd Q fun v H' s C' n r ⟨e1, e2⟩ => by
    subst e1 e2
    exact q v H' n r
theorem ea_nil : EvA X O [] Δ C [] := EvA.of (av_nil ⟨rfl, rfl⟩)
theorem ea_cons (h : EvD X O a Δ C d) (h2 : EvA X O es Δ C ss) (hs : starEach (a :: es) X.env = (false, eval a X.env) :: starEach es X.env := by rfl) : EvA X O (a :: es) Δ C (.dat d :: ss) :=
  EvA.of (av_cons (h.p (h2.p ⟨rfl, rfl⟩)) hs)
theorem ea_own {i : Nat} {x : Str} {l : Addr} {pos : Pos} (hΔ : Δ[i]? = some (.own l)) (h2 : EvA X O es Δ C ss) (hN : X.N[i]? = some x := by rfl) (hv : Vis X.env.scope x := by first | exact Or.inl rfl | exact Or.inr (Or.inl rfl) | exact Or.inr (Or.inr rfl))
    (h1 : (x == ("__debug__" : Str)) = false := by decide) (h3 : (x == ("__classdict__" : Str)) = false := by decide) (hs : starEach (.Name x pos :: es) X.env = (false, eval (.Name x pos) X.env) :: starEach es X.env := by rfl) : EvA X O (.Name x pos :: es) Δ C (.own l :: ss) :=
  EvA.of (av_cons (vp_own hΔ (h2.p ⟨rfl, rfl⟩) hN hv h1 h3) hs)
theorem ea_star {p : Pos} (h : EvD X O a Δ C e) (hq : seqOf e = some ds) (h2 : EvA X O es Δ C ss) (hs : starEach (.Starred a p :: es) X.env = (true, eval a X.env) :: starEach es X.env := by rfl) : EvA X O (.Starred a p :: es) Δ C (ds.map .dat ++ ss) :=
  EvA.of (av_star (h.p ⟨e, ds, rfl, hq, h2.p ⟨rfl, rfl⟩⟩) hs)
theorem vrs_len {K : PySem.W.Frag} {W : Hp} {vs : List V} (r : VRs K W vs (ds.map .dat)) : vs.length = ds.length := by
  have := r.len
  rwa [List.length_map] at this
theorem vp_tup {k} (h : AvP X O es Δ C fun ss C1 => ∃ ds, ss = ds.map .dat ∧ ds.length ≤ 100000 ∧ P (.dat (.tuple ds)) C1) : EvP X O (.Tuple es k pos) Δ C P := fun σ H hd Q q =>
  goE (pe_tup bstA) (h σ H hd _ fun vs H1 ss C1 n1 r1 ⟨ds, es, hl, p⟩ => by
    subst es
    refine ⟨Evl.sz_of (by rw [vrs_len r1]; exact hl), fun t ht => ?_⟩
    obtain ⟨n2, r2⟩ := n1.ow.newT ht (datsOf r1)
    exact q _ _ (.dat (.tuple ds)) C1 (n1.trans n2) r2 p)
theorem ev_tup {k} (h : EvA X O es Δ C (ds.map .dat)) (hl : ds.length ≤ 100000 := by decide) : EvD X O (.Tuple es k pos) Δ C (.tuple ds) := EvP.d (vp_tup (h.p ⟨ds, rfl, hl, rfl, rfl⟩))
theorem vp_lst (h : AvP X O es Δ C fun ss C1 => ∃ ds, ss = ds.map .dat ∧ ds.length ≤ 100000 ∧ P (.dat (.list ds)) C1) : EvP X O (.List es pos) Δ C P := fun σ H hd Q q =>
  goE (pe_lst bstA) (h σ H hd _ fun vs H1 ss C1 n1 r1 ⟨ds, es, hl, p⟩ => by
    subst es
    refine ⟨Evl.sz_of (by rw [vrs_len r1]; exact hl), fun t ht => ?_⟩
    obtain ⟨n2, r2⟩ := n1.ow.newL ht (datsOf r1)
    exact q _ _ (.dat (.list ds)) C1 (n1.trans n2) r2 p)
theorem ev_lst (h : EvA X O es Δ C (ds.map .dat)) (hl : ds.length ≤ 100000 := by decide) : EvD X O (.List es pos) Δ C (.list ds) := EvP.d (vp_lst (h.p ⟨ds, rfl, hl, rfl, rfl⟩))
/-! ### items, slices -/
theorem atI_of {α : Type} {l : List α} {i : Int} {x : α} (h0 : 0 ≤ i) (h : l[i.toNat]? = some x) : atI l i = some x := by
  have e : i = (i.toNat : Int) := (Int.toNat_of_nonneg h0).symm
  rw [e]
  exact atI_nat h
def rIxS (K : PySem.W.Frag) : R2 := fun x y H Q => rIxT K x y H Q ∨ rIxL K x y H Q
theorem od_ix {K : PySem.W.Frag} {i : Int} (hs : seqOf d = some ds) (h0 : 0 ≤ i) (h : ds[i.toNat]? = some z) : OpD K O (rIxS K) C d (.int i) z := fun H v w ow r1 r2 Q q => by
  obtain ⟨p, xs, ev, hq, ha⟩ := dp_seq r1 hs
  obtain ⟨u, hu, ru⟩ := ha.get h
  rw [dp_int r2]
  rcases hq with hq | hq
  · exact .inl ⟨p, xs, i, u, ev, rfl, Evl.ex_t vw_sub hq, atI_of h0 hu, q u H ow.refl ru⟩
  · exact .inr ⟨p, xs, i, u, ev, rfl, Evl.ex_l vw_sub hq, atI_of h0 hu, q u H ow.refl ru⟩
theorem ix_S : IxR X (rIxS X.K) := IxR.or ix_tup ix_list
theorem vp_ix (h : EvP X O a Δ C fun s C1 => ∃ d, s = .dat d ∧ EvP X O b Δ C1 fun t C2 => ∃ e z, t = .dat e ∧ OpD X.K O (rIxS X.K) C2 d e z ∧ P (.dat z) C2) (hp : PlainIx b := by exact fun _ _ => rfl) : EvP X O (.Subscript a b pos) Δ C P :=
  fun σ H hd Q q => goE (pe_ix ix_S bst bst hp) (op_core (ta := Bst X a) (tb := Bst X b) _ h (fun _ _ h => h) hd q)
theorem ev_ix {i : Int} (ha : EvD X O a Δ C d) (hb : EvD X O b Δ C (.int i)) (hs : seqOf d = some ds) (h : ds[i.toNat]? = some z) (h0 : 0 ≤ i := by decide) (hp : PlainIx b := by exact fun _ _ => rfl) : EvD X O (.Subscript a b pos) Δ C z :=
  EvP.d (vp_ix (ha.p ⟨d, rfl, hb.p ⟨_, z, rfl, od_ix hs h0 h, rfl, rfl⟩⟩) hp)
theorem cutV_to {xs : List V} {k : Nat} : cutV xs none (some (k : Int)) = xs.take k := by
  unfold cutV
  rw [HT.sIx_none, HT.sIx_nat]
  show xs.take (min k xs.length - 0) = _
  rw [Nat.sub_zero, ← List.take_eq_take_min]
theorem cutV_from {xs : List V} {k : Nat} : cutV xs (some (k : Int)) none = xs.drop k := by
  unfold cutV
  rw [HT.sIx_none, HT.sIx_nat]
  rw [List.take_of_length_le (by rw [List.length_drop]; exact Nat.le_refl _)]
  by_cases h : k ≤ xs.length
  · rw [Nat.min_eq_left h]
  · rw [Nat.min_eq_right (by omega), List.drop_length, List.drop_eq_nil_of_le (by omega)]
/-- a part of a slice -/
def EvO (X : Cx) (O : List Addr) (e : Option Expr) (Δ : List SV) (C : Cont) (o : Option Int) : Prop :=
  ∃ t, PO X e t ∧ ∀ σ H, Hold X.K O Δ C σ H → ∀ Q : Option Int → Hp → Prop, (∀ H', Nxt X.K O C H C H' → Q o H') → t σ H Q
theorem eo_none : EvO X O none Δ C none := ⟨_, po_none, fun σ H hd Q q => q H hd.ow.refl⟩
theorem eo_some {i : Int} (h : EvD X O a Δ C (.int i)) : EvO X O (some a) Δ C (some i) := ⟨_, po_some bst, fun σ H hd Q q => h σ H hd _ fun v H1 n1 r1 => ⟨i, dp_int r1, q H1 n1⟩⟩
theorem ev_slT {lo hi : Option Expr} {l h : Option Int} {p2 : Pos} (ha : EvD X O a Δ C (.tuple ds)) (hl : EvO X O lo Δ C l) (hh : EvO X O hi Δ C h) {f : List V → List V} {g : List D → List D} (hf : ∀ xs, cutV xs l h = f xs)
    (hg : ∀ K W xs ds, DpAll K W xs ds → DpAll K W (f xs) (g ds)) (hw : ∀ xs : List V, HT.sIx xs.length 0 l = 0 ∧ HT.sIx xs.length xs.length h = xs.length → f xs = xs) : EvD X O (.Subscript a (.Slice lo hi none p2) pos) Δ C (.tuple (g ds)) := by
  obtain ⟨tl, pl, el⟩ := hl
  obtain ⟨th, ph, eh⟩ := hh
  refine fun σ H hd Q q => goE (pe_slice sl_tupA bst pl ph) (ha σ H hd _ fun v H1 n1 r1 => el σ H1 (hd.nxt n1) _ fun H2 n2 => eh σ H2 ((hd.nxt n1).nxt n2) _ fun H3 n3 => ?_)
  have n := (n1.trans n2).trans n3
  obtain ⟨p, xs, ev, hq, hda⟩ := dp_tup (dp_mono (n2.trans n3).view _ _ r1)
  refine ⟨p, xs, ev, Evl.ex_t vw_sub hq, fun c => q _ H3 n ?_, fun c t ht => ?_⟩
  · have z := hg _ _ _ _ hda
    rw [hw xs c] at z
    exact .tup hq z
  · have z := hg _ _ _ _ hda
    rw [← hf xs] at z
    obtain ⟨n4, r4⟩ := n3.ow.newT ht z
    exact q _ _ (n.trans n4) r4
theorem ev_slL {lo hi : Option Expr} {l h : Option Int} {p2 : Pos} (ha : EvD X O a Δ C (.list ds)) (hl : EvO X O lo Δ C l) (hh : EvO X O hi Δ C h) {f : List V → List V} {g : List D → List D} (hf : ∀ xs, cutV xs l h = f xs)
    (hg : ∀ K W xs ds, DpAll K W xs ds → DpAll K W (f xs) (g ds)) : EvD X O (.Subscript a (.Slice lo hi none p2) pos) Δ C (.list (g ds)) := by
  obtain ⟨tl, pl, el⟩ := hl
  obtain ⟨th, ph, eh⟩ := hh
  refine fun σ H hd Q q => goE (pe_slice sl_list bst pl ph) (ha σ H hd _ fun v H1 n1 r1 => el σ H1 (hd.nxt n1) _ fun H2 n2 => eh σ H2 ((hd.nxt n1).nxt n2) _ fun H3 n3 => ?_)
  obtain ⟨p, xs, ev, hq, hda⟩ := dp_lst (dp_mono (n2.trans n3).view _ _ r1)
  refine ⟨p, xs, ev, Evl.ex_l vw_sub hq, fun t ht => ?_⟩
  have z := hg _ _ _ _ hda
  rw [← hf xs] at z
  obtain ⟨n4, r4⟩ := n3.ow.newL ht z
  exact q _ _ (((n1.trans n2).trans n3).trans n4) r4
theorem ev_toT {p2 : Pos} {k : Nat} (ha : EvD X O a Δ C (.tuple ds)) (hb : EvD X O b Δ C (.int (k : Int))) : EvD X O (.Subscript a (.Slice none (some b) none p2) pos) Δ C (.tuple (ds.take k)) :=
  ev_slT ha eo_none (eo_some hb) (f := fun xs => xs.take k) (fun xs => cutV_to) (fun K W xs ds h => h.take k) fun xs c => by
    have z := c.2
    rw [HT.sIx_nat] at z
    exact List.take_of_length_le (by omega)
theorem ev_fromT {p2 : Pos} {k : Nat} (ha : EvD X O a Δ C (.tuple ds)) (hb : EvD X O b Δ C (.int (k : Int))) : EvD X O (.Subscript a (.Slice (some b) none none p2) pos) Δ C (.tuple (ds.drop k)) :=
  ev_slT ha (eo_some hb) eo_none (f := fun xs => xs.drop k) (fun xs => cutV_from) (fun K W xs ds h => h.drop k) fun xs c => by
    have z := c.1
    rw [HT.sIx_nat] at z
    by_cases hx : xs.length = 0
    · rw [List.length_eq_zero_iff.mp hx, List.drop_nil]
    · have : k = 0 := by omega
      rw [this, List.drop_zero]
theorem ev_toL {p2 : Pos} {k : Nat} (ha : EvD X O a Δ C (.list ds)) (hb : EvD X O b Δ C (.int (k : Int))) : EvD X O (.Subscript a (.Slice none (some b) none p2) pos) Δ C (.list (ds.take k)) :=
  ev_slL ha eo_none (eo_some hb) (f := fun xs => xs.take k) (fun xs => cutV_to) (fun K W xs ds h => h.take k)
/-! ### list + list -/
def rCatS (K : PySem.W.Frag) : R2 := fun x y H Q => ∃ l b xs zs, x = .ref l ∧ y = .ref b ∧ SqL K H l xs ∧ SqL K H b zs ∧ xs.length + zs.length ≤ sizeLine ∧
  ∀ p, H p = none → Q (.ref p) (upd H p (.lst (xs ++ zs)))
theorem op_catS : OpR X (binaryOp .Add) (rCatS X.K) := by
  rintro pins s σ H x y v u Q I rx ry ⟨l, b, xs, zs, rfl, rfl, h1, h2, hz, q⟩
  cases rx
  cases ry
  obtain ⟨vs, r1, p1, _⟩ := I.list h1
  obtain ⟨ws, r2, p2, _⟩ := I.list h2
  obtain ⟨⟨cls, dd, data, sl⟩, ho, hc, n, hd⟩ := p1.isList
  obtain ⟨⟨cls2, dd2, data2, sl2⟩, ho2, hc2, n2, hd2⟩ := p2.isList
  simp only at hc hd hc2 hd2
  subst hc hd hc2 hd2
  have z1 := r1.length
  have z2 := r2.length
  have ea : vs.toArray ++ ws.toArray = (vs ++ ws).toArray := by simp
  refine concat_meets ⟨_, ho, rfl⟩ ⟨_, ho2, rfl⟩ noFill_list_add seq_list_add PySem.F.slot_list_add
    PySem.F.entry_list_add (PySem.F.args_list_add_2 _ _)
    (list_addW l b vs.toArray ws.toArray n n2 dd dd2 sl sl2 (by rw [List.size_toArray, List.size_toArray]; omega)) ⟨ho, ho2, ?_⟩
  rw [ea]
  exact ⟨.ref _, _, I.lnew (t' := s.toks) (r1.append r2) (by rw [List.length_append]; exact hz), rfl, q _ I.fresh⟩
theorem od_cat {K : PySem.W.Frag} {es : List D} (hl : ds.length + es.length ≤ 100000) : OpD K O (rCatS K) C (.list ds) (.list es) (.list (ds ++ es)) := fun H v w ow r1 r2 Q q => by
  obtain ⟨l, xs, e1, h1, a1⟩ := dp_lst r1
  obtain ⟨m, zs, e2, h2, a2⟩ := dp_lst r2
  refine ⟨l, m, xs, zs, e1, e2, Evl.ex_l vw_sub h1, Evl.ex_l vw_sub h2, Evl.sz_of (by rw [a1.len, a2.len]; exact hl), fun p hp => ?_⟩
  obtain ⟨n, r⟩ := ow.newL hp (a1.app a2)
  exact q _ _ n r
theorem ev_cat {es : List D} (ha : EvD X O a Δ C (.list ds)) (hb : EvD X O b Δ C (.list es)) (hl : ds.length + es.length ≤ 100000) : EvD X O (.BinOp a .Add b pos) Δ C (.list (ds ++ es)) := ev_op op_catS ha hb (od_cat hl)
/-! ### calls -/
variable {x : Str} {p : Pos} {id T : String} {rc : List V → Hp → VK → Prop}
theorem vp_callB (hc : CallR X (.builtin id) rc) (hm : X.mg x = none) (hv : bootBuiltins x = some (.builtin id)) (h : AvP X O (a :: es) Δ C fun ss C1 => ∃ z, CaD X.K O rc C1 ss z ∧ P (.dat z) C1) (hg : Gl X x := by rfl) (hn : x ≠ "__name__" := by decide) (hdb : (x == ("__debug__" : Str)) = false := by decide)
    (he : starEach (a :: es) X.env = (false, eval a X.env) :: starEach es X.env := by rfl) (hpl : (backTo pos (starEach es X.env)).any (·.1) = false := by rfl) : EvP X O (.Call (.Name x p) (a :: es) [] pos) Δ C P := fun σ H hd Q q =>
  goE (pe_callB hc hg hm hv bstA hn hdb he hpl) (h σ H hd _ fun vs H1 ss C1 n1 r1 ⟨z, c, pz⟩ => c H1 vs n1.ow r1 Q fun u H2 n2 r2 => q u H2 (.dat z) C1 (n1.trans n2) r2 pz)
theorem vp_callT (hc : CallR X (.type T) rc) (hm : X.mg x = none) (hv : bootBuiltins x = some (.type T)) (h : AvP X O (a :: es) Δ C fun ss C1 => ∃ z, CaD X.K O rc C1 ss z ∧ P (.dat z) C1) (hg : Gl X x := by rfl) (hn : x ≠ "__name__" := by decide) (hdb : (x == ("__debug__" : Str)) = false := by decide)
    (he : starEach (a :: es) X.env = (false, eval a X.env) :: starEach es X.env := by rfl) (hpl : (backTo pos (starEach es X.env)).any (·.1) = false := by rfl) : EvP X O (.Call (.Name x p) (a :: es) [] pos) Δ C P := fun σ H hd Q q =>
  goE (pe_callTy hc hg hm hv bstA hn hdb he hpl) (h σ H hd _ fun vs H1 ss C1 n1 r1 ⟨z, c, pz⟩ => c H1 vs n1.ow r1 Q fun u H2 n2 r2 => q u H2 (.dat z) C1 (n1.trans n2) r2 pz)
theorem ev_callB (hc : CallR X (.builtin id) rc) (hm : X.mg x = none) (hv : bootBuiltins x = some (.builtin id)) (h : EvA X O (a :: es) Δ C ss) (c : CaD X.K O rc C ss z) (hg : Gl X x := by rfl) (hn : x ≠ "__name__" := by decide) (hdb : (x == ("__debug__" : Str)) = false := by decide)
    (he : starEach (a :: es) X.env = (false, eval a X.env) :: starEach es X.env := by rfl) (hpl : (backTo pos (starEach es X.env)).any (·.1) = false := by rfl) : EvD X O (.Call (.Name x p) (a :: es) [] pos) Δ C z :=
  EvP.d (vp_callB hc hm hv (h.p ⟨z, c, rfl, rfl⟩) hg hn hdb he hpl)
theorem ev_callT (hc : CallR X (.type T) rc) (hm : X.mg x = none) (hv : bootBuiltins x = some (.type T)) (h : EvA X O (a :: es) Δ C ss) (c : CaD X.K O rc C ss z) (hg : Gl X x := by rfl) (hn : x ≠ "__name__" := by decide) (hdb : (x == ("__debug__" : Str)) = false := by decide)
    (he : starEach (a :: es) X.env = (false, eval a X.env) :: starEach es X.env := by rfl) (hpl : (backTo pos (starEach es X.env)).any (·.1) = false := by rfl) : EvD X O (.Call (.Name x p) (a :: es) [] pos) Δ C z :=
  EvP.d (vp_callT hc hm hv (h.p ⟨z, c, rfl, rfl⟩) hg hn hdb he hpl)
theorem vrs1 {K : PySem.W.Frag} {W : Hp} {vs : List V} {d : D} (r : VRs K W vs [.dat d]) : ∃ v, vs = [v] ∧ Dp K W v d := by
  cases r with
  | cons a b => cases b; exact ⟨_, rfl, a⟩
theorem vrs2 {K : PySem.W.Frag} {W : Hp} {vs : List V} {d e : D} (r : VRs K W vs [.dat d, .dat e]) : ∃ v w, vs = [v, w] ∧ Dp K W v d ∧ Dp K W w e := by
  cases r with
  | cons a b =>
    obtain ⟨w, rfl, h⟩ := vrs1 b
    exact ⟨_, w, rfl, a, h⟩
theorem ev_len (hm : X.mg "len" = none) (h : EvD X O a Δ C d) (hs : seqOf d = some ds) (hg : Gl X "len" := by rfl) (he : starEach [a] X.env = (false, eval a X.env) :: starEach [] X.env := by rfl) : EvD X O (.Call (.Name "len" p) [a] [] pos) Δ C (.int ds.length) :=
  ev_callB call_len_seq hm PySem.boot_len (ea_cons h ea_nil he) (fun H vs ow r Q q => by
    obtain ⟨v, rfl, h⟩ := vrs1 r
    obtain ⟨p, xs, rfl, hq, ha⟩ := dp_seq h hs
    refine ⟨p, xs, rfl, hq.symm.imp (Evl.ex_l vw_sub) (Evl.ex_t vw_sub), ?_⟩
    rw [ha.len]
    exact q _ H ow.refl (.int _)) hg (he := he)
theorem ev_abs {i : Int} (hm : X.mg "abs" = none) (h : EvD X O a Δ C (.int i)) (hg : Gl X "abs" := by rfl) (he : starEach [a] X.env = (false, eval a X.env) :: starEach [] X.env := by rfl) : EvD X O (.Call (.Name "abs" p) [a] [] pos) Δ C (.int (if i < 0 then -i else i)) :=
  ev_callB call_abs hm (by decide +kernel) (ea_cons h ea_nil he) (fun H vs ow r Q q => by
    obtain ⟨v, rfl, h⟩ := vrs1 r
    rw [dp_int h]
    exact ⟨i, rfl, q _ H ow.refl (.int _)⟩) hg (he := he)
theorem ev_toint {i : Int} (hm : X.mg "int" = none) (h : EvD X O a Δ C (.int i)) (hg : Gl X "int" := by rfl) (he : starEach [a] X.env = (false, eval a X.env) :: starEach [] X.env := by rfl) : EvD X O (.Call (.Name "int" p) [a] [] pos) Δ C (.int i) :=
  ev_callT call_int1 hm (by decide +kernel) (ea_cons h ea_nil he) (fun H vs ow r Q q => by
    obtain ⟨v, rfl, h⟩ := vrs1 r
    rw [dp_int h]
    exact .inl ⟨i, rfl, q _ H ow.refl (.int _)⟩) hg (he := he)
theorem ev_max {i j : Int} (hm : X.mg "max" = none) (h : EvD X O a Δ C (.int i)) (h2 : EvD X O b Δ C (.int j)) (hc : X.calm = true := by rfl) (hg : Gl X "max" := by rfl) (he : starEach [a, b] X.env = (false, eval a X.env) :: starEach [b] X.env := by rfl)
    (he2 : starEach [b] X.env = (false, eval b X.env) :: starEach [] X.env := by rfl) (hpl : (backTo pos (starEach [b] X.env)).any (·.1) = false := by rfl) : EvD X O (.Call (.Name "max" p) [a, b] [] pos) Δ C (.int (if j > i then j else i)) :=
  ev_callB (call_max2 hc) hm (by decide +kernel) (ea_cons h (ea_cons h2 ea_nil he2) he) (fun H vs ow r Q q => by
    obtain ⟨v, w, rfl, h, h2⟩ := vrs2 r
    rw [dp_int h, dp_int h2]
    exact ⟨i, j, rfl, q _ H ow.refl (.int _)⟩) hg (he := he) (hpl := hpl)
theorem ev_min {i j : Int} (hm : X.mg "min" = none) (h : EvD X O a Δ C (.int i)) (h2 : EvD X O b Δ C (.int j)) (hc : X.calm = true := by rfl) (hg : Gl X "min" := by rfl) (he : starEach [a, b] X.env = (false, eval a X.env) :: starEach [b] X.env := by rfl)
    (he2 : starEach [b] X.env = (false, eval b X.env) :: starEach [] X.env := by rfl) (hpl : (backTo pos (starEach [b] X.env)).any (·.1) = false := by rfl) : EvD X O (.Call (.Name "min" p) [a, b] [] pos) Δ C (.int (if j < i then j else i)) :=
  ev_callB (call_min2 hc) hm (by decide +kernel) (ea_cons h (ea_cons h2 ea_nil he2) he) (fun H vs ow r Q q => by
    obtain ⟨v, w, rfl, h, h2⟩ := vrs2 r
    rw [dp_int h, dp_int h2]
    exact ⟨i, j, rfl, q _ H ow.refl (.int _)⟩) hg (he := he) (hpl := hpl)
theorem ev_gcd {i j : Int} (hm : X.mg "gcd" = some (.builtin "math.gcd")) (h : EvD X O a Δ C (.int i)) (h2 : EvD X O b Δ C (.int j)) (hg : Gl X "gcd" := by rfl) (he : starEach [a, b] X.env = (false, eval a X.env) :: starEach [b] X.env := by rfl)
    (he2 : starEach [b] X.env = (false, eval b X.env) :: starEach [] X.env := by rfl) (hpl : (backTo pos (starEach [b] X.env)).any (·.1) = false := by rfl) : EvD X O (.Call (.Name "gcd" p) [a, b] [] pos) Δ C (.int (Int.gcd i j)) := fun σ H hd Q q =>
  goE (pe_callBfun cr_gcd hg hm bstA (by decide) he hpl) (ea_cons h (ea_cons h2 ea_nil he2) he σ H hd _ fun vs H1 n1 r1 => by
    obtain ⟨v, w, rfl, h, h2⟩ := vrs2 r1
    rw [dp_int h, dp_int h2]
    exact ⟨i, j, rfl, q _ H1 n1 (.int _)⟩)
theorem ev_all {bs : List Bool} (hm : X.mg "all" = none) (h : EvD X O a Δ C (.list (bs.map .bool))) (hc : X.calm = true := by rfl) (hg : Gl X "all" := by rfl) (he : starEach [a] X.env = (false, eval a X.env) :: starEach [] X.env := by rfl) : EvD X O (.Call (.Name "all" p) [a] [] pos) Δ C (.bool (bs.all fun b => b)) :=
  ev_callB (cr_all hc) hm (by decide +kernel) (ea_cons h ea_nil he) (fun H vs ow r Q q => by
    obtain ⟨v, rfl, h⟩ := vrs1 r
    obtain ⟨p, xs, rfl, hq, ha⟩ := dp_lst h
    have e : ∀ {bs : List Bool} {xs : List V}, DpAll X.K (vw (O ++ adr C) H) xs (bs.map PyData.bool) → xs = bs.map V.bl := by
      intro bs
      induction bs with
      | nil => intro xs h; cases h; rfl
      | cons b bs ih =>
        intro xs h
        cases h with
        | cons a t => rw [List.map_cons, ih t, dp_bl a]
    rw [e ha] at hq
    exact ⟨p, bs, rfl, Evl.ex_l vw_sub hq, q _ H ow.refl (.bl _)⟩) hg (he := he)
theorem ev_totup (hm : X.mg "tuple" = none) (h : EvD X O a Δ C (.list ds)) (hg : Gl X "tuple" := by rfl) (he : starEach [a] X.env = (false, eval a X.env) :: starEach [] X.env := by rfl) : EvD X O (.Call (.Name "tuple" p) [a] [] pos) Δ C (.tuple ds) :=
  ev_callT call_tuple_of hm (by decide +kernel) (ea_cons h ea_nil he) (fun H vs ow r Q q => by
    obtain ⟨v, rfl, h⟩ := vrs1 r
    obtain ⟨p, xs, rfl, hq, ha⟩ := dp_lst h
    refine ⟨p, xs, rfl, .inl ⟨Evl.ex_l vw_sub hq, fun l hl => ?_⟩⟩
    obtain ⟨n, r⟩ := ow.newT hl ha
    exact q _ _ n r) hg (he := he)
theorem ev_tolist (hm : X.mg "list" = none) (h : EvD X O a Δ C d) (hs : seqOf d = some ds) (hg : Gl X "list" := by rfl) (he : starEach [a] X.env = (false, eval a X.env) :: starEach [] X.env := by rfl) : EvD X O (.Call (.Name "list" p) [a] [] pos) Δ C (.list ds) :=
  ev_callT call_list_of hm (by decide +kernel) (ea_cons h ea_nil he) (fun H vs ow r Q q => by
    obtain ⟨v, rfl, h⟩ := vrs1 r
    obtain ⟨p, xs, rfl, hq, ha⟩ := dp_seq h hs
    refine ⟨p, xs, rfl, hq.symm.imp (Evl.ex_l vw_sub) (Evl.ex_t vw_sub), fun l hl => ?_⟩
    obtain ⟨n, r⟩ := ow.newL hl ha
    exact q _ _ n r) hg (he := he)
/-! #### isinstance -/
def tyD : D → Value
  | .none => .type "NoneType"
  | .bool _ => .type "bool"
  | .int _ => .type "int"
  | .str _ => .type "str"
  | .list _ => .type "list"
  | .tuple _ => .type "tuple"
  | .dict _ => .type "dict"
end
end DL

/-! part Dl3 -/
set_option Elab.async false
set_option linter.all false
set_option maxRecDepth 100000
set_option maxHeartbeats 4000000
/-! Calls of defs, targets, blocks, loops, comprehensions. -/
namespace DL
open PySem PySem.Spec PyProof.Rows L2
/-- the class of a datum -/
theorem tyx {K : PySem.W.Frag} {H : Hp} {v : V} {d : D} (h : Dp K H v d) : TyX K H v (tyD d) := by
  cases h with
  | non => exact .base .non
  | bl b => exact .base (.bl b)
  | int i => exact .base (.int i)
  | str x => exact .base (.str x)
  | lst hs ha =>
    rcases hs with (h | ⟨o, h⟩) | ⟨o, its, n, hk, hc, _⟩
    · exact .base (.lst h)
    · exact .base (.frz h)
    · exact .kList hk hc
  | tup hs ha =>
    rcases hs with (h | ⟨o, h⟩) | ⟨o, its, n, hk, hc, _⟩
    · exact .base (.tup h)
    · exact .fTuple h
    · exact .kTuple hk hc
/-! ### what a def promises -/
abbrev Con := List SV → Cont → (SV → Cont → Prop) → Prop
def spC (K : PySem.W.Frag) (R : Con) : Sp := fun vs H Q _ => ∃ O C ss P, VRs K (vw (O ++ adr C) H) vs ss ∧ Own K O C H ∧ R ss C P ∧
  ∀ s C' v H', P s C' → Nxt K O C H C' H' → VR K (vw (O ++ adr C') H') v s → Q v H'
/-- data in, a datum out -/
def pur (F : List D → D → Prop) : Con := fun ss C q => ∃ ds d, ss = ds.map .dat ∧ F ds d ∧ q (.dat d) C
structure DefOk (P : Program) (w : World) (K : PySem.W.Frag) (mg : Str → Option Value) (base : Heap) (k : Nat) (x : Str) (ps : List Str) (R : Con) : Prop where
  ex : ∃ f fd, mg x = some (.ref f) ∧ PySem.W.keepIn K (.ref f) = true ∧ Binds K fd ps [] ∧ FnOk P w K mg base CX0 k f fd ps (spC K R) ∧ ∃ o, K.lookup f = some o ∧ o.data = .func fd
/-- two names, the second parameter's first -/
def swap2 {α : Type} : List α → List α → List α
  | [], [a, b] => [b, a]
  | _, _ => []
/-- .. and by two names, the second one first -/
structure DefOkK (P : Program) (w : World) (K : PySem.W.Frag) (mg : Str → Option Value) (base : Heap) (k : Nat) (x : Str) (ps ks : List Str) (R : Con) : Prop where
  ex : ∃ f fd, mg x = some (.ref f) ∧ PySem.W.keepIn K (.ref f) = true ∧ KBinds K fd ps ks swap2 swap2 ∧ FnOk P w K mg base CX0 k f fd ps (spC K R)
section
variable {X : Cx} {O : List Addr} {Δ : List SV} {C : Cont} {P : SV → Cont → Prop} {pos p : Pos} {a b : Expr} {es : List Expr} {d e z : D} {x : Str} {ss : List SV} {k : Nat} {ps : List Str}
theorem vp_call {R : Con} (F : DefOk X.prog X.w X.K X.mg X.base k x ps R) (hr : Room k X.A) (h : AvP X O (a :: es) Δ C fun ss C1 => R ss C1 P) (hg : Gl X x := by rfl) (hdb : (x == ("__debug__" : Str)) = false := by decide)
    (he : starEach (a :: es) X.env = (false, eval a X.env) :: starEach es X.env := by rfl) (hpl : (backTo pos (starEach es X.env)).any (·.1) = false := by rfl) : EvP X O (.Call (.Name x p) (a :: es) [] pos) Δ C P := fun σ H hd Q q => by
  obtain ⟨f, fd, hm, hk, hb, F, _⟩ := F.ex
  refine goE (pe_call F hr hg hm hk hb .nil pass0 bstA hdb he hpl) (h σ H hd _ fun vs H1 ss C1 n1 r1 c => ?_)
  rw [List.append_nil]
  exact ⟨O, C1, ss, P, r1, n1.ow, c, fun s C' v H' ps n2 r2 => q v H' s C' (n1.trans n2) r2 ps⟩
theorem ev_call {F : List D → D → Prop} {ds : List D} (f : DefOk X.prog X.w X.K X.mg X.base k x ps (pur F)) (hr : Room k X.A) (h : EvA X O (a :: es) Δ C (ds.map .dat)) (hF : F ds z) (hg : Gl X x := by rfl) (hdb : (x == ("__debug__" : Str)) = false := by decide)
    (he : starEach (a :: es) X.env = (false, eval a X.env) :: starEach es X.env := by rfl) (hpl : (backTo pos (starEach es X.env)).any (·.1) = false := by rfl) : EvD X O (.Call (.Name x p) (a :: es) [] pos) Δ C z :=
  EvP.d (vp_call f hr (h.p ⟨ds, z, rfl, hF, rfl, rfl⟩) hg hdb he hpl)
theorem pe_callK0 {CX : CXT} {f : Addr} {fd : FuncData} {ks : List Str} {sp : Sp} {E : XK} {kws : List Keyword} {tk : TA} {g : List Value → List Value → List Value} {gV : List V → List V → List V}
    (F : FnOk X.prog X.w X.K X.mg X.base CX k f fd ps sp) (hr : Room k X.A) (hg : Gl X x) (hm : X.mg x = some (.ref f)) (hk : PySem.W.keepIn X.K (.ref f) = true) (kb : KBinds X.K fd ps ks g gV) (hx : Passes CX X E) (hkw : PK X kws tk)
    (hall : (backToKw pos (keywordEach kws X.env)).all (·.1.isSome) = true) (hks : (backToKw pos (keywordEach kws X.env)).filterMap (·.1) = ks) (hdb : (x == ("__debug__" : Str)) = false)
    (hpl : ((backTo pos (starEach [] X.env)).any (·.1) || (backToKw pos (keywordEach kws X.env)).any (·.1.isNone)) = false) : PE X (.Call (.Name x p) [] kws pos) (fun σ H Q => tk σ H fun zs H2 => sp (gV [] zs) H2 Q E) := by
  refine ⟨fun pins s σ H Q I h => wpAny_Call_Name_kw (ld_glob I hg hm ?_ hdb)⟩
  refine PySem.W.callWith_KW0 (h₀ := X.base) I.ok.mod.kin hk hall
    (thn (hkw.run pos pins s σ H _ I h) fun ws s2 ⟨zs, H2, I2, rz, q2⟩ => ⟨I2.kIn, ?_⟩) hpl
  rw [hks]
  exact run_fnk (us := []) (vs := []) F hr kb hx I2 .nil rz q2
/-- f(k2 = a, k1 = b) -/
theorem ev_callK {F : List D → D → Prop} {n1 n2 : Str} {kp1 kp2 : Pos} (f : DefOkK X.prog X.w X.K X.mg X.base k x ps [n1, n2] (pur F)) (hr : Room k X.A) (ha : EvD X O a Δ C d) (hb : EvD X O b Δ C e) (hF : F [e, d] z) (hg : Gl X x := by rfl) (hdb : (x == ("__debug__" : Str)) = false := by decide)
    (hall : (backToKw pos (keywordEach [⟨some n1, a, kp1⟩, ⟨some n2, b, kp2⟩] X.env)).all (·.1.isSome) = true := by rfl) (hks : (backToKw pos (keywordEach [⟨some n1, a, kp1⟩, ⟨some n2, b, kp2⟩] X.env)).filterMap (·.1) = [n1, n2] := by rfl)
    (hpl : ((backTo pos (starEach [] X.env)).any (·.1) || (backToKw pos (keywordEach [⟨some n1, a, kp1⟩, ⟨some n2, b, kp2⟩] X.env)).any (·.1.isNone)) = false := by rfl) : EvD X O (.Call (.Name x p) [] [⟨some n1, a, kp1⟩, ⟨some n2, b, kp2⟩] pos) Δ C z := fun σ H hd Q q => by
  obtain ⟨f, fd, hm, hk, kb, F⟩ := f.ex
  refine goE (pe_callK0 F hr hg hm hk kb pass0 (pk_cons bst (pk_cons bst pk_nil)) hall hks hdb hpl) ?_
  refine ha σ H hd _ fun v H1 n1 r1 => hb σ H1 (hd.nxt n1) _ fun w H2 n2 r2 => ?_
  exact ⟨O, C, [.dat e, .dat d], fun s C' => s = .dat z ∧ C' = C, .cons r2 (.cons (dp_mono n2.view _ _ r1) .nil), n2.ow, ⟨[e, d], z, rfl, hF, rfl, rfl⟩, fun s C' u H' ⟨e1, e2⟩ n3 r3 => by
    subst e1 e2
    exact q u H' ((n1.trans n2).trans n3) r3⟩
/-- isinstance(a, T) -/
theorem ev_isi {T : Str} {T' : String} {k : Bool} {p2 : Pos} (hm : X.mg "isinstance" = none) (hT : X.mg T = none) (ha : EvD X O a Δ C d) (hv : bootBuiltins T = some (.type T')) (hk : PySem.W.kitOne X.K (tyD d) (.type T') = some k) (hg : Gl X "isinstance" := by rfl) (hgT : Gl X T := by rfl) (hn : T ≠ "__name__" := by decide) (hdb : (T == ("__debug__" : Str)) = false := by decide)
    (he : starEach [a, .Name T p2] X.env = (false, eval a X.env) :: starEach [.Name T p2] X.env := by rfl) (hpl : (backTo pos (starEach [.Name T p2] X.env)).any (·.1) = false := by rfl) : EvD X O (.Call (.Name "isinstance" p) [a, .Name T p2] [] pos) Δ C (.bool k) := fun σ H hd Q q =>
  goE (pe_callB call_isi hg hm (by decide +kernel) (pa_cons bst (pa_cons (pe_bltn (v := .ty T') hgT hT hv rfl hn hdb) pa_nil) he) (he := he) (hpl := hpl)) (ha σ H hd _ fun v H1 n1 r1 =>
    ⟨v, .ty T', _, _, k, rfl, .ty T', tyx (dp_mono vw_sub _ _ r1), hk, q _ H1 n1 (.bl _)⟩)
/-! ### targets -/
def BstG (X : Cx) (tg : Expr) : TG := fun v σ H Q => ∀ pins s u, Inv X pins σ H s → RelV v u → wpAny (model X.prog X.w) X.A (assign tg X.env u) (fun _ s' => ∃ σ' H', Inv X pins σ' H' s' ∧ Q σ' H') X.xe s
theorem bstG {tg : Expr} : PG X tg (BstG X tg) := ⟨fun pins s σ H v u Q I r h => h pins s u I r⟩
theorem goG {tg : Expr} {g : TG} (pg : PG X tg g) {v : V} {σ : L2.St} {H : Hp} {Q : L2.St → Hp → Prop} (h : g v σ H Q) : BstG X tg v σ H Q := fun pins s u I r => pg.run pins s σ H v u Q I r h
def BstGs (X : Cx) (ts : List Expr) : TGs := fun vs σ H Q => ∀ pins s us, Inv X pins σ H s → Vals vs us → wpAny (model X.prog X.w) X.A (assignInOrder ((assignEach ts X.env).map (·.2)) us) (fun _ s' => ∃ σ' H', Inv X pins σ' H' s' ∧ Q σ' H') X.xe s
theorem bstGs {ts : List Expr} : PGs X ts (BstGs X ts) := ⟨fun pins s σ H v u Q I r h => h pins s u I r⟩
theorem goGs {ts : List Expr} {g : TGs} (pg : PGs X ts g) {vs : List V} {σ : L2.St} {H : Hp} {Q : L2.St → Hp → Prop} (h : g vs σ H Q) : BstGs X ts vs σ H Q := fun pins s u I r => pg.run pins s σ H vs u Q I r h
/-- d stored: from Δ to Δ', only the slots is -/
def TgD (X : Cx) (O : List Addr) (tg : Expr) (is : List Nat) (Δ : List SV) (C : Cont) (d : D) (Δ' : List SV) : Prop :=
  ∀ σ H v, Hold X.K O Δ C σ H → Dp X.K (vw (O ++ adr C) H) v d → ∀ Q : L2.St → Hp → Prop, (∀ σ', Hold X.K O Δ' C σ' H → (∀ vs, (∀ i ∈ is, i ∈ vs) → wipe σ' vs = wipe σ vs) → Q σ' H) → BstG X tg v σ H Q
def TgsD (X : Cx) (O : List Addr) (ts : List Expr) (is : List Nat) (Δ : List SV) (C : Cont) (ds : List D) (Δ' : List SV) : Prop :=
  ∀ σ H vs, Hold X.K O Δ C σ H → DpAll X.K (vw (O ++ adr C) H) vs ds → ∀ Q : L2.St → Hp → Prop, (∀ σ', Hold X.K O Δ' C σ' H → (∀ ws, (∀ i ∈ is, i ∈ ws) → wipe σ' ws = wipe σ ws) → Q σ' H) → BstGs X ts vs σ H Q
theorem wipe_at {σ : L2.St} : ∀ {vs : List Nat} {j : Nat}, j ∉ vs → (wipe σ vs)[j]? = σ[j]?
  | [], _, _ => rfl
  | v :: vs, j, h => by
    show ((wipe σ vs).set v none)[j]? = _
    rw [List.getElem?_set_ne (fun e => h (by rw [e]; exact List.mem_cons_self)), wipe_at (fun z => h (List.mem_cons_of_mem _ z))]
theorem wipe_in {σ : L2.St} : ∀ {vs : List Nat} {j : Nat}, j ∈ vs → j < σ.length → (wipe σ vs)[j]? = some none
  | v :: vs, j, h, hl => by
    show ((wipe σ vs).set v none)[j]? = _
    by_cases e : v = j
    · subst e
      rw [List.getElem?_set_self (by rw [wipe_length]; exact hl)]
    · rw [List.getElem?_set_ne e]
      exact wipe_in ((List.mem_cons.mp h).resolve_left (Ne.symm e)) hl
theorem wipe_eq {σ σ' : L2.St} {vs : List Nat} (hl : σ'.length = σ.length) (h : ∀ j, j ∉ vs → σ'[j]? = σ[j]?) : wipe σ' vs = wipe σ vs := by
  refine List.ext_getElem? fun j => ?_
  by_cases hj : j ∈ vs
  · by_cases hk : j < σ.length
    · rw [wipe_in hj hk, wipe_in hj (by omega)]
    · rw [List.getElem?_eq_none (by rw [wipe_length]; omega), List.getElem?_eq_none (by rw [wipe_length]; omega)]
  · rw [wipe_at hj, wipe_at hj, h j hj]
theorem wipe_idem {σ : L2.St} {vs : List Nat} : wipe (wipe σ vs) vs = wipe σ vs := wipe_eq (wipe_length _ _) fun j hj => wipe_at hj
theorem tg_name {i : Nat} (nd : X.N.Nodup) (hi : X.N[i]? = some x := by rfl) (hx : Loc X.env.scope x := by first | exact Or.inl rfl | exact Or.inr rfl) (hf : X.fn x = true ∨ X.env.scope.names.lookup x = some .local := by first | exact .inl rfl | exact .inr rfl) :
    TgD X O (.Name x pos) [i] Δ C d (Δ.set i (.dat d)) := fun σ H v hd r Q q =>
  goG (pg_name nd hi hx hf) (q _ (hd.set i (s := .dat d) r) fun vs h => wipe_eq (List.length_set ..) fun j hj => List.getElem?_set_ne fun e => hj (by rw [← e]; exact h i List.mem_cons_self))
theorem tgs_nil : TgsD X O [] [] Δ C [] Δ := fun σ H vs hd r Q q => by
  cases r
  exact goGs pgs_nil ⟨rfl, q σ hd fun _ _ => rfl⟩
theorem tgs_cons {tg : Expr} {ts : List Expr} {is js : List Nat} {Δ1 Δ2 : List SV} {ds : List D} (h : TgD X O tg is Δ C d Δ1) (h2 : TgsD X O ts js Δ1 C ds Δ2) (hs : (assignEach (tg :: ts) X.env).map (·.2) = assign tg X.env :: (assignEach ts X.env).map (·.2) := by rfl) :
    TgsD X O (tg :: ts) (is ++ js) Δ C (d :: ds) Δ2 := fun σ H vs hd r Q q => by
  cases r with
  | cons r1 r2 =>
    exact goGs (pgs_cons bstG bstGs hs) ⟨_, _, rfl, h σ H _ hd r1 _ fun σ1 hd1 w1 => h2 σ1 H _ hd1 r2 Q fun σ2 hd2 w2 => q σ2 hd2 fun ws hw =>
      (w2 ws fun i hi => hw i (List.mem_append_right _ hi)).trans (w1 ws fun i hi => hw i (List.mem_append_left _ hi))⟩
theorem tg_tup {ts : List Expr} {is : List Nat} {Δ' : List SV} {ds : List D} {n : Nat} (h : TgsD X O ts is Δ C ds Δ') (hl : ds.length = ts.length := by rfl) (hc : X.calm = true := by rfl) (hn : (assignEach ts X.env).length = ts.length := by rfl) (hst : (assignEach ts X.env).findIdx? (·.1) = none := by rfl) :
    TgD X O (.Tuple ts n pos) is Δ C (.tuple ds) Δ' := fun σ H v hd r Q q => by
  obtain ⟨p, xs, rfl, hq, ha⟩ := dp_tup r
  exact goG (pg_tup hc bstGs hn hst) ⟨p, xs, rfl, Evl.ex_t vw_sub hq, ha.len.trans hl, h σ H xs hd ha Q q⟩
theorem tg_lst {ts : List Expr} {is : List Nat} {Δ' : List SV} {ds : List D} {n : Nat} (h : TgsD X O ts is Δ C ds Δ') (hl : ds.length = ts.length := by rfl) (hc : X.calm = true := by rfl) (hn : (assignEach ts X.env).length = ts.length := by rfl) (hst : (assignEach ts X.env).findIdx? (·.1) = none := by rfl) :
    TgD X O (.Tuple ts n pos) is Δ C (.list ds) Δ' := fun σ H v hd r Q q => by
  obtain ⟨p, xs, rfl, hq, ha⟩ := dp_lst r
  exact goG (pg_unl hc bstGs hn hst) ⟨p, xs, rfl, Evl.ex_l vw_sub hq, ha.len.trans hl, h σ H xs hd ha Q q⟩
/-! ### blocks -/
variable {N : List SV → Cont → Prop} {R : SV → Cont → Prop} {rest : List Stmt}
theorem b_nil (h : N Δ C) : BvP X O [] Δ C N R := fun σ H hd E n r => goB pss_nil (n σ H Δ C hd.ow.refl hd h)
theorem b_seq {st : Stmt} {t : TS} (hp : PS X st t) (h : ∀ σ H, Hold X.K O Δ C σ H → ∀ E : Ends, (∀ σ' H' Δ' C', Nxt X.K O C H C' H' → Hold X.K O Δ' C' σ' H' → BvP X O rest Δ' C' N R → E.nx σ' H') →
    (∀ v H' s C', Nxt X.K O C H C' H' → VR X.K (vw (O ++ adr C') H') v s → R s C' → E.rt v H') → t E σ H) : BvP X O (st :: rest) Δ C N R := fun σ H hd E n r =>
  goB (pss_cons hp bstB) (h σ H hd { E with nx := BstB X rest E } (fun σ' H' Δ' C' n1 hd1 b => b σ' H' hd1 E (fun σ2 H2 Δ2 C2 n2 => n σ2 H2 Δ2 C2 (n1.trans n2)) fun v H2 s C2 n2 => r v H2 s C2 (n1.trans n2)) r)
theorem b_set {i : Nat} {pos' : Pos} (nd : X.N.Nodup) (h : EvP X O a Δ C fun s C1 => BvP X O rest (Δ.set i s) C1 N R) (hi : X.N[i]? = some x := by rfl) (hx : Loc X.env.scope x := by first | exact Or.inl rfl | exact Or.inr rfl)
    (hs : swapsWith a (some (.Name x pos')) pos.line X.env = pure false := by rfl) (hf : X.fn x = true ∨ X.env.scope.names.lookup x = some .local := by first | exact .inl rfl | exact .inr rfl) : BvP X O (.Assign [.Name x pos'] a pos :: rest) Δ C N R :=
  b_seq (ps_set nd hi hx bst hs hf) fun σ H hd E n r => h σ H hd _ fun v H1 s C1 n1 r1 b => n _ H1 _ C1 n1 ((hd.nxt n1).set i r1) b
theorem b_asg {tg : Expr} (h : EvP X O a Δ C fun s C1 => ∃ d Δ' is, s = .dat d ∧ TgD X O tg is Δ C1 d Δ' ∧ BvP X O rest Δ' C1 N R) (hs : swapsWithSole [tg] a pos.line X.env = pure false := by rfl) (hw : swappedStores [tg] a X.env = pure none := by rfl)
    (h1 : (assignEach [tg] X.env).map (·.2) = [assign tg X.env] := by rfl) : BvP X O (.Assign [tg] a pos :: rest) Δ C N R :=
  b_seq (ps_asg bst bstG hs hw h1) fun σ H hd E n r => h σ H hd _ fun v H1 s C1 n1 r1 ⟨d, Δ', is, es, t, b⟩ => by
    subst es
    exact t σ H1 v (hd.nxt n1) r1 _ fun σ' hd' _ => n σ' H1 Δ' C1 n1 hd' b
/-- a, b = two values, plain local names -/
theorem b_par {i j : Nat} {x y : Str} {px py pt pt2 : Pos} {kt k2} (nd : X.N.Nodup) (h : AvP X O [a, b] Δ C fun ss C1 => ∃ s t, ss = [s, t] ∧ BvP X O rest ((Δ.set i s).set j t) C1 N R) (hij : i ≠ j := by decide) (hi : X.N[i]? = some x := by rfl) (hj : X.N[j]? = some y := by rfl) (hc : X.calm = true := by rfl)
    (hx : X.env.scope.names.lookup x = some .local := by rfl) (hy : X.env.scope.names.lookup y = some .local := by rfl) (hw : swappedStores [.Tuple [.Name x px, .Name y py] kt pt] (.Tuple [a, b] k2 pt2) X.env = pure (some [x, y]) := by rfl)
    (hs : swapsWithSole [.Tuple [.Name x px, .Name y py] kt pt] (.Tuple [a, b] k2 pt2) pos.line X.env = pure false := by rfl) : BvP X O (.Assign [.Tuple [.Name x px, .Name y py] kt pt] (.Tuple [a, b] k2 pt2) pos :: rest) Δ C N R :=
  b_seq (ps_par hc nd hi hj hij hx hy bstA hw hs) fun σ H hd E n r => h σ H hd _ fun vs H1 ss C1 n1 r1 ⟨s, t, es, b⟩ => by
    subst es
    cases r1 with
    | cons ra rb =>
      cases rb with
      | cons rb rc =>
        cases rc
        exact ⟨_, _, rfl, n _ H1 _ C1 n1 (((hd.nxt n1).set i ra).set j rb) b⟩
theorem b_par3 {i j l : Nat} {c : Expr} {x y z : Str} {px py pz pt pt2 : Pos} {kt k2} (nd : X.N.Nodup) (h : AvP X O [a, b, c] Δ C fun ss C1 => ∃ s t u, ss = [s, t, u] ∧ BvP X O rest (((Δ.set i s).set j t).set l u) C1 N R) (hij : i ≠ j := by decide) (hil : i ≠ l := by decide) (hjl : j ≠ l := by decide) (hi : X.N[i]? = some x := by rfl) (hj : X.N[j]? = some y := by rfl) (hl : X.N[l]? = some z := by rfl) (hc : X.calm = true := by rfl)
    (hx : X.env.scope.names.lookup x = some .local := by rfl) (hy : X.env.scope.names.lookup y = some .local := by rfl) (hz : X.env.scope.names.lookup z = some .local := by rfl) (hw : swappedStores [.Tuple [.Name x px, .Name y py, .Name z pz] kt pt] (.Tuple [a, b, c] k2 pt2) X.env = pure (some [x, y, z]) := by rfl)
    (hs : swapsWithSole [.Tuple [.Name x px, .Name y py, .Name z pz] kt pt] (.Tuple [a, b, c] k2 pt2) pos.line X.env = pure false := by rfl) : BvP X O (.Assign [.Tuple [.Name x px, .Name y py, .Name z pz] kt pt] (.Tuple [a, b, c] k2 pt2) pos :: rest) Δ C N R :=
  b_seq (ps_par3 hc nd hi hj hl hij hil hjl hx hy hz bstA hw hs) fun σ H hd E n r => h σ H hd _ fun vs H1 ss C1 n1 r1 ⟨s, t, u, es, b⟩ => by
    subst es
    cases r1 with
    | cons ra rb =>
      cases rb with
      | cons rb rc =>
        cases rc with
        | cons rc rd =>
          cases rd
          exact ⟨_, _, _, rfl, n _ H1 _ C1 n1 ((((hd.nxt n1).set i ra).set j rb).set l rc) b⟩
theorem b_ret (h : EvP X O a Δ C R) : BvP X O (.Return (some a) pos :: rest) Δ C N R :=
  b_seq (ps_ret bst) fun σ H hd E n r => h σ H hd _ fun v H1 s C1 n1 r1 h => r v H1 s C1 n1 r1 h
theorem b_expr (h : EvP X O a Δ C fun _ C1 => BvP X O rest Δ C1 N R) (hs : swapsWith a none pos.line X.env = pure false := by rfl) : BvP X O (.Expr a pos :: rest) Δ C N R :=
  b_seq (ps_expr bst hs) fun σ H hd E n r => h σ H hd _ fun v H1 s C1 n1 r1 b => n σ H1 Δ C1 n1 (hd.nxt n1) b
theorem b_if {c : Expr} {ta tb : List Stmt} (h : TvP X O c Δ C fun k C1 => if k = true then BvP X O ta Δ C1 (fun Δ2 C2 => BvP X O rest Δ2 C2 N R) R else BvP X O tb Δ C1 (fun Δ2 C2 => BvP X O rest Δ2 C2 N R) R) : BvP X O (.If c ta tb pos :: rest) Δ C N R :=
  b_seq (ps_if bstT bstB bstB) fun σ H hd E n r => h σ H hd _ fun k H1 C1 n1 b => by
    cases k with
    | true => exact iteT ((show BvP X O ta Δ C1 (fun Δ2 C2 => BvP X O rest Δ2 C2 N R) R from b) σ H1 (hd.nxt n1) E (fun σ2 H2 Δ2 C2 n2 => n σ2 H2 Δ2 C2 (n1.trans n2)) fun v H2 s C2 n2 => r v H2 s C2 (n1.trans n2))
    | false => exact iteF ((show BvP X O tb Δ C1 (fun Δ2 C2 => BvP X O rest Δ2 C2 N R) R from b) σ H1 (hd.nxt n1) E (fun σ2 H2 Δ2 C2 n2 => n σ2 H2 Δ2 C2 (n1.trans n2)) fun v H2 s C2 n2 => r v H2 s C2 (n1.trans n2))
theorem b_ifT {c : Expr} {ta tb : List Stmt} (hc : EvT X O c Δ C true) (h : BvP X O ta Δ C (fun Δ2 C2 => BvP X O rest Δ2 C2 N R) R) : BvP X O (.If c ta tb pos :: rest) Δ C N R := b_if (hc.p (iteT h))
theorem b_ifF {c : Expr} {ta : List Stmt} (hc : EvT X O c Δ C false) (h : BvP X O rest Δ C N R) : BvP X O (.If c ta [] pos :: rest) Δ C N R := b_if (hc.p (iteF (b_nil h)))
theorem b_ifB {c : Expr} {k : Bool} {ta tb : List Stmt} (hc : EvT X O c Δ C k) (h1 : k = true → BvP X O ta Δ C (fun Δ2 C2 => BvP X O rest Δ2 C2 N R) R) (h2 : k = false → BvP X O tb Δ C (fun Δ2 C2 => BvP X O rest Δ2 C2 N R) R) : BvP X O (.If c ta tb pos :: rest) Δ C N R := by
  refine b_if (hc.p ?_)
  cases k with
  | true => exact iteT (h1 rfl)
  | false => exact iteF (h2 rfl)
theorem b_while {c : Expr} {body : List Stmt} (hp : PassesOwn (model X.prog X.w) X.A X.env X.xe) (I : Nat → List SV → Cont → Prop) (m : Nat) (h0 : I m Δ C)
    (hs : ∀ m Δ1 C1, I m Δ1 C1 → ∃ k, EvT X O c Δ1 C1 k ∧ (k = true → BvP X O body Δ1 C1 (fun Δ2 C2 => ∃ m', m' < m ∧ I m' Δ2 C2) R) ∧ (k = false → BvP X O rest Δ1 C1 N R)) : BvP X O (.While c body [] pos :: rest) Δ C N R :=
  b_seq (ps_while hp bstT bstB) fun σ H hd E n r =>
    ⟨fun m σ1 H1 => ∃ Δ1 C1, Nxt X.K O C H C1 H1 ∧ Hold X.K O Δ1 C1 σ1 H1 ∧ I m Δ1 C1, ⟨m, Δ, C, hd.ow.refl, hd, h0⟩, fun m σ1 H1 ⟨Δ1, C1, n1, hd1, i1⟩ => by
      obtain ⟨k, ht, h1, h2⟩ := hs m Δ1 C1 i1
      refine ht σ1 H1 hd1 _ fun H2 n2 => ?_
      cases k with
      | true =>
        refine iteT ⟨_, fun σ' H' z => z, h1 rfl σ1 H2 (hd1.nxt n2) _ (fun σ3 H3 Δ3 C3 n3 hd3 ⟨m', hm, i3⟩ => ⟨m', hm, Δ3, C3, (n1.trans n2).trans n3, hd3, i3⟩) fun v H3 s C3 n3 => r v H3 s C3 ((n1.trans n2).trans n3)⟩
      | false => exact iteF (n σ1 H2 Δ1 C1 (n1.trans n2) (hd1.nxt n2) (h2 rfl))⟩
/-! ### what is walked -/
structure JD (K : PySem.W.Frag) (O : List Addr) (C : Cont) (J : It) (ds : List D) (H0 : Hp) : Prop where
  go : ∀ (i : Nat) H, Ex (vw (O ++ adr C) H0) H → i < ds.length → J.go i H
  yld : ∀ (i : Nat) O' C' H v H', Own K O' C' H → Ex (vw (O ++ adr C) H0) (vw (O' ++ adr C') H) → i < ds.length → J.yld i H v H' → ∃ d, ds[i]? = some d ∧ Ex H H' ∧ Dp K (vw (O' ++ adr C') H') v d
  stop : ∀ H, Ex (vw (O ++ adr C) H0) H → J.stop ds.length H
def IvD (X : Cx) (O : List Addr) (tg iter : Expr) (Δ : List SV) (C : Cont) (ds : List D) : Prop :=
  ∃ wi, PI X tg iter wi ∧ ∀ σ H, Hold X.K O Δ C σ H → ∀ R : It → Hp → Prop, (∀ J H', Nxt X.K O C H C H' → JD X.K O C J ds H' → R J H') → wi σ H R
/-- lo, lo + 1, .. -/
def ups (n : Nat) (lo : Int) : List D := (List.range n).map fun i => .int (lo + (i : Nat))
theorem ups_len {n : Nat} {lo : Int} : (ups n lo).length = n := by unfold ups; rw [List.length_map, List.length_range]
theorem ups_at {n i : Nat} {lo : Int} (h : i < n) : (ups n lo)[i]? = some (.int (lo + (i : Nat))) := by
  unfold ups
  rw [List.getElem?_map, List.getElem?_range h] <;> rfl
theorem jd_range {K : PySem.W.Frag} {lo : Int} {n : Nat} {H0 : Hp} : JD K O C (Itr lo n) (ups n lo) H0 where
  go := fun i H n1 h => by
    rw [ups_len] at h
    exact h
  yld := fun i O' C' H v H' ow n1 h ⟨e1, e2⟩ => by
    subst e1 e2
    rw [ups_len] at h
    exact ⟨_, ups_at h, Evl.Ex.refl _, .int _⟩
  stop := fun H n1 => by
    show n ≤ _
    rw [ups_len]
    exact Nat.le_refl _
theorem jd_list {K : PySem.W.Frag} {H0 : Hp} {p : Addr} {xs : List V} {ds : List D} (hq : SqL K (vw (O ++ adr C) H0) p xs) (ha : DpAll K (vw (O ++ adr C) H0) xs ds) : JD K O C (Itl K p) ds H0 where
  go := fun i H n1 h => by
    obtain ⟨v, hv, _⟩ := ha.get (List.getElem?_eq_getElem h)
    exact ⟨xs, v, Evl.ex_l n1 hq, hv⟩
  yld := fun i O' C' H v H' ow n1 h ⟨e1, e2⟩ => by
    subst e1
    obtain ⟨d, hd, r⟩ := ha.getV (e2 xs (Evl.ex_l vw_sub (Evl.ex_l n1 hq)))
    exact ⟨d, hd, Evl.Ex.refl _, dp_mono n1 _ _ r⟩
  stop := fun H n1 => ⟨xs, Evl.ex_l n1 hq, Nat.le_of_eq ha.len⟩
theorem jd_tup {K : PySem.W.Frag} {H0 : Hp} {p : Addr} {xs : List V} {ds : List D} (hq : SqT K (vw (O ++ adr C) H0) p xs) (ha : DpAll K (vw (O ++ adr C) H0) xs ds) : JD K O C (Itt K p) ds H0 where
  go := fun i H n1 h => by
    obtain ⟨v, hv, _⟩ := ha.get (List.getElem?_eq_getElem h)
    exact ⟨xs, v, Evl.ex_t n1 hq, hv⟩
  yld := fun i O' C' H v H' ow n1 h ⟨e1, e2⟩ => by
    subst e1
    obtain ⟨d, hd, r⟩ := ha.getV (e2 xs (Evl.ex_t vw_sub (Evl.ex_t n1 hq)))
    exact ⟨d, hd, Evl.Ex.refl _, dp_mono n1 _ _ r⟩
  stop := fun H n1 => ⟨xs, Evl.ex_t n1 hq, Nat.le_of_eq ha.len⟩
theorem iv_list {tg : Expr} {ds : List D} (h : EvD X O a Δ C (.list ds)) : IvD X O tg a Δ C ds := ⟨_, pi_list bst, fun σ H hd R q => h σ H hd _ fun v H1 n1 r1 => by
  obtain ⟨p, xs, e, hq, ha⟩ := dp_lst r1
  exact ⟨p, e, ⟨xs, Evl.ex_l vw_sub hq⟩, q _ H1 n1 (jd_list hq ha)⟩⟩
theorem iv_tup {tg : Expr} {ds : List D} (h : EvD X O a Δ C (.tuple ds)) : IvD X O tg a Δ C ds := ⟨_, pi_tup bst, fun σ H hd R q => h σ H hd _ fun v H1 n1 r1 => by
  obtain ⟨p, xs, e, hq, ha⟩ := dp_tup r1
  exact ⟨p, e, ⟨xs, Evl.ex_t vw_sub hq⟩, q _ H1 n1 (jd_tup hq ha)⟩⟩
theorem iv_range {tg : Expr} {n : Int} (hm : X.mg "range" = none) (h : EvD X O a Δ C (.int n)) (h1 : -(2 ^ 62) ≤ n ∧ n < 2 ^ 62) (hg : Gl X "range" := by rfl) (hs : starEach [a] X.env = [(false, eval a X.env)] := by rfl) : IvD X O tg (.Call (.Name "range" p) [a] [] pos) Δ C (ups n.toNat 0) :=
  ⟨_, pi_range1 hg hm bstA hs, fun σ H hd R q => ea_cons h ea_nil (by rw [hs] <;> rfl) σ H hd _ fun vs H1 n1 r1 => by
    obtain ⟨v, rfl, r⟩ := vrs1 r1
    rw [dp_int r]
    exact ⟨n, rfl, h1.1, h1.2, q _ H1 n1 jd_range⟩⟩
theorem iv_range2 {tg : Expr} {m n : Int} (hm : X.mg "range" = none) (h : EvD X O a Δ C (.int m)) (h2 : EvD X O b Δ C (.int n)) (h1 : -(2 ^ 62) ≤ m ∧ m < 2 ^ 62 ∧ -(2 ^ 62) ≤ n ∧ n < 2 ^ 62) (hg : Gl X "range" := by rfl) (hs : starEach [a, b] X.env = (false, eval a X.env) :: starEach [b] X.env := by rfl) (hs1 : starEach [b] X.env = [(false, eval b X.env)] := by rfl) : IvD X O tg (.Call (.Name "range" p) [a, b] [] pos) Δ C (ups (n - m).toNat m) :=
  ⟨_, pi_range2 hg hm bstA (by rw [hs, hs1]) hs1, fun σ H hd R q => ea_cons h (ea_cons h2 ea_nil (by rw [hs1] <;> rfl)) hs σ H hd _ fun vs H1 n1 r1 => by
    obtain ⟨v, w, rfl, r, r'⟩ := vrs2 r1
    rw [dp_int r, dp_int r']
    exact ⟨m, n, rfl, h1, q _ H1 n1 jd_range⟩⟩
/-! #### enumerate of a tuple -/
/-- the tuple at a, each item in a new pair -/
def Iet (K : PySem.W.Frag) (a : Addr) : It :=
  ⟨fun i H => ∃ (xs : List V) (x : V), SqT K H a xs ∧ xs[i]? = some x,
   fun i H v H' => ∃ T x, v = .ref T ∧ H T = none ∧ H' = upd H T (.tup [.int (i : Nat), x]) ∧ ∀ xs, SqT K H a xs → xs[i]? = some x,
   fun i H => ∃ xs : List V, SqT K H a xs ∧ xs.length = i⟩
theorem turn_enumT {P : Program} {w : World} {K : PySem.W.Frag} {elts : List Expr} {kk : Nat} {tpos : Pos} (a e it : Addr) :
    Turn P w K (.Tuple elts kk tpos) (Iet K a) [e, it] e (fun i h => (∃ old, IsEnum h e it ((i : Nat) : Int) old) ∧ h.IsTupleIter it a i ∧ e ≠ it) where
  mem := List.mem_cons_self
  obj := fun i h st b hb => by
    obtain ⟨⟨old, he⟩, ⟨o, ho, hc, hd⟩, _⟩ := st
    rcases List.mem_cons.mp hb with z | z
    · rw [z]
      exact ⟨_, he, fun v q => by cases q⟩
    · rw [List.mem_singleton.mp z]
      exact ⟨o, ho, fun v q => by rw [hd] at q; cases q⟩
  keep := fun i h h' st k => by
    obtain ⟨⟨old, he⟩, ⟨o, ho, hc, hd⟩, hne⟩ := st
    exact ⟨⟨old, k e (by simp) _ he⟩, ⟨o, k it (by simp) _ ho, hc, hd⟩, hne⟩
  item := by
    intro X hP hw hK hc i pins s σ H E I hf st hg
    subst hP hw hK
    obtain ⟨⟨old, he⟩, hit, hne⟩ := st
    obtain ⟨xs, x, hq, hx⟩ := hg
    obtain ⟨its, rv, p, hz⟩ := I.tuple hq
    obtain ⟨u, hu, ru⟩ := rv.get hx
    have hel : e < s.heap.objs.size := Heap.lt_size he
    have hil : it < s.heap.objs.size := by obtain ⟨_, q, _⟩ := hit; exact Heap.lt_size q
    have hae : a ≠ it := fun z => by
      obtain ⟨o, ho, hc1, _⟩ := hit
      obtain ⟨o', ho', hc2, _⟩ := p
      rw [z, ho] at ho'
      cases ho'
      rw [hc1] at hc2
      injection hc2 with hc3
      exact absurd hc3 (by decide)
    have nae : e ∉ [it, a] := fun z => by
      rcases List.mem_cons.mp z with z | z
      · exact hne z
      · obtain ⟨o', ho', hc2, _⟩ := p
        rw [← List.mem_singleton.mp z, he] at ho'
        cases ho'
        injection hc2 with hc3
        exact absurd hc3 (by decide)
    have hu' : its.toArray[i]? = some u := by simpa using hu
    have hlt : i < its.toArray.size := by
      have := (List.getElem?_eq_some_iff.mp hu).1
      simpa using this
    refine wpAny_pyNext_enum_itemD (Draws.tuple (A := X.A.in1) (I.ok.hd hc) it a hae its.toArray) he ⟨hit, p⟩ hlt hne nae
      fun y h' tk hy ho hs' hT hsz hk => ?_
    have ey : y = u := Option.some.inj (hy.symm.trans hu')
    subst ey
    refine ⟨_, rfl, wpAny_letOwnedTupleGo_enum (s := { s with heap := h', toks := tk + 1 }) ho fun h'' he' sb => ?_⟩
    have hT2 : h''.get? s.heap.objs.size = some { cls := .type "tuple", data := .seq #[.int i tk, y] } :=
      (sb.2 _ (Nat.ne_of_gt hel)).trans hT
    have new : ObjOk X.prog X.w (upd H s.heap.objs.size (.tup [.int (i : Nat), x])) h'' s.heap.objs.size (.tup [.int (i : Nat), x]) :=
      ⟨by show 2 ≤ sizeLine; decide, [.int i tk, y], .cons ⟨_, rfl⟩ (.cons ru .nil), ⟨_, hT2, rfl, _, rfl⟩⟩
    have I1 : Inv X pins σ (upd H s.heap.objs.size (.tup [.int (i : Nat), x])) { s with heap := h'', toks := tk + 1 } :=
      I.turnedNew (ch := [e, it]) (fun b ob hb q => (sb.2 b (fun z => hb (by simp [z]))).trans
        (hk b ob (fun z => hb (by simp [z])) (fun z => hb (by simp [z])) q)) hf (Nat.le_refl _) new
    refine ⟨.ref s.heap.objs.size, _, I1, rfl, ⟨_, x, rfl, I.hok.fresh (Nat.le_refl _), rfl, fun ys hy => by rw [I.tuple_inj hy hq]; exact hx⟩, ⟨⟨y, ?_⟩, ?_, hne⟩, fun b hb => ?_⟩
    · have e1 : ((i + 1 : Nat) : Int) = (i : Int) + 1 := by omega
      rw [e1]
      exact he'
    · obtain ⟨o, q1, q2, q3⟩ := hs'.1
      exact ⟨o, (sb.2 it (Ne.symm hne)).trans q1, q2, q3⟩
    · have hb' : b < s.heap.objs.size := by
        rcases List.mem_cons.mp hb with z | z
        · exact z ▸ hel
        · rw [List.mem_singleton.mp z]
          exact hil
      rw [upd_ne (Nat.ne_of_lt hb')]
      exact (hf b hb).1
  done := by
    intro X hP hw hK hc i pins s σ H E I hf st hg
    subst hP hw hK
    obtain ⟨⟨old, he⟩, hit, hne⟩ := st
    obtain ⟨xs, hq, hx⟩ := hg
    obtain ⟨its, rv, p, hz⟩ := I.tuple hq
    obtain ⟨f0, f1, f2, f3, f4, f5⟩ := hf it (by simp)
    have hl := rv.length
    have hae : a ≠ it := fun z => by
      obtain ⟨o, ho, hc1, _⟩ := hit
      obtain ⟨o', ho', hc2, _⟩ := p
      rw [z, ho] at ho'
      cases ho'
      rw [hc1] at hc2
      injection hc2 with hc3
      exact absurd hc3 (by decide)
    have ei : its.toArray.size = i := by rw [List.size_toArray]; omega
    subst ei
    exact wpAny_pyNext_enum_endD (Draws.tuple (A := X.A.in1) (I.ok.hd hc) it a hae its.toArray) he ⟨hit, p⟩
      fun h' eb => ⟨rfl, I.turned (t' := s.toks) (fun b o hb q => eb b o hb q) f0 f1 f3 f4 f5⟩
  self := fun A i s Q E st h => let ⟨⟨_, he⟩, _⟩ := st; wpAny_pyIter_enum he h
theorem sub_enum_ty : True := trivial
end
end DL

/-! part Dl4 -/
set_option Elab.async false
set_option linter.all false
set_option maxRecDepth 100000
set_option maxHeartbeats 4000000
/-! enumerate of a tuple; for; comprehensions. -/
namespace DL
open PySem PySem.Spec PyProof.Rows L2
open AutoSeq1 (wpAny_loadPart')
theorem enumT_meets (t : Addr) (its : Array Value) :
    Meets (Builtin.«enumerate.__new__» ⟨[.type "enumerate", .ref t], []⟩) (fun _ R s => s.heap.IsTuple t its ∧
      R (.ok (.ret (.ref (s.heap.push { cls := .type "tuple_iterator", data := .fields #[.ref t, .int 0 0] }).objs.size)))
        { s with heap := (s.heap.push { cls := .type "tuple_iterator", data := .fields #[.ref t, .int 0 0] }).push
                   { cls := .type "enumerate", data := .fields #[.none, .bool false, .ref s.heap.objs.size, rawInt 0, .none, .none] } }) :=
  .of_wp fun prog w A R s h => by
    obtain ⟨hp, g, d, tk, os⟩ := s
    obtain ⟨h1, h⟩ := h
    have hsub := sub_enumerate
    have q1 : ∀ {A' : Around} {E : Value → Shared → Prop} {Q : Value → Shared → Prop},
        Q (.ref hp.objs.size) ⟨hp.push { cls := .type "tuple_iterator", data := .fields #[.ref t, .int 0 0] }, g, d, tk, os⟩ →
        wpAny (model prog w) A' (pyIter (.ref t)) Q E ⟨hp, g, d, tk, os⟩ :=
      fun q => (begins_tuple t its).iter prog w _ _ ⟨hp, g, d, tk, os⟩ _ h1 q
    wp_walk using q1
    refine wpAny_stack_any
      fun st => wpAny_pure ?_
    split
    · rename_i c _ _ _ _ _
      cases (c == Value.type "enumerate")
      · wp_walk using q1
        exact ⟨_, rfl, h⟩
      · wp_walk using q1
        exact ⟨_, rfl, h⟩
    · wp_walk using q1
      exact ⟨_, rfl, h⟩
theorem enumT_call {prog : Program} {w : World} {A : Around} {E : Value → Shared → Prop} {s : Shared} {t : Addr} {its : Array Value} {Q : Value → Shared → Prop} (hL : s.heap.IsTuple t its)
    (h : ∀ h', IsEnum h' (s.heap.objs.size + 1) s.heap.objs.size 0 .none → h'.IsTupleIter s.heap.objs.size t 0 → h'.objs.size = s.heap.objs.size + 2 →
      (∀ b o, s.heap.get? b = some o → h'.get? b = some o) → Q (.ref (s.heap.objs.size + 1)) { s with heap := h' }) :
    wpAny (model prog w) A (call (.type "enumerate") [.ref t]) Q E s := by
  refine callType_new F.called_enumerate (by decide) (F.typeCall_enumerate_1 _)
    (F.newCall_enumerate_1 _) (fun obj => F.args_object_init_2 obj _) F.entry_enumerate_new (enumT_meets t its) ⟨hL, ?_⟩
  have hz := Heap.size_push s.heap { cls := .type "tuple_iterator", data := .fields #[.ref t, .int 0 0] }
  show _ ∧ _
  rw [hz]
  have he := Heap.get?_push_size (s.heap.push { cls := .type "tuple_iterator", data := .fields #[.ref t, .int 0 0] })
    (o := { cls := .type "enumerate", data := .fields #[.none, .bool false, .ref s.heap.objs.size, rawInt 0, .none, .none] }) rfl
  rw [hz] at he
  exact ⟨⟨_, he, rfl⟩, h _ he ⟨_, Heap.get?_push_of_some _ (Heap.get?_push_size _ rfl), rfl, rfl⟩ (by rw [Heap.size_push, hz])
    fun b o x => Heap.get?_push_of_some _ (Heap.get?_push_of_some _ x)⟩
def iEnumT (K : PySem.W.Frag) (ta : TA) : TI := fun σ H R => ta σ H fun vs H1 => ∃ a xs, vs = [.ref a] ∧ SqT K H1 a xs ∧ R (Iet K a) H1
theorem pi_enumT {X : Cx} {e : Expr} {ta : TA} {p pos tpos : Pos} {elts : List Expr} {kk : Nat} (hg : Gl X "enumerate") (hm : X.mg "enumerate" = none) (ha : PA X [e] ta) (hs : starEach [e] X.env = [(false, eval e X.env)]) :
    PI X (.Tuple elts kk tpos) (.Call (.Name "enumerate" p) [e] [] pos) (iEnumT X.K ta) := by
  refine ⟨fun pins s σ H R I h => Call_ (ld_blt I hg hm boot_enumerate (PyProof.Rows.callWith_type1 (thn (ha.run pos pins s σ H _ I h) ?_) hs rfl))⟩
  rintro us s1 ⟨vs, H1, I1, r1, a, xs, rfl, hq, q⟩
  cases r1 with
  | cons r rr =>
    cases rr
    cases r
    obtain ⟨its, rv, p', hz⟩ := I1.tuple hq
    refine enumT_call (its := its.toArray) p' fun h' he hit hsz hk => wpAny_pyIter_enum he ?_
    have I2 : Inv X pins σ H1 { s1 with heap := h' } := I1.kept (t' := s1.toks) hk
    refine ⟨s1.heap.objs.size + 1, [s1.heap.objs.size + 1, s1.heap.objs.size], _, _, H1, rfl, I2,
      turn_enumT a (s1.heap.objs.size + 1) s1.heap.objs.size, ⟨⟨.none, he⟩, hit, Nat.succ_ne_self _⟩, fun b hb => ?_, q⟩
    have hle : s1.heap.objs.size ≤ b := by
      rcases List.mem_cons.mp hb with z | z
      · rw [z]; exact Nat.le_succ _
      · rw [List.mem_singleton.mp z]; exact Nat.le_refl _
    exact I1.fpOk hle (I1.hok.fresh hle)
/-- the pairs of an enumerate -/
def enums (ds : List D) : List D := (List.range ds.length).map fun i => .tuple [.int (i : Nat), ds.getD i .none]
theorem enums_len {ds : List D} : (enums ds).length = ds.length := by unfold enums; rw [List.length_map, List.length_range]
theorem enums_at {ds : List D} {i : Nat} {d : D} (h : ds[i]? = some d) : (enums ds)[i]? = some (.tuple [.int (i : Nat), d]) := by
  unfold enums
  rw [List.getElem?_map, List.getElem?_range (List.getElem?_eq_some_iff.mp h).1]
  show some (PyData.tuple [.int (i : Nat), ds.getD i .none]) = _
  rw [List.getD_eq_getElem?_getD, h] <;> rfl
section
variable {X : Cx} {O : List Addr} {Δ : List SV} {C : Cont} {P : SV → Cont → Prop} {pos p : Pos} {a b : Expr} {es : List Expr} {d e z : D} {x : Str} {ss : List SV} {k : Nat} {ps : List Str} {ds : List D}
theorem jd_enum {K : PySem.W.Frag} {H0 : Hp} {p : Addr} {xs : List V} (hq : SqT K (vw (O ++ adr C) H0) p xs) (ha : DpAll K (vw (O ++ adr C) H0) xs ds) : JD K O C (Iet K p) (enums ds) H0 where
  go := fun i H n1 h => by
    rw [enums_len] at h
    obtain ⟨v, hv, _⟩ := ha.get (List.getElem?_eq_getElem h)
    exact ⟨xs, v, Evl.ex_t n1 hq, hv⟩
  yld := fun i O' C' H v H' ow n1 h ⟨T, x, e1, hT, e2, hx⟩ => by
    subst e1 e2
    obtain ⟨d, hd, r⟩ := ha.getV (hx xs (Evl.ex_t vw_sub (Evl.ex_t n1 hq)))
    obtain ⟨n2, r2⟩ := ow.newT hT (.cons (.int (i : Nat)) (.cons (dp_mono n1 _ _ r) .nil))
    exact ⟨_, enums_at hd, Evl.Ex.new hT, r2⟩
  stop := fun H n1 => ⟨xs, Evl.ex_t n1 hq, by rw [enums_len]; exact ha.len⟩
theorem iv_enum {elts : List Expr} {kk : Nat} {tpos : Pos} (hm : X.mg "enumerate" = none) (h : EvD X O a Δ C (.tuple ds)) (hg : Gl X "enumerate" := by rfl) (hs : starEach [a] X.env = [(false, eval a X.env)] := by rfl) : IvD X O (.Tuple elts kk tpos) (.Call (.Name "enumerate" p) [a] [] pos) Δ C (enums ds) :=
  ⟨_, pi_enumT hg hm bstA hs, fun σ H hd R q => ea_cons h ea_nil (by rw [hs] <;> rfl) σ H hd _ fun vs H1 n1 r1 => by
    obtain ⟨v, rfl, r⟩ := vrs1 r1
    obtain ⟨p, xs, rfl, hq, ha⟩ := dp_tup r
    exact ⟨p, xs, rfl, Evl.ex_t vw_sub hq, q _ H1 n1 (jd_enum hq ha)⟩⟩
/-! ### for -/
variable {N : List SV → Cont → Prop} {R : SV → Cont → Prop} {rest body : List Stmt} {tg iter : Expr}
theorem b_for (hp : PassesOwn (model X.prog X.w) X.A X.env X.xe) (hi : IvD X O tg iter Δ C ds) (I : Nat → List SV → Cont → Prop) (h0 : I 0 Δ C)
    (hs : ∀ i Δ1 C1 d, ds[i]? = some d → I i Δ1 C1 → ∃ is Δ2, TgD X O tg is Δ1 C1 d Δ2 ∧ BvP X O body Δ2 C1 (fun Δ3 C3 => I (i + 1) Δ3 C3) R) (he : ∀ Δ1 C1, I ds.length Δ1 C1 → BvP X O rest Δ1 C1 N R)
    (hc : X.calm = true := by rfl) (hf : ∀ x, foldedSetIterable iter X.env x = pure x := by intro _; rfl) : BvP X O (.For tg iter body [] pos :: rest) Δ C N R := by
  obtain ⟨wi, pi, hw⟩ := hi
  refine b_seq (ps_for hp hc pi bstG bstB hf) fun σ H hd E n r => hw σ H hd _ fun J H0 n0 jd => ?_
  refine ⟨fun i m σ1 H1 => i + m = ds.length ∧ ∃ Δ1 C1, Nxt X.K O C H0 C1 H1 ∧ Hold X.K O Δ1 C1 σ1 H1 ∧ I i Δ1 C1, ⟨_, Nat.zero_add _, Δ, C, n0.ow.refl, hd.nxt n0, h0⟩, ?_⟩
  rintro i m σ1 H1 ⟨em, Δ1, C1, n1, hd1, i1⟩
  by_cases hlt : i < ds.length
  · refine .inr ⟨jd.go i H1 (n1.view.trans vw_sub) hlt, fun σ2 H2 => ∃ Δ2 C2, Nxt X.K O C H0 C2 H2 ∧ Hold X.K O Δ2 C2 σ2 H2 ∧ I (i + 1) Δ2 C2, fun σ2 H2 ⟨Δ2, C2, n2, hd2, i2⟩ => ⟨m - 1, by omega, by omega, Δ2, C2, n2, hd2, i2⟩, fun v H2 hy => ?_⟩
    obtain ⟨d, hd', x2, r2⟩ := jd.yld i O C1 H1 v H2 n1.ow n1.view hlt hy
    have n2 := n1.ow.ex x2
    obtain ⟨is, Δ2, t, bd⟩ := hs i Δ1 C1 d hd' i1
    refine t σ1 H2 v (hd1.nxt n2) r2 _ fun σ2 hd2 _ => bd σ2 H2 hd2 _ (fun σ3 H3 Δ3 C3 n3 hd3 i3 => ⟨Δ3, C3, (n1.trans n2).trans n3, hd3, i3⟩) fun v H3 s C3 n3 => r v H3 s C3 (((n0.trans n1).trans n2).trans n3)
  · have e : i = ds.length := by omega
    subst e
    exact .inl ⟨jd.stop H1 (n1.view.trans vw_sub), n σ1 H1 Δ1 C1 (n0.trans n1) hd1 (he Δ1 C1 i1)⟩
/-! ### comprehensions -/
def wipeD (Δ : List SV) : List Nat → List SV
  | [] => Δ
  | v :: vs => (wipeD Δ vs).set v .no
theorem SD.wipe {K : PySem.W.Frag} {W : Hp} {σ : L2.St} (h : SD K W Δ σ) : ∀ vs, SD K W (wipeD Δ vs) (wipe σ vs)
  | [] => h
  | v :: vs => by
    have ih := SD.wipe h vs
    refine ⟨?_, fun j s q => ?_⟩
    · show ((wipeD Δ vs).set v .no).length = ((L2.wipe σ vs).set v none).length
      rw [List.length_set, List.length_set]
      exact ih.len
    · have q : ((wipeD Δ vs).set v .no)[j]? = some s := q
      show s = .no ∨ ∃ u, ((L2.wipe σ vs).set v none)[j]? = _ ∧ _
      by_cases e : v = j
      · subst e
        have hl : v < (wipeD Δ vs).length := by
          have := (List.getElem?_eq_some_iff.mp q).1
          rwa [List.length_set] at this
        rw [List.getElem?_set_self hl] at q
        exact .inl (Option.some.inj q).symm
      · rw [List.getElem?_set_ne e] at q ⊢
        exact ih.at_ j s q
/-- an owned list laid aside -/
theorem Own.aside {K : PySem.W.Frag} {H : Hp} {p : Addr} {o : HO} (h : Own K O C H) (hp : H p = none) : Own K (p :: O) C (upd H p o) ∧ Ex (vw (O ++ adr C) H) (vw ((p :: O) ++ adr C) (upd H p o)) := by
  have nm := h.seen hp
  have e : Ex (vw (O ++ adr C) H) (vw ((p :: O) ++ adr C) (upd H p o)) := fun a u q => by
    obtain ⟨n, q⟩ := vw_of q
    have hne : a ≠ p := ne_of_none q hp
    have n' : a ∉ (p :: O) ++ adr C := fun z => (List.mem_cons.mp z).elim hne n
    rw [vw_at n', upd_ne hne]
    exact q
  refine ⟨⟨fun q hq => ?_, fun a ha => ?_, h.nd⟩, e⟩
  · obtain ⟨vs, a, b⟩ := h.own q hq
    exact ⟨vs, by rw [upd_ne (ne_of_none a hp)]; exact a, dpa_mono e _ _ b⟩
  · rcases List.mem_cons.mp ha with z | z
    · exact ⟨o, by rw [z, upd_same]⟩
    · obtain ⟨u, q⟩ := h.trk a z
      exact ⟨u, by rw [upd_ne (ne_of_none q hp)]; exact q⟩
theorem vw_less {p : Addr} {A : List Addr} {H : Hp} : Ex (vw (p :: A) H) (vw A H) := fun a u q => by
  obtain ⟨n, q⟩ := vw_of q
  rw [vw_at (fun z => n (List.mem_cons_of_mem _ z))]
  exact q
theorem Own.back {K : PySem.W.Frag} {H : Hp} {p : Addr} (h : Own K (p :: O) C H) : Own K O C H :=
  ⟨fun q hq => by
    obtain ⟨vs, a, b⟩ := h.own q hq
    exact ⟨vs, a, dpa_mono vw_less _ _ b⟩, fun a ha => h.trk a (List.mem_cons_of_mem _ ha), h.nd⟩
/-- the list at p written -/
theorem Own.write {K : PySem.W.Frag} {H : Hp} {p : Addr} {o : HO} (h : Own K (p :: O) C H) (np : p ∉ adr C) : Own K (p :: O) C (upd H p o) ∧ Ex (vw ((p :: O) ++ adr C) H) (vw ((p :: O) ++ adr C) (upd H p o)) := by
  have e : Ex (vw ((p :: O) ++ adr C) H) (vw ((p :: O) ++ adr C) (upd H p o)) := fun a u q => by
    obtain ⟨n, q⟩ := vw_of q
    rw [vw_at n, upd_ne (fun z => n (by rw [z]; exact List.mem_cons_self))]
    exact q
  refine ⟨⟨fun q hq => ?_, fun a ha => ?_, h.nd⟩, e⟩
  · obtain ⟨vs, a, b⟩ := h.own q hq
    exact ⟨vs, by rw [upd_ne (fun z => np (by rw [← z]; exact List.mem_map_of_mem hq))]; exact a, dpa_mono e _ _ b⟩
  · by_cases z : a = p
    · exact ⟨o, by rw [z, upd_same]⟩
    · obtain ⟨u, q⟩ := h.trk a ha
      exact ⟨u, by rw [upd_ne z]; exact q⟩
/-- the reading of a comprehension; the blocks' readings g, tt, te -/
theorem lc_data {wi : TI} {g : TG} {tt : TT} {te : TE} {vs : List Nat} {σ : L2.St} {H : Hp} (hd : Hold X.K O Δ C σ H) (hw : ∀ R : It → Hp → Prop, (∀ J H', Nxt X.K O C H C H' → JD X.K O C J ds H' → R J H') → wi σ H R)
    (I : Nat → List D → Cont → Prop) (h0 : I 0 [] C) (hz : ds.length ≤ 90000)
    (hs : ∀ O' i acc C1 d, ds[i]? = some d → I i acc C1 → ∃ Δ2, (∀ σ H v, Hold X.K O' (wipeD Δ vs) C1 σ H → Dp X.K (vw (O' ++ adr C1) H) v d → ∀ Q : L2.St → Hp → Prop, (∀ σ', Hold X.K O' Δ2 C1 σ' H → wipe σ' vs = wipe σ vs → Q σ' H) → g v σ H Q) ∧
      (∀ σ H, Hold X.K O' Δ2 C1 σ H → ∀ Q : Bool → Hp → Prop, (∀ k H' C2, Nxt X.K O' C1 H C2 H' → (if k = true then
        (∀ σ H, Hold X.K O' Δ2 C2 σ H → ∀ Q : VK, (∀ v H' s C3, Nxt X.K O' C2 H C3 H' → VR X.K (vw (O' ++ adr C3) H') v s → (∃ z, s = .dat z ∧ I (i + 1) (acc ++ [z]) C3) → Q v H') → te σ H Q) else I (i + 1) acc C2) → Q k H') → tt σ H Q))
    {Q : VK} (hq : ∀ v H' acc C1 L ws, Nxt X.K O C H C1 H' → v = .ref L → H L = none → H' L = some (.lst ws) → L ∉ O → L ∉ adr C1 → Own X.K (L :: O) C1 H' → DpAll X.K (vw ((L :: O) ++ adr C1) H') ws acc → I ds.length acc C1 → Q v H') : tLc wi g tt te vs σ H Q := by
  refine hw _ fun J H1 n1 jd L hL => ?_
  have nL := n1.ow.seen hL
  have nLC : L ∉ adr C := fun z => nL (List.mem_append_right _ z)
  have nLO : L ∉ O := fun z => nL (List.mem_append_left _ z)
  have hL0 : H L = none := by
    cases q : H L with
    | none => rfl
    | some o =>
      have := n1.stp L o nLC q
      rw [hL] at this
      cases this
  obtain ⟨ow0, e0⟩ := n1.ow.aside (o := .lst []) hL
  -- behind i turns: the new list L holds acc
  refine ⟨fun i m H2 => i + m = ds.length ∧ ∃ C1 acc ws, L ∉ adr C1 ∧ Own X.K (L :: O) C1 H2 ∧ (∀ a o, a ∉ adr C → H1 a = some o → H2 a = some o) ∧ (∀ a ∈ adr C1, a ∈ adr C ∨ H1 a = none) ∧ H2 L = some (.lst ws) ∧
    DpAll X.K (vw ((L :: O) ++ adr C1) H2) ws acc ∧ acc.length ≤ i ∧ I i acc C1, ⟨_, Nat.zero_add _, C, [], [], nLC, ow0, fun a o _ e => by rw [upd_ne (ne_of_none e hL)]; exact e, fun _ z => .inl z, upd_same, .nil, Nat.le_refl _, h0⟩, ?_⟩
  rintro i m H2 ⟨em, C1, acc, ws, nL1, ow2, st2, sb2, hL2, r2, la, i2⟩
  have nx : Nxt X.K O C H1 C1 H2 := ⟨st2, sb2, ow2.back⟩
  by_cases hlt : i < ds.length
  · refine .inr ⟨jd.go i H2 (nx.view.trans vw_sub) hlt, fun H3 => ∃ C1 acc ws, L ∉ adr C1 ∧ Own X.K (L :: O) C1 H3 ∧ (∀ a o, a ∉ adr C → H1 a = some o → H3 a = some o) ∧ (∀ a ∈ adr C1, a ∈ adr C ∨ H1 a = none) ∧ H3 L = some (.lst ws) ∧
      DpAll X.K (vw ((L :: O) ++ adr C1) H3) ws acc ∧ acc.length ≤ i + 1 ∧ I (i + 1) acc C1, fun H3 ⟨C3, acc3, ws3, z⟩ => ⟨m - 1, by omega, by omega, C3, acc3, ws3, z⟩, fun v H3 hy => ?_⟩
    have x12 : Ex (vw (O ++ adr C) H1) (vw ((L :: O) ++ adr C1) H2) := by
      intro a u q
      obtain ⟨na, q⟩ := vw_of q
      have n1 : a ∉ O := fun z => na (List.mem_append_left _ z)
      have n2 : a ∉ adr C := fun z => na (List.mem_append_right _ z)
      have hne : a ≠ L := ne_of_none q hL
      have n3 := nx.out n2 q
      rw [vw_at fun z => (List.mem_append.mp z).elim (fun y => (List.mem_cons.mp y).elim hne n1) n3]
      exact st2 a u n2 q
    obtain ⟨d, hdi, x3, r3'⟩ := jd.yld i (L :: O) C1 H2 v H3 ow2 x12 hlt hy
    obtain ⟨Δ2, ht, ht2⟩ := hs (L :: O) i acc C1 d hdi i2
    have n3 := ow2.ex x3
    -- the slots in the block
    have sd2 : SD X.K (vw ((L :: O) ++ adr C1) H2) Δ σ := (hd.nxt n1).sd.mono x12
    have hd3 : Hold X.K (L :: O) (wipeD Δ vs) C1 (wipe σ vs) H3 := ⟨(sd2.mono n3.view).wipe vs, n3.ow⟩
    refine ht _ H3 v hd3 r3' _ fun σ4 hd4 hw4 => ⟨hw4.trans wipe_idem, ht2 σ4 H3 hd4 _ fun k H5 C2 n5 hk => ?_⟩
    have keep : ∀ {C4 : Cont} {H4 : Hp}, Nxt X.K (L :: O) C1 H3 C4 H4 → L ∉ adr C4 ∧ (∀ a o, a ∉ adr C → H1 a = some o → H4 a = some o) ∧ (∀ a ∈ adr C4, a ∈ adr C ∨ H1 a = none) ∧ H4 L = some (.lst ws) ∧ DpAll X.K (vw ((L :: O) ++ adr C4) H4) ws acc := fun {C4 H4} n4 => by
      have h3 := x3 L _ hL2
      refine ⟨n4.out nL1 h3, fun a o na q => n4.stp a o (nx.out na q) (x3 a o (st2 a o na q)), fun a ha => ?_, n4.stp L _ nL1 h3, dpa_mono (n3.trans n4).view _ _ r2⟩
      rcases n4.sub a ha with z | z
      · exact sb2 a z
      · by_cases y : a ∈ adr C
        · exact .inl y
        · right
          cases q : H1 a with
          | none => rfl
          | some o =>
            have := x3 a o (st2 a o y q)
            rw [z] at this
            cases this
    cases k with
    | true =>
      have hk : ∀ σ H, Hold X.K (L :: O) Δ2 C2 σ H → ∀ Q : VK, (∀ v H' s C3, Nxt X.K (L :: O) C2 H C3 H' → VR X.K (vw ((L :: O) ++ adr C3) H') v s → (∃ z, s = .dat z ∧ I (i + 1) (acc ++ [z]) C3) → Q v H') → te σ H Q := hk
      refine iteT (hk σ4 H5 (hd4.nxt n5) _ fun u H6 s C3 n6 r6 ⟨z, es, i6⟩ => ?_)
      subst es
      obtain ⟨k1, k2, kb, k3, k4⟩ := keep (n5.trans n6)
      refine ⟨ws, k3, Evl.sz_lt (by rw [k4.len]; omega), C3, acc ++ [z], ws ++ [u], k1, ?_⟩
      obtain ⟨ow7, e7⟩ := n6.ow.write (o := .lst (ws ++ [u])) k1
      refine ⟨ow7, fun a o na q => ?_, kb, upd_same, dpa_mono e7 _ _ (k4.app (.cons r6 .nil)), by rw [List.length_append]; exact Nat.add_le_add_right la 1, i6⟩
      rw [upd_ne (ne_of_none q hL)]
      exact k2 a o na q
    | false =>
      have hk : I (i + 1) acc C2 := hk
      obtain ⟨k1, k2, kb, k3, k4⟩ := keep n5
      exact iteF ⟨C2, acc, ws, k1, n5.ow, k2, kb, k3, k4, Nat.le_succ_of_le la, hk⟩
  · have e : i = ds.length := by omega
    subst e
    refine .inl ⟨jd.stop H2 (nx.view.trans vw_sub), hq _ H2 acc C1 L ws (n1.trans nx) rfl hL0 hL2 nLO nL1 ow2 r2 i2⟩
/-- .. its list as a datum -/
theorem lc_dat {H' : Hp} {v : V} {C1 : Cont} {L : Addr} {ws : List V} {acc : List D} (e : v = .ref L) (hL : H' L = some (.lst ws)) (n1 : L ∉ O) (n2 : L ∉ adr C1) (r : DpAll X.K (vw ((L :: O) ++ adr C1) H') ws acc) : Dp X.K (vw (O ++ adr C1) H') v (.list acc) := by
  subst e
  refine .lst (SqL.of ?_) (dpa_mono vw_less _ _ r)
  rw [vw_at fun z => (List.mem_append.mp z).elim n1 n2]
  exact hL
end
end DL

/-! part Dl5 -/
set_option Elab.async false
set_option linter.all false
set_option maxRecDepth 100000
set_option maxHeartbeats 4000000
/-! Comprehensions as expressions and statements. -/
namespace DL
open PySem PySem.Spec PyProof.Rows L2
section
variable {X : Cx} {O : List Addr} {Δ : List SV} {C : Cont} {P : SV → Cont → Prop} {pos p : Pos} {a b : Expr} {es ifs : List Expr} {d e z : D} {x : Str} {ss : List SV} {k : Nat} {ps : List Str} {ds : List D}
/-- a clause's tests -/
def BstTs (X : Cx) (ifs : List Expr) : TT := fun σ H Q => ∀ pins s, Inv X pins σ H s →
  wpAny (model X.prog X.w) X.A (forIn ifs true fun c r => if r = true then do let ok ← isTrue c X.env (eval c X.env); pure (ForInStep.yield ok) else pure (ForInStep.yield r)) (TP X pins σ Q) X.xe s
theorem bstTs : PTs X ifs (BstTs X ifs) := ⟨fun pins s σ H Q I h => h pins s I⟩
def TvsP (X : Cx) (O : List Addr) (ifs : List Expr) (Δ : List SV) (C : Cont) (P : Bool → Cont → Prop) : Prop :=
  ∀ σ H, Hold X.K O Δ C σ H → ∀ Q : Bool → Hp → Prop, (∀ b H' C', Nxt X.K O C H C' H' → P b C' → Q b H') → BstTs X ifs σ H Q
theorem tvs_nil {PT : Bool → Cont → Prop} (h : PT true C) : TvsP X O [] Δ C PT := fun σ H hd Q q pins s I => pts_nil.run pins s σ H Q I (q true H C hd.ow.refl h)
theorem tvs_one {PT : Bool → Cont → Prop} (h : TvP X O a Δ C PT) : TvsP X O [a] Δ C PT := fun σ H hd Q q pins s I => (pts_one bstT).run pins s σ H Q I (h σ H hd Q q)
/-- the block of a comprehension -/
abbrev blkX (X : Cx) (scope : Scope) (s : Shared) (H : Hp) (A : Addr) (cl : List (Str × Addr)) (fp : List Addr) : Cx := X.blk s H scope (compEnvC scope cl A X.env) fp
variable {elt tg iter : Expr} {scope : Scope} {own : List (Str × Nat)}
/-- one turn, in whatever block -/
def Step (X : Cx) (scope : Scope) (elt tg : Expr) (ifs : List Expr) (vs : List Nat) (Δ : List SV) (O' : List Addr) (C1 : Cont) (d : D) (keep : D → Cont → Prop) (drop : Cont → Prop) : Prop :=
  ∃ is Δ2, (∀ i ∈ is, i ∈ vs) ∧ ∀ s H A cl fp, TgD (blkX X scope s H A cl fp) O' tg is (wipeD Δ vs) C1 d Δ2 ∧
    TvsP (blkX X scope s H A cl fp) O' ifs Δ2 C1 fun k C2 => if k = true then ∀ s H A cl fp, EvP (blkX X scope s H A cl fp) O' elt Δ2 C2 (fun t C3 => ∃ z, t = .dat z ∧ keep z C3) else drop C2
theorem lc_read {wi : TI} {σ : L2.St} {H : Hp} (hd : Hold X.K O Δ C σ H) (hw : ∀ R : It → Hp → Prop, (∀ J H', Nxt X.K O C H C H' → JD X.K O C J ds H' → R J H') → wi σ H R)
    (I : Nat → List D → Cont → Prop) (h0 : I 0 [] C) (hz : ds.length ≤ 90000) (hs : ∀ O' i acc C1 d, ds[i]? = some d → I i acc C1 → Step X scope elt tg ifs (own.map (·.2)) Δ O' C1 d (fun z C3 => I (i + 1) (acc ++ [z]) C3) (I (i + 1) acc))
    {Q : VK} (hq : ∀ v H' acc C1 L ws, Nxt X.K O C H C1 H' → v = .ref L → H L = none → H' L = some (.lst ws) → L ∉ O → L ∉ adr C1 → Own X.K (L :: O) C1 H' → DpAll X.K (vw ((L :: O) ++ adr C1) H') ws acc → I ds.length acc C1 → Q v H') :
    tLc wi (fun v σ H Q => ∀ s H' A cl fp, BstG (blkX X scope s H' A cl fp) tg v σ H Q) (fun σ H Q => ∀ s H' A cl fp, BstTs (blkX X scope s H' A cl fp) ifs σ H Q)
      (fun σ H Q => ∀ s H' A cl fp, Bst (blkX X scope s H' A cl fp) elt σ H Q) (own.map (·.2)) σ H Q := by
  refine lc_data hd hw I h0 hz (fun O' i acc C1 d hd' hi => ?_) hq
  obtain ⟨is, Δ2, hin, h⟩ := hs O' i acc C1 d hd' hi
  refine ⟨Δ2, fun σ2 H2 v hd2 r Q2 q2 s H' A cl fp => (h s H' A cl fp).1 σ2 H2 v hd2 r Q2 fun σ3 hd3 hw3 => q2 σ3 hd3 (hw3 _ hin), fun σ2 H2 hd2 Q2 q2 s H' A cl fp => (h s H' A cl fp).2 σ2 H2 hd2 Q2 fun k H3 C3 n3 hk => q2 k H3 C3 n3 ?_⟩
  cases k with
  | true =>
    have hk : ∀ s H A cl fp, EvP (blkX X scope s H A cl fp) O' elt Δ2 C3 (fun t C4 => ∃ z, t = .dat z ∧ I (i + 1) (acc ++ [z]) C4) := hk
    exact iteT fun σ4 H4 hd4 Q4 q4 s H' A cl fp => hk s H' A cl fp σ4 H4 hd4 Q4 q4
  | false => exact iteF hk
theorem pgAll (s : Shared) (H : Hp) (A : Addr) (cl : List (Str × Addr)) (fp : List Addr) : PG (blkX X scope s H A cl fp) tg (fun v σ H Q => ∀ s H' A cl fp, BstG (blkX X scope s H' A cl fp) tg v σ H Q) :=
  ⟨fun pins t σ H v u Q I r h => h _ _ _ _ _ pins t u I r⟩
theorem ptAll (s : Shared) (H : Hp) (A : Addr) (cl : List (Str × Addr)) (fp : List Addr) : PTs (blkX X scope s H A cl fp) ifs (fun σ H Q => ∀ s H' A cl fp, BstTs (blkX X scope s H' A cl fp) ifs σ H Q) :=
  ⟨fun pins t σ H Q I h => h _ _ _ _ _ pins t I⟩
theorem peAll (s : Shared) (H : Hp) (A : Addr) (cl : List (Str × Addr)) (fp : List Addr) : PE (blkX X scope s H A cl fp) elt (fun σ H Q => ∀ s H' A cl fp, Bst (blkX X scope s H' A cl fp) elt σ H Q) :=
  ⟨fun pins t σ H Q I h => h _ _ _ _ _ pins t I⟩
theorem vp_lc (nd : X.N.Nodup) (ok : BlkOk X.N X.env.scope scope own) (hi : IvD X O tg iter Δ C ds) (I : Nat → List D → Cont → Prop) (h0 : I 0 [] C)
    (hs : ∀ O' i acc C1 d, ds[i]? = some d → I i acc C1 → Step X scope elt tg ifs (own.map (·.2)) Δ O' C1 d (fun z C3 => I (i + 1) (acc ++ [z]) C3) (I (i + 1) acc))
    (he : ∀ acc C1, I ds.length acc C1 → P (.dat (.list acc)) C1) (hz : ds.length ≤ 90000) (hc : X.calm = true := by rfl) (hf : ∀ x, foldedSetIterable iter X.env x = pure x := by intro _; rfl) : EvP X O (.ListComp elt [⟨tg, iter, ifs, 0⟩] scope pos) Δ C P := fun σ H hd Q q => by
  obtain ⟨wi, pi, hw⟩ := hi
  exact goE (pe_lc hc nd pi ok pgAll ptAll peAll hf) (lc_read hd (hw σ H hd) I h0 hz hs fun v H' acc C1 L ws n e1 _ e2 e3 e4 e5 r i => q v H' (.dat (.list acc)) C1 n (lc_dat e1 e2 e3 e4 r) (he acc C1 i))
variable {N : List SV → Cont → Prop} {R : SV → Cont → Prop} {rest : List Stmt}
theorem b_setLc {i : Nat} {y : Str} {py spos : Pos} (nd : X.N.Nodup) (ok : BlkOk X.N X.env.scope scope own) (hi : IvD X O tg iter Δ C ds) (I : Nat → List D → Cont → Prop) (h0 : I 0 [] C)
    (hs : ∀ O' i acc C1 d, ds[i]? = some d → I i acc C1 → Step X scope elt tg ifs (own.map (·.2)) Δ O' C1 d (fun z C3 => I (i + 1) (acc ++ [z]) C3) (I (i + 1) acc))
    (he : ∀ acc C1, I ds.length acc C1 → BvP X O rest (Δ.set i (.dat (.list acc))) C1 N R) (hz : ds.length ≤ 90000) (hc : X.calm = true := by rfl) (hy : X.N[i]? = some y := by rfl) (hyl : X.env.scope.names.lookup y = some .local := by rfl)
    (hsw : swapsWith (.ListComp elt [⟨tg, iter, ifs, 0⟩] scope pos) (some (.Name y py)) spos.line X.env = pure true := by exact sw_true rfl rfl rfl rfl) (hf : ∀ x, foldedSetIterable iter X.env x = pure x := by intro _; rfl) :
    BvP X O (.Assign [.Name y py] (.ListComp elt [⟨tg, iter, ifs, 0⟩] scope pos) spos :: rest) Δ C N R := by
  obtain ⟨wi, pi, hw⟩ := hi
  exact b_seq (ps_setLc hc nd hy hyl hsw pi ok pgAll ptAll peAll hf) fun σ H hd E n r => lc_read hd (hw σ H hd) I h0 hz hs fun v H' acc C1 L ws n1 e1 _ e2 e3 e4 e5 r i1 => n _ H' _ C1 n1 ((hd.nxt n1).set i (s := .dat (.list acc)) (lc_dat e1 e2 e3 e4 r)) (he acc C1 i1)
/-! ### pure ones: what is kept, what it is worth -/
/-- one turn of a pure comprehension -/
def StepD (X : Cx) (scope : Scope) (elt tg : Expr) (ifs : List Expr) (vs : List Nat) (Δ : List SV) (O' : List Addr) (C : Cont) (d : D) (k : Bool) (z : D) : Prop :=
  ∃ is Δ2, (∀ i ∈ is, i ∈ vs) ∧ ∀ s H A cl fp, TgD (blkX X scope s H A cl fp) O' tg is (wipeD Δ vs) C d Δ2 ∧
    TvsP (blkX X scope s H A cl fp) O' ifs Δ2 C (fun j C2 => j = k ∧ C2 = C) ∧ (k = true → EvD (blkX X scope s H A cl fp) O' elt Δ2 C z)
theorem StepD.step {vs : List Nat} {O' : List Addr} {k : Bool} {keep : D → Cont → Prop} {drop : Cont → Prop} (h : StepD X scope elt tg ifs vs Δ O' C d k z) (h1 : k = true → keep z C) (h2 : k = false → drop C) : Step X scope elt tg ifs vs Δ O' C d keep drop := by
  obtain ⟨is, Δ2, hin, h⟩ := h
  refine ⟨is, Δ2, hin, fun s H A cl fp => ⟨(h s H A cl fp).1, fun σ2 H2 hd2 Q2 q2 => (h s H A cl fp).2.1 σ2 H2 hd2 Q2 fun j H3 C3 n3 ⟨e1, e2⟩ => q2 j H3 C3 n3 ?_⟩⟩
  subst e1 e2
  cases j with
  | true => exact iteT fun s H A cl fp => ((h s H A cl fp).2.2 rfl).p ⟨z, rfl, h1 rfl⟩
  | false => exact iteF (h2 rfl)
section
variable {α : Type} {xs : List α} {enc : α → D} {keep : α → Bool} {val : α → D}
/-- what is there behind i turns -/
def madeL (xs : List α) (keep : α → Bool) (val : α → D) (i : Nat) : List D := ((xs.take i).filter keep).map val
theorem madeL_all : madeL xs keep val xs.length = (xs.filter keep).map val := by unfold madeL; rw [List.take_length]
theorem madeL_succ {i : Nat} {x : α} (h : xs[i]? = some x) : madeL xs keep val (i + 1) = madeL xs keep val i ++ (if keep x = true then [val x] else []) := by
  have e : xs.take (i + 1) = xs.take i ++ [x] := by rw [List.take_add_one, h] <;> rfl
  unfold madeL
  rw [e, List.filter_append, List.map_append]
  congr 1
  cases q : keep x with
  | true => rw [List.filter_cons_of_pos q, if_pos rfl] <;> rfl
  | false => rw [List.filter_cons_of_neg (by rw [q]; decide), if_neg (by decide)] <;> rfl
theorem pure_step (hd : ds = xs.map enc) (hs : ∀ O' x, x ∈ xs → StepD X scope elt tg ifs (own.map (·.2)) Δ O' C (enc x) (keep x) (val x)) :
    ∀ O' i acc C1 d, ds[i]? = some d → (acc = madeL xs keep val i ∧ C1 = C) → Step X scope elt tg ifs (own.map (·.2)) Δ O' C1 d (fun z C3 => acc ++ [z] = madeL xs keep val (i + 1) ∧ C3 = C) (fun C2 => acc = madeL xs keep val (i + 1) ∧ C2 = C) := by
  rintro O' i acc C1 d hdi ⟨rfl, rfl⟩
  rw [hd, List.getElem?_map] at hdi
  obtain ⟨x, hx, rfl⟩ := Option.map_eq_some_iff.mp hdi
  refine (hs O' x (List.mem_of_getElem? hx)).step (fun k => ⟨?_, rfl⟩) fun k => ⟨?_, rfl⟩
  · rw [madeL_succ hx, if_pos k]
  · rw [madeL_succ hx, if_neg (by rw [k]; decide), List.append_nil]
theorem ev_lc (nd : X.N.Nodup) (ok : BlkOk X.N X.env.scope scope own) (hi : IvD X O tg iter Δ C ds) (hd : ds = xs.map enc) (hs : ∀ O' x, x ∈ xs → StepD X scope elt tg ifs (own.map (·.2)) Δ O' C (enc x) (keep x) (val x)) (hz : xs.length ≤ 90000)
    (hc : X.calm = true := by rfl) (hf : ∀ x, foldedSetIterable iter X.env x = pure x := by intro _; rfl) : EvD X O (.ListComp elt [⟨tg, iter, ifs, 0⟩] scope pos) Δ C (.list ((xs.filter keep).map val)) := by
  have hl : ds.length = xs.length := by rw [hd, List.length_map]
  refine EvP.d (vp_lc nd ok hi (fun i acc C1 => acc = madeL xs keep val i ∧ C1 = C) ⟨rfl, rfl⟩ (pure_step hd hs) (fun acc C1 ⟨e1, e2⟩ => ⟨?_, e2⟩) (by rw [hl]; exact hz) hc hf)
  rw [e1, hl, madeL_all]
theorem b_lc {i : Nat} {y : Str} {py spos : Pos} (nd : X.N.Nodup) (ok : BlkOk X.N X.env.scope scope own) (hi : IvD X O tg iter Δ C ds) (hd : ds = xs.map enc) (hs : ∀ O' x, x ∈ xs → StepD X scope elt tg ifs (own.map (·.2)) Δ O' C (enc x) (keep x) (val x)) (hz : xs.length ≤ 90000)
    (he : BvP X O rest (Δ.set i (.dat (.list ((xs.filter keep).map val)))) C N R) (hc : X.calm = true := by rfl) (hy : X.N[i]? = some y := by rfl) (hyl : X.env.scope.names.lookup y = some .local := by rfl)
    (hsw : swapsWith (.ListComp elt [⟨tg, iter, ifs, 0⟩] scope pos) (some (.Name y py)) spos.line X.env = pure true := by exact sw_true rfl rfl rfl rfl) (hf : ∀ x, foldedSetIterable iter X.env x = pure x := by intro _; rfl) :
    BvP X O (.Assign [.Name y py] (.ListComp elt [⟨tg, iter, ifs, 0⟩] scope pos) spos :: rest) Δ C N R := by
  have hl : ds.length = xs.length := by rw [hd, List.length_map]
  refine b_setLc nd ok hi (fun i acc C1 => acc = madeL xs keep val i ∧ C1 = C) ⟨rfl, rfl⟩ (pure_step hd hs) (fun acc C1 ⟨e1, e2⟩ => ?_) (by rw [hl]; exact hz) hc hy hyl hsw hf
  rw [e1, e2, hl, madeL_all]
  exact he
/-- a turn without tests -/
theorem stepD_all {vs is : List Nat} {O' : List Addr} {Δ2 : List SV} (hin : ∀ i ∈ is, i ∈ vs) (ht : ∀ s H A cl fp, TgD (blkX X scope s H A cl fp) O' tg is (wipeD Δ vs) C d Δ2) (he : ∀ s H A cl fp, EvD (blkX X scope s H A cl fp) O' elt Δ2 C z) : StepD X scope elt tg [] vs Δ O' C d true z :=
  ⟨is, Δ2, hin, fun s H A cl fp => ⟨ht s H A cl fp, tvs_nil ⟨rfl, rfl⟩, fun _ => he s H A cl fp⟩⟩
theorem stepD_if {vs is : List Nat} {O' : List Addr} {Δ2 : List SV} {c : Expr} {k : Bool} (hin : ∀ i ∈ is, i ∈ vs) (ht : ∀ s H A cl fp, TgD (blkX X scope s H A cl fp) O' tg is (wipeD Δ vs) C d Δ2) (hk : ∀ s H A cl fp, EvT (blkX X scope s H A cl fp) O' c Δ2 C k) (he : k = true → ∀ s H A cl fp, EvD (blkX X scope s H A cl fp) O' elt Δ2 C z) : StepD X scope elt tg [c] vs Δ O' C d k z :=
  ⟨is, Δ2, hin, fun s H A cl fp => ⟨ht s H A cl fp, tvs_one ((hk s H A cl fp).p ⟨rfl, rfl⟩), fun q => he q s H A cl fp⟩⟩
theorem ev_map (nd : X.N.Nodup) (ok : BlkOk X.N X.env.scope scope own) (hi : IvD X O tg iter Δ C ds) (hd : ds = xs.map enc) (hs : ∀ O' x, x ∈ xs → StepD X scope elt tg [] (own.map (·.2)) Δ O' C (enc x) true (val x)) (hz : xs.length ≤ 90000)
    (hc : X.calm = true := by rfl) (hf : ∀ x, foldedSetIterable iter X.env x = pure x := by intro _; rfl) : EvD X O (.ListComp elt [⟨tg, iter, [], 0⟩] scope pos) Δ C (.list (xs.map val)) := by
  have h := ev_lc (pos := pos) (keep := fun _ => true) nd ok hi hd hs hz hc hf
  rwa [List.filter_eq_self.mpr fun _ _ => rfl] at h
end
end
end DL

/-! part Dl6 -/
set_option Elab.async false
set_option linter.all false
set_option maxRecDepth 100000
set_option maxHeartbeats 4000000
/-! The text's defs. -/
namespace DL
open PySem PySem.Spec PyProof.Rows L2
abbrev theRow := PySem.Challenge.rw_drawarms_k67_whole_fitting_maps_and_bars
def topS (i : Nat) : Stmt := PySem.Challenge.pw_drawarms_k67_whole_fitting_maps_and_bars.main.body.getD i (.Pass ⟨0, 0, 0, 0⟩)
/-- where a def stands in the text -/
def dOf (x : Str) (i : Nat) : He.DefD := ⟨(x, none), x, x, defArgs (topS i), defBody (topS i), defScope (topS i), [], []⟩
section
variable (P : Program) (w : World) (K : PySem.W.Frag) (mg : Str → Option Value) (base : Heap)
/-- a def's body runs in this -/
abbrev CX (N : List Str) (x : Str) (sc : Scope) (f : Addr) (cdv : Value) (A : Around) (outer : List Env) (s : Shared) (H : Hp) (E : XK) : Cx := (cxOf CX0 P w K mg base N x sc f cdv A outer s H E).nox
/-- the def as it stands behind the top -/
def Stands (x : Str) (i : Nat) : Prop := ∃ f fd, mg x = some (.ref f) ∧ FunD K x x (defArgs (topS i)) (defBody (topS i)) (defScope (topS i)) [] [] f fd
end
theorem vrs_start {K : PySem.W.Frag} {W : Hp} {N : List Str} {vs : List V} {ss : List SV} (r : VRs K W vs ss) : SD K W (ss ++ List.replicate (N.length - ss.length) .no) (L2.start N vs) := by
  have e := r.len
  refine ⟨?_, fun i s q => ?_⟩
  · unfold L2.start
    rw [List.length_append, List.length_append, List.length_map, List.length_replicate, List.length_replicate, e]
  · by_cases hi : i < ss.length
    · rw [List.getElem?_append_left hi] at q
      obtain ⟨v, a, b⟩ := r.get q
      refine .inr ⟨v, ?_, b⟩
      unfold L2.start
      rw [List.getElem?_append_left (by rw [List.length_map, e]; exact hi), List.getElem?_map, a] <;> rfl
    · rw [List.getElem?_append_right (by omega)] at q
      exact .inl (List.eq_of_mem_replicate (List.mem_of_getElem? q))
section
variable {P : Program} {w : World} {K : PySem.W.Frag} {mg : Str → Option Value} {base : Heap}
theorem fun_at {x : Str} {pr : Arguments} {bd : List Stmt} {sc : Scope} {f : Addr} {fd : FuncData} (F : FunD K x x pr bd sc [] [] f fd) : ∃ o, K.lookup f = some o ∧ o.data = .func fd := by
  obtain ⟨oc, od, dV, kV, doc, pm, an, cdv, ct, osl, _, lk, _⟩ := F.ex
  exact ⟨_, lk, rfl⟩
theorem mkDef {x : Str} {i : Nat} {N ps : List Str} {k : Nat} {R : Con} (h : Stands K mg x i) (S : FnScope N ps (defScope (topS i)))
    (hb : ∀ (kV doc pm : Value) (an : Option Addr) (cdv ct : Value) (us : List Value), us.length = ps.length → bindArgs (PySem.W.fnOf x x (defArgs (topS i)) (defBody (topS i)) (defScope (topS i)) .none kV doc pm an cdv ct) ⟨us, []⟩ = pure (ps.zip us))
    (len : ∀ ss C q, R ss C q → ss.length = ps.length)
    (body : ∀ (f : Addr) (cdv : Value) (A : Around) (outer : List Env) (s : Shared) (H : Hp) (E : XK), Room k (A.deeper (envOfC x (defScope (topS i)) s.heap.objs.size f cdv)) → ∀ O C ss Q, R ss C Q →
      BvP (CX P w K mg base N x (defScope (topS i)) f cdv A outer s H E) O (defBody (topS i)) (ss ++ List.replicate (N.length - ss.length) .no) C (fun _ C' => Q (.dat .none) C') Q) : DefOk P w K mg base (k + 1) x ps R := by
  obtain ⟨f, fd, hm, F⟩ := h
  refine ⟨f, fd, hm, F.kp, F.bindsN hb, F.ok S (fun vs H Q E h => ?_) fun cdv A outer s H vs Q E hr h => ?_, fun_at F⟩
  · obtain ⟨O, C, ss, Pq, r, _, c, _⟩ := h
    rw [r.len]
    exact len ss C Pq c
  · obtain ⟨O, C, ss, Pq, r, ow, c, q⟩ := h
    refine ⟨_, PSs.nox bstB, body f cdv A outer s H E hr O C ss Pq c (L2.start N vs) H ⟨vrs_start r, ow⟩ _ (fun σ' H' Δ' C' n hd hn => ?_) fun v H' s C' n r' hp => ?_⟩
    · exact q (.dat .none) C' .non H' hn n .non
    · exact q s C' v H' hp n r'
/-- two arguments, .. -/
theorem len_pur {n : Nat} {F : List D → D → Prop} (h : ∀ ds d, F ds d → ds.length = n) : ∀ (ss : List SV) (C : Cont) q, pur F ss C q → ss.length = n := by
  rintro ss C q ⟨ds, d, rfl, f, _⟩
  rw [List.length_map]
  exact h ds d f
/-- a weaker promise -/
theorem DefOk.imp {x : Str} {ps : List Str} {k : Nat} {R R' : Con} (F : DefOk P w K mg base k x ps R) (h : ∀ ss C q, R' ss C q → R ss C q) : DefOk P w K mg base k x ps R' := by
  obtain ⟨f, fd, hm, kp, hb, F, o⟩ := F.ex
  exact ⟨f, fd, hm, kp, hb, F.imp fun vs H Q E ⟨O, C, ss, Pq, r, ow, c, q⟩ => ⟨O, C, ss, Pq, r, ow, h _ _ _ c, q⟩, o⟩
/-- .. by two names, the second one first -/
theorem DefOk.names {x : Str} {i k : Nat} {p1 p2 : Str} {R : Con} (F : DefOk P w K mg base k x [p1, p2] R) (h : Stands K mg x i)
    (hb : ∀ (kV doc pm : Value) (an : Option Addr) (cdv ct a b : Value), bindArgs (PySem.W.fnOf x x (defArgs (topS i)) (defBody (topS i)) (defScope (topS i)) .none kV doc pm an cdv ct) ⟨[], [(p2, a), (p1, b)]⟩ = pure [(p1, b), (p2, a)]) : DefOkK P w K mg base k x [p1, p2] [p2, p1] R := by
  obtain ⟨f, fd, hm, kp, _, F, o, lo, od⟩ := F.ex
  obtain ⟨f', fd', hm', FD⟩ := h
  rw [hm] at hm'
  cases hm'
  obtain ⟨o', lo', od'⟩ := fun_at FD
  rw [lo] at lo'
  cases lo'
  rw [od] at od'
  cases od'
  refine ⟨f, fd, hm, kp, ⟨fun s us ws _ hl => ?_, fun {vs us zs ws} r1 r2 => ?_⟩, F⟩
  · obtain ⟨oc, od, dV, kV, doc, pm, an, cdv, ct, osl, rfl, lk, hcd, hD, hK⟩ := FD.ex
    rcases hD with ⟨_, rfl⟩ | ⟨e, _⟩
    · match us, ws, hl with
      | [], [a, b], _ => exact .of_eq (hb kV doc pm an cdv ct a b)
      | _ :: _, _, hl => cases hl
      | [], [], hl => cases hl
      | [], [_], hl => cases hl
      | [], _ :: _ :: _ :: _, hl => cases hl
    · exact absurd rfl e
  · match vs, us, zs, ws, r1, r2 with
    | [], [], [_, _], [_, _], _, .cons a (.cons b .nil) => exact .cons b (.cons a .nil)
    | _ :: _, _ :: _, _, _, _, _ => exact .nil
    | [], [], [], [], _, _ => exact .nil
    | [], [], [_], [_], _, _ => exact .nil
    | [], [], _ :: _ :: _ :: _, _ :: _ :: _ :: _, _, _ => exact .nil
end
end DL

/-! part Do -/
set_option Elab.async false
set_option linter.all false
set_option maxRecDepth 100000
set_option maxHeartbeats 4000000
/-! Owned lists: made, read, written, given up. -/
namespace DL
open PySem PySem.Spec PyProof.Rows L2
section
variable {K : PySem.W.Frag} {O : List Addr} {Δ : List SV} {C C' A B : Cont} {σ : L2.St} {H H' : Hp} {p : Addr} {xs : List V} {ds : List D}
/-- a new list, owned -/
theorem Own.newO (h : Own K O C H) (hp : H p = none) (r : DpAll K (vw (O ++ adr C) H) xs ds) : (p ∉ adr C ∧ p ∉ O) ∧ Nxt K O C H ((p, ds) :: C) (upd H p (.lst xs)) := by
  have ns := h.seen hp
  have np : p ∉ adr C := fun z => ns (List.mem_append_right _ z)
  have e : Ex (vw (O ++ adr C) H) (vw (O ++ adr ((p, ds) :: C)) (upd H p (.lst xs))) := fun a u q => by
    obtain ⟨n, q⟩ := vw_of q
    have hne : a ≠ p := ne_of_none q hp
    have n1 : a ∉ O := fun z => n (List.mem_append_left _ z)
    have n2 : a ∉ adr C := fun z => n (List.mem_append_right _ z)
    rw [vw_at (show a ∉ O ++ adr ((p, ds) :: C) from fun z => (List.mem_append.mp z).elim n1 fun z => (List.mem_cons.mp z).elim hne n2), upd_ne hne]
    exact q
  refine ⟨⟨np, fun z => ns (List.mem_append_left _ z)⟩, fun a o n q => ?_, fun a ha => ?_, fun q hq => ?_, fun a ha => ?_, List.nodup_cons.mpr ⟨np, h.nd⟩⟩
  · rw [upd_ne (ne_of_none q hp)]
    exact q
  · rcases List.mem_cons.mp ha with z | z
    · right; rw [z]; exact hp
    · exact .inl z
  · rcases List.mem_cons.mp hq with z | z
    · subst z
      exact ⟨xs, upd_same, dpa_mono e _ _ r⟩
    · obtain ⟨vs, a, b⟩ := h.own q z
      exact ⟨vs, by rw [upd_ne (ne_of_none a hp)]; exact a, dpa_mono e _ _ b⟩
  · obtain ⟨o, q⟩ := h.trk a ha
    exact ⟨o, by rw [upd_ne (ne_of_none q hp)]; exact q⟩
theorem adr_put {ds' : List D} : adr (A ++ (p, ds') :: B) = adr (A ++ (p, ds) :: B) := by
  unfold adr
  rw [List.map_append, List.map_append] <;> rfl
theorem adr_in : p ∈ adr (A ++ (p, ds) :: B) := by
  unfold adr
  rw [List.map_append]
  exact List.mem_append_right _ List.mem_cons_self
theorem vw_put {L : List Addr} {o : HO} (h : p ∈ L) : vw L (upd H p o) = vw L H := by
  funext a
  unfold vw
  by_cases z : a ∈ L
  · rw [if_pos z, if_pos z]
  · rw [if_neg z, if_neg z, upd_ne (show a ≠ p from fun e => z (by rw [e]; exact h))]
/-- the owned list p written -/
theorem Own.put {ds' : List D} (h : Own K O (A ++ (p, ds) :: B) H) (r : DpAll K (vw (O ++ adr (A ++ (p, ds) :: B)) H) xs ds') : Nxt K O (A ++ (p, ds) :: B) H (A ++ (p, ds') :: B) (upd H p (.lst xs)) := by
  have ea : adr (A ++ (p, ds') :: B) = adr (A ++ (p, ds) :: B) := adr_put
  have ev : vw (O ++ adr (A ++ (p, ds') :: B)) (upd H p (.lst xs)) = vw (O ++ adr (A ++ (p, ds) :: B)) H := by
    rw [ea, vw_put (List.mem_append_right _ adr_in)]
  have nd := h.nd
  have nd2 : (A.map (·.1) ++ p :: B.map (·.1)).Nodup := by
    have e : adr (A ++ (p, ds) :: B) = A.map (·.1) ++ p :: B.map (·.1) := by unfold adr; rw [List.map_append] <;> rfl
    rw [e] at nd
    exact nd
  obtain ⟨n1, n2, n3⟩ := List.nodup_append.mp nd2
  refine ⟨fun a o n q => ?_, fun a ha => ?_, fun q hq => ?_, fun a ha => ?_, by rw [ea]; exact nd⟩
  · rw [upd_ne (show a ≠ p from fun e => n (by rw [e]; exact adr_in))]
    exact q
  · rw [ea] at ha
    exact .inl ha
  · rw [ev]
    rcases List.mem_append.mp hq with z | z
    · obtain ⟨vs, a, b⟩ := h.own q (List.mem_append_left _ z)
      exact ⟨vs, by rw [upd_ne (show q.1 ≠ p from fun e => n3 q.1 (List.mem_map_of_mem z) p List.mem_cons_self e)]; exact a, b⟩
    · rcases List.mem_cons.mp z with z | z
      · subst z
        exact ⟨xs, upd_same, r⟩
      · obtain ⟨vs, a, b⟩ := h.own q (List.mem_append_right _ (List.mem_cons_of_mem _ z))
        exact ⟨vs, by rw [upd_ne (show q.1 ≠ p from fun e => (List.nodup_cons.mp n2).1 (by rw [← e]; exact List.mem_map_of_mem z))]; exact a, b⟩
  · by_cases z : a = p
    · exact ⟨_, by rw [z, upd_same]⟩
    · obtain ⟨u, q⟩ := h.trk a ha
      exact ⟨u, by rw [upd_ne z]; exact q⟩
theorem Own.get (h : Own K O C H) (m : (p, ds) ∈ C) : ∃ vs, H p = some (.lst vs) ∧ DpAll K (vw (O ++ adr C) H) vs ds := h.own _ m
/-- some owned lists let go -/
theorem Own.less (h : Own K O C H) (s : C'.Sublist C) : Nxt K O C H C' H := by
  have sa : ∀ a ∈ adr C', a ∈ adr C := fun a ha => (s.map _).subset ha
  refine ⟨.refl, fun a ha => .inl (sa a ha), fun q hq => ?_, h.trk, h.nd.sublist (s.map _)⟩
  obtain ⟨vs, a, b⟩ := h.own q (s.subset hq)
  refine ⟨vs, a, dpa_mono (fun x u e => ?_) _ _ b⟩
  obtain ⟨n, e⟩ := vw_of e
  rw [vw_at fun z => n ((List.mem_append.mp z).elim (fun z => List.mem_append_left _ z) fun z => List.mem_append_right _ (sa x z))]
  exact e
theorem out_frz (h : Own K O (A ++ (p, ds) :: B) H) (hO : p ∉ O) : p ∉ O ++ adr (A ++ B) := by
  have nd := h.nd
  have e : adr (A ++ (p, ds) :: B) = A.map (·.1) ++ p :: B.map (·.1) := by unfold adr; rw [List.map_append] <;> rfl
  rw [e] at nd
  obtain ⟨n1, n2, n3⟩ := List.nodup_append.mp nd
  intro z
  rcases List.mem_append.mp z with z | z
  · exact hO z
  · have z : p ∈ A.map (·.1) ++ B.map (·.1) := by
      unfold adr at z
      rwa [List.map_append] at z
    rcases List.mem_append.mp z with z | z
    · exact n3 p z p List.mem_cons_self rfl
    · exact (List.nodup_cons.mp n2).1 z
end
section
variable {X : Cx} {O : List Addr} {Δ : List SV} {C A B : Cont} {P : SV → Cont → Prop} {pos p' : Pos} {a b : Expr} {es ifs : List Expr} {d e z : D} {x : Str} {ss : List SV} {k : Nat} {ds : List D} {p : Addr} {i : Nat}
variable {N : List SV → Cont → Prop} {R : SV → Cont → Prop} {rest : List Stmt}
/-! ### made -/
theorem vp_lstO (h : AvP X O es Δ C fun ss C1 => ∃ ds, ss = ds.map .dat ∧ ds.length ≤ 100000 ∧ ∀ p, p ∉ adr C1 → p ∉ O → P (.own p) ((p, ds) :: C1)) : EvP X O (.List es pos) Δ C P := fun σ H hd Q q =>
  goE (pe_lst bstA) (h σ H hd _ fun vs H1 ss C1 n1 r1 ⟨ds, es, hl, p⟩ => by
    subst es
    refine ⟨Evl.sz_of (by rw [vrs_len r1]; exact hl), fun t ht => ?_⟩
    obtain ⟨⟨np, no⟩, n2⟩ := n1.ow.newO ht (datsOf r1)
    exact q _ _ (.own t) ((t, ds) :: C1) (n1.trans n2) rfl (p t np no))
variable {elt tg iter : Expr} {scope : Scope} {own : List (Str × Nat)} {α : Type} {xs : List α} {enc : α → D} {val : α → D}
theorem lc_own {H' : Hp} {v : V} {C1 : Cont} {L : Addr} {ws : List V} {acc : List D} (hL : H' L = some (.lst ws)) (n1 : L ∉ O) (n2 : L ∉ adr C1) (ow : Own X.K (L :: O) C1 H') (r : DpAll X.K (vw ((L :: O) ++ adr C1) H') ws acc) : Own X.K O ((L, acc) :: C1) H' := by
  have e : ∀ W : Hp, vw (O ++ adr ((L, acc) :: C1)) W = vw ((L :: O) ++ adr C1) W := fun W => by
    funext a
    unfold vw
    have m : a ∈ O ++ adr ((L, acc) :: C1) ↔ a ∈ (L :: O) ++ adr C1 := by
      simp only [adr, List.map_cons, List.mem_append, List.mem_cons]
      constructor
      · rintro (h | h | h)
        · exact .inl (.inr h)
        · exact .inl (.inl h)
        · exact .inr h
      · rintro ((h | h) | h)
        · exact .inr (.inl h)
        · exact .inl h
        · exact .inr (.inr h)
    by_cases z : a ∈ O ++ adr ((L, acc) :: C1)
    · rw [if_pos z, if_pos (m.mp z)]
    · rw [if_neg z, if_neg fun y => z (m.mpr y)]
  refine ⟨fun q hq => ?_, fun a ha => ow.trk a (List.mem_cons_of_mem _ ha), List.nodup_cons.mpr ⟨n2, ow.nd⟩⟩
  rw [e]
  rcases List.mem_cons.mp hq with z | z
  · subst z
    exact ⟨ws, hL, r⟩
  · exact ow.own q z
theorem lc_nxt {H H' : Hp} {v : V} {C1 : Cont} {L : Addr} {ws : List V} {acc : List D} (n : Nxt X.K O C H C1 H') (f : H L = none) (hL : H' L = some (.lst ws)) (n1 : L ∉ O) (n2 : L ∉ adr C1) (ow : Own X.K (L :: O) C1 H') (r : DpAll X.K (vw ((L :: O) ++ adr C1) H') ws acc) : Nxt X.K O C H ((L, acc) :: C1) H' := by
  refine ⟨n.stp, fun a ha => ?_, lc_own (v := v) hL n1 n2 ow r⟩
  rcases List.mem_cons.mp ha with z | z
  · subst z
    exact .inr f
  · exact n.sub a z
theorem vp_lcO (nd : X.N.Nodup) (ok : BlkOk X.N X.env.scope scope own) (hi : IvD X O tg iter Δ C ds) (I : Nat → List D → Cont → Prop) (h0 : I 0 [] C)
    (hs : ∀ O' i acc C1 d, ds[i]? = some d → I i acc C1 → Step X scope elt tg ifs (own.map (·.2)) Δ O' C1 d (fun z C3 => I (i + 1) (acc ++ [z]) C3) (I (i + 1) acc))
    (he : ∀ acc C1 p, p ∉ adr C1 → p ∉ O → I ds.length acc C1 → P (.own p) ((p, acc) :: C1)) (hz : ds.length ≤ 90000) (hc : X.calm = true := by rfl) (hf : ∀ x, foldedSetIterable iter X.env x = pure x := by intro _; rfl) : EvP X O (.ListComp elt [⟨tg, iter, ifs, 0⟩] scope pos) Δ C P := fun σ H hd Q q => by
  obtain ⟨wi, pi, hw⟩ := hi
  exact goE (pe_lc hc nd pi ok pgAll ptAll peAll hf) (lc_read hd (hw σ H hd) I h0 hz hs fun v H' acc C1 L ws n e1 e0 e2 e3 e4 e5 r i => q v H' (.own L) ((L, acc) :: C1) (lc_nxt (v := v) n e0 e2 e3 e4 e5 r) e1 (he acc C1 L e4 e3 i))
theorem vp_mapO (nd : X.N.Nodup) (ok : BlkOk X.N X.env.scope scope own) (hi : IvD X O tg iter Δ C ds) (hd : ds = xs.map enc) (hs : ∀ O' x, x ∈ xs → StepD X scope elt tg [] (own.map (·.2)) Δ O' C (enc x) true (val x)) (hz : xs.length ≤ 90000)
    (he : ∀ p, p ∉ adr C → p ∉ O → P (.own p) ((p, xs.map val) :: C)) (hc : X.calm = true := by rfl) (hf : ∀ x, foldedSetIterable iter X.env x = pure x := by intro _; rfl) : EvP X O (.ListComp elt [⟨tg, iter, [], 0⟩] scope pos) Δ C P := by
  have hl : ds.length = xs.length := by rw [hd, List.length_map]
  refine vp_lcO nd ok hi (fun i acc C1 => acc = madeL xs (fun _ => true) val i ∧ C1 = C) ⟨rfl, rfl⟩ (pure_step hd hs) (fun acc C1 p np no ⟨e1, e2⟩ => ?_) (by rw [hl]; exact hz) hc hf
  subst e2
  rw [e1, hl, madeL_all, List.filter_eq_self.mpr fun _ _ => rfl]
  exact he p np no
theorem b_setLcO {i : Nat} {y : Str} {py spos : Pos} (nd : X.N.Nodup) (ok : BlkOk X.N X.env.scope scope own) (hi : IvD X O tg iter Δ C ds) (I : Nat → List D → Cont → Prop) (h0 : I 0 [] C)
    (hs : ∀ O' i acc C1 d, ds[i]? = some d → I i acc C1 → Step X scope elt tg ifs (own.map (·.2)) Δ O' C1 d (fun z C3 => I (i + 1) (acc ++ [z]) C3) (I (i + 1) acc))
    (he : ∀ acc C1 p, p ∉ adr C1 → p ∉ O → I ds.length acc C1 → BvP X O rest (Δ.set i (.own p)) ((p, acc) :: C1) N R) (hz : ds.length ≤ 90000) (hc : X.calm = true := by rfl) (hy : X.N[i]? = some y := by rfl) (hyl : X.env.scope.names.lookup y = some .local := by rfl)
    (hsw : swapsWith (.ListComp elt [⟨tg, iter, ifs, 0⟩] scope pos) (some (.Name y py)) spos.line X.env = pure true := by exact sw_true rfl rfl rfl rfl) (hf : ∀ x, foldedSetIterable iter X.env x = pure x := by intro _; rfl) :
    BvP X O (.Assign [.Name y py] (.ListComp elt [⟨tg, iter, ifs, 0⟩] scope pos) spos :: rest) Δ C N R := by
  obtain ⟨wi, pi, hw⟩ := hi
  exact b_seq (ps_setLc hc nd hy hyl hsw pi ok pgAll ptAll peAll hf) fun σ H hd E n r => lc_read hd (hw σ H hd) I h0 hz hs fun v H' acc C1 L ws n1 e1 e0 e2 e3 e4 e5 r i1 => by
    have n2 := lc_nxt (v := v) n1 e0 e2 e3 e4 e5 r
    exact n _ H' _ _ n2 ((hd.nxt n2).set i (s := .own L) e1) (he acc C1 L e4 e3 i1)
theorem b_mapO {i : Nat} {y : Str} {py spos : Pos} (nd : X.N.Nodup) (ok : BlkOk X.N X.env.scope scope own) (hi : IvD X O tg iter Δ C ds) (hd : ds = xs.map enc) (hs : ∀ O' x, x ∈ xs → StepD X scope elt tg [] (own.map (·.2)) Δ O' C (enc x) true (val x)) (hz : xs.length ≤ 90000)
    (he : ∀ p, p ∉ adr C → p ∉ O → BvP X O rest (Δ.set i (.own p)) ((p, xs.map val) :: C) N R) (hc : X.calm = true := by rfl) (hy : X.N[i]? = some y := by rfl) (hyl : X.env.scope.names.lookup y = some .local := by rfl)
    (hsw : swapsWith (.ListComp elt [⟨tg, iter, [], 0⟩] scope pos) (some (.Name y py)) spos.line X.env = pure true := by exact sw_true rfl rfl rfl rfl) (hf : ∀ x, foldedSetIterable iter X.env x = pure x := by intro _; rfl) :
    BvP X O (.Assign [.Name y py] (.ListComp elt [⟨tg, iter, [], 0⟩] scope pos) spos :: rest) Δ C N R := by
  have hl : ds.length = xs.length := by rw [hd, List.length_map]
  refine b_setLcO nd ok hi (fun i acc C1 => acc = madeL xs (fun _ => true) val i ∧ C1 = C) ⟨rfl, rfl⟩ (pure_step hd hs) (fun acc C1 p np no ⟨e1, e2⟩ => ?_) (by rw [hl]; exact hz) hc hy hyl hsw hf
  subst e2
  rw [e1, hl, madeL_all, List.filter_eq_self.mpr fun _ _ => rfl]
  exact he p np no
/-- an if whose branches meet again -/
theorem b_ifJ (J : List SV → Cont → Prop) {c : Expr} {k : Bool} {ta tb : List Stmt} (hc : EvT X O c Δ C k) (h1 : k = true → BvP X O ta Δ C J R) (h2 : k = false → BvP X O tb Δ C J R) (hr : ∀ Δ2 C2, J Δ2 C2 → BvP X O rest Δ2 C2 N R) : BvP X O (.If c ta tb pos :: rest) Δ C N R := by
  have mono : ∀ sts, BvP X O sts Δ C J R → BvP X O sts Δ C (fun Δ2 C2 => BvP X O rest Δ2 C2 N R) R := fun sts h σ H hd E n r => h σ H hd E (fun σ' H' Δ' C' n1 hd1 p => n σ' H' Δ' C' n1 hd1 (hr Δ' C' p)) r
  exact b_ifB hc (fun e => mono _ (h1 e)) fun e => mono _ (h2 e)
theorem b_ifPJ (J : List SV → Cont → Prop) {c : Expr} {ta tb : List Stmt} (hc : TvP X O c Δ C fun k C1 => (k = true → BvP X O ta Δ C1 J R) ∧ (k = false → BvP X O tb Δ C1 J R)) (hr : ∀ Δ2 C2, J Δ2 C2 → BvP X O rest Δ2 C2 N R) : BvP X O (.If c ta tb pos :: rest) Δ C N R := by
  have mono : ∀ sts C1, BvP X O sts Δ C1 J R → BvP X O sts Δ C1 (fun Δ2 C2 => BvP X O rest Δ2 C2 N R) R := fun sts C1 h σ H hd E n r => h σ H hd E (fun σ' H' Δ' C' n1 hd1 p => n σ' H' Δ' C' n1 hd1 (hr Δ' C' p)) r
  refine b_if fun σ H hd Q q => hc σ H hd Q fun k H' C' n1 ⟨p1, p2⟩ => q k H' C' n1 ?_
  cases k with
  | true => exact iteT (mono _ _ (p1 rfl))
  | false => exact iteF (mono _ _ (p2 rfl))
/-! ### given up -/
/-- a block's end: owned lists let go -/
theorem b_less {R' : SV → Cont → Prop} (h : BvP X O rest Δ C N R') (i : ∀ s C', R' s C' → ∃ C1, C1.Sublist C' ∧ R s C1) : BvP X O rest Δ C N R := fun σ H hd E n r =>
  h σ H hd E n fun v H' s C' n1 r1 p => by
    obtain ⟨C1, sb, p1⟩ := i s C' p
    have n2 := n1.ow.less sb
    exact r v H' s C1 (n1.trans n2) (r1.mono n2.view) p1
theorem b_less' {N' : List SV → Cont → Prop} (h : BvP X O rest Δ C N' R) (i : ∀ Δ' C', N' Δ' C' → ∃ C1, C1.Sublist C' ∧ N Δ' C1) : BvP X O rest Δ C N R := fun σ H hd E n r =>
  h σ H hd E (fun σ' H' Δ' C' n1 hd1 p => by
    obtain ⟨C1, sb, p1⟩ := i Δ' C' p
    have n2 := n1.ow.less sb
    exact n σ' H' Δ' C1 (n1.trans n2) (hd1.nxt n2) p1) r
/-- expressions let go, too -/
theorem vp_less {P' : SV → Cont → Prop} (h : EvP X O a Δ C P') (i : ∀ s C', P' s C' → ∃ C1, C1.Sublist C' ∧ P s C1) : EvP X O a Δ C P := fun σ H hd Q q =>
  h σ H hd Q fun v H' s C' n1 r1 p => by
    obtain ⟨C1, sb, p1⟩ := i s C' p
    have n2 := n1.ow.less sb
    exact q v H' s C1 (n1.trans n2) (r1.mono n2.view) p1
/-- an owned list taken as a datum from here on -/
theorem vp_frz (hO : p ∉ O) (h : EvP X O a Δ C fun s C' => ∃ A ds B, s = .own p ∧ C' = A ++ (p, ds) :: B ∧ P (.dat (.list ds)) (A ++ B)) : EvP X O a Δ C P := fun σ H hd Q q =>
  h σ H hd Q fun v H' s C' n1 r1 ⟨A, ds, B, e1, e2, p1⟩ => by
    subst e1 e2
    have r1 : v = .ref p := r1
    subst r1
    have sb : (A ++ B).Sublist (A ++ (p, ds) :: B) := (List.Sublist.refl A).append (List.sublist_cons_self _ _)
    have n2 := n1.ow.less sb
    obtain ⟨vs, g1, g2⟩ := n1.ow.get (p := p) (ds := ds) (List.mem_append_right _ List.mem_cons_self)
    refine q _ H' (.dat (.list ds)) (A ++ B) (n1.trans n2) (.lst (SqL.of ?_) (dpa_mono n2.view _ _ g2)) p1
    rw [vw_at (out_frz n1.ow hO)]
    exact g1
/-! ### read -/
theorem ca_lenO {K : PySem.W.Frag} (m : (p, ds) ∈ C) : CaD K O (fun xs H Q => ∃ p ys, xs = [.ref p] ∧ (SqL K H p ys ∨ SqT K H p ys) ∧ Q (.int ys.length) H) C [.own p] (.int ds.length) := fun H vs ow r Q q => by
  cases r with
  | cons r1 r2 =>
    cases r2
    have r1 : _ = V.ref p := r1
    subst r1
    obtain ⟨vs, g1, g2⟩ := ow.get m
    refine ⟨p, vs, rfl, .inl (SqL.of g1), ?_⟩
    rw [g2.len]
    exact q _ H ow.refl (.int _)
theorem ev_lenO {x : Str} {px : Pos} (hm : X.mg "len" = none) (hΔ : Δ[i]? = some (.own p)) (m : (p, ds) ∈ C) (hN : X.N[i]? = some x := by rfl) (hv : Vis X.env.scope x := by first | exact Or.inl rfl | exact Or.inr (Or.inl rfl) | exact Or.inr (Or.inr rfl))
    (h1 : (x == ("__debug__" : Str)) = false := by decide) (h3 : (x == ("__classdict__" : Str)) = false := by decide) (hg : Gl X "len" := by rfl) (he : starEach [.Name x px] X.env = (false, eval (.Name x px) X.env) :: starEach [] X.env := by rfl) : EvD X O (.Call (.Name "len" p') [.Name x px] [] pos) Δ C (.int ds.length) :=
  ev_callB call_len_seq hm PySem.boot_len (ea_own hΔ ea_nil hN hv h1 h3 he) (ca_lenO m) hg (he := he)
theorem ev_totupO {x : Str} {px : Pos} (hm : X.mg "tuple" = none) (hΔ : Δ[i]? = some (.own p)) (m : (p, ds) ∈ C) (hN : X.N[i]? = some x := by rfl) (hv : Vis X.env.scope x := by first | exact Or.inl rfl | exact Or.inr (Or.inl rfl) | exact Or.inr (Or.inr rfl))
    (h1 : (x == ("__debug__" : Str)) = false := by decide) (h3 : (x == ("__classdict__" : Str)) = false := by decide) (hg : Gl X "tuple" := by rfl) (he : starEach [.Name x px] X.env = (false, eval (.Name x px) X.env) :: starEach [] X.env := by rfl) : EvD X O (.Call (.Name "tuple" p') [.Name x px] [] pos) Δ C (.tuple ds) :=
  ev_callT call_tuple_of hm (by decide +kernel) (ea_own hΔ ea_nil hN hv h1 h3 he) (fun H vs ow r Q q => by
    cases r with
    | cons r1 r2 =>
      cases r2
      have r1 : _ = V.ref p := r1
      subst r1
      obtain ⟨vs, g1, g2⟩ := ow.get m
      refine ⟨p, vs, rfl, .inl ⟨SqL.of g1, fun l hl => ?_⟩⟩
      obtain ⟨n, r⟩ := ow.newT hl g2
      exact q _ _ n r) hg (he := he)
/-- an item of an owned list; the index may change others -/
theorem vp_ixO (ha : EvP X O a Δ C fun s C1 => s = .own p ∧ EvP X O b Δ C1 fun t C2 => ∃ j ds z, t = .dat (.int j) ∧ (p, ds) ∈ C2 ∧ 0 ≤ j ∧ ds[j.toNat]? = some z ∧ P (.dat z) C2) (hp : PlainIx b := by exact fun _ _ => rfl) : EvP X O (.Subscript a b pos) Δ C P := fun σ H hd Q q =>
  goE (pe_ix ix_S bst bst hp) (ha σ H hd _ fun v H1 s C1 n1 r1 ⟨e1, h2⟩ => by
    subst e1
    have r1 : v = .ref p := r1
    subst r1
    refine h2 σ H1 (hd.nxt n1) _ fun w H2 t C2 n2 r2 ⟨j, ds, z, et, m, h0, hz, pz⟩ => ?_
    subst et
    have r2 := dp_int r2
    subst r2
    obtain ⟨vs, g1, g2⟩ := n2.ow.get m
    obtain ⟨u, hu, ru⟩ := g2.get hz
    exact .inr ⟨p, vs, j, u, rfl, rfl, SqL.of g1, atI_of h0 hu, q u H2 (.dat z) C2 (n1.trans n2) ru pz⟩)
theorem ev_ixO {x : Str} {px : Pos} {j : Int} (hΔ : Δ[i]? = some (.own p)) (m : (p, ds) ∈ C) (hb : EvD X O b Δ C (.int j)) (h0 : 0 ≤ j) (hz : ds[j.toNat]? = some z) (hN : X.N[i]? = some x := by rfl) (hv : Vis X.env.scope x := by first | exact Or.inl rfl | exact Or.inr (Or.inl rfl) | exact Or.inr (Or.inr rfl))
    (h1 : (x == ("__debug__" : Str)) = false := by decide) (h3 : (x == ("__classdict__" : Str)) = false := by decide) (hp : PlainIx b := by exact fun _ _ => rfl) : EvD X O (.Subscript (.Name x px) b pos) Δ C z :=
  EvP.d (vp_ixO (vp_own hΔ ⟨rfl, hb.p ⟨j, ds, z, rfl, m, h0, hz, rfl, rfl⟩⟩ hN hv h1 h3) hp)
/-- not in an owned list -/
theorem et_ninO {x : Str} {px : Pos} (hu : X.A.units + 65 < cLine) (ha : EvD X O a Δ C d) (hΔ : Δ[i]? = some (.own p)) (m : (p, ds) ∈ C) (sd : SeqAt.shaped d = true) (se : PyData.canLayAll0 ds = true) (hN : X.N[i]? = some x := by rfl) (hv : Vis X.env.scope x := by first | exact Or.inl rfl | exact Or.inr (Or.inl rfl) | exact Or.inr (Or.inr rfl))
    (h1 : (x == ("__debug__" : Str)) = false := by decide) (h3 : (x == ("__classdict__" : Str)) = false := by decide) (hm : behindInMarks .NotIn (.Name x px) = false := by first | exact nomark _ | rfl) : EvT X O (.Compare a [.NotIn] [.Name x px] pos) Δ C (!(ds.any fun z => PyData.eqv z d)) := fun σ H hd Q q => by
  refine goT (pt_cmpR (op_notInS hu) bst bst hm) ?_
  refine ha σ H hd _ fun v H1 n1 r1 => ?_
  refine vp_own (pos := px) (P := fun s C' => s = .own p ∧ C' = C) hΔ ⟨rfl, rfl⟩ hN hv h1 h3 σ H1 (hd.nxt n1) _ fun w H2 t C2 n2 r2 ⟨e1, e2⟩ => ?_
  subst e1 e2
  have r2 : w = .ref p := r2
  subst r2
  obtain ⟨vs, g1, g2⟩ := n2.ow.get m
  refine ⟨d, .list ds, ds, dp_mono (n2.view.trans vw_sub) _ _ r1, .lst (SqL.of g1) (dpa_mono vw_sub _ _ g2), rfl, sd, se, ?_⟩
  exact ⟨_, rfl, q H2 (n1.trans n2)⟩
/-! ### written -/
/-- xs.append(a) -/
theorem b_append {x : Str} {px apos cpos : Pos} {dz : List D} (hΔ : Δ[i]? = some (.own p)) (m : (p, dz) ∈ C) (h : EvP X O a Δ C fun s C1 => ∃ d A ds B, s = .dat d ∧ C1 = A ++ (p, ds) :: B ∧ ds.length ≤ 90000 ∧ BvP X O rest Δ (A ++ (p, ds ++ [d]) :: B) N R) (hN : X.N[i]? = some x := by rfl) (hv : Vis X.env.scope x := by first | exact Or.inl rfl | exact Or.inr (Or.inl rfl) | exact Or.inr (Or.inr rfl))
    (h1 : (x == ("__debug__" : Str)) = false := by decide) (h3 : (x == ("__classdict__" : Str)) = false := by decide)
    (hbase : attributeBase (.Name x px) "append" X.env (eval (.Name x px) X.env) = eval (.Name x px) X.env := by rfl)
    (hfew : ((backTo cpos (starEach [a] X.env)).all (fun x => !x.1) && (backToKw cpos (keywordEach [] X.env)).all (fun x => x.1.isSome)
      && decide (([a] : List Expr).length + ([] : List Keyword).length + (if ([] : List Keyword).isEmpty then 0 else 1) < 30)) = true := by rfl)
    (hline : (apos.endLine == cpos.line) = true := by rfl) (hs : starEach [a] X.env = (false, eval a X.env) :: starEach [] X.env := by rfl) (hpl : (backTo cpos (starEach [] X.env)).any (·.1) = false := by rfl)
    (hsw : swapsWith (.Call (.Attribute (.Name x px) "append" apos) [a] [] cpos) none pos.line X.env = pure false := by rfl) : BvP X O (.Expr (.Call (.Attribute (.Name x px) "append" apos) [a] [] cpos) pos :: rest) Δ C N R :=
  b_seq (ps_expr (pe_bm PySem.F.plainAttrs_list PySem.F.slot_list_append PySem.F.type_list_append mt_append bst (pa_cons bst pa_nil hs) hbase hfew hline hs hpl) hsw) fun σ H hd E n r => by
    refine vp_own (pos := px) (P := fun s C' => s = .own p ∧ C' = C) hΔ ⟨rfl, rfl⟩ hN hv h1 h3 σ H hd _ fun w H2 t C2 n2 r2 ⟨e1, e2⟩ => ?_
    subst e1 e2
    have r2 : w = .ref p := r2
    subst r2
    have hd2 := hd.nxt n2
    refine ⟨?_, h σ H2 hd2 _ fun v H3 s C3 n3 r3 ⟨d, A, ds, B, e1, e2, hl, hb⟩ => ?_⟩
    · obtain ⟨vs, g1, g2⟩ := n2.ow.get m
      exact .inl ⟨rfl, vs, SqL.of g1⟩
    · subst e1 e2
      obtain ⟨vs, g1, g2⟩ := n3.ow.get (p := p) (ds := ds) (List.mem_append_right _ List.mem_cons_self)
      refine ⟨p, vs, v, rfl, rfl, g1, Evl.sz_lt (by rw [g2.len]; omega), ?_⟩
      have n4 := n3.ow.put (g2.app (.cons r3 .nil))
      exact n σ _ Δ _ ((n2.trans n3).trans n4) ((hd2.nxt n3).nxt n4) hb
/-- xs.insert(a, b) -/
theorem b_insert {x : Str} {px apos cpos : Pos} {dz : List D} (hΔ : Δ[i]? = some (.own p)) (m : (p, dz) ∈ C) (h : AvP X O [a, b] Δ C fun ss C1 => ∃ j d A ds B, ss = [.dat (.int j), .dat d] ∧ C1 = A ++ (p, ds) :: B ∧ 0 ≤ j ∧ j < 2 ^ 63 ∧ ds.length ≤ 90000 ∧ BvP X O rest Δ (A ++ (p, ds.take j.toNat ++ [d] ++ ds.drop j.toNat) :: B) N R) (hN : X.N[i]? = some x := by rfl) (hv : Vis X.env.scope x := by first | exact Or.inl rfl | exact Or.inr (Or.inl rfl) | exact Or.inr (Or.inr rfl))
    (h1 : (x == ("__debug__" : Str)) = false := by decide) (h3 : (x == ("__classdict__" : Str)) = false := by decide)
    (hbase : attributeBase (.Name x px) "insert" X.env (eval (.Name x px) X.env) = eval (.Name x px) X.env := by rfl)
    (hfew : ((backTo cpos (starEach [a, b] X.env)).all (fun x => !x.1) && (backToKw cpos (keywordEach [] X.env)).all (fun x => x.1.isSome)
      && decide (([a, b] : List Expr).length + ([] : List Keyword).length + (if ([] : List Keyword).isEmpty then 0 else 1) < 30)) = true := by rfl)
    (hline : (apos.endLine == cpos.line) = true := by rfl) (hs : starEach [a, b] X.env = (false, eval a X.env) :: starEach [b] X.env := by rfl) (hpl : (backTo cpos (starEach [b] X.env)).any (·.1) = false := by rfl)
    (hsw : swapsWith (.Call (.Attribute (.Name x px) "insert" apos) [a, b] [] cpos) none pos.line X.env = pure false := by rfl) : BvP X O (.Expr (.Call (.Attribute (.Name x px) "insert" apos) [a, b] [] cpos) pos :: rest) Δ C N R :=
  b_seq (ps_expr (pe_bm PySem.F.plainAttrs_list PySem.F.slot_list_insert PySem.F.type_list_insert mt_insert bst bstA hbase hfew hline hs hpl) hsw) fun σ H hd E n r => by
    refine vp_own (pos := px) (P := fun s C' => s = .own p ∧ C' = C) hΔ ⟨rfl, rfl⟩ hN hv h1 h3 σ H hd _ fun w H2 t C2 n2 r2 ⟨e1, e2⟩ => ?_
    subst e1 e2
    have r2 : w = .ref p := r2
    subst r2
    have hd2 := hd.nxt n2
    refine ⟨?_, h σ H2 hd2 _ fun us H3 ss C3 n3 r3 ⟨j, d, A, ds, B, e1, e2, h0, h1, hl, hb⟩ => ?_⟩
    · obtain ⟨vs, g1, g2⟩ := n2.ow.get m
      exact .inl ⟨rfl, vs, SqL.of g1⟩
    · subst e1 e2
      obtain ⟨v1, v2, rfl, q1, q2⟩ := vrs2 r3
      have q1 := dp_int q1
      subst q1
      obtain ⟨vs, g1, g2⟩ := n3.ow.get (p := p) (ds := ds) (List.mem_append_right _ List.mem_cons_self)
      refine ⟨p, vs, j, v2, rfl, rfl, g1, Evl.sz_lt (by rw [g2.len]; omega), h0, h1, ?_⟩
      have n4 := n3.ow.put (((g2.take j.toNat).app (.cons q2 .nil)).app (g2.drop j.toNat))
      exact n σ _ Δ _ ((n2.trans n3).trans n4) ((hd2.nxt n3).nxt n4) hb
theorem ixN_of {n : Nat} {j : Int} (h0 : 0 ≤ j) (h : j.toNat < n) : ixN n j = some j.toNat := by
  unfold ixN
  rw [if_pos h0, if_pos (by omega)]
/-- xs[b] = a -/
theorem b_put {x : Str} {px tpos : Pos} (hΔ : Δ[i]? = some (.own p)) (h : EvP X O a Δ C fun s C1 => ∃ d, s = .dat d ∧ EvP X O b Δ C1 (fun t C2 => ∃ j A ds B, t = .dat (.int j) ∧ C2 = A ++ (p, ds) :: B ∧ 0 ≤ j ∧ j.toNat < ds.length ∧ BvP X O rest Δ (A ++ (p, ds.set j.toNat d) :: B) N R)) (hN : X.N[i]? = some x := by rfl) (hv : Vis X.env.scope x := by first | exact Or.inl rfl | exact Or.inr (Or.inl rfl) | exact Or.inr (Or.inr rfl))
    (h1 : (x == ("__debug__" : Str)) = false := by decide) (h3 : (x == ("__classdict__" : Str)) = false := by decide)
    (hs : swapsWithSole [.Subscript (.Name x px) b tpos] a pos.line X.env = pure false := by rfl) (hw : swappedStores [.Subscript (.Name x px) b tpos] a X.env = pure none := by rfl)
    (ha1 : (assignEach [.Subscript (.Name x px) b tpos] X.env).map (·.2) = [assign (.Subscript (.Name x px) b tpos) X.env] := by rfl)
    (hsub : ∀ v, assign (.Subscript (.Name x px) b tpos) X.env v = (do
      let ov ← holding [v] (eval (.Name x px) X.env)
      let iv ← holding [v, ov] (eval b X.env)
      standAt tpos
      holding [v, ov, iv] (setItem ov iv v)
      release [v, ov, iv] []) := by intro _; rfl) : BvP X O (.Assign [.Subscript (.Name x px) b tpos] a pos :: rest) Δ C N R :=
  b_seq (ps_asg bst (pg_sub bst bst set_list hsub) hs hw ha1) fun σ H hd E n r => by
    refine h σ H hd _ fun v H1 s C1 n1 r1 ⟨d, e1, hb⟩ => ?_
    subst e1
    refine vp_own (pos := px) (P := fun s C' => s = .own p ∧ C' = C1) hΔ ⟨rfl, rfl⟩ hN hv h1 h3 σ H1 (hd.nxt n1) _ fun w H2 t C2 n2 r2 ⟨e3, e4⟩ => ?_
    subst e3 e4
    have r2 : w = .ref p := r2
    subst r2
    refine hb σ H2 ((hd.nxt n1).nxt n2) _ fun u H3 t C3 n3 r3 ⟨j, A, ds, B, e5, e6, h0, hj, hr⟩ => ?_
    subst e5 e6
    have r3 := dp_int r3
    subst r3
    obtain ⟨vs, g1, g2⟩ := n3.ow.get (p := p) (ds := ds) (List.mem_append_right _ List.mem_cons_self)
    refine ⟨p, vs, j, j.toNat, rfl, rfl, g1, ixN_of h0 (by rw [g2.len]; exact hj), ?_⟩
    have n4 := n3.ow.put (g2.set j.toNat (dp_mono (n2.trans n3).view _ _ r1))
    exact n σ _ Δ _ (((n1.trans n2).trans n3).trans n4) ((((hd.nxt n1).nxt n2).nxt n3).nxt n4) hr
/-- xs[b], y = a pair -/
theorem b_put2 {x y : Str} {px py tpos sp : Pos} {kt j : Nat} (nd : X.N.Nodup) (hΔ : Δ[i]? = some (.own p)) (h : EvP X O a Δ C fun s C1 => ∃ d1 d2 A ds B jx, s = .dat (.tuple [d1, d2]) ∧ C1 = A ++ (p, ds) :: B ∧ EvD X O b Δ C1 (.int jx) ∧ 0 ≤ jx ∧ jx.toNat < ds.length ∧ BvP X O rest (Δ.set j (.dat d2)) (A ++ (p, ds.set jx.toNat d1) :: B) N R) (hN : X.N[i]? = some x := by rfl) (hv : Vis X.env.scope x := by first | exact Or.inl rfl | exact Or.inr (Or.inl rfl) | exact Or.inr (Or.inr rfl))
    (h1 : (x == ("__debug__" : Str)) = false := by decide) (h3 : (x == ("__classdict__" : Str)) = false := by decide) (hj : X.N[j]? = some y := by rfl) (hy : Loc X.env.scope y := by first | exact Or.inl rfl | exact Or.inr rfl) (hf : X.fn y = true ∨ X.env.scope.names.lookup y = some .local := by first | exact .inl rfl | exact .inr rfl)
    (hc : X.calm = true := by rfl)
    (hs : swapsWithSole [.Tuple [.Subscript (.Name x px) b sp, .Name y py] kt tpos] a pos.line X.env = pure false := by rfl) (hw : swappedStores [.Tuple [.Subscript (.Name x px) b sp, .Name y py] kt tpos] a X.env = pure none := by rfl)
    (ha1 : (assignEach [.Tuple [.Subscript (.Name x px) b sp, .Name y py] kt tpos] X.env).map (·.2) = [assign (.Tuple [.Subscript (.Name x px) b sp, .Name y py] kt tpos) X.env] := by rfl)
    (hn : (assignEach [.Subscript (.Name x px) b sp, .Name y py] X.env).length = 2 := by rfl) (hst : (assignEach [.Subscript (.Name x px) b sp, .Name y py] X.env).findIdx? (·.1) = none := by rfl)
    (hs1 : (assignEach [.Subscript (.Name x px) b sp, .Name y py] X.env).map (·.2) = assign (.Subscript (.Name x px) b sp) X.env :: (assignEach [.Name y py] X.env).map (·.2) := by rfl)
    (hs2 : (assignEach [.Name y py] X.env).map (·.2) = assign (.Name y py) X.env :: (assignEach [] X.env).map (·.2) := by rfl)
    (hsub : ∀ v, assign (.Subscript (.Name x px) b sp) X.env v = (do
      let ov ← holding [v] (eval (.Name x px) X.env)
      let iv ← holding [v, ov] (eval b X.env)
      standAt sp
      holding [v, ov, iv] (setItem ov iv v)
      release [v, ov, iv] []) := by intro _; rfl) : BvP X O (.Assign [.Tuple [.Subscript (.Name x px) b sp, .Name y py] kt tpos] a pos :: rest) Δ C N R :=
  b_seq (ps_asg bst (pg_tup hc (pgs_cons (pg_sub bst bst set_list hsub) (pgs_cons (pg_name nd hj hy hf) pgs_nil hs2) hs1) hn hst) hs hw ha1) fun σ H hd E n r => by
    refine h σ H hd _ fun v H1 s C1 n1 r1 ⟨d1, d2, A, ds, B, jx, e1, e2, hb, h0, hj, hr⟩ => ?_
    subst e1 e2
    obtain ⟨q, xs, rfl, hq, ha⟩ := dp_tup r1
    cases ha with
    | cons q1 ha =>
      cases ha with
      | cons q2 ha =>
        cases ha
        refine ⟨q, _, rfl, Evl.ex_t vw_sub hq, rfl, _, _, rfl, ?_⟩
        refine vp_own (pos := px) (P := fun s C' => s = .own p ∧ C' = A ++ (p, ds) :: B) hΔ ⟨rfl, rfl⟩ hN hv h1 h3 σ H1 (hd.nxt n1) _ fun w H2 t C2 n2 r2 ⟨e3, e4⟩ => ?_
        subst e3 e4
        have r2 : w = .ref p := r2
        subst r2
        refine hb σ H2 ((hd.nxt n1).nxt n2) _ fun u H3 n3 r3 => ?_
        have r3 := dp_int r3
        subst r3
        obtain ⟨vs, g1, g2⟩ := n3.ow.get (p := p) (ds := ds) (List.mem_append_right _ List.mem_cons_self)
        refine ⟨p, vs, jx, jx.toNat, rfl, rfl, g1, ixN_of h0 (by rw [g2.len]; exact hj), ?_⟩
        have nv := (n2.trans n3).view
        have n4 := n3.ow.put (g2.set jx.toNat (dp_mono nv _ _ q1))
        refine ⟨_, _, rfl, rfl, ?_⟩
        exact n _ _ _ _ (((n1.trans n2).trans n3).trans n4) (((((hd.nxt n1).nxt n2).nxt n3).nxt n4).set j (s := .dat d2) (dp_mono (nv.trans n4.view) _ _ q2)) hr
/-- divmod -/
theorem ev_divmod {m k : Int} (hm : X.mg "divmod" = none) (h : EvD X O a Δ C (.int m)) (h2 : EvD X O b Δ C (.int k)) (h0 : 0 < k) (h1 : k < 1073741824) (hg : Gl X "divmod" := by rfl) (he : starEach [a, b] X.env = (false, eval a X.env) :: starEach [b] X.env := by rfl) (he2 : starEach [b] X.env = (false, eval b X.env) :: starEach [] X.env := by rfl)
    (hpl : (backTo pos (starEach [b] X.env)).any (·.1) = false := by rfl) : EvD X O (.Call (.Name "divmod" p') [a, b] [] pos) Δ C (.tuple [.int (m / k), .int (m % k)]) :=
  ev_callB call_divmod hm (by decide +kernel) (ea_cons h (ea_cons h2 ea_nil he2) he) (fun H vs ow r Q q => by
    obtain ⟨v, w, rfl, q1, q2⟩ := vrs2 r
    cases dp_int q1
    cases dp_int q2
    refine ⟨m, k, rfl, ⟨h0, h1⟩, fun l hl => ?_⟩
    obtain ⟨n, r⟩ := ow.newT hl (.cons (.int (m / k)) (.cons (.int (m % k)) .nil))
    exact q _ _ n r) hg (he := he) (hpl := hpl)
end
end DL

/-! part Dg -/
set_option Elab.async false
set_option linter.all false
set_option maxRecDepth 100000
set_option maxHeartbeats 4000000
/-! Texts of nested data: they want a stack without guards; defs under such stacks; the law's end. -/
namespace DL
open PySem PySem.Spec PyProof.Rows L2
/-! ### repr -/
section
variable {X : Cx}
def rReprD (K : PySem.W.Frag) : List V → Hp → VK → Prop := fun xs H Q => ∃ v d, xs = [v] ∧ Dp K H v d ∧ d.showable = true ∧ d.hasDict = false ∧ d.depth ≤ 64 ∧ d.shown.length ≤ sizeLine ∧ (d = .none ∨ ∃ a, v = .ref a) ∧ Q (.str d.shown) H
theorem call_reprD (hg : X.A.guards = some []) (hu : X.A.units + 70 < cLine) : CallR X (.builtin "repr") (rReprD X.K) := by
  intro pins s σ H xs us Q I r h
  obtain ⟨v, d, rfl, hd, hs, hn, hdp, hz, hk, q⟩ := h
  obtain ⟨u, rfl, ru⟩ := vals1 r
  rcases hk with rfl | ⟨a, rfl⟩
  · obtain rfl := dp_non hd
    obtain rfl : u = Value.none := ru
    exact PySem.P.repr_of_none ⟨.str _, H, I.tok _, ⟨_, rfl⟩, q⟩
  · obtain ⟨as, rd⟩ := hd.reads I d (.ref a) u ru
    obtain rfl : u = Value.ref a := ru
    exact repr_of_reads' rd hs (fun z => by rw [hn] at z; cases z) hg (by omega) (fun _ _ e => e) (fun h' tk t k => ⟨.str _, H, I.kept (t' := t) k, ⟨_, rfl⟩, q⟩) hz
variable {O : List Addr} {Δ : List SV} {C : Cont} {a : Expr} {d : D} {p pos : Pos}
theorem ev_repr (hg : X.A.guards = some []) (hu : X.A.units + 70 < cLine) (hm : X.mg "repr" = none) (h : EvD X O a Δ C d) (hs : d.showable = true) (hn : d.hasDict = false) (hdp : d.depth ≤ 64) (hz : d.shown.length ≤ sizeLine) (hk : d = .none ∨ ∃ ds, seqOf d = some ds) (hgl : Gl X "repr" := by rfl)
    (he : starEach [a] X.env = (false, eval a X.env) :: starEach [] X.env := by rfl) : EvD X O (.Call (.Name "repr" p) [a] [] pos) Δ C (.str d.shown) :=
  ev_callB (call_reprD hg hu) hm (by decide +kernel) (ea_cons h ea_nil he) (fun H vs ow r Q q => by
    obtain ⟨v, rfl, h⟩ := vrs1 r
    refine ⟨v, d, rfl, dp_mono vw_sub _ _ h, hs, hn, hdp, hz, hk.imp id fun ⟨ds, e⟩ => ?_, q _ H ow.refl (.str _)⟩
    obtain ⟨p, _, rfl, _⟩ := dp_seq h e
    exact ⟨p, rfl⟩) hgl (he := he)
/-- two texts -/
theorem et_neS {b : Expr} {x y : Str} (ha : EvD X O a Δ C (.str x)) (hb : EvD X O b Δ C (.str y)) : EvT X O (.Compare a [.NotEq] [b] pos) Δ C (!decide (V.str x = V.str y)) :=
  et_cmp op_ne ha hb (fun H v w ow r1 r2 Q q => by
    cases dp_str r1
    cases dp_str r2
    exact ⟨rfl, q _ H ow.refl (.bl _)⟩)
/-- a is not True, a True -/
theorem op_isnotT : OpR X (compareOp .IsNot) (fun x y H Q => x = .bl true ∧ y = .bl true ∧ Q (.bl false) H) := by
  intro pins s σ H x y v u Q I rx ry h
  obtain ⟨rfl, rfl, q⟩ := h
  cases rx
  cases ry
  exact wpAny_isNot_self rfl ⟨.bl false, H, I, rfl, q⟩
theorem et_isnotT {b : Expr} (ha : EvD X O a Δ C (.bool true)) (hb : EvD X O b Δ C (.bool true)) (hm : behindInMarks .IsNot b = false := by rfl) : EvT X O (.Compare a [.IsNot] [b] pos) Δ C false :=
  et_cmp op_isnotT ha hb (fun H v w ow r1 r2 Q q => by
    cases dp_bl r1
    cases dp_bl r2
    exact ⟨rfl, rfl, q _ H ow.refl (.bl _)⟩) hm
end
/-! ### defs under a stack without guards -/
structure FnG (P : Program) (w : World) (K : PySem.W.Frag) (mg : Str → Option Value) (base : Heap) (k : Nat) (f : Addr) (fd : FuncData) (ps : List Str) (sp : Sp) : Prop where
  len : ∀ vs H Q E, sp vs H Q E → vs.length = ps.length
  run : ∀ (A : Around) (out : List Env) (s : Shared) (H : Hp) (ar : Args) (us : List Value) (vs : List V) (Q : VK) (E : XK), A.guards = some [] → Room k A → Env0 P w K mg base A out s H → BindsTo s fd ar (ps.zip us) → Vals vs us → sp vs H Q E →
    codeAny (model P w) A (.call (.ref f) ar) (CR CX0 out P w H s Q E) s
section
variable {P : Program} {w : World} {K : PySem.W.Frag} {mg : Str → Option Value} {base : Heap}
theorem fnG_of {x : Str} {pr : Arguments} {bd : List Stmt} {sc : Scope} {f : Addr} {fd : FuncData} {N ps : List Str} {k : Nat} {sp : Sp} (F : FunD K x x pr bd sc [] [] f fd) (S : FnScope N ps sc) (ln : ∀ vs H Q E, sp vs H Q E → vs.length = ps.length)
    (hb : ∀ (cd : Value) (A : Around) (out : List Env) (s : Shared) (H : Hp) (vs : List V) (Q : VK) (E : XK), A.guards = some [] → Room k (A.deeper (envOfC x sc s.heap.objs.size f cd)) → sp vs H Q E →
      BstB (cxOf CX0 P w K mg base N x sc f cd A out s H E).nox bd { nx := fun _ H' => Q .non H', rt := Q } (start N vs) H) : FnG P w K mg base (k + 1) f fd ps sp := by
  obtain ⟨oc, od, dV, kV, dc, pm, an, cd, ct, os, e, lk, hcd, _, _⟩ := F.ex
  subst e
  refine ⟨ln, fun A out s H ar us vs Q E hg hr e0 hbd r hsp => ?_⟩
  have hl := ln vs H Q E hsp
  have hK : K.In s.heap := e0.mod.kin.keeps fun b o q => (e0.bs b o q).1
  have hL : s.heap.NoLimit := e0.mod.nolimit.keeps fun b o q => (e0.bs b o q).1
  have hz : ∀ y ∈ ps.zip us, sc.names.lookup y.1 = some .local ∨ (sc.names.lookup y.1 = some .cell ∧ ((cellsFrom (s.heap.objs.size + 1) sc.names []).lookup y.1).isSome = true) := by
    intro y hy
    obtain ⟨n, u⟩ := y
    exact (S.par n (List.of_mem_zip hy).1).imp id fun q => ⟨q, PySem.W.cellsFrom_some _ _ _ (.inl q)⟩
  refine codeAny_call_function hr.depth (hK _ _ lk) rfl S.co S.gen rfl (PySem.W.codeRec_of hK hcd) (hbd _ _ _ _ (wpAny_newFunctionEnv_cells S.kind hz fun en he s1 q => ?_))
  subst he
  refine ⟨hL.keeps q.toInCall.keep, codeAny_func ?_⟩
  have rd := hb cd A out s H vs Q E hg (hr.deeper _) hsp
  have I : Inv (cxOf CX0 P w K mg base N x sc f cd A out s H E) [] (start N vs) H s1 := inv_start S hr.hd e0 hl r q
  refine wpAny_mono ((PSs.nox bstB).run [] s1 (start N vs) H _ I rd) (fun fl s' hs => ?_) fun _ _ hs => hs
  cases fl with
  | ret u =>
    obtain ⟨v, σ', H', J, rv, z⟩ := hs
    exact ⟨v, H', J.os, J.bare, J.base, J.hok, rv, z⟩
  | next =>
    obtain ⟨σ', H', J, z⟩ := hs
    exact ⟨.non, H', J.os, J.bare, J.base, J.hok, rfl, z⟩
  | brk => exact hs.elim fun _ z => z.elim fun _ z => z.2.elim
  | cont => exact hs.elim fun _ z => z.elim fun _ z => z.2.elim
end
structure DefOkG (P : Program) (w : World) (K : PySem.W.Frag) (mg : Str → Option Value) (base : Heap) (k : Nat) (x : Str) (ps : List Str) (R : Con) : Prop where
  ex : ∃ f fd, mg x = some (.ref f) ∧ PySem.W.keepIn K (.ref f) = true ∧ Binds K fd ps [] ∧ FnG P w K mg base k f fd ps (spC K R)
section
variable {P : Program} {w : World} {K : PySem.W.Frag} {mg : Str → Option Value} {base : Heap}
theorem mkDefG {x : Str} {i : Nat} {N ps : List Str} {k : Nat} {R : Con} (h : Stands K mg x i) (S : FnScope N ps (defScope (topS i)))
    (hb : ∀ (kV doc pm : Value) (an : Option Addr) (cdv ct : Value) (us : List Value), us.length = ps.length → bindArgs (PySem.W.fnOf x x (defArgs (topS i)) (defBody (topS i)) (defScope (topS i)) .none kV doc pm an cdv ct) ⟨us, []⟩ = pure (ps.zip us))
    (len : ∀ ss C q, R ss C q → ss.length = ps.length)
    (body : ∀ (f : Addr) (cdv : Value) (A : Around) (outer : List Env) (s : Shared) (H : Hp) (E : XK), A.guards = some [] → Room k (A.deeper (envOfC x (defScope (topS i)) s.heap.objs.size f cdv)) → ∀ O C ss Q, R ss C Q →
      BvP (CX P w K mg base N x (defScope (topS i)) f cdv A outer s H E) O (defBody (topS i)) (ss ++ List.replicate (N.length - ss.length) .no) C (fun _ C' => Q (.dat .none) C') Q) : DefOkG P w K mg base (k + 1) x ps R := by
  obtain ⟨f, fd, hm, F⟩ := h
  refine ⟨f, fd, hm, F.kp, F.bindsN hb, fnG_of F S (fun vs H Q E h => ?_) fun cdv A outer s H vs Q E hg hr h => ?_⟩
  · obtain ⟨O, C, ss, Pq, r, _, c, _⟩ := h
    rw [r.len]
    exact len ss C Pq c
  · obtain ⟨O, C, ss, Pq, r, ow, c, q⟩ := h
    refine body f cdv A outer s H E hg hr O C ss Pq c (L2.start N vs) H ⟨vrs_start r, ow⟩ _ (fun σ' H' Δ' C' n hd hn => ?_) fun v H' s C' n r' hp => ?_
    · exact q (.dat .none) C' .non H' hn n .non
    · exact q s C' v H' hp n r'
end
section
variable {X : Cx} {O : List Addr} {Δ : List SV} {C : Cont} {P : SV → Cont → Prop} {pos p : Pos} {a : Expr} {es : List Expr} {x : Str} {k : Nat} {ps : List Str}
theorem pe_callG {f : Addr} {fd : FuncData} {sp : Sp} {E : XK} {t : TA} (F : FnG X.prog X.w X.K X.mg X.base k f fd ps sp) (gd : X.A.guards = some []) (hr : Room k X.A) (hg : Gl X x) (hm : X.mg x = some (.ref f)) (hk : PySem.W.keepIn X.K (.ref f) = true) (hb : Binds X.K fd ps []) (hx : Passes CX0 X E)
    (ha : PA X (a :: es) t) (hdb : (x == ("__debug__" : Str)) = false) (he : starEach (a :: es) X.env = (false, eval a X.env) :: starEach es X.env) (hpl : (backTo pos (starEach es X.env)).any (·.1) = false) : PE X (.Call (.Name x p) (a :: es) [] pos) (fun σ H Q => t σ H fun vs H1 => sp vs H1 Q E) := by
  refine ⟨fun pins s σ H Q I h => wpAny_Call_Name_kw (ld_glob I hg hm (PySem.W.callWith_K (h₀ := X.base) I.ok.mod.kin hk (thn (ha.run pos pins s σ H _ I h) fun us s1 ⟨vs, H1, I1, r, q⟩ => ⟨I1.kIn, ?_⟩) he hpl) hdb)⟩
  have hl : us.length = ps.length := by rw [← r.length]; exact F.len _ _ _ _ q
  have hbd := hb s1 us I1.kIn (by rw [List.append_nil]; exact hl)
  rw [List.append_nil] at hbd
  refine wpAny_call (codeAny_mono (F.run X.A X.stack s1 H1 ⟨us, []⟩ us vs Q E gd hr I1.env0 hbd r q) fun r s' hq => ?_)
  cases r with
  | error e => exact hx pins σ H1 s1 e s' I1 hq
  | ok fl =>
    cases fl with
    | ret u => exact I1.after hq
    | next => exact hq.elim
    | brk => exact hq.elim
    | cont => exact hq.elim
theorem vp_callG {R : Con} (F : DefOkG X.prog X.w X.K X.mg X.base k x ps R) (gd : X.A.guards = some []) (hr : Room k X.A) (h : AvP X O (a :: es) Δ C fun ss C1 => R ss C1 P) (hg : Gl X x := by rfl) (hdb : (x == ("__debug__" : Str)) = false := by decide)
    (he : starEach (a :: es) X.env = (false, eval a X.env) :: starEach es X.env := by rfl) (hpl : (backTo pos (starEach es X.env)).any (·.1) = false := by rfl) : EvP X O (.Call (.Name x p) (a :: es) [] pos) Δ C P := fun σ H hd Q q => by
  obtain ⟨f, fd, hm, hk, hb, F⟩ := F.ex
  refine goE (pe_callG F gd hr hg hm hk hb pass0 bstA hdb he hpl) (h σ H hd _ fun vs H1 ss C1 n1 r1 c => ?_)
  exact ⟨O, C1, ss, P, r1, n1.ow, c, fun s C' v H' ps n2 r2 => q v H' s C' (n1.trans n2) r2 ps⟩
end
end DL

/-! part Dh -/
set_option Elab.async false
set_option linter.all false
set_option maxRecDepth 100000
set_option maxHeartbeats 4000000
/-! The law's end under a stack without guards. -/
namespace DL
open PySem PySem.Spec PyProof.Rows L2
section
variable {P : Program} {w : World} {K : PySem.W.Frag} {mg mb : Str → Option Value} {k : Nat} {fa a : Addr} {x : Str} {sp : Sp} {s : Shared} {vs : List Value} {ns : List Int}
/-- from an abstract heap that tracks the script at most -/
theorem law_at {H : Hp} (KX : K.In s.heap) (hn : s.heap.Ns mainGlobals mg) (hb : s.heap.Ns builtinsNs mb) (hbb : ∀ x : Str, x ≠ "__name__" → mb x = bootBuiltins x) (hl : s.heap.NoLimit) (hg : s.gens = #[])
    (ha : s.heap.get? a = some { cls := .type "list", data := .seq vs.toArray }) (hr : Room k callerA) (F : ∀ base : Heap, K.In base → base.Ns mainGlobals mg → ∃ fd : FuncData, Binds K fd [x] [] ∧ FnG P w K mg base k fa fd [x] sp)
    (hs : sp [.ref a] H (fun v _ => v = .bl true) fun _ _ _ => False) (hO : Only H) (hok : HOk P w H s.heap) (one : ∀ b, H b ≠ none → b = a) (hK : H a ≠ none → K.lookup a = none) :
    codeAny (model P w) callerA (.call (.ref fa) ⟨[.ref a], []⟩) (fun r t => r = .ok (.ret (.bool true)) ∧ OldK s.heap t.heap ∧ t.os = s.os ∧ AllBare t.gens) s := by
  have out : ∀ {b : Addr} {o : Obj}, s.heap.get? b = some o → (∀ es ep, b = a → o.data = Data.dict es ep → False) → (∃ es ep, o.data = .dict es ep) → H b = none := by
    intro b o e z ⟨es, ep, d⟩
    cases q : H b with
    | none => rfl
    | some u => exact (z es ep (one b (by rw [q]; exact fun y => nomatch y)) d).elim
  have nd : ∀ {b : Addr} {o : Obj}, s.heap.get? b = some o → (∃ es ep, o.data = .dict es ep) → H b = none := fun {b o} e d => out e (fun es ep eb hd => by
    rw [eb, ha] at e
    cases e
    exact nomatch (show Data.seq vs.toArray _ = Data.dict es ep from hd)) d
  have toNs : ∀ {b : Addr} {m : Str → Option Value}, s.heap.Ns b m → (hidT s.heap H).Ns b m := by
    rintro b m ⟨o, es, ep, e, d, r⟩
    exact ⟨o, es, ep, hidT_get e (nd e ⟨es, ep, d⟩), d, r⟩
  have kb : K.In (hidT s.heap H) := by
    intro b o e
    refine hidT_get (KX b o e) ?_
    cases q : H b with
    | none => rfl
    | some u =>
      have eb := one b (by rw [q]; exact fun y => nomatch y)
      subst eb
      have := hK (by rw [q]; exact fun y => nomatch y)
      rw [e] at this
      cases this
  obtain ⟨mc, l1, l2⟩ := hl
  have e0 : Env0 P w K mg (hidT s.heap H) callerA [] s H := by
    refine ⟨rfl, ⟨kb, toNs hn, ⟨mb, toNs hb, hbb⟩, mc, toNs l1, l2⟩, fun b o e => of_hidT e, ?_, trivial, ?_, hok, .of_eq hg⟩
    · rw [hidT_size]; exact Nat.le_refl _
    · intro b z
      have z : b ∈ ([] : List Addr) := z
      cases z
  obtain ⟨fd, bd, F⟩ := F _ kb (toNs hn)
  refine codeAny_mono (F.run callerA [] s H ⟨[.ref a], []⟩ [.ref a] [.ref a] _ _ rfl hr e0 (bd s [.ref a] KX rfl) (.cons rfl .nil) hs) fun r t h => ?_
  match r, h with
  | .error e, h => exact (False.elim h : _)
  | .ok .next, h => exact (False.elim h : _)
  | .ok .brk, h => exact (False.elim h : _)
  | .ok .cont, h => exact (False.elim h : _)
  | .ok (.ret u), h =>
    obtain ⟨v, H', os, br, un, hok', rv, q⟩ := h
    have q : v = .bl true := q
    subst q
    have rv : u = Value.bool true := rv
    subst rv
    refine ⟨rfl, OldK.of_keep fun b o e => ?_, os, br⟩
    rcases hO b with z | ⟨ob, xs, z⟩
    · exact un.keep b o e z (fun y => by have y : b ∈ ([] : List Addr) := y; cases y) (fun y => nomatch y)
    · obtain ⟨e1, _⟩ := hok b _ z
      obtain ⟨e2, _⟩ := hok' b _ (un.frzs b ob _ z)
      rw [e] at e1
      cases e1
      exact e2
/-- the abstract heap of a script -/
def scH (a : Addr) (o : Obj) (ns : List Int) : Hp := fun b => if b = a then some (.frz o (.lst (ns.map V.int))) else none
theorem lawG (KX : K.In s.heap) (hn : s.heap.Ns mainGlobals mg) (hb : s.heap.Ns builtinsNs mb) (hbb : ∀ x : Str, x ≠ "__name__" → mb x = bootBuiltins x) (hl : s.heap.NoLimit) (hg : s.gens = #[])
    (ha : s.heap.get? a = some { cls := .type "list", data := .seq vs.toArray }) (hi : IntsAre vs ns) (hz : ns.length ≤ sizeLine) (hr : Room k callerA) (F : ∀ base : Heap, K.In base → base.Ns mainGlobals mg → ∃ fd : FuncData, Binds K fd [x] [] ∧ FnG P w K mg base k fa fd [x] sp)
    (hs : ∀ H : Hp, Only H → SqL K H a (ns.map V.int) → sp [.ref a] H (fun v _ => v = .bl true) fun _ _ _ => False) :
    codeAny (model P w) callerA (.call (.ref fa) ⟨[.ref a], []⟩) (fun r t => r = .ok (.ret (.bool true)) ∧ OldK s.heap t.heap ∧ t.os = s.os ∧ AllBare t.gens) s := by
  have rv := L2.vals_ints hi
  have ln := hi.length
  cases hk : K.lookup a with
  | some o =>
    have e := KX a o hk
    rw [ha] at e
    cases e
    have on : Only fun _ => none := fun _ => .inl rfl
    refine law_at (H := fun _ => none) KX hn hb hbb hl hg ha hr F (hs _ on (.inr ⟨_, vs.toArray, _, hk, rfl, rfl, rfl, ?_, ?_⟩)) on (fun b u z => nomatch z) (fun b z => (z rfl).elim) fun z => (z rfl).elim
    · rw [List.size_toArray, ln]; exact hz
    · simpa using rv
  | none =>
    have at_ : scH a { cls := .type "list", data := .seq vs.toArray } ns a = some (.frz { cls := .type "list", data := .seq vs.toArray } (.lst (ns.map V.int))) := if_pos rfl
    have off : ∀ b, b ≠ a → scH a { cls := .type "list", data := .seq vs.toArray } ns b = none := fun b h => if_neg h
    have on : Only (scH a { cls := .type "list", data := .seq vs.toArray } ns) := fun b => by
      by_cases h : b = a
      · subst h; exact .inr ⟨_, _, at_⟩
      · exact .inl (off b h)
    refine law_at KX hn hb hbb hl hg ha hr F (hs _ on (.inl (.inr ⟨_, at_⟩))) on (fun b u z => ?_) (fun b z => ?_) fun _ => hk
    · by_cases h : b = a
      · subst h
        rw [at_] at z
        cases z
        exact ⟨ha, by rw [List.length_map]; exact hz, vs, _, rv, ha⟩
      · rw [off b h] at z
        cases z
    · by_cases h : b = a
      · exact h
      · exact (z (off b h)).elim
end
/-- a law's end over a head by facts, its def under a stack without guards -/
theorem walkG {l : PySem.W.OpenLaw} {n k : Nat} {q : Program} {loose : List Str} {XP : (Str → Option Value) → Heap → Prop} {YP : World → Heap → Prop} {d : DefRec} {x : Str} (hn : l.most = some n) (hn2 : n ≤ sizeLine) (hdf : d.params.defaults = []) (hr : Room k callerA)
    (F : ∀ (w : World) (mg : Str → Option Value) (fa : Addr) (h : Heap), YP w h → h.Ns mainGlobals mg → mg d.name = some (.ref fa) → ∃ (K : PySem.W.Frag) (sp : Sp), K.In h ∧
      (∀ (H : Hp) (a : Addr) (ns : List Int), ns.length ≤ n → Only H → SqL K H a (ns.map V.int) → sp [.ref a] H (fun v _ => v = .bl true) fun _ _ _ => False) ∧ ∀ base : Heap, K.In base → base.Ns mainGlobals mg → ∃ fd : FuncData, Binds K fd [x] [] ∧ FnG l.prog w K mg base k fa fd [x] sp) :
    PySem.W.WalkO q loose XP YP l.row.toRowW d [] (fun f vs => PySem.call f vs) := by
  refine Att.attach_call hn hdf fun w s0 s1 mg mb fa o pm cd dc a vs ns G Y ho hd hcd hm hobj hi hle hg => ?_
  obtain ⟨K, sp, KX, hs, hF⟩ := F w mg fa _ Y G.T.g hm
  exact lawG KX G.T.g G.T.b G.T.builtins G.T.nolimit hg hobj hi (Nat.le_trans hle hn2) hr hF fun H hO hS => hs H a ns hle hO hS
end DL

/-! part Df0 -/
set_option Elab.async false
set_option linter.all false
set_option maxRecDepth 100000
set_option maxHeartbeats 4000000
/-! What the text's things are as data; the text's scopes. -/
namespace DL
open PySem PySem.Spec PyProof.Rows L2
abbrev pr (a b : Int) : D := .tuple [.int a, .int b]
abbrev G.d (z : G) : D := .tuple [.int z.re, .int z.im]
abbrev Pl.d (x : Pl) : D := .tuple [.int x.p, .int x.s, .int x.r]
abbrev teD (t : Te) : D := .tuple [t.1.d, t.2.d]
abbrev tsD (ts : List Te) : D := .tuple (ts.map teD)
abbrev F4.ds (f : F4) : List D := [f.a.d, f.b.d, f.c.d, f.d.d]
abbrev chD (h : Int) (f : F4) : D := .tuple (.int h :: f.ds)
theorem eqv_i (x y : Int) : PyData.eqv (.int x) (.int y) = decide (x = y) := by
  show (x == y) = _
  by_cases h : x = y <;> simp [h]
theorem eqv_t (x y : List D) : PyData.eqv (.tuple x) (.tuple y) = PyData.eqvAll x y := rfl
theorem eqv_c (x y : D) (xs ys : List D) : PyData.eqvAll (x :: xs) (y :: ys) = (PyData.eqv x y && PyData.eqvAll xs ys) := rfl
theorem eqv_n : PyData.eqvAll [] [] = true := rfl
theorem eqv_G (x y : G) : PyData.eqv x.d y.d = decide (x = y) := by
  rw [eqv_t, eqv_c, eqv_c, eqv_n, eqv_i, eqv_i, Bool.and_true, ← Bool.decide_and]
  refine decide_eq_decide.mpr ⟨fun h => G.ext h.1 h.2, fun h => by rw [h]; exact ⟨rfl, rfl⟩⟩
theorem eqv_P (x y : Pl) : PyData.eqv x.d y.d = decide (x = y) := by
  rw [eqv_t, eqv_c, eqv_c, eqv_c, eqv_n, eqv_i, eqv_i, eqv_i, Bool.and_true, ← Bool.decide_and, ← Bool.decide_and]
  refine decide_eq_decide.mpr ⟨fun h => ?_, fun h => by rw [h]; exact ⟨rfl, rfl, rfl⟩⟩
  cases x
  cases y
  simp_all
theorem eqv_T (x y : Te) : PyData.eqv (teD x) (teD y) = decide (x = y) := by
  rw [eqv_t, eqv_c, eqv_c, eqv_n, eqv_P, eqv_P, Bool.and_true, ← Bool.decide_and]
  refine decide_eq_decide.mpr ⟨fun h => Prod.ext h.1 h.2, fun h => by rw [h]; exact ⟨rfl, rfl⟩⟩
theorem eqv_F (h k : Int) (f g : F4) : PyData.eqv (chD h f) (chD k g) = decide (h = k ∧ f = g) := by
  rw [eqv_t, eqv_c, eqv_c, eqv_c, eqv_c, eqv_c, eqv_n, eqv_G, eqv_G, eqv_G, eqv_G, eqv_i, Bool.and_true, ← Bool.decide_and, ← Bool.decide_and, ← Bool.decide_and, ← Bool.decide_and]
  refine decide_eq_decide.mpr ⟨fun q => ?_, fun q => by rw [q.1, q.2]; exact ⟨rfl, rfl, rfl, rfl, rfl⟩⟩
  cases f
  cases g
  simp_all
theorem any_T (ts : List Te) (t : Te) : ((ts.map teD).any fun z => PyData.eqv z (teD t)) = decide (t ∈ ts) := by
  induction ts with
  | nil => rfl
  | cons u ts ih =>
    rw [List.map_cons, List.any_cons, ih, eqv_T, ← Bool.decide_or]
    exact decide_eq_decide.mpr (by rw [List.mem_cons]; exact or_congr ⟨Eq.symm, Eq.symm⟩ Iff.rfl)
theorem any_P (l : List Pl) (x : Pl) : ((l.map Pl.d).any fun z => PyData.eqv z x.d) = decide (x ∈ l) := by
  induction l with
  | nil => rfl
  | cons u l ih =>
    rw [List.map_cons, List.any_cons, ih, eqv_P, ← Bool.decide_or]
    exact decide_eq_decide.mpr (by rw [List.mem_cons]; exact or_congr ⟨Eq.symm, Eq.symm⟩ Iff.rfl)
theorem lay_map {α : Type} {f : α → D} (h : ∀ x, (f x).canLay0 = true) : ∀ l : List α, PyData.canLayAll0 (l.map f) = true
  | [] => rfl
  | x :: l => by
    show ((f x).canLay0 && PyData.canLayAll0 (l.map f)) = true
    rw [h x, lay_map h l] <;> rfl
theorem lay_T (ts : List Te) : PyData.canLayAll0 (ts.map teD) = true := lay_map (fun _ => rfl) ts
theorem lay_P (l : List Pl) : PyData.canLayAll0 (l.map Pl.d) = true := lay_map (fun _ => rfl) l
/-! ### the scopes: slots by number -/
/-- is_whole: 0 value -/
theorem sc_is_whole : FnScope ["value"] ["value"] (defScope (topS 8)) := ⟨rfl, rfl, rfl, by decide +kernel, rfl, by decide +kernel, by decide +kernel⟩
/-- are_wholes: 0 value, 1 many, 2 number -/
theorem sc_are_wholes : FnScope ["value", "many", "number"] ["value", "many"] (defScope (topS 9)) := ⟨rfl, rfl, rfl, by decide +kernel, rfl, by decide +kernel, by decide +kernel⟩
/-- divisor_of: 0 numbers, 1 found, 2 number -/
theorem sc_divisor_of : FnScope ["numbers", "found", "number"] ["numbers"] (defScope (topS 10)) := ⟨rfl, rfl, rfl, by decide +kernel, rfl, by decide +kernel, by decide +kernel⟩
/-- lowest: 0 numbers, 1 divisor, 2 number -/
theorem sc_lowest : FnScope ["numbers", "divisor", "number"] ["numbers"] (defScope (topS 11)) := ⟨rfl, rfl, rfl, by decide +kernel, rfl, by decide +kernel, by decide +kernel⟩
/-- is_lowest: 0 numbers -/
theorem sc_is_lowest : FnScope ["numbers"] ["numbers"] (defScope (topS 12)) := ⟨rfl, rfl, rfl, by decide +kernel, rfl, by decide +kernel, by decide +kernel⟩
/-- is_complex: 0 value -/
theorem sc_is_complex : FnScope ["value"] ["value"] (defScope (topS 16)) := ⟨rfl, rfl, rfl, by decide +kernel, rfl, by decide +kernel, by decide +kernel⟩
/-- plus: 0 number, 1 other -/
theorem sc_plus : FnScope ["number", "other"] ["number", "other"] (defScope (topS 17)) := ⟨rfl, rfl, rfl, by decide +kernel, rfl, by decide +kernel, by decide +kernel⟩
/-- minus: 0 number, 1 other -/
theorem sc_minus : FnScope ["number", "other"] ["number", "other"] (defScope (topS 18)) := ⟨rfl, rfl, rfl, by decide +kernel, rfl, by decide +kernel, by decide +kernel⟩
/-- times: 0 number, 1 other -/
theorem sc_times : FnScope ["number", "other"] ["number", "other"] (defScope (topS 19)) := ⟨rfl, rfl, rfl, by decide +kernel, rfl, by decide +kernel, by decide +kernel⟩
/-- scaled: 0 number, 1 factor -/
theorem sc_scaled : FnScope ["number", "factor"] ["number", "factor"] (defScope (topS 20)) := ⟨rfl, rfl, rfl, by decide +kernel, rfl, by decide +kernel, by decide +kernel⟩
/-- turned_over: 0 number -/
theorem sc_turned_over : FnScope ["number"] ["number"] (defScope (topS 21)) := ⟨rfl, rfl, rfl, by decide +kernel, rfl, by decide +kernel, by decide +kernel⟩
/-- square_size: 0 number -/
theorem sc_square_size : FnScope ["number"] ["number"] (defScope (topS 22)) := ⟨rfl, rfl, rfl, by decide +kernel, rfl, by decide +kernel, by decide +kernel⟩
/-- unit_for: 0 number, 1 unit, 2 found -/
theorem sc_unit_for : FnScope ["number", "unit", "found"] ["number"] (defScope (topS 23)) := ⟨rfl, rfl, rfl, by decide +kernel, rfl, by decide +kernel, by decide +kernel⟩
/-- nearest: 0 number, 1 below -/
theorem sc_nearest : FnScope ["number", "below"] ["number", "below"] (defScope (topS 24)) := ⟨rfl, rfl, rfl, by decide +kernel, rfl, by decide +kernel, by decide +kernel⟩
/-- divisor_of_two: 0 number, 1 other, 2 one, 3 two, 4 product, 5 whole -/
theorem sc_divisor_of_two : FnScope ["number", "other", "one", "two", "product", "whole"] ["number", "other"] (defScope (topS 25)) := ⟨rfl, rfl, rfl, by decide +kernel, rfl, by decide +kernel, by decide +kernel⟩
/-- divisor_of_all: 0 numbers, 1 found, 2 number -/
theorem sc_divisor_of_all : FnScope ["numbers", "found", "number"] ["numbers"] (defScope (topS 26)) := ⟨rfl, rfl, rfl, by decide +kernel, rfl, by decide +kernel, by decide +kernel⟩
/-- divided: 0 number, 1 other, 2 product, 3 below -/
theorem sc_divided : FnScope ["number", "other", "product", "below"] ["number", "other"] (defScope (topS 27)) := ⟨rfl, rfl, rfl, by decide +kernel, rfl, by decide +kernel, by decide +kernel⟩
/-- is_place: 0 value -/
theorem sc_is_place : FnScope ["value"] ["value"] (defScope (topS 30)) := ⟨rfl, rfl, rfl, by decide +kernel, rfl, by decide +kernel, by decide +kernel⟩
/-- quotient_place: 0 number, 1 other, 2 product -/
theorem sc_quotient_place : FnScope ["number", "other", "product"] ["number", "other"] (defScope (topS 31)) := ⟨rfl, rfl, rfl, by decide +kernel, rfl, by decide +kernel, by decide +kernel⟩
/-- determinant: 0 chart -/
theorem sc_determinant : FnScope ["chart"] ["chart"] (defScope (topS 33)) := ⟨rfl, rfl, rfl, by decide +kernel, rfl, by decide +kernel, by decide +kernel⟩
/-- form_of: 0 is_mirrored, 1 numbers, 2 common, 3 found, 4 unit, 5 number -/
theorem sc_form_of : FnScope ["is_mirrored", "numbers", "common", "found", "unit", "number"] ["is_mirrored", "numbers"] (defScope (topS 34)) := ⟨rfl, rfl, rfl, by decide +kernel, rfl, by decide +kernel, by decide +kernel⟩
/-- is_flag: 0 value -/
theorem sc_is_flag : FnScope ["value"] ["value"] (defScope (topS 35)) := ⟨rfl, rfl, rfl, by decide +kernel, rfl, by decide +kernel, by decide +kernel⟩
/-- is_map: 0 value, 1 number -/
theorem sc_is_map : FnScope ["value", "number"] ["value"] (defScope (topS 36)) := ⟨rfl, rfl, rfl, by decide +kernel, rfl, by decide +kernel, by decide +kernel⟩
/-- check_map: 0 value -/
theorem sc_check_map : FnScope ["value"] ["value"] (defScope (topS 37)) := ⟨rfl, rfl, rfl, by decide +kernel, rfl, by decide +kernel, by decide +kernel⟩
/-- led_by: 0 chart, 1 place, 2 number, 3 is_mirrored, 4 a, 5 b, 6 c, 7 d, 8 p, 9 s, 10 r -/
theorem sc_led_by : FnScope ["chart", "place", "number", "is_mirrored", "a", "b", "c", "d", "p", "s", "r"] ["chart", "place"] (defScope (topS 38)) := ⟨rfl, rfl, rfl, by decide +kernel, rfl, by decide +kernel, by decide +kernel⟩
/-- joined: 0 chart, 1 other, 2 numbers, 3 found, 4 a, 5 b, 6 c, 7 d, 8 number -/
theorem sc_joined : FnScope ["chart", "other", "numbers", "found", "a", "b", "c", "d", "number"] ["chart", "other"] (defScope (topS 39)) := ⟨rfl, rfl, rfl, by decide +kernel, rfl, by decide +kernel, by decide +kernel⟩
/-- way_back: 0 chart, 1 numbers, 2 is_mirrored, 3 a, 4 b, 5 c, 6 d, 7 number -/
theorem sc_way_back : FnScope ["chart", "numbers", "is_mirrored", "a", "b", "c", "d", "number"] ["chart"] (defScope (topS 40)) := ⟨rfl, rfl, rfl, by decide +kernel, rfl, by decide +kernel, by decide +kernel⟩
/-- check_triple: 0 value, 1 index, 2 place -/
theorem sc_check_triple : FnScope ["value", "index", "place"] ["value"] (defScope (topS 43)) := ⟨rfl, rfl, rfl, by decide +kernel, rfl, by decide +kernel, by decide +kernel⟩
/-- apart: 0 place, 1 other -/
theorem sc_apart : FnScope ["place", "other"] ["place", "other"] (defScope (topS 44)) := ⟨rfl, rfl, rfl, by decide +kernel, rfl, by decide +kernel, by decide +kernel⟩
/-- chart_to_three: 0 places, 1 numbers, 2 first, 3 second, 4 third, 5 one, 6 two -/
theorem sc_chart_to_three : FnScope ["places", "numbers", "first", "second", "third", "one", "two"] ["places"] (defScope (topS 45)) := ⟨rfl, rfl, rfl, by decide +kernel, rfl, by decide +kernel, by decide +kernel⟩
/-- plain_through: 0 sources, 1 goals -/
theorem sc_plain_through : FnScope ["sources", "goals"] ["sources", "goals"] (defScope (topS 46)) := ⟨rfl, rfl, rfl, by decide +kernel, rfl, by decide +kernel, by decide +kernel⟩
/-- mirrored_through: 0 sources, 1 goals, 2 images, 3 found, 4 place -/
theorem sc_mirrored_through : FnScope ["sources", "goals", "images", "found", "place"] ["sources", "goals"] (defScope (topS 47)) := ⟨rfl, rfl, rfl, by decide +kernel, rfl, by decide +kernel, by decide +kernel⟩
/-- is_test: 0 value -/
theorem sc_is_test : FnScope ["value"] ["value"] (defScope (topS 52)) := ⟨rfl, rfl, rfl, by decide +kernel, rfl, by decide +kernel, by decide +kernel⟩
/-- check_tests: 0 value, 1 index, 2 test -/
theorem sc_check_tests : FnScope ["value", "index", "test"] ["value"] (defScope (topS 53)) := ⟨rfl, rfl, rfl, by decide +kernel, rfl, by decide +kernel, by decide +kernel⟩
/-- check_hand: 0 hand -/
theorem sc_check_hand : FnScope ["hand"] ["hand"] (defScope (topS 54)) := ⟨rfl, rfl, rfl, by decide +kernel, rfl, by decide +kernel, by decide +kernel⟩
/-- check_hands: 0 hand -/
theorem sc_check_hands : FnScope ["hand"] ["hand"] (defScope (topS 55)) := ⟨rfl, rfl, rfl, by decide +kernel, rfl, by decide +kernel, by decide +kernel⟩
/-- is_fitting: 0 chart, 1 tests, 2 test -/
theorem sc_is_fitting : FnScope ["chart", "tests", "test"] ["chart", "tests"] (defScope (topS 56)) := ⟨rfl, rfl, rfl, by decide +kernel, rfl, by decide +kernel, by decide +kernel⟩
/-- are_crossed: 0 test, 1 other -/
theorem sc_are_crossed : FnScope ["test", "other"] ["test", "other"] (defScope (topS 57)) := ⟨rfl, rfl, rfl, by decide +kernel, rfl, by decide +kernel, by decide +kernel⟩
/-- first_crossed: 0 tests, 1 index, 2 test, 3 other -/
theorem sc_first_crossed : FnScope ["tests", "index", "test", "other"] ["tests"] (defScope (topS 58)) := ⟨rfl, rfl, rfl, by decide +kernel, rfl, by decide +kernel, by decide +kernel⟩
/-- unlike_in: 0 tests, 1 index, 2 test -/
theorem sc_unlike_in : FnScope ["tests", "index", "test"] ["tests"] (defScope (topS 59)) := ⟨rfl, rfl, rfl, by decide +kernel, rfl, by decide +kernel, by decide +kernel⟩
/-- spare_beside: 0 used, 1 place -/
theorem sc_spare_beside : FnScope ["used", "place"] ["used"] (defScope (topS 60)) := ⟨rfl, rfl, rfl, by decide +kernel, rfl, by decide +kernel, by decide +kernel⟩
/-- chart_through: 0 tests, 1 hand, 2 sources, 3 goals, 4 test -/
theorem sc_chart_through : FnScope ["tests", "hand", "sources", "goals", "test"] ["tests", "hand"] (defScope (topS 61)) := ⟨rfl, rfl, rfl, by decide +kernel, rfl, by decide +kernel, by decide +kernel⟩
/-- chart_for: 0 tests, 1 hand, 2 found, 3 index -/
theorem sc_chart_for : FnScope ["tests", "hand", "found", "index"] ["tests", "hand"] (defScope (topS 62)) := ⟨rfl, rfl, rfl, by decide +kernel, rfl, by decide +kernel, by decide +kernel⟩
/-- charts_for: 0 tests, 1 hand, 2 found, 3 each, 4 chart -/
theorem sc_charts_for : FnScope ["tests", "hand", "found", "each", "chart"] ["tests", "hand"] (defScope (topS 63)) := ⟨rfl, rfl, rfl, by decide +kernel, rfl, by decide +kernel, by decide +kernel⟩
/-- fits: 0 chart, 1 tests -/
theorem sc_fits : FnScope ["chart", "tests"] ["chart", "tests"] (defScope (topS 64)) := ⟨rfl, rfl, rfl, by decide +kernel, rfl, by decide +kernel, by decide +kernel⟩
/-- fitting: 0 tests, 1 hand, 2 found -/
theorem sc_fitting : FnScope ["tests", "hand", "found"] ["tests", "hand"] (defScope (topS 65)) := ⟨rfl, rfl, rfl, by decide +kernel, rfl, by decide +kernel, by decide +kernel⟩
/-- bar: 0 tests, 1 hand, 2 pair, 3 first, 4 chart, 5 index, 6 test -/
theorem sc_bar : FnScope ["tests", "hand", "pair", "first", "chart", "index", "test"] ["tests", "hand"] (defScope (topS 66)) := ⟨rfl, rfl, rfl, by decide +kernel, rfl, by decide +kernel, by decide +kernel⟩
/-- _law_well: 0 _law_script, 1 _law_spot_here, 2 _law_mixed, 3 _law_cell, 4 _law_own, 5 _law_rest -/
theorem sc_law_well : FnScope ["_law_script", "_law_spot_here", "_law_mixed", "_law_cell", "_law_own", "_law_rest"] ["_law_script", "_law_spot_here"] (defScope (topS 68)) := ⟨rfl, rfl, rfl, by decide +kernel, rfl, by decide +kernel, by decide +kernel⟩
/-- _law_dip: 0 _law_well_here, 1 _law_many, 2 _law_step, 3 _law_digit -/
theorem sc_law_dip : FnScope ["_law_well_here", "_law_many", "_law_step", "_law_digit"] ["_law_well_here", "_law_many"] (defScope (topS 69)) := ⟨rfl, rfl, rfl, by decide +kernel, rfl, by decide +kernel, by decide +kernel⟩
/-- _law_of: 0 _law_well_here, 1 _law_some -/
theorem sc_law_of : FnScope ["_law_well_here", "_law_some"] ["_law_well_here", "_law_some"] (defScope (topS 70)) := ⟨rfl, rfl, rfl, by decide +kernel, rfl, by decide +kernel, by decide +kernel⟩
/-- _law_whole: 0 _law_well_here, 1 _law_wide, 2 _law_high -/
theorem sc_law_whole : FnScope ["_law_well_here", "_law_wide", "_law_high"] ["_law_well_here", "_law_wide"] (defScope (topS 71)) := ⟨rfl, rfl, rfl, by decide +kernel, rfl, by decide +kernel, by decide +kernel⟩
/-- _law_rounds: 0 _law_script -/
theorem sc_law_rounds : FnScope ["_law_script"] ["_law_script"] (defScope (topS 72)) := ⟨rfl, rfl, rfl, by decide +kernel, rfl, by decide +kernel, by decide +kernel⟩
/-- _law_gcd: 0 _law_one, 1 _law_two, 2 _law_left, 3 _law_right_here -/
theorem sc_law_gcd : FnScope ["_law_one", "_law_two", "_law_left", "_law_right_here"] ["_law_one", "_law_two"] (defScope (topS 73)) := ⟨rfl, rfl, rfl, by decide +kernel, rfl, by decide +kernel, by decide +kernel⟩
/-- _law_cut: 0 _law_numbers, 1 _law_part, 2 _law_number -/
theorem sc_law_cut : FnScope ["_law_numbers", "_law_part", "_law_number"] ["_law_numbers"] (defScope (topS 74)) := ⟨rfl, rfl, rfl, by decide +kernel, rfl, by decide +kernel, by decide +kernel⟩
/-- _law_times: 0 _law_x, 1 _law_y -/
theorem sc_law_times : FnScope ["_law_x", "_law_y"] ["_law_x", "_law_y"] (defScope (topS 75)) := ⟨rfl, rfl, rfl, by decide +kernel, rfl, by decide +kernel, by decide +kernel⟩
/-- _law_plus: 0 _law_x, 1 _law_y -/
theorem sc_law_plus : FnScope ["_law_x", "_law_y"] ["_law_x", "_law_y"] (defScope (topS 76)) := ⟨rfl, rfl, rfl, by decide +kernel, rfl, by decide +kernel, by decide +kernel⟩
/-- _law_minus: 0 _law_x -/
theorem sc_law_minus : FnScope ["_law_x"] ["_law_x"] (defScope (topS 77)) := ⟨rfl, rfl, rfl, by decide +kernel, rfl, by decide +kernel, by decide +kernel⟩
/-- _law_conj: 0 _law_x -/
theorem sc_law_conj : FnScope ["_law_x"] ["_law_x"] (defScope (topS 78)) := ⟨rfl, rfl, rfl, by decide +kernel, rfl, by decide +kernel, by decide +kernel⟩
/-- _law_norm: 0 _law_x -/
theorem sc_law_norm : FnScope ["_law_x"] ["_law_x"] (defScope (topS 79)) := ⟨rfl, rfl, rfl, by decide +kernel, rfl, by decide +kernel, by decide +kernel⟩
/-- _law_scaled: 0 _law_many, 1 _law_x -/
theorem sc_law_scaled : FnScope ["_law_many", "_law_x"] ["_law_many", "_law_x"] (defScope (topS 80)) := ⟨rfl, rfl, rfl, by decide +kernel, rfl, by decide +kernel, by decide +kernel⟩
/-- _law_over: 0 _law_x, 1 _law_y, 2 _law_size, 3 _law_top -/
theorem sc_law_over : FnScope ["_law_x", "_law_y", "_law_size", "_law_top"] ["_law_x", "_law_y"] (defScope (topS 81)) := ⟨rfl, rfl, rfl, by decide +kernel, rfl, by decide +kernel, by decide +kernel⟩
/-- _law_deep: 0 _law_x, 1 _law_y, 2 _law_many, 3 _law_size, 4 _law_top -/
theorem sc_law_deep : FnScope ["_law_x", "_law_y", "_law_many", "_law_size", "_law_top"] ["_law_x", "_law_y"] (defScope (topS 82)) := ⟨rfl, rfl, rfl, by decide +kernel, rfl, by decide +kernel, by decide +kernel⟩
/-- _law_quarter: 0 _law_x, 1 _law_turn -/
theorem sc_law_quarter : FnScope ["_law_x", "_law_turn"] ["_law_x"] (defScope (topS 83)) := ⟨rfl, rfl, rfl, by decide +kernel, rfl, by decide +kernel, by decide +kernel⟩
/-- _law_chart: 0 _law_hand, 1 _law_four_here, 2 _law_part, 3 _law_each, 4 _law_some, 5 _law_first, 6 _law_unit, 7 _law_a, 8 _law_b, 9 _law_c, 10 _law_d -/
theorem sc_law_chart : FnScope ["_law_hand", "_law_four_here", "_law_part", "_law_each", "_law_some", "_law_first", "_law_unit", "_law_a", "_law_b", "_law_c", "_law_d"] ["_law_hand", "_law_four_here"] (defScope (topS 84)) := ⟨rfl, rfl, rfl, by decide +kernel, rfl, by decide +kernel, by decide +kernel⟩
/-- _law_spot: 0 _law_x, 1 _law_y, 2 _law_top -/
theorem sc_law_spot : FnScope ["_law_x", "_law_y", "_law_top"] ["_law_x", "_law_y"] (defScope (topS 85)) := ⟨rfl, rfl, rfl, by decide +kernel, rfl, by decide +kernel, by decide +kernel⟩
/-- _law_led: 0 _law_chart_here, 1 _law_place_here, 2 _law_z, 3 _law_top, 4 _law_hand, 5 _law_a, 6 _law_b, 7 _law_c, 8 _law_d, 9 _law_p, 10 _law_s, 11 _law_r -/
theorem sc_law_led : FnScope ["_law_chart_here", "_law_place_here", "_law_z", "_law_top", "_law_hand", "_law_a", "_law_b", "_law_c", "_law_d", "_law_p", "_law_s", "_law_r"] ["_law_chart_here", "_law_place_here"] (defScope (topS 86)) := ⟨rfl, rfl, rfl, by decide +kernel, rfl, by decide +kernel, by decide +kernel⟩
/-- _law_joined: 0 _law_chart_here, 1 _law_other, 2 _law_hand, 3 _law_a, 4 _law_b, 5 _law_c, 6 _law_d, 7 _law_turn, 8 _law_e, 9 _law_f, 10 _law_g, 11 _law_h, 12 _law_one, 13 _law_two, 14 _law_three_here, 15 _law_four_here -/
theorem sc_law_joined : FnScope ["_law_chart_here", "_law_other", "_law_hand", "_law_a", "_law_b", "_law_c", "_law_d", "_law_turn", "_law_e", "_law_f", "_law_g", "_law_h", "_law_one", "_law_two", "_law_three_here", "_law_four_here"] ["_law_chart_here", "_law_other"] (defScope (topS 87)) := ⟨rfl, rfl, rfl, by decide +kernel, rfl, by decide +kernel, by decide +kernel⟩
/-- _law_back: 0 _law_chart_here, 1 _law_hand, 2 _law_a, 3 _law_b, 4 _law_c, 5 _law_d -/
theorem sc_law_back : FnScope ["_law_chart_here", "_law_hand", "_law_a", "_law_b", "_law_c", "_law_d"] ["_law_chart_here"] (defScope (topS 88)) := ⟨rfl, rfl, rfl, by decide +kernel, rfl, by decide +kernel, by decide +kernel⟩
/-- _law_place: 0 _law_well_here, 1 _law_wide, 2 _law_p, 3 _law_s -/
theorem sc_law_place : FnScope ["_law_well_here", "_law_wide", "_law_p", "_law_s"] ["_law_well_here", "_law_wide"] (defScope (topS 89)) := ⟨rfl, rfl, rfl, by decide +kernel, rfl, by decide +kernel, by decide +kernel⟩
/-- _law_unlike: 0 _law_well_here, 1 _law_many, 2 _law_wide, 3 _law_found, 4 _law_turn, 5 _law_some, 6 _law_p, 7 _law_s, 8 _law_r, 9 _law_step, 10 _law_each -/
theorem sc_law_unlike : FnScope ["_law_well_here", "_law_many", "_law_wide", "_law_found", "_law_turn", "_law_some", "_law_p", "_law_s", "_law_r", "_law_step", "_law_each"] ["_law_well_here", "_law_many", "_law_wide"] (defScope (topS 90)) := ⟨rfl, rfl, rfl, by decide +kernel, rfl, by decide +kernel, by decide +kernel⟩
/-- _law_four: 0 _law_well_here, 1 _law_wide, 2 _law_a, 3 _law_b, 4 _law_c, 5 _law_d, 6 _law_turn -/
theorem sc_law_four : FnScope ["_law_well_here", "_law_wide", "_law_a", "_law_b", "_law_c", "_law_d", "_law_turn"] ["_law_well_here", "_law_wide"] (defScope (topS 91)) := ⟨rfl, rfl, rfl, by decide +kernel, rfl, by decide +kernel, by decide +kernel⟩
/-- _law_map: 0 _law_well_here, 1 _law_wide, 2 _law_hand -/
theorem sc_law_map : FnScope ["_law_well_here", "_law_wide", "_law_hand"] ["_law_well_here", "_law_wide"] (defScope (topS 92)) := ⟨rfl, rfl, rfl, by decide +kernel, rfl, by decide +kernel, by decide +kernel⟩
/-- _law_three: 0 _law_u, 1 _law_v, 2 _law_w, 3 _law_one, 4 _law_two, 5 _law_x, 6 _law_y, 7 _law_z -/
theorem sc_law_three : FnScope ["_law_u", "_law_v", "_law_w", "_law_one", "_law_two", "_law_x", "_law_y", "_law_z"] ["_law_u", "_law_v", "_law_w"] (defScope (topS 93)) := ⟨rfl, rfl, rfl, by decide +kernel, rfl, by decide +kernel, by decide +kernel⟩
/-- _law_fit: 0 _law_hand, 1 _law_pairs, 2 _law_some, 3 _law_chart_here, 4 _law_found, 5 _law_goal, 6 _law_p, 7 _law_s, 8 _law_r -/
theorem sc_law_fit : FnScope ["_law_hand", "_law_pairs", "_law_some", "_law_chart_here", "_law_found", "_law_goal", "_law_p", "_law_s", "_law_r"] ["_law_hand", "_law_pairs"] (defScope (topS 94)) := ⟨rfl, rfl, rfl, by decide +kernel, rfl, by decide +kernel, by decide +kernel⟩
/-- _law_reduced: 0 _law_chart_here, 1 _law_hand, 2 _law_a, 3 _law_b, 4 _law_c, 5 _law_d -/
theorem sc_law_reduced : FnScope ["_law_chart_here", "_law_hand", "_law_a", "_law_b", "_law_c", "_law_d"] ["_law_chart_here"] (defScope (topS 95)) := ⟨rfl, rfl, rfl, by decide +kernel, rfl, by decide +kernel, by decide +kernel⟩
/-- _law_is_whole: 0 _law_value -/
theorem sc_law_is_whole : FnScope ["_law_value"] ["_law_value"] (defScope (topS 96)) := ⟨rfl, rfl, rfl, by decide +kernel, rfl, by decide +kernel, by decide +kernel⟩
/-- _law_is_map: 0 _law_value, 1 _law_each, 2 _law_a, 3 _law_b, 4 _law_c, 5 _law_d -/
theorem sc_law_is_map : FnScope ["_law_value", "_law_each", "_law_a", "_law_b", "_law_c", "_law_d"] ["_law_value"] (defScope (topS 97)) := ⟨rfl, rfl, rfl, by decide +kernel, rfl, by decide +kernel, by decide +kernel⟩
/-- _law_is_fit: 0 _law_chart_here, 1 _law_tests_here, 2 _law_hand, 3 _law_a, 4 _law_b, 5 _law_c, 6 _law_d, 7 _law_z, 8 _law_top, 9 _law_deep_here, 10 _law_p, 11 _law_s, 12 _law_r, 13 _law_x, 14 _law_y, 15 _law_t -/
theorem sc_law_is_fit : FnScope ["_law_chart_here", "_law_tests_here", "_law_hand", "_law_a", "_law_b", "_law_c", "_law_d", "_law_z", "_law_top", "_law_deep_here", "_law_p", "_law_s", "_law_r", "_law_x", "_law_y", "_law_t"] ["_law_chart_here", "_law_tests_here"] (defScope (topS 98)) := ⟨rfl, rfl, rfl, by decide +kernel, rfl, by decide +kernel, by decide +kernel⟩
/-- _law_crossed: 0 _law_tests_here, 1 _law_i, 2 _law_j -/
theorem sc_law_crossed : FnScope ["_law_tests_here", "_law_i", "_law_j"] ["_law_tests_here"] (defScope (topS 99)) := ⟨rfl, rfl, rfl, by decide +kernel, rfl, by decide +kernel, by decide +kernel⟩
/-- _law_firsts: 0 _law_tests_here, 1 _law_at -/
theorem sc_law_firsts : FnScope ["_law_tests_here", "_law_at"] ["_law_tests_here"] (defScope (topS 100)) := ⟨rfl, rfl, rfl, by decide +kernel, rfl, by decide +kernel, by decide +kernel⟩
/-- _law_trio: 0 _law_hand, 1 _law_tests_here, 2 _law_at -/
theorem sc_law_trio : FnScope ["_law_hand", "_law_tests_here", "_law_at"] ["_law_hand", "_law_tests_here"] (defScope (topS 101)) := ⟨rfl, rfl, rfl, by decide +kernel, rfl, by decide +kernel, by decide +kernel⟩
/-- _law_can: 0 _law_hand, 1 _law_tests_here -/
theorem sc_law_can : FnScope ["_law_hand", "_law_tests_here"] ["_law_hand", "_law_tests_here"] (defScope (topS 102)) := ⟨rfl, rfl, rfl, by decide +kernel, rfl, by decide +kernel, by decide +kernel⟩
/-- _law_tests: 0 _law_well_here, 1 _law_wide, 2 _law_tests_here, 3 _law_chart_here, 4 _law_many, 5 _law_places, 6 _law_way, 7 _law_at, 8 _law_u, 9 _law_v, 10 _law_w, 11 _law_place_here -/
theorem sc_law_tests : FnScope ["_law_well_here", "_law_wide", "_law_tests_here", "_law_chart_here", "_law_many", "_law_places", "_law_way", "_law_at", "_law_u", "_law_v", "_law_w", "_law_place_here"] ["_law_well_here", "_law_wide"] (defScope (topS 103)) := ⟨rfl, rfl, rfl, by decide +kernel, rfl, by decide +kernel, by decide +kernel⟩
/-- _law_on_round: 0 _law_well_here, 1 _law_u, 2 _law_v, 3 _law_w, 4 _law_many, 5 _law_back_here, 6 _law_start, 7 _law_sign, 8 _law_deep_here, 9 _law_turn -/
theorem sc_law_on_round : FnScope ["_law_well_here", "_law_u", "_law_v", "_law_w", "_law_many", "_law_back_here", "_law_start", "_law_sign", "_law_deep_here", "_law_turn"] ["_law_well_here", "_law_u", "_law_v", "_law_w", "_law_many"] (defScope (topS 104)) := ⟨rfl, rfl, rfl, by decide +kernel, rfl, by decide +kernel, by decide +kernel⟩
/-- _law_hands: 0 _law_tests_here, 1 _law_hand, 2 _law_each -/
theorem sc_law_hands : FnScope ["_law_tests_here", "_law_hand", "_law_each"] ["_law_tests_here", "_law_hand"] (defScope (topS 105)) := ⟨rfl, rfl, rfl, by decide +kernel, rfl, by decide +kernel, by decide +kernel⟩
/-- _law_bar: 0 _law_hand, 1 _law_tests_here, 2 _law_pair, 3 _law_trio_here, 4 _law_chart_here, 5 _law_late, 6 _law_at -/
theorem sc_law_bar : FnScope ["_law_hand", "_law_tests_here", "_law_pair", "_law_trio_here", "_law_chart_here", "_law_late", "_law_at"] ["_law_hand", "_law_tests_here"] (defScope (topS 106)) := ⟨rfl, rfl, rfl, by decide +kernel, rfl, by decide +kernel, by decide +kernel⟩
/-- _law_right: 0 _law_well_here, 1 _law_wide, 2 _law_tests_here, 3 _law_hand, 4 _law_due, 5 _law_found, 6 _law_able -/
theorem sc_law_right : FnScope ["_law_well_here", "_law_wide", "_law_tests_here", "_law_hand", "_law_due", "_law_found", "_law_able"] ["_law_well_here"] (defScope (topS 107)) := ⟨rfl, rfl, rfl, by decide +kernel, rfl, by decide +kernel, by decide +kernel⟩
/-- law: 0 _law_script, 1 _law_spot_here -/
theorem sc_law : FnScope ["_law_script", "_law_spot_here"] ["_law_script"] (defScope (topS 108)) := ⟨rfl, rfl, rfl, by decide +kernel, rfl, by decide +kernel, by decide +kernel⟩
structure Core (K : PySem.W.Frag) (mg : Str → Option Value) : Prop where
  is_whole : Stands K mg "is_whole" 8
  are_wholes : Stands K mg "are_wholes" 9
  divisor_of : Stands K mg "divisor_of" 10
  lowest : Stands K mg "lowest" 11
  is_lowest : Stands K mg "is_lowest" 12
  is_complex : Stands K mg "is_complex" 16
  plus : Stands K mg "plus" 17
  minus : Stands K mg "minus" 18
  times : Stands K mg "times" 19
  scaled : Stands K mg "scaled" 20
  turned_over : Stands K mg "turned_over" 21
  square_size : Stands K mg "square_size" 22
  unit_for : Stands K mg "unit_for" 23
  nearest : Stands K mg "nearest" 24
  divisor_of_two : Stands K mg "divisor_of_two" 25
  divisor_of_all : Stands K mg "divisor_of_all" 26
  divided : Stands K mg "divided" 27
  is_place : Stands K mg "is_place" 30
  quotient_place : Stands K mg "quotient_place" 31
  determinant : Stands K mg "determinant" 33
  form_of : Stands K mg "form_of" 34
  is_flag : Stands K mg "is_flag" 35
  is_map : Stands K mg "is_map" 36
  check_map : Stands K mg "check_map" 37
  led_by : Stands K mg "led_by" 38
  joined : Stands K mg "joined" 39
  way_back : Stands K mg "way_back" 40
  check_triple : Stands K mg "check_triple" 43
  apart : Stands K mg "apart" 44
  chart_to_three : Stands K mg "chart_to_three" 45
  plain_through : Stands K mg "plain_through" 46
  mirrored_through : Stands K mg "mirrored_through" 47
  is_test : Stands K mg "is_test" 52
  check_tests : Stands K mg "check_tests" 53
  check_hand : Stands K mg "check_hand" 54
  check_hands : Stands K mg "check_hands" 55
  is_fitting : Stands K mg "is_fitting" 56
  are_crossed : Stands K mg "are_crossed" 57
  first_crossed : Stands K mg "first_crossed" 58
  unlike_in : Stands K mg "unlike_in" 59
  spare_beside : Stands K mg "spare_beside" 60
  chart_through : Stands K mg "chart_through" 61
  chart_for : Stands K mg "chart_for" 62
  charts_for : Stands K mg "charts_for" 63
  fits : Stands K mg "fits" 64
  fitting : Stands K mg "fitting" 65
  bar : Stands K mg "bar" 66
  law_well : Stands K mg "_law_well" 68
  law_dip : Stands K mg "_law_dip" 69
  law_of : Stands K mg "_law_of" 70
  law_whole : Stands K mg "_law_whole" 71
  law_rounds : Stands K mg "_law_rounds" 72
  law_gcd : Stands K mg "_law_gcd" 73
  law_cut : Stands K mg "_law_cut" 74
  law_times : Stands K mg "_law_times" 75
  law_plus : Stands K mg "_law_plus" 76
  law_minus : Stands K mg "_law_minus" 77
  law_conj : Stands K mg "_law_conj" 78
  law_norm : Stands K mg "_law_norm" 79
  law_scaled : Stands K mg "_law_scaled" 80
  law_over : Stands K mg "_law_over" 81
  law_deep : Stands K mg "_law_deep" 82
  law_quarter : Stands K mg "_law_quarter" 83
  law_chart : Stands K mg "_law_chart" 84
  law_spot : Stands K mg "_law_spot" 85
  law_led : Stands K mg "_law_led" 86
  law_joined : Stands K mg "_law_joined" 87
  law_back : Stands K mg "_law_back" 88
  law_place : Stands K mg "_law_place" 89
  law_unlike : Stands K mg "_law_unlike" 90
  law_four : Stands K mg "_law_four" 91
  law_map : Stands K mg "_law_map" 92
  law_three : Stands K mg "_law_three" 93
  law_fit : Stands K mg "_law_fit" 94
  law_reduced : Stands K mg "_law_reduced" 95
  law_is_whole : Stands K mg "_law_is_whole" 96
  law_is_map : Stands K mg "_law_is_map" 97
  law_is_fit : Stands K mg "_law_is_fit" 98
  law_crossed : Stands K mg "_law_crossed" 99
  law_firsts : Stands K mg "_law_firsts" 100
  law_trio : Stands K mg "_law_trio" 101
  law_can : Stands K mg "_law_can" 102
  law_tests : Stands K mg "_law_tests" 103
  law_on_round : Stands K mg "_law_on_round" 104
  law_hands : Stands K mg "_law_hands" 105
  law_bar : Stands K mg "_law_bar" 106
  law_right : Stands K mg "_law_right" 107
  law : Stands K mg "law" 108
  b_len : mg "len" = none
  b_isinstance : mg "isinstance" = none
  b_int : mg "int" = none
  b_bool : mg "bool" = none
  b_tuple : mg "tuple" = none
  b_list : mg "list" = none
  b_all : mg "all" = none
  b_range : mg "range" = none
  b_enumerate : mg "enumerate" = none
  b_abs : mg "abs" = none
  b_min : mg "min" = none
  b_max : mg "max" = none
  b_divmod : mg "divmod" = none
  b_repr : mg "repr" = none
  b_gcd : mg "gcd" = some (.builtin "math.gcd")
  k_ZERO : Glo K mg "ZERO" (G.d 0)
  k_UNITS : Glo K mg "UNITS" (.tuple [pr 1 0, pr 0 1, pr (-1) 0, pr 0 (-1)])
  k_FAR : Glo K mg "FAR" Pl.far.d
  k_SPARE : Glo K mg "SPARE" (.tuple (spares.map Pl.d))
  k_MANY : Glo K mg "MANY" (.int 3)
  k_MOST : Glo K mg "MOST_TESTS" (.int 8)
  k_ENOUGH : Glo K mg "ENOUGH" (.int 3)
end DL

/-! part Dk -/
set_option Elab.async false
set_option linter.all false
set_option maxRecDepth 100000
set_option maxHeartbeats 4000000
/-! Short forms: names, displays, bounds by instance, equalities by instance. -/
namespace DL
open PySem PySem.Spec PyProof.Rows L2
/-! ### bounds -/
abbrev big : Nat := 100000
class BI (n : outParam Nat) (i : Int) : Prop where
  h : Bd n i
class BZ (n : outParam Nat) (z : G) : Prop where
  h : Bz n z
class FB (n : outParam Nat) (f : F4) : Prop where
  h : B4 n f
class PB (n : outParam Nat) (x : Pl) : Prop where
  h : BP n x
instance bi0 : BI 2 0 := ⟨Bd.lit 2 0⟩
instance bi1 : BI 2 1 := ⟨Bd.lit 2 1⟩
instance bi2 : BI 2 2 := ⟨Bd.lit 2 2⟩
instance bim : BI 2 (-1) := ⟨Bd.lit 2 (-1)⟩
instance bi_neg {n i} [a : BI n i] : BI n (-i) := ⟨a.h.neg⟩
instance bi_add {n m i j} [a : BI n i] [b : BI m j] : BI (max n m + 1) (i + j) := ⟨a.h.add b.h⟩
instance bi_sub {n m i j} [a : BI n i] [b : BI m j] : BI (max n m + 1) (i - j) := ⟨a.h.sub b.h⟩
instance bi_mul {n m i j} [a : BI n i] [b : BI m j] : BI (n + m) (i * j) := ⟨a.h.mul b.h⟩
instance bi_re {n z} [a : BZ n z] : BI n z.re := ⟨a.h.1⟩
instance bi_im {n z} [a : BZ n z] : BI n z.im := ⟨a.h.2⟩
instance bi_norm {n z} [a : BZ n z] : BI (2 * n + 1) (G.norm z) := ⟨a.h.norm⟩
instance bi_p {n x} [a : PB n x] : BI n x.p := ⟨a.h.p⟩
instance bi_s {n x} [a : PB n x] : BI n x.s := ⟨a.h.s⟩
instance bi_r {n x} [a : PB n x] : BI n x.r := ⟨a.h.r⟩
instance bz0 : BZ 2 0 := ⟨⟨Bd.lit 2 0, Bd.lit 2 0⟩⟩
instance bz1 : BZ 2 1 := ⟨⟨Bd.lit 2 1, Bd.lit 2 0⟩⟩
instance bz_neg {n z} [a : BZ n z] : BZ n (-z) := ⟨a.h.neg⟩
instance bz_conj {n z} [a : BZ n z] : BZ n (G.conj z) := ⟨a.h.conj⟩
instance bz_add {n m x y} [a : BZ n x] [b : BZ m y] : BZ (max n m + 1) (x + y) := ⟨a.h.add b.h⟩
instance bz_sub {n m x y} [a : BZ n x] [b : BZ m y] : BZ (max n m + 1) (x - y) := ⟨a.h.sub b.h⟩
instance bz_mul {n m x y} [a : BZ n x] [b : BZ m y] : BZ (n + m + 1) (x * y) := ⟨a.h.mul b.h⟩
instance bz_mk {n m i j} [a : BI n i] [b : BI m j] : BZ (max n m) ⟨i, j⟩ := ⟨⟨a.h.mono (Nat.le_max_left ..), b.h.mono (Nat.le_max_right ..)⟩⟩
instance bz_of {n i} [a : BI n i] : BZ (max n 2) (G.ofI i) := ⟨⟨a.h.mono (Nat.le_max_left ..), (Bd.lit 2 0).mono (Nat.le_max_right ..)⟩⟩
instance bz_a {n f} [h : FB n f] : BZ n f.a := ⟨h.h.a⟩
instance bz_b {n f} [h : FB n f] : BZ n f.b := ⟨h.h.b⟩
instance bz_c {n f} [h : FB n f] : BZ n f.c := ⟨h.h.c⟩
instance bz_d {n f} [h : FB n f] : BZ n f.d := ⟨h.h.d⟩
instance bz_num {n x} [h : PB n x] : BZ n x.num := ⟨h.h.num⟩
instance fb_mk {n1 n2 n3 n4 a b c d} [ha : BZ n1 a] [hb : BZ n2 b] [hc : BZ n3 c] [hd : BZ n4 d] : FB (max (max n1 n2) (max n3 n4)) ⟨a, b, c, d⟩ := ⟨⟨ha.h.mono (by omega), hb.h.mono (by omega), hc.h.mono (by omega), hd.h.mono (by omega)⟩⟩
instance fb_adj {n f} [h : FB n f] : FB n (F4.adj f) := ⟨h.h.adj⟩
instance fb_mul {n m f g} [h : FB n f] [k : FB m g] : FB (n + m + 2) (F4.mul f g) := ⟨h.h.mul k.h⟩
instance fb_three {n u v w} [hu : PB n u] [hv : PB n v] [hw : PB n w] : FB (3 * n + 2) (F4.three u v w) := ⟨B4.three hu.h hv.h hw.h⟩
instance pb_cj {n x} [h : PB n x] : PB n x.cj := ⟨h.h.cj⟩
instance pb_hd {n x k} [h : PB n x] : PB n (x.hd k) := ⟨h.h.hd k⟩
theorem bi {n m i} [a : BI n i] (l : n ≤ m := by decide) : Bd m i := a.h.mono l
theorem bz {n m z} [a : BZ n z] (l : n ≤ m := by decide) : Bz m z := a.h.mono l
theorem bf {n m f} [a : FB n f] (l : n ≤ m := by decide) : B4 m f := a.h.mono l
theorem bp {n m x} [a : PB n x] (l : n ≤ m := by decide) : BP m x := a.h.mono l
theorem bi' {n i} [a : BI n i] : Bd n i := a.h
/-! ### equalities -/
class Eqv (d e : D) (k : outParam Bool) : Prop where
  h : PyData.eqv d e = k
instance qi {x y : Int} : Eqv (.int x) (.int y) (decide (x = y)) := ⟨eqv_i x y⟩
instance qG {x y : G} : Eqv x.d y.d (decide (x = y)) := ⟨eqv_G x y⟩
instance qP {x y : Pl} : Eqv x.d y.d (decide (x = y)) := ⟨eqv_P x y⟩
instance qT {x y : Te} : Eqv (teD x) (teD y) (decide (x = y)) := ⟨eqv_T x y⟩
instance qF {h k : Int} {f g : F4} : Eqv (chD h f) (chD k g) (decide (h = k ∧ f = g)) := ⟨eqv_F h k f g⟩
instance qN {x : Int} : Eqv .none (.int x) false := ⟨rfl⟩
/-! ### expressions -/
section
variable {X : Cx} {O : List Addr} {Δ : List SV} {C : Cont} {pos : Pos} {a b : Expr} {es : List Expr} {d e : D} {ds : List D}
theorem V (i : Nat) {x : Str} (hΔ : Δ[i]? = some (.dat d) := by rfl) (hN : X.N[i]? = some x := by rfl) (hv : Vis X.env.scope x := by first | exact Or.inl rfl | exact Or.inr (Or.inl rfl) | exact Or.inr (Or.inr rfl))
    (h1 : (x == ("__debug__" : Str)) = false := by decide) (h2 : (x == ("__classdict__" : Str)) = false := by decide) : EvD X O (.Name x pos) Δ C d := ev_name hΔ hN hv h1 h2
theorem IX {i : Int} {j p2} {z : D} (ha : EvD X O a Δ C d) (hs : seqOf d = some ds := by rfl) (h : ds[i.toNat]? = some z := by rfl) (h0 : 0 ≤ i := by decide) : EvD X O (.Subscript a (.Constant (.int i) j p2) pos) Δ C z := ev_ix ha ev_int hs h h0
theorem T2 {k} (ha : EvD X O a Δ C d) (hb : EvD X O b Δ C e) (h1 : starEach [a, b] X.env = (false, eval a X.env) :: starEach [b] X.env := by rfl) (h2 : starEach [b] X.env = (false, eval b X.env) :: starEach [] X.env := by rfl) : EvD X O (.Tuple [a, b] k pos) Δ C (.tuple [d, e]) :=
  ev_tup (ds := [d, e]) (ea_cons ha (ea_cons hb ea_nil h2) h1) (by simp)
theorem T3 {k} {c : Expr} {z : D} (ha : EvD X O a Δ C d) (hb : EvD X O b Δ C e) (hc : EvD X O c Δ C z) (h1 : starEach [a, b, c] X.env = (false, eval a X.env) :: starEach [b, c] X.env := by rfl) (h2 : starEach [b, c] X.env = (false, eval b X.env) :: starEach [c] X.env := by rfl) (h3 : starEach [c] X.env = (false, eval c X.env) :: starEach [] X.env := by rfl) : EvD X O (.Tuple [a, b, c] k pos) Δ C (.tuple [d, e, z]) :=
  ev_tup (ds := [d, e, z]) (ea_cons ha (ea_cons hb (ea_cons hc ea_nil h3) h2) h1) (by simp)
theorem A1 (ha : EvD X O a Δ C d) (h1 : starEach [a] X.env = (false, eval a X.env) :: starEach [] X.env := by rfl) : EvA X O [a] Δ C ([d].map .dat) := ea_cons ha ea_nil h1
theorem A2 (ha : EvD X O a Δ C d) (hb : EvD X O b Δ C e) (h1 : starEach [a, b] X.env = (false, eval a X.env) :: starEach [b] X.env := by rfl) (h2 : starEach [b] X.env = (false, eval b X.env) :: starEach [] X.env := by rfl) : EvA X O [a, b] Δ C ([d, e].map .dat) := ea_cons ha (ea_cons hb ea_nil h2) h1
theorem A3 {c : Expr} {z : D} (ha : EvD X O a Δ C d) (hb : EvD X O b Δ C e) (hc : EvD X O c Δ C z) (h1 : starEach [a, b, c] X.env = (false, eval a X.env) :: starEach [b, c] X.env := by rfl) (h2 : starEach [b, c] X.env = (false, eval b X.env) :: starEach [c] X.env := by rfl) (h3 : starEach [c] X.env = (false, eval c X.env) :: starEach [] X.env := by rfl) : EvA X O [a, b, c] Δ C ([d, e, z].map .dat) := ea_cons ha (ea_cons hb (ea_cons hc ea_nil h3) h2) h1
theorem D1 {c1 : Expr} {d1 : D} (k1 : EvD X O c1 Δ C d1) (h1 : starEach [c1] X.env = (false, eval c1 X.env) :: starEach [] X.env := by rfl) : EvA X O [c1] Δ C ([d1].map .dat) := ea_cons k1 ea_nil h1
theorem A4 {c1 c2 c3 c4 : Expr} {d1 d2 d3 d4 : D} (k1 : EvD X O c1 Δ C d1) (k2 : EvD X O c2 Δ C d2) (k3 : EvD X O c3 Δ C d3) (k4 : EvD X O c4 Δ C d4)
    (h1 : starEach [c1, c2, c3, c4] X.env = (false, eval c1 X.env) :: starEach [c2, c3, c4] X.env := by rfl) (h2 : starEach [c2, c3, c4] X.env = (false, eval c2 X.env) :: starEach [c3, c4] X.env := by rfl) (h3 : starEach [c3, c4] X.env = (false, eval c3 X.env) :: starEach [c4] X.env := by rfl) (h4 : starEach [c4] X.env = (false, eval c4 X.env) :: starEach [] X.env := by rfl) : EvA X O [c1, c2, c3, c4] Δ C ([d1, d2, d3, d4].map .dat) := ea_cons k1 (A3 k2 k3 k4 h2 h3 h4) h1
theorem L4 {c1 c2 c3 c4 : Expr} {d1 d2 d3 d4 : D} (k1 : EvD X O c1 Δ C d1) (k2 : EvD X O c2 Δ C d2) (k3 : EvD X O c3 Δ C d3) (k4 : EvD X O c4 Δ C d4)
    (h1 : starEach [c1, c2, c3, c4] X.env = (false, eval c1 X.env) :: starEach [c2, c3, c4] X.env := by rfl) (h2 : starEach [c2, c3, c4] X.env = (false, eval c2 X.env) :: starEach [c3, c4] X.env := by rfl) (h3 : starEach [c3, c4] X.env = (false, eval c3 X.env) :: starEach [c4] X.env := by rfl) (h4 : starEach [c4] X.env = (false, eval c4 X.env) :: starEach [] X.env := by rfl) : EvD X O (.List [c1, c2, c3, c4] pos) Δ C (.list [d1, d2, d3, d4]) :=
  ev_lst (ds := [d1, d2, d3, d4]) (A4 k1 k2 k3 k4 h1 h2 h3 h4) (by simp)
theorem T4 {k} {c1 c2 c3 c4 : Expr} {d1 d2 d3 d4 : D} (k1 : EvD X O c1 Δ C d1) (k2 : EvD X O c2 Δ C d2) (k3 : EvD X O c3 Δ C d3) (k4 : EvD X O c4 Δ C d4)
    (h1 : starEach [c1, c2, c3, c4] X.env = (false, eval c1 X.env) :: starEach [c2, c3, c4] X.env := by rfl) (h2 : starEach [c2, c3, c4] X.env = (false, eval c2 X.env) :: starEach [c3, c4] X.env := by rfl) (h3 : starEach [c3, c4] X.env = (false, eval c3 X.env) :: starEach [c4] X.env := by rfl) (h4 : starEach [c4] X.env = (false, eval c4 X.env) :: starEach [] X.env := by rfl) : EvD X O (.Tuple [c1, c2, c3, c4] k pos) Δ C (.tuple [d1, d2, d3, d4]) :=
  ev_tup (ds := [d1, d2, d3, d4]) (A4 k1 k2 k3 k4 h1 h2 h3 h4) (by simp)
theorem A5 {c0 c1 c2 c3 c4 : Expr} {d0 d1 d2 d3 d4 : D} (k0 : EvD X O c0 Δ C d0) (k1 : EvD X O c1 Δ C d1) (k2 : EvD X O c2 Δ C d2) (k3 : EvD X O c3 Δ C d3) (k4 : EvD X O c4 Δ C d4)
    (h0 : starEach [c0, c1, c2, c3, c4] X.env = (false, eval c0 X.env) :: starEach [c1, c2, c3, c4] X.env := by rfl) (h1 : starEach [c1, c2, c3, c4] X.env = (false, eval c1 X.env) :: starEach [c2, c3, c4] X.env := by rfl) (h2 : starEach [c2, c3, c4] X.env = (false, eval c2 X.env) :: starEach [c3, c4] X.env := by rfl) (h3 : starEach [c3, c4] X.env = (false, eval c3 X.env) :: starEach [c4] X.env := by rfl) (h4 : starEach [c4] X.env = (false, eval c4 X.env) :: starEach [] X.env := by rfl) : EvA X O [c0, c1, c2, c3, c4] Δ C ([d0, d1, d2, d3, d4].map .dat) :=
  ea_cons k0 (A4 k1 k2 k3 k4 h1 h2 h3 h4) h0
theorem T5 {k} {c0 c1 c2 c3 c4 : Expr} {d0 d1 d2 d3 d4 : D} (k0 : EvD X O c0 Δ C d0) (k1 : EvD X O c1 Δ C d1) (k2 : EvD X O c2 Δ C d2) (k3 : EvD X O c3 Δ C d3) (k4 : EvD X O c4 Δ C d4)
    (h0 : starEach [c0, c1, c2, c3, c4] X.env = (false, eval c0 X.env) :: starEach [c1, c2, c3, c4] X.env := by rfl) (h1 : starEach [c1, c2, c3, c4] X.env = (false, eval c1 X.env) :: starEach [c2, c3, c4] X.env := by rfl) (h2 : starEach [c2, c3, c4] X.env = (false, eval c2 X.env) :: starEach [c3, c4] X.env := by rfl) (h3 : starEach [c3, c4] X.env = (false, eval c3 X.env) :: starEach [c4] X.env := by rfl) (h4 : starEach [c4] X.env = (false, eval c4 X.env) :: starEach [] X.env := by rfl) : EvD X O (.Tuple [c0, c1, c2, c3, c4] k pos) Δ C (.tuple [d0, d1, d2, d3, d4]) :=
  ev_tup (ds := [d0, d1, d2, d3, d4]) (A5 k0 k1 k2 k3 k4 h0 h1 h2 h3 h4) (by simp)
theorem ev_is {z : D} (h : EvD X O a Δ C d) (e : d = z) : EvD X O a Δ C z := e ▸ h
theorem et_is {k l : Bool} (h : EvT X O a Δ C k) (e : k = l) : EvT X O a Δ C l := e ▸ h
theorem iv_seq {tg : Expr} (h : EvD X O a Δ C d) (hs : seqOf d = some ds) : IvD X O tg a Δ C ds := by
  cases d with
  | list l => cases hs; exact iv_list h
  | tuple l => cases hs; exact iv_tup h
  | _ => cases hs
theorem asG {i j : Int} (h : EvD X O a Δ C (pr i j)) : EvD X O a Δ C (G.d ⟨i, j⟩) := h
theorem asZ (z : G) {i j : Int} (h : EvD X O a Δ C (pr i j)) (e1 : i = z.re := by rfl) (e2 : j = z.im := by rfl) : EvD X O a Δ C z.d := by subst e1 e2; exact h
theorem asP {i j k : Int} (h : EvD X O a Δ C (.tuple [.int i, .int j, .int k])) : EvD X O a Δ C (Pl.d ⟨i, j, k⟩) := h
theorem ofI2 {d1 d2 : D} (h : EvD X O a Δ C d1) (e : d1 = d2 := by rfl) : EvD X O a Δ C d2 := e ▸ h
section
variable {k : Nat} (hr : Room k X.A) {l : Bool}
theorem q_eq [h : Eqv d e l] (hr : Room k X.A) (ha : EvD X O a Δ C d) (hb : EvD X O b Δ C e) (sd : SeqAt.shaped d = true := by rfl) (se : SeqAt.shaped e = true := by rfl) : EvD X O (.Compare a [.Eq] [b] pos) Δ C (.bool l) := ev_is (ev_eq hr ha hb sd se) (by rw [h.h])
theorem q_ne [h : Eqv d e l] (hr : Room k X.A) (ha : EvD X O a Δ C d) (hb : EvD X O b Δ C e) (sd : SeqAt.shaped d = true := by rfl) (se : SeqAt.shaped e = true := by rfl) : EvD X O (.Compare a [.NotEq] [b] pos) Δ C (.bool !l) := ev_is (ev_ne hr ha hb sd se) (by rw [h.h])
theorem t_eq [h : Eqv d e l] (hr : Room k X.A) (ha : EvD X O a Δ C d) (hb : EvD X O b Δ C e) (sd : SeqAt.shaped d = true := by rfl) (se : SeqAt.shaped e = true := by rfl) : EvT X O (.Compare a [.Eq] [b] pos) Δ C l := et_is (et_eq hr ha hb sd se) h.h
theorem t_ne [h : Eqv d e l] (hr : Room k X.A) (ha : EvD X O a Δ C d) (hb : EvD X O b Δ C e) (sd : SeqAt.shaped d = true := by rfl) (se : SeqAt.shaped e = true := by rfl) : EvT X O (.Compare a [.NotEq] [b] pos) Δ C (!l) := et_is (et_ne hr ha hb sd se) (by rw [h.h])
theorem q_in (hr : Room k X.A) (ha : EvD X O a Δ C d) (hb : EvD X O b Δ C e) (hs : seqOf e = some ds := by rfl) (sd : SeqAt.shaped d = true := by rfl) (se : PyData.canLayAll0 ds = true := by rfl) (hm : behindInMarks .In b = false := by rfl) : EvD X O (.Compare a [.In] [b] pos) Δ C (.bool (ds.any fun z => PyData.eqv z d)) :=
  ev_cmp (op_inS (hu65 hr)) ha hb (od_in hs sd se) hm
theorem t_in (hr : Room k X.A) (ha : EvD X O a Δ C d) (hb : EvD X O b Δ C e) (hs : seqOf e = some ds := by rfl) (sd : SeqAt.shaped d = true := by rfl) (se : PyData.canLayAll0 ds = true := by rfl) (hm : behindInMarks .In b = false := by rfl) : EvT X O (.Compare a [.In] [b] pos) Δ C (ds.any fun z => PyData.eqv z d) :=
  et_cmp (op_inS (hu65 hr)) ha hb (od_in hs sd se) hm
theorem t_nin (hr : Room k X.A) (ha : EvD X O a Δ C d) (hb : EvD X O b Δ C e) (hs : seqOf e = some ds := by rfl) (sd : SeqAt.shaped d = true := by rfl) (se : PyData.canLayAll0 ds = true := by rfl) (hm : behindInMarks .NotIn b = false := by rfl) : EvT X O (.Compare a [.NotIn] [b] pos) Δ C (!(ds.any fun z => PyData.eqv z d)) :=
  et_cmp (op_notInS (hu65 hr)) ha hb (od_in hs sd se) hm
end
theorem ev_le {i j : Int} (ha : EvD X O a Δ C (.int i)) (hb : EvD X O b Δ C (.int j)) : EvD X O (.Compare a [.LtE] [b] pos) Δ C (.bool (decide (i ≤ j))) := ev_cmp op_le ha hb od_intB
theorem ev_ge {i j : Int} (ha : EvD X O a Δ C (.int i)) (hb : EvD X O b Δ C (.int j)) : EvD X O (.Compare a [.GtE] [b] pos) Δ C (.bool (decide (j ≤ i))) := ev_cmp op_ge ha hb od_intB
theorem isi (T' : String) {T : Str} {k : Bool} {p p2 : Pos} (hm : X.mg "isinstance" = none) (hT : X.mg T = none) (ha : EvD X O a Δ C d) (hv : bootBuiltins T = some (.type T')) (hk : PySem.W.kitOne X.K (tyD d) (.type T') = some k) (hg : Gl X "isinstance" := by rfl) (hgT : Gl X T := by rfl) (hn : T ≠ "__name__" := by decide) (hdb : (T == ("__debug__" : Str)) = false := by decide)
    (he : starEach [a, .Name T p2] X.env = (false, eval a X.env) :: starEach [.Name T p2] X.env := by rfl) (hpl : (backTo pos (starEach [.Name T p2] X.env)).any (·.1) = false := by rfl) : EvD X O (.Call (.Name "isinstance" p) [a, .Name T p2] [] pos) Δ C (.bool k) :=
  ev_isi hm hT ha hv hk hg hgT hn hdb he hpl
end
theorem gcdL_succ {l : List Int} {i : Nat} {x : Int} (h : l[i]? = some x) : gcdL (l.take (i + 1)) = (Int.gcd (gcdL (l.take i)) x : Int) := by
  have e : l.take (i + 1) = l.take i ++ [x] := by rw [List.take_add_one, h] <;> rfl
  unfold gcdL
  rw [e, List.foldl_append] <;> rfl
end DL

/-! part Df1 -/
set_option Elab.async false
set_option linter.all false
set_option maxRecDepth 100000
set_option maxHeartbeats 4000000
namespace DL
open PySem PySem.Spec PyProof.Rows L2
variable {P : Program} {w : World} {K : PySem.W.Frag} {mg : Str → Option Value} {base : Heap}
def F_is_whole (ds : List D) (d : D) : Prop := ∃ (i : Int), ds = [.int i] ∧ d = .bool true
theorem ok_is_whole (c : Core K mg) : DefOk P w K mg base 1 "is_whole" ["value"] (pur F_is_whole) := by
  refine mkDef c.is_whole sc_is_whole (fun _ _ _ _ _ _ us hl => match us, hl with | [_], _ => rfl) (len_pur fun ds d h0 => by obtain ⟨_, h, _⟩ := h0; rw [h] <;> rfl) fun f cdv A outer s H E hr O C ss Q hq => ?_
  obtain ⟨_, _, rfl, ⟨i, rfl, rfl⟩, q⟩ := hq
  exact b_ret (EvD.p (ev_and (isi "int" (k := true) c.b_isinstance c.b_int (V 0 rfl) (by decide +kernel) (kit_ty (by decide +kernel))) fun _ => (ev_one (ev_not (isi "bool" (k := false) c.b_isinstance c.b_bool (V 0 rfl) (by decide +kernel) (kit_ty (by decide +kernel)))))) q)
theorem e_is_whole {X : Cx} (c : Core X.K X.mg) {O : List Addr} {Δ : List SV} {C : Cont} {pos p : Pos} {k : Nat} {i : Int} {a1 : Expr} (hr : Room k X.A) (k1 : EvD X O a1 Δ C (.int i))  (hk : 1 ≤ k := by decide) (hg : Gl X "is_whole" := by rfl)
    (s0 : starEach [a1] X.env = (false, eval a1 X.env) :: starEach [] X.env := by rfl) : EvD X O (.Call (.Name "is_whole" p) [a1] [] pos) Δ C (.bool true) :=
  ev_call (ok_is_whole c) (hr.mono hk) (A1 k1 s0) ⟨i, rfl, rfl⟩ hg (by decide) s0 (by rfl)
def F_law_is_whole (ds : List D) (d : D) : Prop := ∃ (i : Int), ds = [.int i] ∧ d = .bool true
theorem ok_law_is_whole (c : Core K mg) : DefOk P w K mg base 1 "_law_is_whole" ["_law_value"] (pur F_law_is_whole) := by
  refine mkDef c.law_is_whole sc_law_is_whole (fun _ _ _ _ _ _ us hl => match us, hl with | [_], _ => rfl) (len_pur fun ds d h0 => by obtain ⟨_, h, _⟩ := h0; rw [h] <;> rfl) fun f cdv A outer s H E hr O C ss Q hq => ?_
  obtain ⟨_, _, rfl, ⟨i, rfl, rfl⟩, q⟩ := hq
  exact b_ret (EvD.p (ev_and (isi "int" (k := true) c.b_isinstance c.b_int (V 0 rfl) (by decide +kernel) (kit_ty (by decide +kernel))) fun _ => (ev_one (ev_not (isi "bool" (k := false) c.b_isinstance c.b_bool (V 0 rfl) (by decide +kernel) (kit_ty (by decide +kernel)))))) q)
theorem e_law_is_whole {X : Cx} (c : Core X.K X.mg) {O : List Addr} {Δ : List SV} {C : Cont} {pos p : Pos} {k : Nat} {i : Int} {a1 : Expr} (hr : Room k X.A) (k1 : EvD X O a1 Δ C (.int i))  (hk : 1 ≤ k := by decide) (hg : Gl X "_law_is_whole" := by rfl)
    (s0 : starEach [a1] X.env = (false, eval a1 X.env) :: starEach [] X.env := by rfl) : EvD X O (.Call (.Name "_law_is_whole" p) [a1] [] pos) Δ C (.bool true) :=
  ev_call (ok_law_is_whole c) (hr.mono hk) (A1 k1 s0) ⟨i, rfl, rfl⟩ hg (by decide) s0 (by rfl)
def F_are_wholes (ds : List D) (d : D) : Prop := ∃ (l : List Int) (m : Int), ds = [.tuple (l.map .int), .int m] ∧ l.length ≤ 100 ∧ d = .bool (decide ((l.length : Int) = m))
theorem ok_are_wholes (c : Core K mg) : DefOk P w K mg base 2 "are_wholes" ["value", "many"] (pur F_are_wholes) := by
  refine mkDef c.are_wholes sc_are_wholes (fun _ _ _ _ _ _ us hl => match us, hl with | [_, _], _ => rfl) (len_pur fun ds d h0 => by obtain ⟨_, _, h, _⟩ := h0; rw [h] <;> rfl) fun f cdv A outer s H E hr O C ss Q hq => ?_
  obtain ⟨_, _, rfl, ⟨l, m, rfl, h1, rfl⟩, q⟩ := hq
  refine b_ret (EvD.p (ev_is (ev_and (k := true) (l := decide ((l.length : Int) = m)) (isi "tuple" (k := true) c.b_isinstance c.b_tuple (V 0 rfl) (by decide +kernel) (kit_ty (by decide +kernel))) fun _ =>
    ev_is (ev_and (k := decide ((l.length : Int) = m)) (l := true) (ev_is (q_eq hr (ev_len c.b_len (V 0 rfl) rfl) (V 1 rfl)) (by rw [List.length_map])) fun _ => ev_one (ev_is (ev_all (bs := l.map fun _ => true) c.b_all (ev_is (ev_map (xs := l) (enc := .int) (val := fun _ => .bool true) sc_are_wholes.nd (blkOk_by (own := [("number", 2)]) (N := ["value", "many", "number"]) (sc := defScope (topS 9)) (by decide +kernel)) (iv_seq (V 0 rfl) rfl) rfl (fun O' x hx => stepD_all (is := [2]) (by decide) (fun s H A cl fp => (tg_name (i := 2) sc_are_wholes.nd)) fun s H A cl fp => (e_is_whole c hr (V 2 rfl))) (by omega)) (by rw [List.map_map] <;> rfl))) (by simp))) (by simp)) (by simp)) q)
theorem e_are_wholes {X : Cx} (c : Core X.K X.mg) {O : List Addr} {Δ : List SV} {C : Cont} {pos p : Pos} {k : Nat} {l : List Int} {m : Int} {a1 a2 : Expr} (hr : Room k X.A) (k1 : EvD X O a1 Δ C (.tuple (l.map .int))) (k2 : EvD X O a2 Δ C (.int m)) (h1 : l.length ≤ 100 := by first | exact bz | exact bi | exact bf | exact bp | with_reducible assumption | omega) (hk : 2 ≤ k := by decide) (hg : Gl X "are_wholes" := by rfl)
    (s0 : starEach [a1, a2] X.env = (false, eval a1 X.env) :: starEach [a2] X.env := by rfl) (s1 : starEach [a2] X.env = (false, eval a2 X.env) :: starEach [] X.env := by rfl) : EvD X O (.Call (.Name "are_wholes" p) [a1, a2] [] pos) Δ C (.bool (decide ((l.length : Int) = m))) :=
  ev_call (ok_are_wholes c) (hr.mono hk) (A2 k1 k2 s0 s1) ⟨l, m, rfl, h1, rfl⟩ hg (by decide) s0 (by rw [s1] <;> rfl)
def F_divisor_of (ds : List D) (d : D) : Prop := ∃ (l : List Int), ds = [.tuple (l.map .int)] ∧ d = .int (gcdL l)
theorem ok_divisor_of (c : Core K mg) : DefOk P w K mg base 1 "divisor_of" ["numbers"] (pur F_divisor_of) := by
  refine mkDef c.divisor_of sc_divisor_of (fun _ _ _ _ _ _ us hl => match us, hl with | [_], _ => rfl) (len_pur fun ds d h0 => by obtain ⟨_, h, _⟩ := h0; rw [h] <;> rfl) fun f cdv A outer s H E hr O C ss Q hq => ?_
  obtain ⟨_, _, rfl, ⟨l, rfl, rfl⟩, q⟩ := hq
  refine b_set (i := 1) sc_divisor_of.nd (ev_int.p ?_)
  refine b_for PassesOwn.never (iv_tup (V 0 rfl)) (fun i Δ1 C1 => C1 = C ∧ ∃ s, Δ1 = [.dat (.tuple (l.map .int)), .dat (.int (gcdL (l.take i))), s]) ⟨rfl, .no, rfl⟩ ?_ ?_
  · rintro i Δ1 C1 d hd ⟨rfl, s, rfl⟩
    rw [List.getElem?_map] at hd
    obtain ⟨x, hx, rfl⟩ := Option.map_eq_some_iff.mp hd
    refine ⟨_, _, tg_name (i := 2) sc_divisor_of.nd, b_set (i := 1) sc_divisor_of.nd ((ev_gcd c.b_gcd (V 1 rfl) (V 2 rfl)).p (b_nil ⟨rfl, .dat (.int x), ?_⟩))⟩
    rw [gcdL_succ hx] <;> rfl
  · rintro Δ1 C1 ⟨rfl, s, rfl⟩
    refine b_ret (EvD.p (V 1 rfl) ?_)
    rw [List.length_map, List.take_length]
    exact q
theorem e_divisor_of {X : Cx} (c : Core X.K X.mg) {O : List Addr} {Δ : List SV} {C : Cont} {pos p : Pos} {k : Nat} {l : List Int} {a1 : Expr} (hr : Room k X.A) (k1 : EvD X O a1 Δ C (.tuple (l.map .int)))  (hk : 1 ≤ k := by decide) (hg : Gl X "divisor_of" := by rfl)
    (s0 : starEach [a1] X.env = (false, eval a1 X.env) :: starEach [] X.env := by rfl) : EvD X O (.Call (.Name "divisor_of" p) [a1] [] pos) Δ C (.int (gcdL l)) :=
  ev_call (ok_divisor_of c) (hr.mono hk) (A1 k1 s0) ⟨l, rfl, rfl⟩ hg (by decide) s0 (by rfl)
def F_lowest (ds : List D) (d : D) : Prop := ∃ (l : List Int), ds = [.tuple (l.map .int)] ∧ l.length ≤ 100 ∧ 0 < gcdL l ∧ Bd 8999 (gcdL l) ∧ d = .tuple (l.map fun x => .int (x / gcdL l))
theorem ok_lowest (c : Core K mg) : DefOk P w K mg base 2 "lowest" ["numbers"] (pur F_lowest) := by
  refine mkDef c.lowest sc_lowest (fun _ _ _ _ _ _ us hl => match us, hl with | [_], _ => rfl) (len_pur fun ds d h0 => by obtain ⟨_, h, _⟩ := h0; rw [h] <;> rfl) fun f cdv A outer s H E hr O C ss Q hq => ?_
  obtain ⟨_, _, rfl, ⟨l, rfl, h1, h2, h3, rfl⟩, q⟩ := hq
  refine b_set (i := 1) sc_lowest.nd ((e_divisor_of c hr (V 0 rfl)).p ?_)
  exact b_ret (EvD.p (ev_totup c.b_tuple (ev_map (xs := l) (enc := .int) (val := fun x => .int (x / gcdL l)) sc_lowest.nd (blkOk_by (own := [("number", 2)]) (N := ["numbers", "divisor", "number"]) (sc := defScope (topS 11)) (by decide +kernel)) (iv_seq (V 0 rfl) rfl) rfl (fun O' x hx => stepD_all (is := [2]) (by decide) (fun s H A cl fp => (tg_name (i := 2) sc_lowest.nd)) fun s H A cl fp => (ev_div (V 2 rfl) (V 1 rfl) h2 h3)) (by omega))) q)
theorem e_lowest {X : Cx} (c : Core X.K X.mg) {O : List Addr} {Δ : List SV} {C : Cont} {pos p : Pos} {k : Nat} {l : List Int} {a1 : Expr} (hr : Room k X.A) (k1 : EvD X O a1 Δ C (.tuple (l.map .int))) (h1 : l.length ≤ 100 := by first | exact bz | exact bi | exact bf | exact bp | with_reducible assumption | omega) (h2 : 0 < gcdL l := by first | exact bz | exact bi | exact bf | exact bp | with_reducible assumption | omega) (h3 : Bd 8999 (gcdL l) := by first | exact bz | exact bi | exact bf | exact bp | with_reducible assumption | omega) (hk : 2 ≤ k := by decide) (hg : Gl X "lowest" := by rfl)
    (s0 : starEach [a1] X.env = (false, eval a1 X.env) :: starEach [] X.env := by rfl) : EvD X O (.Call (.Name "lowest" p) [a1] [] pos) Δ C (.tuple (l.map fun x => .int (x / gcdL l))) :=
  ev_call (ok_lowest c) (hr.mono hk) (A1 k1 s0) ⟨l, rfl, h1, h2, h3, rfl⟩ hg (by decide) s0 (by rfl)
def F_is_lowest (ds : List D) (d : D) : Prop := ∃ (l : List Int), ds = [.tuple (l.map .int)] ∧ d = .bool (decide (gcdL l = 1))
theorem ok_is_lowest (c : Core K mg) : DefOk P w K mg base 2 "is_lowest" ["numbers"] (pur F_is_lowest) := by
  refine mkDef c.is_lowest sc_is_lowest (fun _ _ _ _ _ _ us hl => match us, hl with | [_], _ => rfl) (len_pur fun ds d h0 => by obtain ⟨_, h, _⟩ := h0; rw [h] <;> rfl) fun f cdv A outer s H E hr O C ss Q hq => ?_
  obtain ⟨_, _, rfl, ⟨l, rfl, rfl⟩, q⟩ := hq
  exact b_ret (EvD.p (q_eq hr (e_divisor_of c hr (V 0 rfl)) ev_int) q)
theorem e_is_lowest {X : Cx} (c : Core X.K X.mg) {O : List Addr} {Δ : List SV} {C : Cont} {pos p : Pos} {k : Nat} {l : List Int} {a1 : Expr} (hr : Room k X.A) (k1 : EvD X O a1 Δ C (.tuple (l.map .int)))  (hk : 2 ≤ k := by decide) (hg : Gl X "is_lowest" := by rfl)
    (s0 : starEach [a1] X.env = (false, eval a1 X.env) :: starEach [] X.env := by rfl) : EvD X O (.Call (.Name "is_lowest" p) [a1] [] pos) Δ C (.bool (decide (gcdL l = 1))) :=
  ev_call (ok_is_lowest c) (hr.mono hk) (A1 k1 s0) ⟨l, rfl, rfl⟩ hg (by decide) s0 (by rfl)
def F_is_complex (ds : List D) (d : D) : Prop := ∃ (x : G), ds = [x.d] ∧ d = .bool true
theorem ok_is_complex (c : Core K mg) : DefOk P w K mg base 3 "is_complex" ["value"] (pur F_is_complex) := by
  refine mkDef c.is_complex sc_is_complex (fun _ _ _ _ _ _ us hl => match us, hl with | [_], _ => rfl) (len_pur fun ds d h0 => by obtain ⟨_, h, _⟩ := h0; rw [h] <;> rfl) fun f cdv A outer s H E hr O C ss Q hq => ?_
  obtain ⟨_, _, rfl, ⟨x, rfl, rfl⟩, q⟩ := hq
  exact b_ret (EvD.p (e_are_wholes c hr (l := [x.re, x.im]) (V 0 rfl) ev_int (by simp)) q)
theorem e_is_complex {X : Cx} (c : Core X.K X.mg) {O : List Addr} {Δ : List SV} {C : Cont} {pos p : Pos} {k : Nat} {x : G} {a1 : Expr} (hr : Room k X.A) (k1 : EvD X O a1 Δ C (x.d))  (hk : 3 ≤ k := by decide) (hg : Gl X "is_complex" := by rfl)
    (s0 : starEach [a1] X.env = (false, eval a1 X.env) :: starEach [] X.env := by rfl) : EvD X O (.Call (.Name "is_complex" p) [a1] [] pos) Δ C (.bool true) :=
  ev_call (ok_is_complex c) (hr.mono hk) (A1 k1 s0) ⟨x, rfl, rfl⟩ hg (by decide) s0 (by rfl)
def F_plus (ds : List D) (d : D) : Prop := ∃ (x : G) (y : G), ds = [x.d, y.d] ∧ d = (x + y).d
theorem ok_plus (c : Core K mg) : DefOk P w K mg base 1 "plus" ["number", "other"] (pur F_plus) := by
  refine mkDef c.plus sc_plus (fun _ _ _ _ _ _ us hl => match us, hl with | [_, _], _ => rfl) (len_pur fun ds d h0 => by obtain ⟨_, _, h, _⟩ := h0; rw [h] <;> rfl) fun f cdv A outer s H E hr O C ss Q hq => ?_
  obtain ⟨_, _, rfl, ⟨x, y, rfl, rfl⟩, q⟩ := hq
  exact b_ret (EvD.p (T2 (ev_add (IX (V 0 rfl) rfl rfl) (IX (V 1 rfl) rfl rfl)) (ev_add (IX (V 0 rfl) rfl rfl) (IX (V 1 rfl) rfl rfl))) q)
theorem e_plus {X : Cx} (c : Core X.K X.mg) {O : List Addr} {Δ : List SV} {C : Cont} {pos p : Pos} {k : Nat} {x : G} {y : G} {a1 a2 : Expr} (hr : Room k X.A) (k1 : EvD X O a1 Δ C (x.d)) (k2 : EvD X O a2 Δ C (y.d))  (hk : 1 ≤ k := by decide) (hg : Gl X "plus" := by rfl)
    (s0 : starEach [a1, a2] X.env = (false, eval a1 X.env) :: starEach [a2] X.env := by rfl) (s1 : starEach [a2] X.env = (false, eval a2 X.env) :: starEach [] X.env := by rfl) : EvD X O (.Call (.Name "plus" p) [a1, a2] [] pos) Δ C ((x + y).d) :=
  ev_call (ok_plus c) (hr.mono hk) (A2 k1 k2 s0 s1) ⟨x, y, rfl, rfl⟩ hg (by decide) s0 (by rw [s1] <;> rfl)
def F_law_plus (ds : List D) (d : D) : Prop := ∃ (x : G) (y : G), ds = [x.d, y.d] ∧ d = (x + y).d
theorem ok_law_plus (c : Core K mg) : DefOk P w K mg base 1 "_law_plus" ["_law_x", "_law_y"] (pur F_law_plus) := by
  refine mkDef c.law_plus sc_law_plus (fun _ _ _ _ _ _ us hl => match us, hl with | [_, _], _ => rfl) (len_pur fun ds d h0 => by obtain ⟨_, _, h, _⟩ := h0; rw [h] <;> rfl) fun f cdv A outer s H E hr O C ss Q hq => ?_
  obtain ⟨_, _, rfl, ⟨x, y, rfl, rfl⟩, q⟩ := hq
  exact b_ret (EvD.p (T2 (ev_add (IX (V 0 rfl) rfl rfl) (IX (V 1 rfl) rfl rfl)) (ev_add (IX (V 0 rfl) rfl rfl) (IX (V 1 rfl) rfl rfl))) q)
theorem e_law_plus {X : Cx} (c : Core X.K X.mg) {O : List Addr} {Δ : List SV} {C : Cont} {pos p : Pos} {k : Nat} {x : G} {y : G} {a1 a2 : Expr} (hr : Room k X.A) (k1 : EvD X O a1 Δ C (x.d)) (k2 : EvD X O a2 Δ C (y.d))  (hk : 1 ≤ k := by decide) (hg : Gl X "_law_plus" := by rfl)
    (s0 : starEach [a1, a2] X.env = (false, eval a1 X.env) :: starEach [a2] X.env := by rfl) (s1 : starEach [a2] X.env = (false, eval a2 X.env) :: starEach [] X.env := by rfl) : EvD X O (.Call (.Name "_law_plus" p) [a1, a2] [] pos) Δ C ((x + y).d) :=
  ev_call (ok_law_plus c) (hr.mono hk) (A2 k1 k2 s0 s1) ⟨x, y, rfl, rfl⟩ hg (by decide) s0 (by rw [s1] <;> rfl)
def F_minus (ds : List D) (d : D) : Prop := ∃ (x : G) (y : G), ds = [x.d, y.d] ∧ d = (x - y).d
theorem ok_minus (c : Core K mg) : DefOk P w K mg base 1 "minus" ["number", "other"] (pur F_minus) := by
  refine mkDef c.minus sc_minus (fun _ _ _ _ _ _ us hl => match us, hl with | [_, _], _ => rfl) (len_pur fun ds d h0 => by obtain ⟨_, _, h, _⟩ := h0; rw [h] <;> rfl) fun f cdv A outer s H E hr O C ss Q hq => ?_
  obtain ⟨_, _, rfl, ⟨x, y, rfl, rfl⟩, q⟩ := hq
  exact b_ret (EvD.p (T2 (ev_sub (IX (V 0 rfl) rfl rfl) (IX (V 1 rfl) rfl rfl)) (ev_sub (IX (V 0 rfl) rfl rfl) (IX (V 1 rfl) rfl rfl))) q)
theorem e_minus {X : Cx} (c : Core X.K X.mg) {O : List Addr} {Δ : List SV} {C : Cont} {pos p : Pos} {k : Nat} {x : G} {y : G} {a1 a2 : Expr} (hr : Room k X.A) (k1 : EvD X O a1 Δ C (x.d)) (k2 : EvD X O a2 Δ C (y.d))  (hk : 1 ≤ k := by decide) (hg : Gl X "minus" := by rfl)
    (s0 : starEach [a1, a2] X.env = (false, eval a1 X.env) :: starEach [a2] X.env := by rfl) (s1 : starEach [a2] X.env = (false, eval a2 X.env) :: starEach [] X.env := by rfl) : EvD X O (.Call (.Name "minus" p) [a1, a2] [] pos) Δ C ((x - y).d) :=
  ev_call (ok_minus c) (hr.mono hk) (A2 k1 k2 s0 s1) ⟨x, y, rfl, rfl⟩ hg (by decide) s0 (by rw [s1] <;> rfl)
def F_law_minus (ds : List D) (d : D) : Prop := ∃ (x : G), ds = [x.d] ∧ d = (-x).d
theorem ok_law_minus (c : Core K mg) : DefOk P w K mg base 1 "_law_minus" ["_law_x"] (pur F_law_minus) := by
  refine mkDef c.law_minus sc_law_minus (fun _ _ _ _ _ _ us hl => match us, hl with | [_], _ => rfl) (len_pur fun ds d h0 => by obtain ⟨_, h, _⟩ := h0; rw [h] <;> rfl) fun f cdv A outer s H E hr O C ss Q hq => ?_
  obtain ⟨_, _, rfl, ⟨x, rfl, rfl⟩, q⟩ := hq
  exact b_ret (EvD.p (asZ (-x) (T2 (ev_sub ev_int (IX (V 0 rfl) rfl rfl)) (ev_sub ev_int (IX (V 0 rfl) rfl rfl))) (by simp) (by simp)) q)
theorem e_law_minus {X : Cx} (c : Core X.K X.mg) {O : List Addr} {Δ : List SV} {C : Cont} {pos p : Pos} {k : Nat} {x : G} {a1 : Expr} (hr : Room k X.A) (k1 : EvD X O a1 Δ C (x.d))  (hk : 1 ≤ k := by decide) (hg : Gl X "_law_minus" := by rfl)
    (s0 : starEach [a1] X.env = (false, eval a1 X.env) :: starEach [] X.env := by rfl) : EvD X O (.Call (.Name "_law_minus" p) [a1] [] pos) Δ C ((-x).d) :=
  ev_call (ok_law_minus c) (hr.mono hk) (A1 k1 s0) ⟨x, rfl, rfl⟩ hg (by decide) s0 (by rfl)
def F_times (ds : List D) (d : D) : Prop := ∃ (x : G) (y : G), ds = [x.d, y.d] ∧ Bz big x ∧ Bz big y ∧ d = (x * y).d
theorem ok_times (c : Core K mg) : DefOk P w K mg base 1 "times" ["number", "other"] (pur F_times) := by
  refine mkDef c.times sc_times (fun _ _ _ _ _ _ us hl => match us, hl with | [_, _], _ => rfl) (len_pur fun ds d h0 => by obtain ⟨_, _, h, _⟩ := h0; rw [h] <;> rfl) fun f cdv A outer s H E hr O C ss Q hq => ?_
  obtain ⟨_, _, rfl, ⟨x, y, rfl, h1, h2, rfl⟩, q⟩ := hq
  have i1 : BZ _ x := ⟨h1⟩
  have i2 : BZ _ y := ⟨h2⟩
  exact b_ret (EvD.p (T2 (ev_sub (ev_mul (IX (V 0 rfl) rfl rfl) (IX (V 1 rfl) rfl rfl) bi' bi') (ev_mul (IX (V 0 rfl) rfl rfl) (IX (V 1 rfl) rfl rfl) bi' bi')) (ev_add (ev_mul (IX (V 0 rfl) rfl rfl) (IX (V 1 rfl) rfl rfl) bi' bi') (ev_mul (IX (V 0 rfl) rfl rfl) (IX (V 1 rfl) rfl rfl) bi' bi'))) q)
theorem e_times {X : Cx} (c : Core X.K X.mg) {O : List Addr} {Δ : List SV} {C : Cont} {pos p : Pos} {k : Nat} {x : G} {y : G} {a1 a2 : Expr} (hr : Room k X.A) (k1 : EvD X O a1 Δ C (x.d)) (k2 : EvD X O a2 Δ C (y.d)) (h1 : Bz big x := by first | exact bz | exact bi | exact bf | exact bp | with_reducible assumption | omega) (h2 : Bz big y := by first | exact bz | exact bi | exact bf | exact bp | with_reducible assumption | omega) (hk : 1 ≤ k := by decide) (hg : Gl X "times" := by rfl)
    (s0 : starEach [a1, a2] X.env = (false, eval a1 X.env) :: starEach [a2] X.env := by rfl) (s1 : starEach [a2] X.env = (false, eval a2 X.env) :: starEach [] X.env := by rfl) : EvD X O (.Call (.Name "times" p) [a1, a2] [] pos) Δ C ((x * y).d) :=
  ev_call (ok_times c) (hr.mono hk) (A2 k1 k2 s0 s1) ⟨x, y, rfl, h1, h2, rfl⟩ hg (by decide) s0 (by rw [s1] <;> rfl)
def F_law_times (ds : List D) (d : D) : Prop := ∃ (x : G) (y : G), ds = [x.d, y.d] ∧ Bz big x ∧ Bz big y ∧ d = (x * y).d
theorem ok_law_times (c : Core K mg) : DefOk P w K mg base 1 "_law_times" ["_law_x", "_law_y"] (pur F_law_times) := by
  refine mkDef c.law_times sc_law_times (fun _ _ _ _ _ _ us hl => match us, hl with | [_, _], _ => rfl) (len_pur fun ds d h0 => by obtain ⟨_, _, h, _⟩ := h0; rw [h] <;> rfl) fun f cdv A outer s H E hr O C ss Q hq => ?_
  obtain ⟨_, _, rfl, ⟨x, y, rfl, h1, h2, rfl⟩, q⟩ := hq
  have i1 : BZ _ x := ⟨h1⟩
  have i2 : BZ _ y := ⟨h2⟩
  exact b_ret (EvD.p (T2 (ev_sub (ev_mul (IX (V 0 rfl) rfl rfl) (IX (V 1 rfl) rfl rfl) bi' bi') (ev_mul (IX (V 0 rfl) rfl rfl) (IX (V 1 rfl) rfl rfl) bi' bi')) (ev_add (ev_mul (IX (V 0 rfl) rfl rfl) (IX (V 1 rfl) rfl rfl) bi' bi') (ev_mul (IX (V 0 rfl) rfl rfl) (IX (V 1 rfl) rfl rfl) bi' bi'))) q)
theorem e_law_times {X : Cx} (c : Core X.K X.mg) {O : List Addr} {Δ : List SV} {C : Cont} {pos p : Pos} {k : Nat} {x : G} {y : G} {a1 a2 : Expr} (hr : Room k X.A) (k1 : EvD X O a1 Δ C (x.d)) (k2 : EvD X O a2 Δ C (y.d)) (h1 : Bz big x := by first | exact bz | exact bi | exact bf | exact bp | with_reducible assumption | omega) (h2 : Bz big y := by first | exact bz | exact bi | exact bf | exact bp | with_reducible assumption | omega) (hk : 1 ≤ k := by decide) (hg : Gl X "_law_times" := by rfl)
    (s0 : starEach [a1, a2] X.env = (false, eval a1 X.env) :: starEach [a2] X.env := by rfl) (s1 : starEach [a2] X.env = (false, eval a2 X.env) :: starEach [] X.env := by rfl) : EvD X O (.Call (.Name "_law_times" p) [a1, a2] [] pos) Δ C ((x * y).d) :=
  ev_call (ok_law_times c) (hr.mono hk) (A2 k1 k2 s0 s1) ⟨x, y, rfl, h1, h2, rfl⟩ hg (by decide) s0 (by rw [s1] <;> rfl)
def F_scaled (ds : List D) (d : D) : Prop := ∃ (x : G) (i : Int), ds = [x.d, .int i] ∧ Bz big x ∧ Bd big i ∧ d = (G.ofI i * x).d
theorem ok_scaled (c : Core K mg) : DefOk P w K mg base 1 "scaled" ["number", "factor"] (pur F_scaled) := by
  refine mkDef c.scaled sc_scaled (fun _ _ _ _ _ _ us hl => match us, hl with | [_, _], _ => rfl) (len_pur fun ds d h0 => by obtain ⟨_, _, h, _⟩ := h0; rw [h] <;> rfl) fun f cdv A outer s H E hr O C ss Q hq => ?_
  obtain ⟨_, _, rfl, ⟨x, i, rfl, h1, h2, rfl⟩, q⟩ := hq
  have i1 : BZ _ x := ⟨h1⟩
  have i2 : BI _ i := ⟨h2⟩
  exact b_ret (EvD.p (asZ (G.ofI i * x) (T2 (ev_mul (V 1 rfl) (IX (V 0 rfl) rfl rfl) bi' bi') (ev_mul (V 1 rfl) (IX (V 0 rfl) rfl rfl) bi' bi')) (by rw [ofI_mul]) (by rw [ofI_mul])) q)
theorem e_scaled {X : Cx} (c : Core X.K X.mg) {O : List Addr} {Δ : List SV} {C : Cont} {pos p : Pos} {k : Nat} {x : G} {i : Int} {a1 a2 : Expr} (hr : Room k X.A) (k1 : EvD X O a1 Δ C (x.d)) (k2 : EvD X O a2 Δ C (.int i)) (h1 : Bz big x := by first | exact bz | exact bi | exact bf | exact bp | with_reducible assumption | omega) (h2 : Bd big i := by first | exact bz | exact bi | exact bf | exact bp | with_reducible assumption | omega) (hk : 1 ≤ k := by decide) (hg : Gl X "scaled" := by rfl)
    (s0 : starEach [a1, a2] X.env = (false, eval a1 X.env) :: starEach [a2] X.env := by rfl) (s1 : starEach [a2] X.env = (false, eval a2 X.env) :: starEach [] X.env := by rfl) : EvD X O (.Call (.Name "scaled" p) [a1, a2] [] pos) Δ C ((G.ofI i * x).d) :=
  ev_call (ok_scaled c) (hr.mono hk) (A2 k1 k2 s0 s1) ⟨x, i, rfl, h1, h2, rfl⟩ hg (by decide) s0 (by rw [s1] <;> rfl)
def F_law_scaled (ds : List D) (d : D) : Prop := ∃ (i : Int) (x : G), ds = [.int i, x.d] ∧ Bd big i ∧ Bz big x ∧ d = (G.ofI i * x).d
theorem ok_law_scaled (c : Core K mg) : DefOk P w K mg base 1 "_law_scaled" ["_law_many", "_law_x"] (pur F_law_scaled) := by
  refine mkDef c.law_scaled sc_law_scaled (fun _ _ _ _ _ _ us hl => match us, hl with | [_, _], _ => rfl) (len_pur fun ds d h0 => by obtain ⟨_, _, h, _⟩ := h0; rw [h] <;> rfl) fun f cdv A outer s H E hr O C ss Q hq => ?_
  obtain ⟨_, _, rfl, ⟨i, x, rfl, h1, h2, rfl⟩, q⟩ := hq
  have i1 : BZ _ x := ⟨h2⟩
  have i2 : BI _ i := ⟨h1⟩
  exact b_ret (EvD.p (asZ (G.ofI i * x) (T2 (ev_mul (V 0 rfl) (IX (V 1 rfl) rfl rfl) bi' bi') (ev_mul (V 0 rfl) (IX (V 1 rfl) rfl rfl) bi' bi')) (by rw [ofI_mul]) (by rw [ofI_mul])) q)
theorem e_law_scaled {X : Cx} (c : Core X.K X.mg) {O : List Addr} {Δ : List SV} {C : Cont} {pos p : Pos} {k : Nat} {i : Int} {x : G} {a1 a2 : Expr} (hr : Room k X.A) (k1 : EvD X O a1 Δ C (.int i)) (k2 : EvD X O a2 Δ C (x.d)) (h1 : Bd big i := by first | exact bz | exact bi | exact bf | exact bp | with_reducible assumption | omega) (h2 : Bz big x := by first | exact bz | exact bi | exact bf | exact bp | with_reducible assumption | omega) (hk : 1 ≤ k := by decide) (hg : Gl X "_law_scaled" := by rfl)
    (s0 : starEach [a1, a2] X.env = (false, eval a1 X.env) :: starEach [a2] X.env := by rfl) (s1 : starEach [a2] X.env = (false, eval a2 X.env) :: starEach [] X.env := by rfl) : EvD X O (.Call (.Name "_law_scaled" p) [a1, a2] [] pos) Δ C ((G.ofI i * x).d) :=
  ev_call (ok_law_scaled c) (hr.mono hk) (A2 k1 k2 s0 s1) ⟨i, x, rfl, h1, h2, rfl⟩ hg (by decide) s0 (by rw [s1] <;> rfl)
def F_turned_over (ds : List D) (d : D) : Prop := ∃ (x : G), ds = [x.d] ∧ d = (G.conj x).d
theorem ok_turned_over (c : Core K mg) : DefOk P w K mg base 1 "turned_over" ["number"] (pur F_turned_over) := by
  refine mkDef c.turned_over sc_turned_over (fun _ _ _ _ _ _ us hl => match us, hl with | [_], _ => rfl) (len_pur fun ds d h0 => by obtain ⟨_, h, _⟩ := h0; rw [h] <;> rfl) fun f cdv A outer s H E hr O C ss Q hq => ?_
  obtain ⟨_, _, rfl, ⟨x, rfl, rfl⟩, q⟩ := hq
  exact b_ret (EvD.p (T2 (IX (V 0 rfl) rfl rfl) (ev_neg (IX (V 0 rfl) rfl rfl))) q)
theorem e_turned_over {X : Cx} (c : Core X.K X.mg) {O : List Addr} {Δ : List SV} {C : Cont} {pos p : Pos} {k : Nat} {x : G} {a1 : Expr} (hr : Room k X.A) (k1 : EvD X O a1 Δ C (x.d))  (hk : 1 ≤ k := by decide) (hg : Gl X "turned_over" := by rfl)
    (s0 : starEach [a1] X.env = (false, eval a1 X.env) :: starEach [] X.env := by rfl) : EvD X O (.Call (.Name "turned_over" p) [a1] [] pos) Δ C ((G.conj x).d) :=
  ev_call (ok_turned_over c) (hr.mono hk) (A1 k1 s0) ⟨x, rfl, rfl⟩ hg (by decide) s0 (by rfl)
def F_law_conj (ds : List D) (d : D) : Prop := ∃ (x : G), ds = [x.d] ∧ d = (G.conj x).d
theorem ok_law_conj (c : Core K mg) : DefOk P w K mg base 1 "_law_conj" ["_law_x"] (pur F_law_conj) := by
  refine mkDef c.law_conj sc_law_conj (fun _ _ _ _ _ _ us hl => match us, hl with | [_], _ => rfl) (len_pur fun ds d h0 => by obtain ⟨_, h, _⟩ := h0; rw [h] <;> rfl) fun f cdv A outer s H E hr O C ss Q hq => ?_
  obtain ⟨_, _, rfl, ⟨x, rfl, rfl⟩, q⟩ := hq
  exact b_ret (EvD.p (asZ (G.conj x) (T2 (IX (V 0 rfl) rfl rfl) (ev_sub ev_int (IX (V 0 rfl) rfl rfl))) rfl (by show 0 - x.im = -x.im; omega)) q)
theorem e_law_conj {X : Cx} (c : Core X.K X.mg) {O : List Addr} {Δ : List SV} {C : Cont} {pos p : Pos} {k : Nat} {x : G} {a1 : Expr} (hr : Room k X.A) (k1 : EvD X O a1 Δ C (x.d))  (hk : 1 ≤ k := by decide) (hg : Gl X "_law_conj" := by rfl)
    (s0 : starEach [a1] X.env = (false, eval a1 X.env) :: starEach [] X.env := by rfl) : EvD X O (.Call (.Name "_law_conj" p) [a1] [] pos) Δ C ((G.conj x).d) :=
  ev_call (ok_law_conj c) (hr.mono hk) (A1 k1 s0) ⟨x, rfl, rfl⟩ hg (by decide) s0 (by rfl)
def F_square_size (ds : List D) (d : D) : Prop := ∃ (x : G), ds = [x.d] ∧ Bz big x ∧ d = .int (G.norm x)
theorem ok_square_size (c : Core K mg) : DefOk P w K mg base 1 "square_size" ["number"] (pur F_square_size) := by
  refine mkDef c.square_size sc_square_size (fun _ _ _ _ _ _ us hl => match us, hl with | [_], _ => rfl) (len_pur fun ds d h0 => by obtain ⟨_, h, _⟩ := h0; rw [h] <;> rfl) fun f cdv A outer s H E hr O C ss Q hq => ?_
  obtain ⟨_, _, rfl, ⟨x, rfl, h1, rfl⟩, q⟩ := hq
  have i1 : BZ _ x := ⟨h1⟩
  exact b_ret (EvD.p (ev_add (ev_mul (IX (V 0 rfl) rfl rfl) (IX (V 0 rfl) rfl rfl) bi' bi') (ev_mul (IX (V 0 rfl) rfl rfl) (IX (V 0 rfl) rfl rfl) bi' bi')) q)
theorem e_square_size {X : Cx} (c : Core X.K X.mg) {O : List Addr} {Δ : List SV} {C : Cont} {pos p : Pos} {k : Nat} {x : G} {a1 : Expr} (hr : Room k X.A) (k1 : EvD X O a1 Δ C (x.d)) (h1 : Bz big x := by first | exact bz | exact bi | exact bf | exact bp | with_reducible assumption | omega) (hk : 1 ≤ k := by decide) (hg : Gl X "square_size" := by rfl)
    (s0 : starEach [a1] X.env = (false, eval a1 X.env) :: starEach [] X.env := by rfl) : EvD X O (.Call (.Name "square_size" p) [a1] [] pos) Δ C (.int (G.norm x)) :=
  ev_call (ok_square_size c) (hr.mono hk) (A1 k1 s0) ⟨x, rfl, h1, rfl⟩ hg (by decide) s0 (by rfl)
def F_law_norm (ds : List D) (d : D) : Prop := ∃ (x : G), ds = [x.d] ∧ Bz big x ∧ d = .int (G.norm x)
theorem ok_law_norm (c : Core K mg) : DefOk P w K mg base 1 "_law_norm" ["_law_x"] (pur F_law_norm) := by
  refine mkDef c.law_norm sc_law_norm (fun _ _ _ _ _ _ us hl => match us, hl with | [_], _ => rfl) (len_pur fun ds d h0 => by obtain ⟨_, h, _⟩ := h0; rw [h] <;> rfl) fun f cdv A outer s H E hr O C ss Q hq => ?_
  obtain ⟨_, _, rfl, ⟨x, rfl, h1, rfl⟩, q⟩ := hq
  have i1 : BZ _ x := ⟨h1⟩
  exact b_ret (EvD.p (ev_add (ev_mul (IX (V 0 rfl) rfl rfl) (IX (V 0 rfl) rfl rfl) bi' bi') (ev_mul (IX (V 0 rfl) rfl rfl) (IX (V 0 rfl) rfl rfl) bi' bi')) q)
theorem e_law_norm {X : Cx} (c : Core X.K X.mg) {O : List Addr} {Δ : List SV} {C : Cont} {pos p : Pos} {k : Nat} {x : G} {a1 : Expr} (hr : Room k X.A) (k1 : EvD X O a1 Δ C (x.d)) (h1 : Bz big x := by first | exact bz | exact bi | exact bf | exact bp | with_reducible assumption | omega) (hk : 1 ≤ k := by decide) (hg : Gl X "_law_norm" := by rfl)
    (s0 : starEach [a1] X.env = (false, eval a1 X.env) :: starEach [] X.env := by rfl) : EvD X O (.Call (.Name "_law_norm" p) [a1] [] pos) Δ C (.int (G.norm x)) :=
  ev_call (ok_law_norm c) (hr.mono hk) (A1 k1 s0) ⟨x, rfl, h1, rfl⟩ hg (by decide) s0 (by rfl)
def F_nearest (ds : List D) (d : D) : Prop := ∃ (i : Int) (j : Int), ds = [.int i, .int j] ∧ Bd big i ∧ Bd 8990 j ∧ 0 < j ∧ d = .int (G.near i j)
theorem ok_nearest (c : Core K mg) : DefOk P w K mg base 1 "nearest" ["number", "below"] (pur F_nearest) := by
  refine mkDef c.nearest sc_nearest (fun _ _ _ _ _ _ us hl => match us, hl with | [_, _], _ => rfl) (len_pur fun ds d h0 => by obtain ⟨_, _, h, _⟩ := h0; rw [h] <;> rfl) fun f cdv A outer s H E hr O C ss Q hq => ?_
  obtain ⟨_, _, rfl, ⟨i, j, rfl, h1, h2, h3, rfl⟩, q⟩ := hq
  have i1 : BI _ i := ⟨h1⟩
  have i2 : BI _ j := ⟨h2⟩
  have h0 : 0 < 2 * j := by omega
  exact b_ret (EvD.p (ev_div (ev_add (ev_mul ev_int (V 0 rfl) bi' bi') (V 1 rfl)) (ev_mul ev_int (V 1 rfl) bi' bi') (by assumption) bi') q)
theorem e_nearest {X : Cx} (c : Core X.K X.mg) {O : List Addr} {Δ : List SV} {C : Cont} {pos p : Pos} {k : Nat} {i : Int} {j : Int} {a1 a2 : Expr} (hr : Room k X.A) (k1 : EvD X O a1 Δ C (.int i)) (k2 : EvD X O a2 Δ C (.int j)) (h1 : Bd big i := by first | exact bz | exact bi | exact bf | exact bp | with_reducible assumption | omega) (h2 : Bd 8990 j := by first | exact bz | exact bi | exact bf | exact bp | with_reducible assumption | omega) (h3 : 0 < j := by first | exact bz | exact bi | exact bf | exact bp | with_reducible assumption | omega) (hk : 1 ≤ k := by decide) (hg : Gl X "nearest" := by rfl)
    (s0 : starEach [a1, a2] X.env = (false, eval a1 X.env) :: starEach [a2] X.env := by rfl) (s1 : starEach [a2] X.env = (false, eval a2 X.env) :: starEach [] X.env := by rfl) : EvD X O (.Call (.Name "nearest" p) [a1, a2] [] pos) Δ C (.int (G.near i j)) :=
  ev_call (ok_nearest c) (hr.mono hk) (A2 k1 k2 s0 s1) ⟨i, j, rfl, h1, h2, h3, rfl⟩ hg (by decide) s0 (by rw [s1] <;> rfl)
def F_law_over (ds : List D) (d : D) : Prop := ∃ (x : G) (y : G), ds = [x.d, y.d] ∧ Bz big x ∧ Bz 4000 y ∧ y ≠ 0 ∧ d = (G.quo x y).d
theorem ok_law_over (c : Core K mg) : DefOk P w K mg base 2 "_law_over" ["_law_x", "_law_y"] (pur F_law_over) := by
  refine mkDef c.law_over sc_law_over (fun _ _ _ _ _ _ us hl => match us, hl with | [_, _], _ => rfl) (len_pur fun ds d h0 => by obtain ⟨_, _, h, _⟩ := h0; rw [h] <;> rfl) fun f cdv A outer s H E hr O C ss Q hq => ?_
  obtain ⟨_, _, rfl, ⟨x, y, rfl, h1, h2, h3, rfl⟩, q⟩ := hq
  have i1 : BZ _ x := ⟨h1⟩
  have i2 : BZ _ y := ⟨h2⟩
  have h0 : 0 < G.norm y := G.norm_pos h3
  exact b_par (i := 2) (j := 3) sc_law_over.nd ((A2 (e_law_norm c hr (V 1 rfl)) (e_law_times c hr (V 0 rfl) (e_law_conj c hr (V 1 rfl)))).p ⟨_, _, rfl, b_ret (EvD.p (T2 (ev_div (IX (V 3 rfl) rfl rfl) (V 2 rfl) (by assumption) bi') (ev_div (IX (V 3 rfl) rfl rfl) (V 2 rfl) (by assumption) bi')) q)⟩)
theorem e_law_over {X : Cx} (c : Core X.K X.mg) {O : List Addr} {Δ : List SV} {C : Cont} {pos p : Pos} {k : Nat} {x : G} {y : G} {a1 a2 : Expr} (hr : Room k X.A) (k1 : EvD X O a1 Δ C (x.d)) (k2 : EvD X O a2 Δ C (y.d)) (h1 : Bz big x := by first | exact bz | exact bi | exact bf | exact bp | with_reducible assumption | omega) (h2 : Bz 4000 y := by first | exact bz | exact bi | exact bf | exact bp | with_reducible assumption | omega) (h3 : y ≠ 0 := by first | exact bz | exact bi | exact bf | exact bp | with_reducible assumption | omega) (hk : 2 ≤ k := by decide) (hg : Gl X "_law_over" := by rfl)
    (s0 : starEach [a1, a2] X.env = (false, eval a1 X.env) :: starEach [a2] X.env := by rfl) (s1 : starEach [a2] X.env = (false, eval a2 X.env) :: starEach [] X.env := by rfl) : EvD X O (.Call (.Name "_law_over" p) [a1, a2] [] pos) Δ C ((G.quo x y).d) :=
  ev_call (ok_law_over c) (hr.mono hk) (A2 k1 k2 s0 s1) ⟨x, y, rfl, h1, h2, h3, rfl⟩ hg (by decide) s0 (by rw [s1] <;> rfl)
end DL

/-! part Df2 -/
set_option Elab.async false
set_option linter.all false
set_option maxRecDepth 100000
set_option maxHeartbeats 4000000
namespace DL
open PySem PySem.Spec PyProof.Rows L2
variable {P : Program} {w : World} {K : PySem.W.Frag} {mg : Str → Option Value} {base : Heap}
def F_unit_for (ds : List D) (d : D) : Prop := ∃ (x : G), ds = [x.d] ∧ Bz 99990 x ∧ d = (G.unitOf x).d
theorem ok_unit_for (c : Core K mg) : DefOk P w K mg base 2 "unit_for" ["number"] (pur F_unit_for) := by
  refine mkDef c.unit_for sc_unit_for (fun _ _ _ _ _ _ us hl => match us, hl with | [_], _ => rfl) (len_pur fun ds d h0 => by obtain ⟨_, h, _⟩ := h0; rw [h] <;> rfl) fun f cdv A outer s H E hr O C ss Q hq => ?_
  obtain ⟨_, _, rfl, ⟨x, rfl, h1, rfl⟩, q⟩ := hq
  have i1 : BZ _ x := ⟨h1⟩
  refine b_for PassesOwn.never (iv_seq (ev_is (ev_toT (k := 3) (ev_glo c.k_UNITS) ev_int) (rfl : _ = PyData.tuple (U3.map G.d))) rfl) (fun i Δ1 C1 => C1 = C ∧ (∃ s t, Δ1 = [.dat x.d, s, t]) ∧ ∀ j v, j < i → U3[j]? = some v → ¬G.Qf (x * v)) ⟨rfl, ⟨.no, .no, rfl⟩, fun j v h => absurd h (Nat.not_lt_zero j)⟩ ?_ ?_
  · rintro i Δ1 C1 d hd ⟨rfl, ⟨s, t, rfl⟩, n⟩
    rw [List.getElem?_map] at hd
    obtain ⟨u, hu, rfl⟩ := Option.map_eq_some_iff.mp hd
    have hb : Bz 2 u := by
      have m := List.mem_of_getElem? hu
      simp only [U3, List.mem_cons, List.not_mem_nil, or_false] at m
      rcases m with rfl | rfl | rfl <;> exact ⟨Bd.lit 2 _, Bd.lit 2 _⟩
    have i2 : BZ _ u := ⟨hb⟩
    refine ⟨_, _, tg_name (i := 1) sc_unit_for.nd, b_set (i := 2) sc_unit_for.nd ((e_times c hr (V 0 rfl) (V 1 rfl)).p (b_ifB (et_is (EvW.t (ew_and (et_gt (IX (V 2 rfl) rfl rfl) ev_int) fun _ => (ew_and1 (et_ge (IX (V 2 rfl) rfl rfl) ev_int)))) rfl) (fun h => b_ret (EvD.p (V 1 rfl) ?_)) fun h => b_nil (b_nil ⟨rfl, ⟨.dat u.d, .dat (x * u).d, rfl⟩, fun j v hj hv => ?_⟩)))⟩
    · rw [← unit_at hu n ((qf_dec _).mp h)]
      exact q
    · rcases Nat.lt_or_ge j i with l | l
      · exact n j v l hv
      · have e : j = i := by omega
        subst e
        rw [hu] at hv
        cases hv
        intro z
        rw [(qf_dec _).mpr z] at h
        cases h
  · rintro Δ1 C1 ⟨rfl, ⟨s, t, rfl⟩, n⟩
    exact b_ret (EvD.p (ev_is (IX (ev_glo c.k_UNITS) rfl rfl) (by rw [unit_last n] <;> rfl)) q)
theorem e_unit_for {X : Cx} (c : Core X.K X.mg) {O : List Addr} {Δ : List SV} {C : Cont} {pos p : Pos} {k : Nat} {x : G} {a1 : Expr} (hr : Room k X.A) (k1 : EvD X O a1 Δ C (x.d)) (h1 : Bz 99990 x := by first | exact bz | exact bi | exact bf | exact bp | with_reducible assumption | omega) (hk : 2 ≤ k := by decide) (hg : Gl X "unit_for" := by rfl)
    (s0 : starEach [a1] X.env = (false, eval a1 X.env) :: starEach [] X.env := by rfl) : EvD X O (.Call (.Name "unit_for" p) [a1] [] pos) Δ C ((G.unitOf x).d) :=
  ev_call (ok_unit_for c) (hr.mono hk) (A1 k1 s0) ⟨x, rfl, h1, rfl⟩ hg (by decide) s0 (by rfl)
def F_divisor_of_two (ds : List D) (d : D) : Prop := ∃ (x : G) (y : G), ds = [x.d, y.d] ∧ NB x ∧ NB y ∧ d = (G.dv x y).d
theorem ok_divisor_of_two (c : Core K mg) : DefOk P w K mg base 2 "divisor_of_two" ["number", "other"] (pur F_divisor_of_two) := by
  refine mkDef c.divisor_of_two sc_divisor_of_two (fun _ _ _ _ _ _ us hl => match us, hl with | [_, _], _ => rfl) (len_pur fun ds d h0 => by obtain ⟨_, _, h, _⟩ := h0; rw [h] <;> rfl) fun f cdv A outer s H E hr O C ss Q hq => ?_
  obtain ⟨_, _, rfl, ⟨x, y, rfl, h1, h2, rfl⟩, q⟩ := hq
  refine b_par (i := 2) (j := 3) sc_divisor_of_two.nd ((A2 (V 0 rfl) (V 1 rfl)).p ⟨_, _, rfl, ?_⟩)
  refine b_while PassesOwn.never (fun m Δ1 C1 => C1 = C ∧ ∃ a b s t, Δ1 = [.dat x.d, .dat y.d, .dat (G.d a), .dat (G.d b), s, t] ∧ NB a ∧ NB b ∧ G.dv a b = G.dv x y ∧ m = (G.norm b).toNat) _ ⟨rfl, x, y, .no, .no, rfl, h1, h2, rfl, rfl⟩ ?_
  rintro m Δ1 C1 ⟨rfl, a, b, s, t, rfl, na, nb, e, rfl⟩
  refine ⟨_, (t_ne hr (V 3 rfl) (ev_glo c.k_ZERO)), fun h => ?_, fun h => ?_⟩
  · have hb : b ≠ 0 := by
      intro z
      rw [z] at h
      cases h
    have i1 : BZ _ a := ⟨na.bz⟩
    have i2 : BZ _ b := ⟨nb.bz⟩
    have h0 : 0 < G.norm b := G.norm_pos hb
    have i3 : BZ _ (a - G.qn a b * b) := ⟨(nb.step hb).bz⟩
    have i5 : BZ 4001 (G.qn a b * b) := by
      have e : G.qn a b * b = a - (a - G.qn a b * b) := by grind
      rw [e]
      exact inferInstanceAs (BZ (max 4000 4000 + 1) _)
    have i4 : Bz big (G.qn a b) := by
      have e : G.norm (G.qn a b) ≤ G.norm (G.qn a b * b) := by
        have e : G.qn a b * b = b * G.qn a b := by grind
        rw [e]
        exact norm_div_le hb
      exact (Bz.of_le e i5.h).mono (by decide)
    refine b_set (i := 4) sc_divisor_of_two.nd ((e_times c hr (V 2 rfl) (e_turned_over c hr (V 3 rfl))).p (b_set (i := 5) sc_divisor_of_two.nd ((asZ (G.qn a b) (T2 (e_nearest c hr (IX (V 4 rfl) rfl rfl) (e_square_size c hr (V 3 rfl))) (e_nearest c hr (IX (V 4 rfl) rfl rfl) (e_square_size c hr (V 3 rfl))))).p (b_par (i := 2) (j := 3) sc_divisor_of_two.nd ((A2 (V 3 rfl) (e_minus c hr (V 2 rfl) (e_times c hr (V 5 rfl) (V 3 rfl) i4))).p ⟨_, _, rfl, b_nil ?_⟩)))))
    refine ⟨_, G.step_lt a hb, rfl, b, a - G.qn a b * b, _, _, rfl, nb, nb.step hb, ?_, rfl⟩
    rw [← G.dv_next a hb, e]
  · have hb : b = 0 := by
      refine Classical.byContradiction fun z => ?_
      rw [decide_eq_false z] at h
      cases h
    subst hb
    rw [G.dv_zero] at e
    subst e
    exact b_ret (EvD.p (V 2 rfl) q)
theorem e_divisor_of_two {X : Cx} (c : Core X.K X.mg) {O : List Addr} {Δ : List SV} {C : Cont} {pos p : Pos} {k : Nat} {x : G} {y : G} {a1 a2 : Expr} (hr : Room k X.A) (k1 : EvD X O a1 Δ C (x.d)) (k2 : EvD X O a2 Δ C (y.d)) (h1 : NB x := by first | exact bz | exact bi | exact bf | exact bp | with_reducible assumption | omega) (h2 : NB y := by first | exact bz | exact bi | exact bf | exact bp | with_reducible assumption | omega) (hk : 2 ≤ k := by decide) (hg : Gl X "divisor_of_two" := by rfl)
    (s0 : starEach [a1, a2] X.env = (false, eval a1 X.env) :: starEach [a2] X.env := by rfl) (s1 : starEach [a2] X.env = (false, eval a2 X.env) :: starEach [] X.env := by rfl) : EvD X O (.Call (.Name "divisor_of_two" p) [a1, a2] [] pos) Δ C ((G.dv x y).d) :=
  ev_call (ok_divisor_of_two c) (hr.mono hk) (A2 k1 k2 s0 s1) ⟨x, y, rfl, h1, h2, rfl⟩ hg (by decide) s0 (by rw [s1] <;> rfl)
def F_law_deep (ds : List D) (d : D) : Prop := ∃ (x : G) (y : G), ds = [x.d, y.d] ∧ NB x ∧ NB y ∧ d = (G.dv x y).d
theorem ok_law_deep (c : Core K mg) : DefOk P w K mg base 2 "_law_deep" ["_law_x", "_law_y"] (pur F_law_deep) := by
  refine mkDef c.law_deep sc_law_deep (fun _ _ _ _ _ _ us hl => match us, hl with | [_, _], _ => rfl) (len_pur fun ds d h0 => by obtain ⟨_, _, h, _⟩ := h0; rw [h] <;> rfl) fun f cdv A outer s H E hr O C ss Q hq => ?_
  obtain ⟨_, _, rfl, ⟨x, y, rfl, h1, h2, rfl⟩, q⟩ := hq
  refine b_while PassesOwn.never (fun m Δ1 C1 => C1 = C ∧ ∃ a b s t u, Δ1 = [.dat (G.d a), .dat (G.d b), s, t, u] ∧ NB a ∧ NB b ∧ G.dv a b = G.dv x y ∧ m = (G.norm b).toNat) _ ⟨rfl, x, y, .no, .no, .no, rfl, h1, h2, rfl, rfl⟩ ?_
  rintro m Δ1 C1 ⟨rfl, a, b, s, t, u, rfl, na, nb, e, rfl⟩
  refine ⟨_, (t_ne hr (V 1 rfl) (asZ (0 : G) (T2 ev_int ev_int))), fun h => ?_, fun h => ?_⟩
  · have hb : b ≠ 0 := by
      intro z
      rw [z] at h
      cases h
    have i1 : BZ _ a := ⟨na.bz⟩
    have i2 : BZ _ b := ⟨nb.bz⟩
    have h0 : 0 < G.norm b := G.norm_pos hb
    have h00 : 0 < 2 * G.norm b := by omega
    have i3 : BZ _ (a - G.qn a b * b) := ⟨(nb.step hb).bz⟩
    have i5 : BZ 4001 (G.qn a b * b) := by
      have e : G.qn a b * b = a - (a - G.qn a b * b) := by grind
      rw [e]
      exact inferInstanceAs (BZ (max 4000 4000 + 1) _)
    have i4 : Bz big (G.qn a b) := by
      have e : G.norm (G.qn a b) ≤ G.norm (G.qn a b * b) := by
        have e : G.qn a b * b = b * G.qn a b := by grind
        rw [e]
        exact norm_div_le hb
      exact (Bz.of_le e i5.h).mono (by decide)
    have ee : a + -(G.qn a b * b) = a - G.qn a b * b := by grind
    refine b_par (i := 3) (j := 4) sc_law_deep.nd ((A2 (e_law_norm c hr (V 1 rfl)) (e_law_times c hr (V 0 rfl) (e_law_conj c hr (V 1 rfl)))).p ⟨_, _, rfl, ?_⟩)
    refine b_set (i := 2) sc_law_deep.nd ((asZ (G.qn a b) (T2 (ev_div (ev_add (ev_mul ev_int (IX (V 4 rfl) rfl rfl) bi' bi') (V 3 rfl)) (ev_mul ev_int (V 3 rfl) bi' bi') (by assumption) bi') (ev_div (ev_add (ev_mul ev_int (IX (V 4 rfl) rfl rfl) bi' bi') (V 3 rfl)) (ev_mul ev_int (V 3 rfl) bi' bi') (by assumption) bi'))).p ?_)
    refine b_par (i := 0) (j := 1) sc_law_deep.nd ((A2 (V 1 rfl) (e_law_plus c hr (V 0 rfl) (e_law_minus c hr (e_law_times c hr (V 2 rfl) (V 1 rfl) i4)))).p ⟨_, _, rfl, b_nil ?_⟩)
    refine ⟨_, G.step_lt a hb, rfl, b, a - G.qn a b * b, .dat (G.d (G.qn a b)), .dat (.int (G.norm b)), .dat (a * G.conj b).d, ?_, nb, nb.step hb, ?_, rfl⟩
    · rw [ee] <;> rfl
    rw [← G.dv_next a hb, e]
  · have hb : b = 0 := by
      refine Classical.byContradiction fun z => ?_
      rw [decide_eq_false z] at h
      cases h
    subst hb
    rw [G.dv_zero] at e
    subst e
    exact b_ret (EvD.p (V 0 rfl) q)
theorem e_law_deep {X : Cx} (c : Core X.K X.mg) {O : List Addr} {Δ : List SV} {C : Cont} {pos p : Pos} {k : Nat} {x : G} {y : G} {a1 a2 : Expr} (hr : Room k X.A) (k1 : EvD X O a1 Δ C (x.d)) (k2 : EvD X O a2 Δ C (y.d)) (h1 : NB x := by first | exact bz | exact bi | exact bf | exact bp | with_reducible assumption | omega) (h2 : NB y := by first | exact bz | exact bi | exact bf | exact bp | with_reducible assumption | omega) (hk : 2 ≤ k := by decide) (hg : Gl X "_law_deep" := by rfl)
    (s0 : starEach [a1, a2] X.env = (false, eval a1 X.env) :: starEach [a2] X.env := by rfl) (s1 : starEach [a2] X.env = (false, eval a2 X.env) :: starEach [] X.env := by rfl) : EvD X O (.Call (.Name "_law_deep" p) [a1, a2] [] pos) Δ C ((G.dv x y).d) :=
  ev_call (ok_law_deep c) (hr.mono hk) (A2 k1 k2 s0 s1) ⟨x, y, rfl, h1, h2, rfl⟩ hg (by decide) s0 (by rw [s1] <;> rfl)
theorem fold_succ {l : List G} {i : Nat} {x : G} (h : l[i]? = some x) : (l.take (i + 1)).foldl G.dv 0 = G.dv ((l.take i).foldl G.dv 0) x := by
  have e : l.take (i + 1) = l.take i ++ [x] := by rw [List.take_add_one, h] <;> rfl
  rw [e, List.foldl_append] <;> rfl
theorem mod_dec {a b : Int} (h : a % b = 0) : (!decide (a % b = 0)) = false := by rw [decide_eq_true h] <;> rfl
def F_divisor_of_all (ds : List D) (d : D) : Prop := ∃ (u : D) (l : List G), ds = [u] ∧ seqOf u = some (l.map G.d) ∧ (∀ x ∈ l, NB x) ∧ d = (l.foldl G.dv 0).d
theorem ok_divisor_of_all (c : Core K mg) : DefOk P w K mg base 3 "divisor_of_all" ["numbers"] (pur F_divisor_of_all) := by
  refine mkDef c.divisor_of_all sc_divisor_of_all (fun _ _ _ _ _ _ us hl => match us, hl with | [_], _ => rfl) (len_pur fun ds d h0 => by obtain ⟨_, _, h, _⟩ := h0; rw [h] <;> rfl) fun f cdv A outer s H E hr O C ss Q hq => ?_
  obtain ⟨_, _, rfl, ⟨u, l, rfl, h1, h2, rfl⟩, q⟩ := hq
  refine b_set (i := 1) sc_divisor_of_all.nd ((ev_glo c.k_ZERO).p ?_)
  refine b_for PassesOwn.never (iv_seq (V 0 rfl) h1) (fun i Δ1 C1 => C1 = C ∧ ∃ s, Δ1 = [.dat u, .dat (G.d ((l.take i).foldl G.dv 0)), s]) ⟨rfl, .no, rfl⟩ ?_ ?_
  · rintro i Δ1 C1 d1 hd ⟨rfl, s, rfl⟩
    rw [List.getElem?_map] at hd
    obtain ⟨x, hx, rfl⟩ := Option.map_eq_some_iff.mp hd
    refine ⟨_, _, tg_name (i := 2) sc_divisor_of_all.nd, b_set (i := 1) sc_divisor_of_all.nd ((e_divisor_of_two c hr (V 1 rfl) (V 2 rfl) (NB.fold .zero fun y hy => h2 y (List.mem_of_mem_take hy)) (h2 x (List.mem_of_getElem? hx))).p (b_nil ⟨rfl, .dat (G.d x), ?_⟩))⟩
    rw [fold_succ hx] <;> rfl
  · rintro Δ1 C1 ⟨rfl, s, rfl⟩
    refine b_ret (EvD.p (V 1 rfl) ?_)
    rw [List.length_map, List.take_length]
    exact q
theorem e_divisor_of_all {X : Cx} (c : Core X.K X.mg) {O : List Addr} {Δ : List SV} {C : Cont} {pos p : Pos} {k : Nat} {u : D} {l : List G} {a1 : Expr} (hr : Room k X.A) (k1 : EvD X O a1 Δ C (u)) (h1 : seqOf u = some (l.map G.d) := by first | exact bz | exact bi | exact bf | exact bp | with_reducible assumption | omega) (h2 : (∀ x ∈ l, NB x) := by first | exact bz | exact bi | exact bf | exact bp | with_reducible assumption | omega) (hk : 3 ≤ k := by decide) (hg : Gl X "divisor_of_all" := by rfl)
    (s0 : starEach [a1] X.env = (false, eval a1 X.env) :: starEach [] X.env := by rfl) : EvD X O (.Call (.Name "divisor_of_all" p) [a1] [] pos) Δ C ((l.foldl G.dv 0).d) :=
  ev_call (ok_divisor_of_all c) (hr.mono hk) (A1 k1 s0) ⟨u, l, rfl, h1, h2, rfl⟩ hg (by decide) s0 (by rfl)
def F_divided (ds : List D) (d : D) : Prop := ∃ (x : G) (y : G), ds = [x.d, y.d] ∧ Bz 90000 x ∧ Bz 4000 y ∧ y ≠ 0 ∧ G.Dv y x ∧ d = (G.quo x y).d
theorem ok_divided (c : Core K mg) : DefOk P w K mg base 2 "divided" ["number", "other"] (pur F_divided) := by
  refine mkDef c.divided sc_divided (fun _ _ _ _ _ _ us hl => match us, hl with | [_, _], _ => rfl) (len_pur fun ds d h0 => by obtain ⟨_, _, h, _⟩ := h0; rw [h] <;> rfl) fun f cdv A outer s H E hr O C ss Q hq => ?_
  obtain ⟨_, _, rfl, ⟨x, y, rfl, h1, h2, h3, h4, rfl⟩, q⟩ := hq
  have i1 : BZ _ x := ⟨h1⟩
  have i2 : BZ _ y := ⟨h2⟩
  have h0 : 0 < G.norm y := G.norm_pos h3
  obtain ⟨m1, m2⟩ := div_mod h4 h3
  refine b_par (i := 2) (j := 3) sc_divided.nd ((A2 (e_times c hr (V 0 rfl) (e_turned_over c hr (V 1 rfl))) (e_square_size c hr (V 1 rfl))).p ⟨_, _, rfl, ?_⟩)
  exact b_ifF (et_is (EvW.t (ew_or (t_ne hr (ev_mod (IX (V 2 rfl) rfl rfl) (V 3 rfl) (by assumption)) ev_int) fun _ => (ew_or1 (t_ne hr (ev_mod (IX (V 2 rfl) rfl rfl) (V 3 rfl) (by assumption)) ev_int)))) (by rw [mod_dec m1, mod_dec m2] <;> rfl)) (b_ret (EvD.p (T2 (ev_div (IX (V 2 rfl) rfl rfl) (V 3 rfl) (by assumption) bi') (ev_div (IX (V 2 rfl) rfl rfl) (V 3 rfl) (by assumption) bi')) q))
theorem e_divided {X : Cx} (c : Core X.K X.mg) {O : List Addr} {Δ : List SV} {C : Cont} {pos p : Pos} {k : Nat} {x : G} {y : G} {a1 a2 : Expr} (hr : Room k X.A) (k1 : EvD X O a1 Δ C (x.d)) (k2 : EvD X O a2 Δ C (y.d)) (h1 : Bz 90000 x := by first | exact bz | exact bi | exact bf | exact bp | with_reducible assumption | omega) (h2 : Bz 4000 y := by first | exact bz | exact bi | exact bf | exact bp | with_reducible assumption | omega) (h3 : y ≠ 0 := by first | exact bz | exact bi | exact bf | exact bp | with_reducible assumption | omega) (h4 : G.Dv y x := by first | exact bz | exact bi | exact bf | exact bp | with_reducible assumption | omega) (hk : 2 ≤ k := by decide) (hg : Gl X "divided" := by rfl)
    (s0 : starEach [a1, a2] X.env = (false, eval a1 X.env) :: starEach [a2] X.env := by rfl) (s1 : starEach [a2] X.env = (false, eval a2 X.env) :: starEach [] X.env := by rfl) : EvD X O (.Call (.Name "divided" p) [a1, a2] [] pos) Δ C ((G.quo x y).d) :=
  ev_call (ok_divided c) (hr.mono hk) (A2 k1 k2 s0 s1) ⟨x, y, rfl, h1, h2, h3, h4, rfl⟩ hg (by decide) s0 (by rw [s1] <;> rfl)
def F_law_gcd (ds : List D) (d : D) : Prop := ∃ (a : Int) (b : Int), ds = [.int a, .int b] ∧ d = .int (Int.gcd a b : Int)
theorem ok_law_gcd (c : Core K mg) : DefOk P w K mg base 1 "_law_gcd" ["_law_one", "_law_two"] (pur F_law_gcd) := by
  refine mkDef c.law_gcd sc_law_gcd (fun _ _ _ _ _ _ us hl => match us, hl with | [_, _], _ => rfl) (len_pur fun ds d h0 => by obtain ⟨_, _, h, _⟩ := h0; rw [h] <;> rfl) fun f cdv A outer s H E hr O C ss Q hq => ?_
  obtain ⟨_, _, rfl, ⟨a, b, rfl, rfl⟩, q⟩ := hq
  refine b_par (i := 2) (j := 3) sc_law_gcd.nd ((A2 (ev_abs c.b_abs (V 0 rfl)) (ev_abs c.b_abs (V 1 rfl))).p ⟨_, _, rfl, ?_⟩)
  refine b_while PassesOwn.never (fun m Δ1 C1 => C1 = C ∧ ∃ u v : Int, Δ1 = [.dat (.int a), .dat (.int b), .dat (.int u), .dat (.int v)] ∧ 0 ≤ u ∧ 0 ≤ v ∧ Int.gcd u v = Int.gcd a b ∧ m = v.toNat) _ ⟨rfl, _, _, rfl, ?_, ?_, gcd_abs a b, rfl⟩ ?_
  · split <;> omega
  · split <;> omega
  rintro m Δ1 C1 ⟨rfl, u, v, rfl, hu, hv, e, rfl⟩
  refine ⟨_, (et_gt (V 3 rfl) ev_int), fun h => ?_, fun h => ?_⟩
  · have h0 : 0 < v := of_decide_eq_true h
    have n1 := Int.emod_nonneg u (show v ≠ 0 by omega)
    have n2 := Int.emod_lt_of_pos u h0
    refine b_par (i := 2) (j := 3) sc_law_gcd.nd ((A2 (V 3 rfl) (ev_mod (ev_toint c.b_int (V 2 rfl)) (V 3 rfl) h0)).p ⟨_, _, rfl, b_nil ?_⟩)
    exact ⟨_, (by omega : (u % v).toNat < v.toNat), rfl, v, u % v, rfl, hv, n1, by rw [gcd_step, e], rfl⟩
  · have h0 : ¬0 < v := of_decide_eq_false h
    have h0 : v = 0 := by omega
    subst h0
    refine b_ret (EvD.p (V 2 rfl) ?_)
    rw [Int.gcd_zero_right] at e
    have : u = (Int.gcd a b : Int) := by omega
    rw [← this] at q
    exact q
theorem e_law_gcd {X : Cx} (c : Core X.K X.mg) {O : List Addr} {Δ : List SV} {C : Cont} {pos p : Pos} {k : Nat} {a : Int} {b : Int} {a1 a2 : Expr} (hr : Room k X.A) (k1 : EvD X O a1 Δ C (.int a)) (k2 : EvD X O a2 Δ C (.int b))  (hk : 1 ≤ k := by decide) (hg : Gl X "_law_gcd" := by rfl)
    (s0 : starEach [a1, a2] X.env = (false, eval a1 X.env) :: starEach [a2] X.env := by rfl) (s1 : starEach [a2] X.env = (false, eval a2 X.env) :: starEach [] X.env := by rfl) : EvD X O (.Call (.Name "_law_gcd" p) [a1, a2] [] pos) Δ C (.int (Int.gcd a b : Int)) :=
  ev_call (ok_law_gcd c) (hr.mono hk) (A2 k1 k2 s0 s1) ⟨a, b, rfl, rfl⟩ hg (by decide) s0 (by rw [s1] <;> rfl)
def F_law_cut (ds : List D) (d : D) : Prop := ∃ (l : List Int), ds = [.tuple (l.map .int)] ∧ l.length ≤ 100 ∧ 0 < gcdL l ∧ Bd 8999 (gcdL l) ∧ d = .tuple (l.map fun x => .int (x / gcdL l))
theorem ok_law_cut (c : Core K mg) : DefOk P w K mg base 2 "_law_cut" ["_law_numbers"] (pur F_law_cut) := by
  refine mkDef c.law_cut sc_law_cut (fun _ _ _ _ _ _ us hl => match us, hl with | [_], _ => rfl) (len_pur fun ds d h0 => by obtain ⟨_, h, _⟩ := h0; rw [h] <;> rfl) fun f cdv A outer s H E hr O C ss Q hq => ?_
  obtain ⟨_, _, rfl, ⟨l, rfl, h1, h2, h3, rfl⟩, q⟩ := hq
  refine b_set (i := 1) sc_law_cut.nd (ev_int.p ?_)
  refine b_for PassesOwn.never (iv_tup (V 0 rfl)) (fun i Δ1 C1 => C1 = C ∧ ∃ s, Δ1 = [.dat (.tuple (l.map .int)), .dat (.int (gcdL (l.take i))), s]) ⟨rfl, .no, rfl⟩ ?_ ?_
  · rintro i Δ1 C1 d hd ⟨rfl, s, rfl⟩
    rw [List.getElem?_map] at hd
    obtain ⟨x, hx, rfl⟩ := Option.map_eq_some_iff.mp hd
    refine ⟨_, _, tg_name (i := 2) sc_law_cut.nd, b_set (i := 1) sc_law_cut.nd ((e_law_gcd c hr (V 1 rfl) (V 2 rfl)).p (b_nil ⟨rfl, .dat (.int x), ?_⟩))⟩
    rw [gcdL_succ hx] <;> rfl
  · rintro Δ1 C1 ⟨rfl, s, rfl⟩
    rw [List.length_map, List.take_length]
    exact b_ret (EvD.p (ev_totup c.b_tuple (ev_map (xs := l) (enc := .int) (val := fun x => .int (x / gcdL l)) sc_law_cut.nd (blkOk_by (own := [("_law_number", 2)]) (N := ["_law_numbers", "_law_part", "_law_number"]) (sc := defScope (topS 74)) (by decide +kernel)) (iv_seq (V 0 rfl) rfl) rfl (fun O' x hx => stepD_all (is := [2]) (by decide) (fun s H A cl fp => (tg_name (i := 2) sc_law_cut.nd)) fun s H A cl fp => (ev_div (V 2 rfl) (V 1 rfl) h2 h3)) (by omega))) q)
theorem e_law_cut {X : Cx} (c : Core X.K X.mg) {O : List Addr} {Δ : List SV} {C : Cont} {pos p : Pos} {k : Nat} {l : List Int} {a1 : Expr} (hr : Room k X.A) (k1 : EvD X O a1 Δ C (.tuple (l.map .int))) (h1 : l.length ≤ 100 := by first | exact bz | exact bi | exact bf | exact bp | with_reducible assumption | omega) (h2 : 0 < gcdL l := by first | exact bz | exact bi | exact bf | exact bp | with_reducible assumption | omega) (h3 : Bd 8999 (gcdL l) := by first | exact bz | exact bi | exact bf | exact bp | with_reducible assumption | omega) (hk : 2 ≤ k := by decide) (hg : Gl X "_law_cut" := by rfl)
    (s0 : starEach [a1] X.env = (false, eval a1 X.env) :: starEach [] X.env := by rfl) : EvD X O (.Call (.Name "_law_cut" p) [a1] [] pos) Δ C (.tuple (l.map fun x => .int (x / gcdL l))) :=
  ev_call (ok_law_cut c) (hr.mono hk) (A1 k1 s0) ⟨l, rfl, h1, h2, h3, rfl⟩ hg (by decide) s0 (by rfl)
def F_law_quarter (ds : List D) (d : D) : Prop := ∃ (x : G), ds = [x.d] ∧ x ≠ 0 ∧ d = (x * G.unitOf x).d
theorem ok_law_quarter (c : Core K mg) : DefOk P w K mg base 1 "_law_quarter" ["_law_x"] (pur F_law_quarter) := by
  refine mkDef c.law_quarter sc_law_quarter (fun _ _ _ _ _ _ us hl => match us, hl with | [_], _ => rfl) (len_pur fun ds d h0 => by obtain ⟨_, h, _⟩ := h0; rw [h] <;> rfl) fun f cdv A outer s H E hr O C ss Q hq => ?_
  obtain ⟨_, _, rfl, ⟨x, rfl, h1, rfl⟩, q⟩ := hq
  refine b_for PassesOwn.never (iv_range c.b_range (ev_int (i := 4)) (by decide)) (fun i Δ1 C1 => C1 = C ∧ (∃ s, Δ1 = [.dat (G.d (rot x i)), s]) ∧ ∀ j, j < i → ¬G.Qf (rot x j)) ⟨rfl, ⟨.no, rfl⟩, fun j h => absurd h (Nat.not_lt_zero j)⟩ ?_ ?_
  · rintro i Δ1 C1 d hd ⟨rfl, ⟨s, rfl⟩, n⟩
    have hi : i < 4 := by
      have := (List.getElem?_eq_some_iff.mp hd).1
      rw [ups_len] at this
      exact this
    refine ⟨_, _, tg_name (i := 1) sc_law_quarter.nd, b_ifB (et_is (EvW.t (ew_and (et_gt (IX (V 0 rfl) rfl rfl) ev_int) fun _ => (ew_and1 (et_ge (IX (V 0 rfl) rfl rfl) ev_int)))) rfl) (fun h => b_ret (EvD.p (V 0 rfl) ?_)) fun h => b_nil (b_set (i := 0) sc_law_quarter.nd ((asG (T2 (ev_sub ev_int (IX (V 0 rfl) rfl rfl)) (IX (V 0 rfl) rfl rfl))).p (b_nil ⟨rfl, ⟨.dat d, rfl⟩, fun j hj => ?_⟩)))⟩
    · rw [← rot_at hi n ((qf_dec _).mp h)] at q
      exact q
    · rcases Nat.lt_or_ge j i with l | l
      · exact n j l
      · have e : j = i := by omega
        subst e
        intro z
        rw [(qf_dec _).mpr z] at h
        cases h
  · rintro Δ1 C1 ⟨rfl, ⟨s, rfl⟩, n⟩
    exact (rot_ends h1 n).elim
theorem e_law_quarter {X : Cx} (c : Core X.K X.mg) {O : List Addr} {Δ : List SV} {C : Cont} {pos p : Pos} {k : Nat} {x : G} {a1 : Expr} (hr : Room k X.A) (k1 : EvD X O a1 Δ C (x.d)) (h1 : x ≠ 0 := by first | exact bz | exact bi | exact bf | exact bp | with_reducible assumption | omega) (hk : 1 ≤ k := by decide) (hg : Gl X "_law_quarter" := by rfl)
    (s0 : starEach [a1] X.env = (false, eval a1 X.env) :: starEach [] X.env := by rfl) : EvD X O (.Call (.Name "_law_quarter" p) [a1] [] pos) Δ C ((x * G.unitOf x).d) :=
  ev_call (ok_law_quarter c) (hr.mono hk) (A1 k1 s0) ⟨x, rfl, h1, rfl⟩ hg (by decide) s0 (by rfl)
end DL

/-! part Dm -/
set_option Elab.async false
set_option linter.all false
set_option maxRecDepth 100000
set_option maxHeartbeats 4000000
namespace DL
open PySem PySem.Spec PyProof.Rows L2
section
variable {X : Cx} {O : List Addr} {Δ : List SV} {C : Cont} {pos p : Pos} {a b : Expr} {es : List Expr} {d e : D} {ds : List D} {α : Type} {xs : List α} {enc : α → D} {val : α → D} {elt tg iter : Expr} {scope : Scope} {own : List (Str × Nat)} {N : List SV → Cont → Prop} {R : SV → Cont → Prop} {rest : List Stmt}
theorem b_map {i : Nat} {y : Str} {py spos : Pos} (nd : X.N.Nodup) (ok : BlkOk X.N X.env.scope scope own) (hi : IvD X O tg iter Δ C ds) (hd : ds = xs.map enc) (hs : ∀ O' x, x ∈ xs → StepD X scope elt tg [] (own.map (·.2)) Δ O' C (enc x) true (val x)) (hz : xs.length ≤ 90000)
    (he : BvP X O rest (Δ.set i (.dat (.list (xs.map val)))) C N R) (hc : X.calm = true := by rfl) (hy : X.N[i]? = some y := by rfl) (hyl : X.env.scope.names.lookup y = some .local := by rfl)
    (hsw : swapsWith (.ListComp elt [⟨tg, iter, [], 0⟩] scope pos) (some (.Name y py)) spos.line X.env = pure true := by exact sw_true rfl rfl rfl rfl) (hf : ∀ x, foldedSetIterable iter X.env x = pure x := by intro _; rfl) :
    BvP X O (.Assign [.Name y py] (.ListComp elt [⟨tg, iter, [], 0⟩] scope pos) spos :: rest) Δ C N R :=
  b_lc (keep := fun _ => true) nd ok hi hd hs hz (by rw [List.filter_eq_self.mpr fun _ _ => rfl]; exact he) hc hy hyl hsw hf
theorem tg_seq {ts : List Expr} {is : List Nat} {Δ' : List SV} {n : Nat} (hs : seqOf d = some ds) (h : TgsD X O ts is Δ C ds Δ') (hl : ds.length = ts.length := by rfl) (hc : X.calm = true := by rfl) (hn : (assignEach ts X.env).length = ts.length := by rfl) (hst : (assignEach ts X.env).findIdx? (·.1) = none := by rfl) :
    TgD X O (.Tuple ts n pos) is Δ C d Δ' := by
  cases d with
  | list l => cases hs; exact tg_lst h hl hc hn hst
  | tuple l => cases hs; exact tg_tup h hl hc hn hst
  | _ => cases hs
theorem ev_toK (k : Nat) {i : Int} {p2 : Pos} (ha : EvD X O a Δ C (.tuple ds)) (hb : EvD X O b Δ C (.int i)) (e : i = k := by rfl) : EvD X O (.Subscript a (.Slice none (some b) none p2) pos) Δ C (.tuple (ds.take k)) := by subst e; exact ev_toT ha hb
theorem ev_toLK (k : Nat) {i : Int} {p2 : Pos} (ha : EvD X O a Δ C (.list ds)) (hb : EvD X O b Δ C (.int i)) (e : i = k := by rfl) : EvD X O (.Subscript a (.Slice none (some b) none p2) pos) Δ C (.list (ds.take k)) := by subst e; exact ev_toL ha hb
theorem ev_fromK (k : Nat) {i : Int} {p2 : Pos} (ha : EvD X O a Δ C (.tuple ds)) (hb : EvD X O b Δ C (.int i)) (e : i = k := by rfl) : EvD X O (.Subscript a (.Slice (some b) none none p2) pos) Δ C (.tuple (ds.drop k)) := by subst e; exact ev_fromT ha hb
/-- an assignment to some targets -/
theorem b_tgt {tg : Expr} {is : List Nat} {Δ' : List SV} (h : EvD X O a Δ C d) (t : TgD X O tg is Δ C d Δ') (r : BvP X O rest Δ' C N R) (hs : swapsWithSole [tg] a pos.line X.env = pure false := by rfl) (hw : swappedStores [tg] a X.env = pure none := by rfl) (h1 : (assignEach [tg] X.env).map (·.2) = [assign tg X.env] := by rfl) : BvP X O (.Assign [tg] a pos :: rest) Δ C N R :=
  b_asg (h.p ⟨d, Δ', is, rfl, t, r⟩) hs hw h1
theorem L1 (ha : EvD X O a Δ C d) (h1 : starEach [a] X.env = (false, eval a X.env) :: starEach [] X.env := by rfl) : EvD X O (.List [a] pos) Δ C (.list [d]) :=
  ev_lst (ds := [d]) (D1 ha h1) (by simp)
theorem L2 (ha : EvD X O a Δ C d) (hb : EvD X O b Δ C e) (h1 : starEach [a, b] X.env = (false, eval a X.env) :: starEach [b] X.env := by rfl) (h2 : starEach [b] X.env = (false, eval b X.env) :: starEach [] X.env := by rfl) : EvD X O (.List [a, b] pos) Δ C (.list [d, e]) :=
  ev_lst (ds := [d, e]) (A2 ha hb h1 h2) (by simp)
theorem L3 {c : Expr} {z : D} (ha : EvD X O a Δ C d) (hb : EvD X O b Δ C e) (hc : EvD X O c Δ C z) (h1 : starEach [a, b, c] X.env = (false, eval a X.env) :: starEach [b, c] X.env := by rfl) (h2 : starEach [b, c] X.env = (false, eval b X.env) :: starEach [c] X.env := by rfl) (h3 : starEach [c] X.env = (false, eval c X.env) :: starEach [] X.env := by rfl) : EvD X O (.List [a, b, c] pos) Δ C (.list [d, e, z]) :=
  ev_lst (ds := [d, e, z]) (A3 ha hb hc h1 h2 h3) (by simp)
end
theorem b_re {X : Cx} {O : List Addr} {Δ Δ' : List SV} {C : Cont} {sts : List Stmt} {N : List SV → Cont → Prop} {R : SV → Cont → Prop} (e : Δ = Δ') (h : BvP X O sts Δ' C N R) : BvP X O sts Δ C N R := e ▸ h
theorem gmul_comm (x y : G) : x * y = y * x := by grind
theorem and_tt {a b : Bool} (h : a = true) (h2 : b = true) : (a && b) = true := by rw [h, h2] <;> rfl
end DL

/-! part Df3 -/
set_option Elab.async false
set_option linter.all false
set_option maxRecDepth 100000
set_option maxHeartbeats 4000000
namespace DL
open PySem PySem.Spec PyProof.Rows L2
variable {P : Program} {w : World} {K : PySem.W.Frag} {mg : Str → Option Value} {base : Heap}
theorem low_bd {n : Nat} {p s r : Int} (h : 0 < r) (hr : Bd n r) (hn : n ≤ 8999) : 0 < gcdL [p, s, r] ∧ Bd 8999 (gcdL [p, s, r]) :=
  ⟨Pl.g3_pos (by omega), (Bd.le (Pl.g3_nn p s r) (Int.le_of_dvd h (Pl.g3_dvd p s r).2.2) hr).mono hn⟩
theorem ok_bool {x : Pl} (h : x.ok) : (decide (x = Pl.far) || (decide (0 < x.r) && decide (gcdL [x.p, x.s, x.r] = 1))) = true := by
  rcases h with h | ⟨h1, h2⟩
  · simp [h]
  · simp [h1, h2]
def F_is_place (ds : List D) (d : D) : Prop := ∃ (x : Pl), ds = [x.d] ∧ x.ok ∧ d = .bool true
theorem ok_is_place (c : Core K mg) : DefOk P w K mg base 3 "is_place" ["value"] (pur F_is_place) := by
  refine mkDef c.is_place sc_is_place (fun _ _ _ _ _ _ us hl => match us, hl with | [_], _ => rfl) (len_pur fun ds d h0 => by obtain ⟨_, h, _⟩ := h0; rw [h] <;> rfl) fun f cdv A outer s H E hr O C ss Q hq => ?_
  obtain ⟨_, _, rfl, ⟨x, rfl, h1, rfl⟩, q⟩ := hq
  exact b_ret (EvD.p (ev_is (ev_and (e_are_wholes c hr (l := [x.p, x.s, x.r]) (V 0 rfl) ev_int (by simp)) fun _ => (ev_one (ev_or (q_eq hr (V 0 rfl) (ev_glo c.k_FAR)) fun _ => (ev_one (ev_and (ev_gt (IX (V 0 rfl) rfl rfl) ev_int) fun _ => (ev_one (e_is_lowest c hr (l := [x.p, x.s, x.r]) (V 0 rfl)))))))) (by show PyData.bool (_ && _) = _; rw [ok_bool h1] <;> rfl)) q)
theorem e_is_place {X : Cx} (c : Core X.K X.mg) {O : List Addr} {Δ : List SV} {C : Cont} {pos p : Pos} {k : Nat} {x : Pl} {a1 : Expr} (hr : Room k X.A) (k1 : EvD X O a1 Δ C (x.d)) (h1 : x.ok := by first | exact bz | exact bi | exact bf | exact bp | with_reducible assumption | omega) (hk : 3 ≤ k := by decide) (hg : Gl X "is_place" := by rfl)
    (s0 : starEach [a1] X.env = (false, eval a1 X.env) :: starEach [] X.env := by rfl) : EvD X O (.Call (.Name "is_place" p) [a1] [] pos) Δ C (.bool true) :=
  ev_call (ok_is_place c) (hr.mono hk) (A1 k1 s0) ⟨x, rfl, h1, rfl⟩ hg (by decide) s0 (by rfl)
def F_quotient_place (ds : List D) (d : D) : Prop := ∃ (x : G) (y : G), ds = [x.d, y.d] ∧ Bz 90000 x ∧ Bz 4000 y ∧ d = (Pl.spot x y).d
theorem ok_quotient_place (c : Core K mg) : DefOk P w K mg base 3 "quotient_place" ["number", "other"] (pur F_quotient_place) := by
  refine mkDef c.quotient_place sc_quotient_place (fun _ _ _ _ _ _ us hl => match us, hl with | [_, _], _ => rfl) (len_pur fun ds d h0 => by obtain ⟨_, _, h, _⟩ := h0; rw [h] <;> rfl) fun f cdv A outer s H E hr O C ss Q hq => ?_
  obtain ⟨_, _, rfl, ⟨x, y, rfl, h1, h2, rfl⟩, q⟩ := hq
  have i1 : BZ _ x := ⟨h1⟩
  have i2 : BZ _ y := ⟨h2⟩
  refine b_ifB (t_eq hr (V 1 rfl) (ev_glo c.k_ZERO)) (fun h => ?_) fun h => b_nil ?_
  · have h := of_decide_eq_true h
    rw [h] at q
    exact b_ret (EvD.p (ev_is (ev_glo c.k_FAR) (by unfold Pl.spot; rw [if_pos rfl] <;> rfl)) q)
  · have h := of_decide_eq_false h
    have n0 := G.norm_pos h
    obtain ⟨g1, g2⟩ := low_bd (p := (x * G.conj y).re) (s := (x * G.conj y).im) n0 (bi (i := G.norm y) (m := 8999)) (Nat.le_refl _)
    unfold Pl.spot at q
    rw [if_neg h] at q
    exact b_set (i := 2) sc_quotient_place.nd ((e_times c hr (V 0 rfl) (e_turned_over c hr (V 1 rfl))).p (b_ret (EvD.p (e_lowest c hr (l := [_, _, _]) (T3 (IX (V 2 rfl) rfl rfl) (IX (V 2 rfl) rfl rfl) (e_square_size c hr (V 1 rfl))) (by simp) g1 g2) q)))
theorem e_quotient_place {X : Cx} (c : Core X.K X.mg) {O : List Addr} {Δ : List SV} {C : Cont} {pos p : Pos} {k : Nat} {x : G} {y : G} {a1 a2 : Expr} (hr : Room k X.A) (k1 : EvD X O a1 Δ C (x.d)) (k2 : EvD X O a2 Δ C (y.d)) (h1 : Bz 90000 x := by first | exact bz | exact bi | exact bf | exact bp | with_reducible assumption | omega) (h2 : Bz 4000 y := by first | exact bz | exact bi | exact bf | exact bp | with_reducible assumption | omega) (hk : 3 ≤ k := by decide) (hg : Gl X "quotient_place" := by rfl)
    (s0 : starEach [a1, a2] X.env = (false, eval a1 X.env) :: starEach [a2] X.env := by rfl) (s1 : starEach [a2] X.env = (false, eval a2 X.env) :: starEach [] X.env := by rfl) : EvD X O (.Call (.Name "quotient_place" p) [a1, a2] [] pos) Δ C ((Pl.spot x y).d) :=
  ev_call (ok_quotient_place c) (hr.mono hk) (A2 k1 k2 s0 s1) ⟨x, y, rfl, h1, h2, rfl⟩ hg (by decide) s0 (by rw [s1] <;> rfl)
def F_law_spot (ds : List D) (d : D) : Prop := ∃ (x : G) (y : G), ds = [x.d, y.d] ∧ Bz 90000 x ∧ Bz 4000 y ∧ d = (Pl.spot x y).d
theorem ok_law_spot (c : Core K mg) : DefOk P w K mg base 3 "_law_spot" ["_law_x", "_law_y"] (pur F_law_spot) := by
  refine mkDef c.law_spot sc_law_spot (fun _ _ _ _ _ _ us hl => match us, hl with | [_, _], _ => rfl) (len_pur fun ds d h0 => by obtain ⟨_, _, h, _⟩ := h0; rw [h] <;> rfl) fun f cdv A outer s H E hr O C ss Q hq => ?_
  obtain ⟨_, _, rfl, ⟨x, y, rfl, h1, h2, rfl⟩, q⟩ := hq
  have i1 : BZ _ x := ⟨h1⟩
  have i2 : BZ _ y := ⟨h2⟩
  refine b_ifB (t_eq hr (V 1 rfl) (asZ (0 : G) (T2 ev_int ev_int))) (fun h => ?_) fun h => b_nil ?_
  · have h := of_decide_eq_true h
    rw [h] at q
    exact b_ret (EvD.p (ev_is (T3 ev_int ev_int ev_int) (by unfold Pl.spot; rw [if_pos rfl] <;> rfl)) q)
  · have h := of_decide_eq_false h
    have n0 := G.norm_pos h
    obtain ⟨g1, g2⟩ := low_bd (p := (x * G.conj y).re) (s := (x * G.conj y).im) n0 (bi (i := G.norm y) (m := 8999)) (Nat.le_refl _)
    unfold Pl.spot at q
    rw [if_neg h] at q
    exact b_set (i := 2) sc_law_spot.nd ((e_law_times c hr (V 0 rfl) (e_law_conj c hr (V 1 rfl))).p (b_ret (EvD.p (e_law_cut c hr (l := [_, _, _]) (T3 (IX (V 2 rfl) rfl rfl) (IX (V 2 rfl) rfl rfl) (e_law_norm c hr (V 1 rfl))) (by simp) g1 g2) q)))
theorem e_law_spot {X : Cx} (c : Core X.K X.mg) {O : List Addr} {Δ : List SV} {C : Cont} {pos p : Pos} {k : Nat} {x : G} {y : G} {a1 a2 : Expr} (hr : Room k X.A) (k1 : EvD X O a1 Δ C (x.d)) (k2 : EvD X O a2 Δ C (y.d)) (h1 : Bz 90000 x := by first | exact bz | exact bi | exact bf | exact bp | with_reducible assumption | omega) (h2 : Bz 4000 y := by first | exact bz | exact bi | exact bf | exact bp | with_reducible assumption | omega) (hk : 3 ≤ k := by decide) (hg : Gl X "_law_spot" := by rfl)
    (s0 : starEach [a1, a2] X.env = (false, eval a1 X.env) :: starEach [a2] X.env := by rfl) (s1 : starEach [a2] X.env = (false, eval a2 X.env) :: starEach [] X.env := by rfl) : EvD X O (.Call (.Name "_law_spot" p) [a1, a2] [] pos) Δ C ((Pl.spot x y).d) :=
  ev_call (ok_law_spot c) (hr.mono hk) (A2 k1 k2 s0 s1) ⟨x, y, rfl, h1, h2, rfl⟩ hg (by decide) s0 (by rw [s1] <;> rfl)
def F_determinant (ds : List D) (d : D) : Prop := ∃ (h : Int) (f : F4), ds = [chD h f] ∧ B4 90000 f ∧ d = (F4.det f).d
theorem ok_determinant (c : Core K mg) : DefOk P w K mg base 2 "determinant" ["chart"] (pur F_determinant) := by
  refine mkDef c.determinant sc_determinant (fun _ _ _ _ _ _ us hl => match us, hl with | [_], _ => rfl) (len_pur fun ds d h0 => by obtain ⟨_, _, h, _⟩ := h0; rw [h] <;> rfl) fun f cdv A outer s H E hr O C ss Q hq => ?_
  obtain ⟨_, _, rfl, ⟨h, f, rfl, h1, rfl⟩, q⟩ := hq
  have i1 : FB _ f := ⟨h1⟩
  exact b_ret (EvD.p (e_minus c hr (e_times c hr (IX (V 0 rfl) rfl rfl) (IX (V 0 rfl) rfl rfl)) (e_times c hr (IX (V 0 rfl) rfl rfl) (IX (V 0 rfl) rfl rfl))) q)
theorem e_determinant {X : Cx} (c : Core X.K X.mg) {O : List Addr} {Δ : List SV} {C : Cont} {pos p : Pos} {k : Nat} {h : Int} {f : F4} {a1 : Expr} (hr : Room k X.A) (k1 : EvD X O a1 Δ C (chD h f)) (h1 : B4 90000 f := by first | exact bz | exact bi | exact bf | exact bp | with_reducible assumption | omega) (hk : 2 ≤ k := by decide) (hg : Gl X "determinant" := by rfl)
    (s0 : starEach [a1] X.env = (false, eval a1 X.env) :: starEach [] X.env := by rfl) : EvD X O (.Call (.Name "determinant" p) [a1] [] pos) Δ C ((F4.det f).d) :=
  ev_call (ok_determinant c) (hr.mono hk) (A1 k1 s0) ⟨h, f, rfl, h1, rfl⟩ hg (by decide) s0 (by rfl)
def F_form_of (ds : List D) (d : D) : Prop := ∃ (h : Int) (u : D) (f : F4), ds = [.int h, u] ∧ seqOf u = some f.ds ∧ B4 3990 f ∧ f.Nz ∧ d = chD h (F4.form f)
theorem ok_form_of (c : Core K mg) : DefOk P w K mg base 4 "form_of" ["is_mirrored", "numbers"] (pur F_form_of) := by
  refine mkDef c.form_of sc_form_of (fun _ _ _ _ _ _ us hl => match us, hl with | [_, _], _ => rfl) (len_pur fun ds d h0 => by obtain ⟨_, _, _, h, _⟩ := h0; rw [h] <;> rfl) fun f cdv A outer s H E hr O C ss Q hq => ?_
  obtain ⟨_, _, rfl, ⟨h, u, f, rfl, h1, h2, h3, rfl⟩, q⟩ := hq
  obtain ⟨g0, gd⟩ := gc_mem h3
  have gb := NB.gc (h2.mono (by decide))
  have rb := h2.red h3
  have m0 := mem_l h2
  have m1 := mem_l rb
  have fn := F4.first_ne (F4.red_nz h3)
  have fm : Bz 3991 f.red.first := by
    unfold F4.first
    split
    · exact rb.a
    · split
      · exact rb.b
      · split
        · exact rb.c
        · exact rb.d
  have ub : Bz 2 (G.unitOf f.red.first) := by
    rcases G.unit_cases (G.unit_norm f.red.first) with e | e | e | e <;> rw [e] <;> exact ⟨Bd.lit 2 _, Bd.lit 2 _⟩
  refine b_set (i := 2) sc_form_of.nd ((e_divisor_of_all c hr (l := f.l) (V 1 rfl) h1 fun x hx => .of ((m0 x hx).mono (by decide))).p ?_)
  refine (b_map (i := 3) (xs := f.l) (enc := G.d) (val := fun x => (G.quo x f.gc).d) sc_form_of.nd (blkOk_by (own := [("number", 5)]) (N := ["is_mirrored", "numbers", "common", "found", "unit", "number"]) (sc := defScope (topS 34)) (by decide +kernel)) (iv_seq (V 1 rfl) h1) rfl (fun O' x hx => stepD_all (is := [5]) (by decide) (fun s H A cl fp => (tg_name (i := 5) sc_form_of.nd)) fun s H A cl fp => (e_divided c hr (V 5 rfl) (V 2 rfl) ((m0 x hx).mono (by decide)) gb.bz g0 (gd x hx))) (by simp [F4.l]) ?_)
  refine b_set (i := 4) sc_form_of.nd ((e_unit_for c hr (x := f.red.first) (ev_ix (ev_lc (xs := f.red.l) (enc := G.d) (val := G.d) sc_form_of.nd (blkOk_by (own := [("number", 5)]) (N := ["is_mirrored", "numbers", "common", "found", "unit", "number"]) (sc := defScope (topS 34)) (by decide +kernel)) (iv_seq (V 3 rfl) rfl) rfl (fun O' x hx => stepD_if (is := [5]) (by decide) (fun s H A cl fp => (tg_name (i := 5) sc_form_of.nd)) (fun s H A cl fp => (t_ne hr (V 5 rfl) (ev_glo c.k_ZERO))) fun _ s H A cl fp => (V 5 rfl)) (by simp [F4.l])) (ev_int (i := 0)) rfl ?_) (fm.mono (by decide))).p ?_)
  · rw [List.getElem?_map]
    exact congrArg (Option.map G.d) (first_at (F4.red_nz h3))
  · exact b_ret (EvD.p (ev_tup (ds := .int h :: (F4.form f).ds) (ea_cons (V 0 rfl) (ea_star (ev_map (xs := f.red.l) (enc := G.d) (val := fun x => (G.unitOf f.red.first * x).d) sc_form_of.nd (blkOk_by (own := [("number", 5)]) (N := ["is_mirrored", "numbers", "common", "found", "unit", "number"]) (sc := defScope (topS 34)) (by decide +kernel)) (iv_seq (V 3 rfl) rfl) rfl (fun O' x hx => stepD_all (is := [5]) (by decide) (fun s H A cl fp => (tg_name (i := 5) sc_form_of.nd)) fun s H A cl fp => (ev_is (e_times c hr (V 5 rfl) (V 4 rfl) ((m1 x hx).mono (by decide)) (ub.mono (by decide))) (by rw [gmul_comm]))) (by simp [F4.l])) rfl ea_nil)) (by simp)) q)
theorem e_form_of {X : Cx} (c : Core X.K X.mg) {O : List Addr} {Δ : List SV} {C : Cont} {pos p : Pos} {k : Nat} {h : Int} {u : D} {f : F4} {a1 a2 : Expr} (hr : Room k X.A) (k1 : EvD X O a1 Δ C (.int h)) (k2 : EvD X O a2 Δ C (u)) (h1 : seqOf u = some f.ds := by first | exact bz | exact bi | exact bf | exact bp | with_reducible assumption | omega) (h2 : B4 3990 f := by first | exact bz | exact bi | exact bf | exact bp | with_reducible assumption | omega) (h3 : f.Nz := by first | exact bz | exact bi | exact bf | exact bp | with_reducible assumption | omega) (hk : 4 ≤ k := by decide) (hg : Gl X "form_of" := by rfl)
    (s0 : starEach [a1, a2] X.env = (false, eval a1 X.env) :: starEach [a2] X.env := by rfl) (s1 : starEach [a2] X.env = (false, eval a2 X.env) :: starEach [] X.env := by rfl) : EvD X O (.Call (.Name "form_of" p) [a1, a2] [] pos) Δ C (chD h (F4.form f)) :=
  ev_call (ok_form_of c) (hr.mono hk) (A2 k1 k2 s0 s1) ⟨h, u, f, rfl, h1, h2, h3, rfl⟩ hg (by decide) s0 (by rw [s1] <;> rfl)
def F_law_chart (ds : List D) (d : D) : Prop := ∃ (h : Int) (u : D) (f : F4), ds = [.int h, u] ∧ seqOf u = some f.ds ∧ B4 3990 f ∧ f.Nz ∧ d = chD h (F4.form f)
theorem ok_law_chart (c : Core K mg) : DefOk P w K mg base 3 "_law_chart" ["_law_hand", "_law_four_here"] (pur F_law_chart) := by
  refine mkDef c.law_chart sc_law_chart (fun _ _ _ _ _ _ us hl => match us, hl with | [_, _], _ => rfl) (len_pur fun ds d h0 => by obtain ⟨_, _, _, h, _⟩ := h0; rw [h] <;> rfl) fun f cdv A outer s H E hr O C ss Q hq => ?_
  obtain ⟨_, _, rfl, ⟨h, u, f, rfl, h1, h2, h3, rfl⟩, q⟩ := hq
  obtain ⟨g0, gd⟩ := gc_mem h3
  have gb := NB.gc (h2.mono (by decide))
  have rb := h2.red h3
  have m0 := mem_l h2
  have m1 := mem_l rb
  have fn := F4.first_ne (F4.red_nz h3)
  have fm : Bz 3991 f.red.first := by
    unfold F4.first
    split
    · exact rb.a
    · split
      · exact rb.b
      · split
        · exact rb.c
        · exact rb.d
  have ub : Bz 2 (G.unitOf f.red.first) := by
    rcases G.unit_cases (G.unit_norm f.red.first) with e | e | e | e <;> rw [e] <;> exact ⟨Bd.lit 2 _, Bd.lit 2 _⟩
  have u1 : BZ _ (G.unitOf f.red.first) := ⟨ub⟩
  have u2 : BZ _ f.red.first := ⟨fm⟩
  refine b_set (i := 2) sc_law_chart.nd ((asZ (0 : G) (T2 ev_int ev_int)).p ?_)
  refine b_for PassesOwn.never (iv_seq (V 1 rfl) h1) (fun i Δ1 C1 => C1 = C ∧ ∃ s, Δ1 = [.dat (.int h), .dat u, .dat (G.d ((f.l.take i).foldl G.dv 0)), s, .no, .no, .no, .no, .no, .no, .no]) ⟨rfl, .no, rfl⟩ ?_ ?_
  · rintro i Δ1 C1 d1 hd ⟨rfl, s, rfl⟩
    have hd : (f.l.map G.d)[i]? = some d1 := hd
    rw [List.getElem?_map] at hd
    obtain ⟨x, hx, rfl⟩ := Option.map_eq_some_iff.mp hd
    refine ⟨_, _, tg_name (i := 3) sc_law_chart.nd, b_set (i := 2) sc_law_chart.nd ((e_law_deep c hr (V 2 rfl) (V 3 rfl) (NB.fold .zero fun y hy => .of ((m0 y (List.mem_of_mem_take hy)).mono (by decide))) (.of ((m0 x (List.mem_of_getElem? hx)).mono (by decide)))).p (b_nil ⟨rfl, .dat (G.d x), ?_⟩))⟩
    rw [fold_succ hx] <;> rfl
  rintro Δ1 C1 ⟨rfl, s, rfl⟩
  have e : (f.l.take (F4.ds f).length).foldl G.dv 0 = f.gc := rfl
  rw [e]
  refine (b_map (i := 4) (xs := f.l) (enc := G.d) (val := fun x => (G.quo x f.gc).d) sc_law_chart.nd (blkOk_by (own := [("_law_each", 3)]) (N := ["_law_hand", "_law_four_here", "_law_part", "_law_each", "_law_some", "_law_first", "_law_unit", "_law_a", "_law_b", "_law_c", "_law_d"]) (sc := defScope (topS 84)) (by decide +kernel)) (iv_seq (V 1 rfl) h1) rfl (fun O' x hx => stepD_all (is := [3]) (by decide) (fun s H A cl fp => (tg_name (i := 3) sc_law_chart.nd)) fun s H A cl fp => (e_law_over c hr (V 3 rfl) (V 2 rfl) ((m0 x hx).mono (by decide)) gb.bz g0)) (by simp [F4.l]) ?_)
  refine b_set (i := 5) sc_law_chart.nd ((ev_ix (z := f.red.first.d) (ev_lc (xs := f.red.l) (enc := G.d) (val := G.d) sc_law_chart.nd (blkOk_by (own := [("_law_each", 3)]) (N := ["_law_hand", "_law_four_here", "_law_part", "_law_each", "_law_some", "_law_first", "_law_unit", "_law_a", "_law_b", "_law_c", "_law_d"]) (sc := defScope (topS 84)) (by decide +kernel)) (iv_seq (V 4 rfl) rfl) rfl (fun O' x hx => stepD_if (is := [3]) (by decide) (fun s H A cl fp => (tg_name (i := 3) sc_law_chart.nd)) (fun s H A cl fp => (t_ne hr (V 3 rfl) (asZ (0 : G) (T2 ev_int ev_int)))) fun _ s H A cl fp => (V 3 rfl)) (by simp [F4.l])) (ev_int (i := 0)) rfl ?_).p ?_)
  · rw [List.getElem?_map]
    exact congrArg (Option.map G.d) (first_at (F4.red_nz h3))
  refine b_set (i := 6) sc_law_chart.nd ((ev_is (z := (G.unitOf f.red.first).d) (e_law_over c hr (e_law_quarter c hr (V 5 rfl) fn) (V 5 rfl) bz bz fn) ?_).p ?_)
  · rw [gmul_comm, G.quo_mul _ fn]
  refine b_tgt (ev_map (xs := f.red.l) (enc := G.d) (val := fun x => (G.unitOf f.red.first * x).d) sc_law_chart.nd (blkOk_by (own := [("_law_each", 3)]) (N := ["_law_hand", "_law_four_here", "_law_part", "_law_each", "_law_some", "_law_first", "_law_unit", "_law_a", "_law_b", "_law_c", "_law_d"]) (sc := defScope (topS 84)) (by decide +kernel)) (iv_seq (V 4 rfl) rfl) rfl (fun O' x hx => stepD_all (is := [3]) (by decide) (fun s H A cl fp => (tg_name (i := 3) sc_law_chart.nd)) fun s H A cl fp => (e_law_times c hr (V 6 rfl) (V 3 rfl) (ub.mono (by decide)) ((m1 x hx).mono (by decide)))) (by simp [F4.l])) (tg_seq (ds := (F4.form f).ds) rfl (tgs_cons (tg_name (i := 7) sc_law_chart.nd) (tgs_cons (tg_name (i := 8) sc_law_chart.nd) (tgs_cons (tg_name (i := 9) sc_law_chart.nd) (tgs_cons (tg_name (i := 10) sc_law_chart.nd) tgs_nil))))) ?_
  exact b_ret (EvD.p (T5 (V 0 rfl) (V 7 rfl) (V 8 rfl) (V 9 rfl) (V 10 rfl)) q)
theorem e_law_chart {X : Cx} (c : Core X.K X.mg) {O : List Addr} {Δ : List SV} {C : Cont} {pos p : Pos} {k : Nat} {h : Int} {u : D} {f : F4} {a1 a2 : Expr} (hr : Room k X.A) (k1 : EvD X O a1 Δ C (.int h)) (k2 : EvD X O a2 Δ C (u)) (h1 : seqOf u = some f.ds := by first | exact bz | exact bi | exact bf | exact bp | with_reducible assumption | omega) (h2 : B4 3990 f := by first | exact bz | exact bi | exact bf | exact bp | with_reducible assumption | omega) (h3 : f.Nz := by first | exact bz | exact bi | exact bf | exact bp | with_reducible assumption | omega) (hk : 3 ≤ k := by decide) (hg : Gl X "_law_chart" := by rfl)
    (s0 : starEach [a1, a2] X.env = (false, eval a1 X.env) :: starEach [a2] X.env := by rfl) (s1 : starEach [a2] X.env = (false, eval a2 X.env) :: starEach [] X.env := by rfl) : EvD X O (.Call (.Name "_law_chart" p) [a1, a2] [] pos) Δ C (chD h (F4.form f)) :=
  ev_call (ok_law_chart c) (hr.mono hk) (A2 k1 k2 s0 s1) ⟨h, u, f, rfl, h1, h2, h3, rfl⟩ hg (by decide) s0 (by rw [s1] <;> rfl)
end DL

/-! part Df4 -/
set_option Elab.async false
set_option linter.all false
set_option maxRecDepth 100000
set_option maxHeartbeats 4000000
namespace DL
open PySem PySem.Spec PyProof.Rows L2
variable {P : Program} {w : World} {K : PySem.W.Frag} {mg : Str → Option Value} {base : Heap}
theorem sub_add (x y : G) : x + -y = x - y := by grind
theorem hd_den (h : Int) (x : Pl) : (x.hd h).den = x.den := by
  unfold Pl.hd
  split <;> rfl
theorem hd_num0 {h : Int} (x : Pl) (e : decide (h = 1) = false) : (x.hd h).num = x.num := by
  unfold Pl.hd
  rw [if_neg (of_decide_eq_false e)]
theorem hd_num1 {h : Int} (x : Pl) (e : decide (h = 1) = true) : (x.hd h).num = ⟨x.p, -x.s⟩ := by
  unfold Pl.hd
  rw [if_pos (of_decide_eq_true e)] <;> rfl
theorem led_eq (h : Int) (f : F4) (x : Pl) : F4.led h f x = Pl.spot (f.a * (x.hd h).num + G.ofI x.r * f.b) (f.c * (x.hd h).num + G.ofI x.r * f.d) := by
  unfold F4.led F4.top F4.bot
  rw [hd_den] <;> rfl
def F_is_flag (ds : List D) (d : D) : Prop := ∃ (h : Int), ds = [.int h] ∧ (h = 0 ∨ h = 1) ∧ d = .bool true
theorem ok_is_flag (c : Core K mg) : DefOk P w K mg base 2 "is_flag" ["value"] (pur F_is_flag) := by
  refine mkDef c.is_flag sc_is_flag (fun _ _ _ _ _ _ us hl => match us, hl with | [_], _ => rfl) (len_pur fun ds d h0 => by obtain ⟨_, h, _⟩ := h0; rw [h] <;> rfl) fun f cdv A outer s H E hr O C ss Q hq => ?_
  obtain ⟨_, _, rfl, ⟨h, rfl, h1, rfl⟩, q⟩ := hq
  exact b_ret (EvD.p (ev_is (ev_and (e_is_whole c hr (V 0 rfl)) fun _ => (ev_one (q_in hr (V 0 rfl) (T2 ev_int ev_int)))) (by rcases h1 with rfl | rfl <;> rfl)) q)
theorem e_is_flag {X : Cx} (c : Core X.K X.mg) {O : List Addr} {Δ : List SV} {C : Cont} {pos p : Pos} {k : Nat} {h : Int} {a1 : Expr} (hr : Room k X.A) (k1 : EvD X O a1 Δ C (.int h)) (h1 : (h = 0 ∨ h = 1) := by first | exact bz | exact bi | exact bf | exact bp | with_reducible assumption | omega) (hk : 2 ≤ k := by decide) (hg : Gl X "is_flag" := by rfl)
    (s0 : starEach [a1] X.env = (false, eval a1 X.env) :: starEach [] X.env := by rfl) : EvD X O (.Call (.Name "is_flag" p) [a1] [] pos) Δ C (.bool true) :=
  ev_call (ok_is_flag c) (hr.mono hk) (A1 k1 s0) ⟨h, rfl, h1, rfl⟩ hg (by decide) s0 (by rfl)
def F_is_map (ds : List D) (d : D) : Prop := ∃ (h : Int) (f : F4), ds = [chD h f] ∧ (h = 0 ∨ h = 1) ∧ f.det ≠ 0 ∧ F4.form f = f ∧ B4 3990 f ∧ d = .bool true
theorem ok_is_map (c : Core K mg) : DefOk P w K mg base 5 "is_map" ["value"] (pur F_is_map) := by
  refine mkDef c.is_map sc_is_map (fun _ _ _ _ _ _ us hl => match us, hl with | [_], _ => rfl) (len_pur fun ds d h0 => by obtain ⟨_, _, h, _⟩ := h0; rw [h] <;> rfl) fun f cdv A outer s H E hr O C ss Q hq => ?_
  obtain ⟨_, _, rfl, ⟨h, f, rfl, h1, h2, h3, h4, rfl⟩, q⟩ := hq
  refine b_ifF (et_is (EvW.t (ew_or (et_not (et_val (isi "tuple" (k := true) c.b_isinstance c.b_tuple (V 0 rfl) (by decide +kernel) (kit_ty (by decide +kernel))))) fun _ => (ew_or (t_ne hr (ev_len c.b_len (V 0 rfl) rfl) ev_int) fun _ => (ew_or1 (et_not (et_val (e_is_flag c hr (IX (V 0 rfl) rfl rfl)))))))) rfl) ?_
  refine b_ifF (et_is (EvW.t (ew_or (et_ne hr (ev_lc (xs := f.l) (enc := G.d) (val := G.d) sc_is_map.nd (blkOk_by (own := [("number", 1)]) (N := ["value", "number"]) (sc := defScope (topS 36)) (by decide +kernel)) (iv_seq (ev_fromK 1 (V 0 rfl) ev_int) rfl) rfl (fun O' x hx => stepD_if (is := [1]) (by decide) (fun s H A cl fp => (tg_name (i := 1) sc_is_map.nd)) (fun s H A cl fp => (et_is (l := false) (et_not (et_val (e_is_complex c hr (V 1 rfl)))) rfl)) fun _ s H A cl fp => (V 1 rfl)) (by simp [F4.l])) (ev_lst (ds := []) ea_nil) rfl rfl) fun _ => ew_or1 (t_eq hr (e_determinant c hr (V 0 rfl) (h4.mono (by decide))) (ev_glo c.k_ZERO)))) (by rw [decide_eq_false h2] <;> rfl)) ?_
  exact b_ret (EvD.p (ev_is (q_eq hr (e_form_of c hr (IX (V 0 rfl) rfl rfl) (ev_fromK 1 (V 0 rfl) ev_int) rfl h4 (F4.nz_of_det h2)) (V 0 rfl)) (by rw [decide_eq_true ⟨rfl, h3⟩])) q)
theorem e_is_map {X : Cx} (c : Core X.K X.mg) {O : List Addr} {Δ : List SV} {C : Cont} {pos p : Pos} {k : Nat} {h : Int} {f : F4} {a1 : Expr} (hr : Room k X.A) (k1 : EvD X O a1 Δ C (chD h f)) (h1 : (h = 0 ∨ h = 1) := by first | exact bz | exact bi | exact bf | exact bp | with_reducible assumption | omega) (h2 : f.det ≠ 0 := by first | exact bz | exact bi | exact bf | exact bp | with_reducible assumption | omega) (h3 : F4.form f = f := by first | exact bz | exact bi | exact bf | exact bp | with_reducible assumption | omega) (h4 : B4 3990 f := by first | exact bz | exact bi | exact bf | exact bp | with_reducible assumption | omega) (hk : 5 ≤ k := by decide) (hg : Gl X "is_map" := by rfl)
    (s0 : starEach [a1] X.env = (false, eval a1 X.env) :: starEach [] X.env := by rfl) : EvD X O (.Call (.Name "is_map" p) [a1] [] pos) Δ C (.bool true) :=
  ev_call (ok_is_map c) (hr.mono hk) (A1 k1 s0) ⟨h, f, rfl, h1, h2, h3, h4, rfl⟩ hg (by decide) s0 (by rfl)
def F_check_map (ds : List D) (d : D) : Prop := ∃ (h : Int) (f : F4), ds = [chD h f] ∧ (h = 0 ∨ h = 1) ∧ f.det ≠ 0 ∧ F4.form f = f ∧ B4 3990 f ∧ d = .none
theorem ok_check_map (c : Core K mg) : DefOk P w K mg base 6 "check_map" ["value"] (pur F_check_map) := by
  refine mkDef c.check_map sc_check_map (fun _ _ _ _ _ _ us hl => match us, hl with | [_], _ => rfl) (len_pur fun ds d h0 => by obtain ⟨_, _, h, _⟩ := h0; rw [h] <;> rfl) fun f cdv A outer s H E hr O C ss Q hq => ?_
  obtain ⟨_, _, rfl, ⟨h, f, rfl, h1, h2, h3, h4, rfl⟩, q⟩ := hq
  exact b_ifF (et_is (et_not (et_val (e_is_map c hr (V 0 rfl) h1 h2 h3 h4))) rfl) (b_nil q)
theorem e_check_map {X : Cx} (c : Core X.K X.mg) {O : List Addr} {Δ : List SV} {C : Cont} {pos p : Pos} {k : Nat} {h : Int} {f : F4} {a1 : Expr} (hr : Room k X.A) (k1 : EvD X O a1 Δ C (chD h f)) (h1 : (h = 0 ∨ h = 1) := by first | exact bz | exact bi | exact bf | exact bp | with_reducible assumption | omega) (h2 : f.det ≠ 0 := by first | exact bz | exact bi | exact bf | exact bp | with_reducible assumption | omega) (h3 : F4.form f = f := by first | exact bz | exact bi | exact bf | exact bp | with_reducible assumption | omega) (h4 : B4 3990 f := by first | exact bz | exact bi | exact bf | exact bp | with_reducible assumption | omega) (hk : 6 ≤ k := by decide) (hg : Gl X "check_map" := by rfl)
    (s0 : starEach [a1] X.env = (false, eval a1 X.env) :: starEach [] X.env := by rfl) : EvD X O (.Call (.Name "check_map" p) [a1] [] pos) Δ C (.none) :=
  ev_call (ok_check_map c) (hr.mono hk) (A1 k1 s0) ⟨h, f, rfl, h1, h2, h3, h4, rfl⟩ hg (by decide) s0 (by rfl)
def F_led_by (ds : List D) (d : D) : Prop := ∃ (h : Int) (f : F4) (x : Pl), ds = [chD h f, x.d] ∧ B4 2000 f ∧ BP 1000 x ∧ d = (F4.led h f x).d
theorem ok_led_by (c : Core K mg) : DefOk P w K mg base 4 "led_by" ["chart", "place"] (pur F_led_by) := by
  refine mkDef c.led_by sc_led_by (fun _ _ _ _ _ _ us hl => match us, hl with | [_, _], _ => rfl) (len_pur fun ds d h0 => by obtain ⟨_, _, _, h, _⟩ := h0; rw [h] <;> rfl) fun f cdv A outer s H E hr O C ss Q hq => ?_
  obtain ⟨_, _, rfl, ⟨h, f, x, rfl, h1, h2, rfl⟩, q⟩ := hq
  have i1 : FB _ f := ⟨h1⟩
  have i2 : PB _ x := ⟨h2⟩
  rw [led_eq] at q
  refine b_tgt (V 0 rfl) (tg_seq rfl (tgs_cons (tg_name (i := 3) sc_led_by.nd) (tgs_cons (tg_name (i := 4) sc_led_by.nd) (tgs_cons (tg_name (i := 5) sc_led_by.nd) (tgs_cons (tg_name (i := 6) sc_led_by.nd) (tgs_cons (tg_name (i := 7) sc_led_by.nd) tgs_nil)))))) ?_
  refine b_tgt (V 1 rfl) (tg_seq rfl (tgs_cons (tg_name (i := 8) sc_led_by.nd) (tgs_cons (tg_name (i := 9) sc_led_by.nd) (tgs_cons (tg_name (i := 10) sc_led_by.nd) tgs_nil)))) ?_
  refine b_set (i := 2) sc_led_by.nd ((ev_if (d := (x.hd h).num.d) (t_eq hr (V 3 rfl) ev_int) (fun e => ev_is (asG (T2 (V 8 rfl) (ev_neg (V 9 rfl)))) (by rw [hd_num1 x e])) (fun e => ev_is (asG (T2 (V 8 rfl) (V 9 rfl))) (by rw [hd_num0 x e] <;> rfl))).p ?_)
  exact b_ret (EvD.p (e_quotient_place c hr (e_plus c hr (e_times c hr (V 4 rfl) (V 2 rfl)) (e_scaled c hr (V 5 rfl) (V 10 rfl))) (e_plus c hr (e_times c hr (V 6 rfl) (V 2 rfl)) (e_scaled c hr (V 7 rfl) (V 10 rfl)))) q)
theorem e_led_by {X : Cx} (c : Core X.K X.mg) {O : List Addr} {Δ : List SV} {C : Cont} {pos p : Pos} {k : Nat} {h : Int} {f : F4} {x : Pl} {a1 a2 : Expr} (hr : Room k X.A) (k1 : EvD X O a1 Δ C (chD h f)) (k2 : EvD X O a2 Δ C (x.d)) (h1 : B4 2000 f := by first | exact bz | exact bi | exact bf | exact bp | with_reducible assumption | omega) (h2 : BP 1000 x := by first | exact bz | exact bi | exact bf | exact bp | with_reducible assumption | omega) (hk : 4 ≤ k := by decide) (hg : Gl X "led_by" := by rfl)
    (s0 : starEach [a1, a2] X.env = (false, eval a1 X.env) :: starEach [a2] X.env := by rfl) (s1 : starEach [a2] X.env = (false, eval a2 X.env) :: starEach [] X.env := by rfl) : EvD X O (.Call (.Name "led_by" p) [a1, a2] [] pos) Δ C ((F4.led h f x).d) :=
  ev_call (ok_led_by c) (hr.mono hk) (A2 k1 k2 s0 s1) ⟨h, f, x, rfl, h1, h2, rfl⟩ hg (by decide) s0 (by rw [s1] <;> rfl)
def F_law_led (ds : List D) (d : D) : Prop := ∃ (h : Int) (f : F4) (x : Pl), ds = [chD h f, x.d] ∧ B4 2000 f ∧ BP 1000 x ∧ d = (F4.led h f x).d
theorem ok_law_led (c : Core K mg) : DefOk P w K mg base 4 "_law_led" ["_law_chart_here", "_law_place_here"] (pur F_law_led) := by
  refine mkDef c.law_led sc_law_led (fun _ _ _ _ _ _ us hl => match us, hl with | [_, _], _ => rfl) (len_pur fun ds d h0 => by obtain ⟨_, _, _, h, _⟩ := h0; rw [h] <;> rfl) fun f cdv A outer s H E hr O C ss Q hq => ?_
  obtain ⟨_, _, rfl, ⟨h, f, x, rfl, h1, h2, rfl⟩, q⟩ := hq
  have i1 : FB _ f := ⟨h1⟩
  have i2 : PB _ x := ⟨h2⟩
  rw [led_eq] at q
  refine b_tgt (V 0 rfl) (tg_seq rfl (tgs_cons (tg_name (i := 4) sc_law_led.nd) (tgs_cons (tg_name (i := 5) sc_law_led.nd) (tgs_cons (tg_name (i := 6) sc_law_led.nd) (tgs_cons (tg_name (i := 7) sc_law_led.nd) (tgs_cons (tg_name (i := 8) sc_law_led.nd) tgs_nil)))))) ?_
  refine b_tgt (V 1 rfl) (tg_seq rfl (tgs_cons (tg_name (i := 9) sc_law_led.nd) (tgs_cons (tg_name (i := 10) sc_law_led.nd) (tgs_cons (tg_name (i := 11) sc_law_led.nd) tgs_nil)))) ?_
  refine b_set (i := 2) sc_law_led.nd ((ev_if (d := (x.hd h).num.d) (t_eq hr (V 4 rfl) ev_int) (fun e => ev_is (asG (T2 (V 9 rfl) (ev_sub ev_int (V 10 rfl)))) (by rw [hd_num1 x e, Int.zero_sub])) (fun e => ev_is (asG (T2 (V 9 rfl) (V 10 rfl))) (by rw [hd_num0 x e] <;> rfl))).p ?_)
  refine b_set (i := 3) sc_law_led.nd ((e_law_plus c hr (e_law_times c hr (V 5 rfl) (V 2 rfl)) (e_law_scaled c hr (V 11 rfl) (V 6 rfl))).p ?_)
  exact b_ret (EvD.p (e_law_spot c hr (V 3 rfl) (e_law_plus c hr (e_law_times c hr (V 7 rfl) (V 2 rfl)) (e_law_scaled c hr (V 11 rfl) (V 8 rfl)))) q)
theorem e_law_led {X : Cx} (c : Core X.K X.mg) {O : List Addr} {Δ : List SV} {C : Cont} {pos p : Pos} {k : Nat} {h : Int} {f : F4} {x : Pl} {a1 a2 : Expr} (hr : Room k X.A) (k1 : EvD X O a1 Δ C (chD h f)) (k2 : EvD X O a2 Δ C (x.d)) (h1 : B4 2000 f := by first | exact bz | exact bi | exact bf | exact bp | with_reducible assumption | omega) (h2 : BP 1000 x := by first | exact bz | exact bi | exact bf | exact bp | with_reducible assumption | omega) (hk : 4 ≤ k := by decide) (hg : Gl X "_law_led" := by rfl)
    (s0 : starEach [a1, a2] X.env = (false, eval a1 X.env) :: starEach [a2] X.env := by rfl) (s1 : starEach [a2] X.env = (false, eval a2 X.env) :: starEach [] X.env := by rfl) : EvD X O (.Call (.Name "_law_led" p) [a1, a2] [] pos) Δ C ((F4.led h f x).d) :=
  ev_call (ok_law_led c) (hr.mono hk) (A2 k1 k2 s0 s1) ⟨h, f, x, rfl, h1, h2, rfl⟩ hg (by decide) s0 (by rw [s1] <;> rfl)
def F_joined (ds : List D) (d : D) : Prop := ∃ (f : F4) (g : F4), ds = [chD 0 f, chD 0 g] ∧ B4 1200 f ∧ B4 1200 g ∧ (F4.mul f g).Nz ∧ d = chD 0 (F4.form (F4.mul f g))
theorem ok_joined (c : Core K mg) : DefOk P w K mg base 5 "joined" ["chart", "other"] (pur F_joined) := by
  refine mkDef c.joined sc_joined (fun _ _ _ _ _ _ us hl => match us, hl with | [_, _], _ => rfl) (len_pur fun ds d h0 => by obtain ⟨_, _, h, _⟩ := h0; rw [h] <;> rfl) fun f cdv A outer s H E hr O C ss Q hq => ?_
  obtain ⟨_, _, rfl, ⟨f, g, rfl, h1, h2, h3, rfl⟩, q⟩ := hq
  have i1 : FB _ f := ⟨h1⟩
  have i2 : FB _ g := ⟨h2⟩
  refine b_set (i := 2) sc_joined.nd ((ev_if (d := .list g.ds) (et_is (l := true) (t_eq hr (IX (V 0 rfl) rfl rfl) ev_int) rfl) (fun _ => ev_tolist c.b_list (ev_fromK 1 (V 1 rfl) ev_int) rfl) (fun z => nomatch z)).p ?_)
  refine b_tgt (ev_fromK 1 (V 0 rfl) ev_int) (tg_seq (ds := f.ds) rfl (tgs_cons (tg_name (i := 4) sc_joined.nd) (tgs_cons (tg_name (i := 5) sc_joined.nd) (tgs_cons (tg_name (i := 6) sc_joined.nd) (tgs_cons (tg_name (i := 7) sc_joined.nd) tgs_nil))))) ?_
  refine b_set (i := 3) sc_joined.nd ((T4 (e_plus c hr (e_times c hr (V 4 rfl) (IX (V 2 rfl) rfl rfl)) (e_times c hr (V 5 rfl) (IX (V 2 rfl) rfl rfl))) (e_plus c hr (e_times c hr (V 4 rfl) (IX (V 2 rfl) rfl rfl)) (e_times c hr (V 5 rfl) (IX (V 2 rfl) rfl rfl))) (e_plus c hr (e_times c hr (V 6 rfl) (IX (V 2 rfl) rfl rfl)) (e_times c hr (V 7 rfl) (IX (V 2 rfl) rfl rfl))) (e_plus c hr (e_times c hr (V 6 rfl) (IX (V 2 rfl) rfl rfl)) (e_times c hr (V 7 rfl) (IX (V 2 rfl) rfl rfl)))).p ?_)
  exact b_ret (EvD.p (e_form_of c hr (h := 0) (f := F4.mul f g) (ev_is (ev_mod (i := 0 + 0) (ev_add (IX (V 0 rfl) rfl rfl) (IX (V 1 rfl) rfl rfl)) ev_int (by decide)) rfl) (V 3 rfl) rfl ((h1.mul h2).mono (by decide)) h3) q)
theorem e_joined {X : Cx} (c : Core X.K X.mg) {O : List Addr} {Δ : List SV} {C : Cont} {pos p : Pos} {k : Nat} {f : F4} {g : F4} {a1 a2 : Expr} (hr : Room k X.A) (k1 : EvD X O a1 Δ C (chD 0 f)) (k2 : EvD X O a2 Δ C (chD 0 g)) (h1 : B4 1200 f := by first | exact bz | exact bi | exact bf | exact bp | with_reducible assumption | omega) (h2 : B4 1200 g := by first | exact bz | exact bi | exact bf | exact bp | with_reducible assumption | omega) (h3 : (F4.mul f g).Nz := by first | exact bz | exact bi | exact bf | exact bp | with_reducible assumption | omega) (hk : 5 ≤ k := by decide) (hg : Gl X "joined" := by rfl)
    (s0 : starEach [a1, a2] X.env = (false, eval a1 X.env) :: starEach [a2] X.env := by rfl) (s1 : starEach [a2] X.env = (false, eval a2 X.env) :: starEach [] X.env := by rfl) : EvD X O (.Call (.Name "joined" p) [a1, a2] [] pos) Δ C (chD 0 (F4.form (F4.mul f g))) :=
  ev_call (ok_joined c) (hr.mono hk) (A2 k1 k2 s0 s1) ⟨f, g, rfl, h1, h2, h3, rfl⟩ hg (by decide) s0 (by rw [s1] <;> rfl)
def F_way_back (ds : List D) (d : D) : Prop := ∃ (f : F4), ds = [chD 0 f] ∧ B4 3000 f ∧ f.det ≠ 0 ∧ d = chD 0 (F4.form (F4.adj f))
theorem ok_way_back (c : Core K mg) : DefOk P w K mg base 5 "way_back" ["chart"] (pur F_way_back) := by
  refine mkDef c.way_back sc_way_back (fun _ _ _ _ _ _ us hl => match us, hl with | [_], _ => rfl) (len_pur fun ds d h0 => by obtain ⟨_, h, _⟩ := h0; rw [h] <;> rfl) fun f cdv A outer s H E hr O C ss Q hq => ?_
  obtain ⟨_, _, rfl, ⟨f, rfl, h1, h2, rfl⟩, q⟩ := hq
  have i1 : FB _ f := ⟨h1⟩
  have nm : ∀ z : G, G.ofI (-1) * z = -z := fun z => by rw [ofI_mul]; apply G.ext <;> simp
  refine b_tgt (V 0 rfl) (tg_seq rfl (tgs_cons (tg_name (i := 2) sc_way_back.nd) (tgs_cons (tg_name (i := 3) sc_way_back.nd) (tgs_cons (tg_name (i := 4) sc_way_back.nd) (tgs_cons (tg_name (i := 5) sc_way_back.nd) (tgs_cons (tg_name (i := 6) sc_way_back.nd) tgs_nil)))))) ?_
  refine b_set (i := 1) sc_way_back.nd ((ev_is (z := .list (F4.adj f).ds) (L4 (V 6 rfl) (e_scaled c hr (V 4 rfl) (ev_neg (ev_int (i := 1)))) (e_scaled c hr (V 5 rfl) (ev_neg (ev_int (i := 1)))) (V 3 rfl)) (by rw [nm, nm] <;> rfl)).p ?_)
  refine b_ifF (et_is (t_eq hr (V 2 rfl) ev_int) rfl) ?_
  exact b_ret (EvD.p (e_form_of c hr (f := F4.adj f) (V 2 rfl) (V 1 rfl) rfl (h1.adj.mono (by decide)) (F4.nz_of_det (by rw [F4.det_adj]; exact h2))) q)
theorem e_way_back {X : Cx} (c : Core X.K X.mg) {O : List Addr} {Δ : List SV} {C : Cont} {pos p : Pos} {k : Nat} {f : F4} {a1 : Expr} (hr : Room k X.A) (k1 : EvD X O a1 Δ C (chD 0 f)) (h1 : B4 3000 f := by first | exact bz | exact bi | exact bf | exact bp | with_reducible assumption | omega) (h2 : f.det ≠ 0 := by first | exact bz | exact bi | exact bf | exact bp | with_reducible assumption | omega) (hk : 5 ≤ k := by decide) (hg : Gl X "way_back" := by rfl)
    (s0 : starEach [a1] X.env = (false, eval a1 X.env) :: starEach [] X.env := by rfl) : EvD X O (.Call (.Name "way_back" p) [a1] [] pos) Δ C (chD 0 (F4.form (F4.adj f))) :=
  ev_call (ok_way_back c) (hr.mono hk) (A1 k1 s0) ⟨f, rfl, h1, h2, rfl⟩ hg (by decide) s0 (by rfl)
def F_apart (ds : List D) (d : D) : Prop := ∃ (x : Pl) (y : Pl), ds = [x.d, y.d] ∧ BP 2000 x ∧ BP 2000 y ∧ d = (y.den * x.num - x.den * y.num).d
theorem ok_apart (c : Core K mg) : DefOk P w K mg base 2 "apart" ["place", "other"] (pur F_apart) := by
  refine mkDef c.apart sc_apart (fun _ _ _ _ _ _ us hl => match us, hl with | [_, _], _ => rfl) (len_pur fun ds d h0 => by obtain ⟨_, _, h, _⟩ := h0; rw [h] <;> rfl) fun f cdv A outer s H E hr O C ss Q hq => ?_
  obtain ⟨_, _, rfl, ⟨x, y, rfl, h1, h2, rfl⟩, q⟩ := hq
  have i1 : PB _ x := ⟨h1⟩
  have i2 : PB _ y := ⟨h2⟩
  exact b_ret (EvD.p (e_minus c hr (e_scaled c hr (x := x.num) (ev_is (ev_toK (ds := [.int x.p, .int x.s, .int x.r]) 2 (V 0 rfl) ev_int) rfl) (IX (V 1 rfl) rfl rfl)) (e_scaled c hr (x := y.num) (ev_is (ev_toK (ds := [.int y.p, .int y.s, .int y.r]) 2 (V 1 rfl) ev_int) rfl) (IX (V 0 rfl) rfl rfl))) q)
theorem e_apart {X : Cx} (c : Core X.K X.mg) {O : List Addr} {Δ : List SV} {C : Cont} {pos p : Pos} {k : Nat} {x : Pl} {y : Pl} {a1 a2 : Expr} (hr : Room k X.A) (k1 : EvD X O a1 Δ C (x.d)) (k2 : EvD X O a2 Δ C (y.d)) (h1 : BP 2000 x := by first | exact bz | exact bi | exact bf | exact bp | with_reducible assumption | omega) (h2 : BP 2000 y := by first | exact bz | exact bi | exact bf | exact bp | with_reducible assumption | omega) (hk : 2 ≤ k := by decide) (hg : Gl X "apart" := by rfl)
    (s0 : starEach [a1, a2] X.env = (false, eval a1 X.env) :: starEach [a2] X.env := by rfl) (s1 : starEach [a2] X.env = (false, eval a2 X.env) :: starEach [] X.env := by rfl) : EvD X O (.Call (.Name "apart" p) [a1, a2] [] pos) Δ C ((y.den * x.num - x.den * y.num).d) :=
  ev_call (ok_apart c) (hr.mono hk) (A2 k1 k2 s0 s1) ⟨x, y, rfl, h1, h2, rfl⟩ hg (by decide) s0 (by rw [s1] <;> rfl)
def F_chart_to_three (ds : List D) (d : D) : Prop := ∃ (a : D) (u : Pl) (v : Pl) (w : Pl), ds = [a] ∧ seqOf a = some [u.d, v.d, w.d] ∧ BP 500 u ∧ BP 500 v ∧ BP 500 w ∧ (F4.three u v w).Nz ∧ d = chD 0 (F4.form (F4.three u v w))
theorem ok_chart_to_three (c : Core K mg) : DefOk P w K mg base 5 "chart_to_three" ["places"] (pur F_chart_to_three) := by
  refine mkDef c.chart_to_three sc_chart_to_three (fun _ _ _ _ _ _ us hl => match us, hl with | [_], _ => rfl) (len_pur fun ds d h0 => by obtain ⟨_, _, _, _, h, _⟩ := h0; rw [h] <;> rfl) fun f cdv A outer s H E hr O C ss Q hq => ?_
  obtain ⟨_, _, rfl, ⟨a, u, v, w, rfl, h1, h2, h3, h4, h5, rfl⟩, q⟩ := hq
  have i1 : PB _ u := ⟨h2⟩
  have i2 : PB _ v := ⟨h3⟩
  have i3 : PB _ w := ⟨h4⟩
  have neg : ∀ x y : G, x * -y = -(y * x) := fun x y => by grind
  refine b_tgt (V 0 rfl) (tg_seq h1 (tgs_cons (tg_name (i := 2) sc_chart_to_three.nd) (tgs_cons (tg_name (i := 3) sc_chart_to_three.nd) (tgs_cons (tg_name (i := 4) sc_chart_to_three.nd) tgs_nil)))) ?_
  refine b_par (i := 5) (j := 6) sc_chart_to_three.nd ((A2 (e_apart c hr (V 4 rfl) (V 3 rfl) (h4.mono (by decide)) (h3.mono (by decide))) (e_apart c hr (V 4 rfl) (V 2 rfl) (h4.mono (by decide)) (h2.mono (by decide)))).p ⟨_, _, rfl, ?_⟩)
  have j2 : BZ _ (v.den * w.num - w.den * v.num) := ⟨b_apart h3 h4⟩
  have j3 : BZ _ (u.den * w.num - w.den * u.num) := ⟨b_apart h2 h4⟩
  refine b_set (i := 1) sc_chart_to_three.nd ((ev_is (z := .list (F4.three u v w).ds) (L4 (e_scaled c hr (V 5 rfl) (IX (V 2 rfl) rfl rfl)) (e_times c hr (V 5 rfl) (asZ (-u.num) (T2 (ev_neg (IX (V 2 rfl) rfl rfl)) (ev_neg (IX (V 2 rfl) rfl rfl))))) (e_scaled c hr (V 6 rfl) (IX (V 3 rfl) rfl rfl)) (e_times c hr (V 6 rfl) (asZ (-v.num) (T2 (ev_neg (IX (V 3 rfl) rfl rfl)) (ev_neg (IX (V 3 rfl) rfl rfl)))))) (by rw [neg, neg] <;> rfl)).p ?_)
  exact b_ret (EvD.p (e_form_of c hr (h := 0) (f := F4.three u v w) ev_int (V 1 rfl) rfl ((B4.three h2 h3 h4).mono (by decide)) h5) q)
theorem e_chart_to_three {X : Cx} (c : Core X.K X.mg) {O : List Addr} {Δ : List SV} {C : Cont} {pos p : Pos} {k : Nat} {a : D} {u : Pl} {v : Pl} {w : Pl} {a1 : Expr} (hr : Room k X.A) (k1 : EvD X O a1 Δ C (a)) (h1 : seqOf a = some [u.d, v.d, w.d] := by first | exact bz | exact bi | exact bf | exact bp | with_reducible assumption | omega) (h2 : BP 500 u := by first | exact bz | exact bi | exact bf | exact bp | with_reducible assumption | omega) (h3 : BP 500 v := by first | exact bz | exact bi | exact bf | exact bp | with_reducible assumption | omega) (h4 : BP 500 w := by first | exact bz | exact bi | exact bf | exact bp | with_reducible assumption | omega) (h5 : (F4.three u v w).Nz := by first | exact bz | exact bi | exact bf | exact bp | with_reducible assumption | omega) (hk : 5 ≤ k := by decide) (hg : Gl X "chart_to_three" := by rfl)
    (s0 : starEach [a1] X.env = (false, eval a1 X.env) :: starEach [] X.env := by rfl) : EvD X O (.Call (.Name "chart_to_three" p) [a1] [] pos) Δ C (chD 0 (F4.form (F4.three u v w))) :=
  ev_call (ok_chart_to_three c) (hr.mono hk) (A1 k1 s0) ⟨a, u, v, w, rfl, h1, h2, h3, h4, h5, rfl⟩ hg (by decide) s0 (by rfl)
end DL

/-! part Df5 -/
set_option Elab.async false
set_option linter.all false
set_option maxRecDepth 100000
set_option maxHeartbeats 4000000
namespace DL
open PySem PySem.Spec PyProof.Rows L2
variable {P : Program} {w : World} {K : PySem.W.Frag} {mg : Str → Option Value} {base : Heap}
theorem enums_get {ds : List D} {i : Nat} {d : D} (h : (enums ds)[i]? = some d) : ∃ z, ds[i]? = some z ∧ d = .tuple [.int (i : Nat), z] := by
  have hi : i < ds.length := by
    have := (List.getElem?_eq_some_iff.mp h).1
    rwa [enums_len] at this
  have e := enums_at (List.getElem?_eq_getElem hi)
  rw [e] at h
  cases h
  exact ⟨_, List.getElem?_eq_getElem hi, rfl⟩
theorem hdd1 {h : Int} (x : Pl) (e : decide (h = 1) = true) : (PyData.tuple [.int x.p, .int (0 - x.s), .int x.r]) = (x.hd h).d := by
  unfold Pl.hd
  rw [if_pos (of_decide_eq_true e), Int.zero_sub] <;> rfl
theorem hdd0 {h : Int} (x : Pl) (e : decide (h = 1) = false) : (PyData.tuple [.int x.p, .int x.s, .int x.r]) = (x.hd h).d := by
  unfold Pl.hd
  rw [if_neg (of_decide_eq_false e)]
def F_check_triple (ds : List D) (d : D) : Prop := ∃ (l : List Pl), ds = [.tuple (l.map Pl.d)] ∧ Tri l ∧ d = .none
theorem ok_check_triple (c : Core K mg) : DefOk P w K mg base 4 "check_triple" ["value"] (pur F_check_triple) := by
  refine mkDef c.check_triple sc_check_triple (fun _ _ _ _ _ _ us hl => match us, hl with | [_], _ => rfl) (len_pur fun ds d h0 => by obtain ⟨_, h, _⟩ := h0; rw [h] <;> rfl) fun f cdv A outer s H E hr O C ss Q hq => ?_
  obtain ⟨_, _, rfl, ⟨l, rfl, h1, rfl⟩, q⟩ := hq
  refine b_ifF (et_is (et_not (et_val (isi "tuple" (k := true) c.b_isinstance c.b_tuple (V 0 rfl) (by decide +kernel) (kit_ty (by decide +kernel))))) rfl) ?_
  refine b_for PassesOwn.never (iv_enum c.b_enumerate (V 0 rfl)) (fun i Δ1 C1 => C1 = C ∧ ∃ s t, Δ1 = [.dat (.tuple (l.map Pl.d)), s, t]) ⟨rfl, .no, .no, rfl⟩ ?_ ?_
  · rintro i Δ1 C1 d hd ⟨rfl, s, t, rfl⟩
    obtain ⟨z, hz, rfl⟩ := enums_get hd
    rw [List.getElem?_map] at hz
    obtain ⟨x, hx, rfl⟩ := Option.map_eq_some_iff.mp hz
    have hi := (List.getElem?_eq_some_iff.mp hx).1
    have hi3 : i < 3 := by rw [h1.len] at hi; exact hi
    have nin : x ∉ l.take i := fun z => by
      obtain ⟨j, hj, e⟩ := List.mem_iff_getElem.mp z
      rw [List.length_take] at hj
      rw [List.getElem_take] at e
      have e2 : l[i] = x := by
        rw [List.getElem?_eq_getElem hi] at hx
        exact Option.some.inj hx
      have p := List.pairwise_iff_getElem.mp h1.nd j i (by omega) hi (by omega)
      exact p (e.trans e2.symm)
    refine ⟨_, _, tg_tup (tgs_cons (tg_name (i := 1) sc_check_triple.nd) (tgs_cons (tg_name (i := 2) sc_check_triple.nd) tgs_nil)), b_ifF (et_is (EvW.t (ew_or (t_eq hr (V 1 rfl) (ev_glo c.k_MANY)) fun _ => ew_or (et_not (et_val (e_is_place c hr (V 2 rfl) (h1.ok x (List.mem_of_getElem? hx))))) fun _ => ew_or1 (t_in hr (V 2 rfl) (ev_toK (ds := l.map Pl.d) i (V 0 rfl) (V 1 rfl)) rfl rfl ?_))) ?_) (b_nil ⟨rfl, .dat (.int (i : Nat)), .dat x.d, rfl⟩)⟩
    · rw [← List.map_take]
      exact lay_P _
    · rw [← List.map_take, any_P, decide_eq_false nin, decide_eq_false (by omega)] <;> rfl
  · rintro Δ1 C1 ⟨rfl, s, t, rfl⟩
    refine b_ifF (et_is (et_lt (ev_len c.b_len (V 0 rfl) rfl) (ev_glo c.k_MANY)) ?_) (b_nil q)
    rw [List.length_map, h1.len] <;> rfl
theorem e_check_triple {X : Cx} (c : Core X.K X.mg) {O : List Addr} {Δ : List SV} {C : Cont} {pos p : Pos} {k : Nat} {l : List Pl} {a1 : Expr} (hr : Room k X.A) (k1 : EvD X O a1 Δ C (.tuple (l.map Pl.d))) (h1 : Tri l := by first | exact bz | exact bi | exact bf | exact bp | with_reducible assumption | omega) (hk : 4 ≤ k := by decide) (hg : Gl X "check_triple" := by rfl)
    (s0 : starEach [a1] X.env = (false, eval a1 X.env) :: starEach [] X.env := by rfl) : EvD X O (.Call (.Name "check_triple" p) [a1] [] pos) Δ C (.none) :=
  ev_call (ok_check_triple c) (hr.mono hk) (A1 k1 s0) ⟨l, rfl, h1, rfl⟩ hg (by decide) s0 (by rfl)
def F_plain_through (ds : List D) (d : D) : Prop := ∃ (s : List Pl) (g : List Pl), ds = [.tuple (s.map Pl.d), .tuple (g.map Pl.d)] ∧ Tri s ∧ Tri g ∧ (∀ x ∈ s, BP 230 x) ∧ (∀ x ∈ g, BP 230 x) ∧ d = chD 0 (way 0 s g)
theorem ok_plain_through (c : Core K mg) : DefOk P w K mg base 6 "plain_through" ["sources", "goals"] (pur F_plain_through) := by
  refine mkDef c.plain_through sc_plain_through (fun _ _ _ _ _ _ us hl => match us, hl with | [_, _], _ => rfl) (len_pur fun ds d h0 => by obtain ⟨_, _, h, _⟩ := h0; rw [h] <;> rfl) fun f cdv A outer s H E hr O C ss Q hq => ?_
  obtain ⟨_, _, rfl, ⟨s, g, rfl, h1, h2, h3, h4, rfl⟩, q⟩ := hq
  refine b_expr ((e_check_triple c hr (V 0 rfl) h1).p (b_expr ((e_check_triple c hr (V 1 rfl) h2).p ?_)))
  obtain ⟨u, v, w, e1, ou, ov, ow, n1, n2, n3⟩ := h1.eq
  obtain ⟨k, l, m, e2, ok, ol, om, n4, n5, n6⟩ := h2.eq
  subst e1 e2
  have hu := h3 u (by simp)
  have hv := h3 v (by simp)
  have hw := h3 w (by simp)
  have hk := h4 k (by simp)
  have hl := h4 l (by simp)
  have hm := h4 m (by simp)
  have d2 := F4.det_three_ne ok ol om n4 n5 n6
  have z2 := F4.nz_of_det d2
  have d3 := F4.det_form d2
  have d4 : (F4.adj (F4.form (F4.three k l m))).det ≠ 0 := by rw [F4.det_adj]; exact d3
  have b2 := (B4.three hk hl hm).form z2
  have b3 := b2.adj.form (F4.nz_of_det d4)
  have d1 := F4.det_three_ne ou ov ow n1 n2 n3
  have z1 := F4.nz_of_det d1
  have b1 := (B4.three hu hv hw).form z1
  exact b_ret (EvD.p (e_joined c hr (e_way_back c hr (e_chart_to_three c hr (u := k) (v := l) (w := m) (V 1 rfl) rfl (hk.mono (by decide)) (hl.mono (by decide)) (hm.mono (by decide)) z2) (b2.mono (by decide)) d3) (e_chart_to_three c hr (u := u) (v := v) (w := w) (V 0 rfl) rfl (hu.mono (by decide)) (hv.mono (by decide)) (hw.mono (by decide)) z1) (b3.mono (by decide)) (b1.mono (by decide)) (F4.nz_of_det (by rw [F4.det_mul]; exact G.mul_ne (F4.det_form d4) (F4.det_form d1)))) q)
theorem e_plain_through {X : Cx} (c : Core X.K X.mg) {O : List Addr} {Δ : List SV} {C : Cont} {pos p : Pos} {k : Nat} {s : List Pl} {g : List Pl} {a1 a2 : Expr} (hr : Room k X.A) (k1 : EvD X O a1 Δ C (.tuple (s.map Pl.d))) (k2 : EvD X O a2 Δ C (.tuple (g.map Pl.d))) (h1 : Tri s := by first | exact bz | exact bi | exact bf | exact bp | with_reducible assumption | omega) (h2 : Tri g := by first | exact bz | exact bi | exact bf | exact bp | with_reducible assumption | omega) (h3 : (∀ x ∈ s, BP 230 x) := by first | exact bz | exact bi | exact bf | exact bp | with_reducible assumption | omega) (h4 : (∀ x ∈ g, BP 230 x) := by first | exact bz | exact bi | exact bf | exact bp | with_reducible assumption | omega) (hk : 6 ≤ k := by decide) (hg : Gl X "plain_through" := by rfl)
    (s0 : starEach [a1, a2] X.env = (false, eval a1 X.env) :: starEach [a2] X.env := by rfl) (s1 : starEach [a2] X.env = (false, eval a2 X.env) :: starEach [] X.env := by rfl) : EvD X O (.Call (.Name "plain_through" p) [a1, a2] [] pos) Δ C (chD 0 (way 0 s g)) :=
  ev_call (ok_plain_through c) (hr.mono hk) (A2 k1 k2 s0 s1) ⟨s, g, rfl, h1, h2, h3, h4, rfl⟩ hg (by decide) s0 (by rw [s1] <;> rfl)
def F_mirrored_through (ds : List D) (d : D) : Prop := ∃ (s : List Pl) (g : List Pl), ds = [.tuple (s.map Pl.d), .tuple (g.map Pl.d)] ∧ Tri s ∧ Tri g ∧ (∀ x ∈ s, BP 230 x) ∧ (∀ x ∈ g, BP 230 x) ∧ d = chD 1 (way 1 s g)
theorem ok_mirrored_through (c : Core K mg) : DefOk P w K mg base 6 "mirrored_through" ["sources", "goals"] (pur F_mirrored_through) := by
  refine mkDef c.mirrored_through sc_mirrored_through (fun _ _ _ _ _ _ us hl => match us, hl with | [_, _], _ => rfl) (len_pur fun ds d h0 => by obtain ⟨_, _, h, _⟩ := h0; rw [h] <;> rfl) fun f cdv A outer s H E hr O C ss Q hq => ?_
  obtain ⟨_, _, rfl, ⟨s, g, rfl, h1, h2, h3, h4, rfl⟩, q⟩ := hq
  refine b_expr ((e_check_triple c hr (V 0 rfl) h1).p (b_expr ((e_check_triple c hr (V 1 rfl) h2).p ?_)))
  refine (b_map (i := 2) (xs := s) (enc := Pl.d) (val := fun x => x.cj.d) sc_mirrored_through.nd (blkOk_by (own := [("place", 4)]) (N := ["sources", "goals", "images", "found", "place"]) (sc := defScope (topS 47)) (by decide +kernel)) (iv_seq (V 0 rfl) rfl) rfl (fun O' x hx => stepD_all (is := [4]) (by decide) (fun s H A cl fp => (tg_name (i := 4) sc_mirrored_through.nd)) fun s H A cl fp => (T3 (IX (V 4 rfl) rfl rfl) (ev_neg (IX (V 4 rfl) rfl rfl)) (IX (V 4 rfl) rfl rfl))) (by rw [h1.len]; decide) ?_)
  obtain ⟨u, v, w, e1, ou, ov, ow, n1, n2, n3⟩ := h1.eq
  obtain ⟨k, l, m, e2, ok, ol, om, n4, n5, n6⟩ := h2.eq
  subst e1 e2
  have hu := h3 u (by simp)
  have hv := h3 v (by simp)
  have hw := h3 w (by simp)
  have hk := h4 k (by simp)
  have hl := h4 l (by simp)
  have hm := h4 m (by simp)
  have d2 := F4.det_three_ne ok ol om n4 n5 n6
  have z2 := F4.nz_of_det d2
  have d3 := F4.det_form d2
  have d4 : (F4.adj (F4.form (F4.three k l m))).det ≠ 0 := by rw [F4.det_adj]; exact d3
  have b2 := (B4.three hk hl hm).form z2
  have b3 := b2.adj.form (F4.nz_of_det d4)
  have d1 := F4.det_three_ne (Pl.cj_ok ou) (Pl.cj_ok ov) (Pl.cj_ok ow) (fun e => n1 (Pl.cj_inj e)) (fun e => n2 (Pl.cj_inj e)) (fun e => n3 (Pl.cj_inj e))
  have z1 := F4.nz_of_det d1
  have b1 := (B4.three hu.cj hv.cj hw.cj).form z1
  refine b_set (i := 3) sc_mirrored_through.nd ((e_joined c hr (e_way_back c hr (e_chart_to_three c hr (u := k) (v := l) (w := m) (V 1 rfl) rfl (hk.mono (by decide)) (hl.mono (by decide)) (hm.mono (by decide)) z2) (b2.mono (by decide)) d3) (e_chart_to_three c hr (u := u.cj) (v := v.cj) (w := w.cj) (V 2 rfl) rfl (hu.cj.mono (by decide)) (hv.cj.mono (by decide)) (hw.cj.mono (by decide)) z1) (b3.mono (by decide)) (b1.mono (by decide)) (F4.nz_of_det (by rw [F4.det_mul]; exact G.mul_ne (F4.det_form d4) (F4.det_form d1)))).p ?_)
  exact b_ret (EvD.p (ev_tup (ds := .int 1 :: (way 1 [u, v, w] [k, l, m]).ds) (ea_cons ev_int (ea_star (ds := (way 1 [u, v, w] [k, l, m]).ds) (ev_is (ev_fromK (ds := .int 0 :: (way 1 [u, v, w] [k, l, m]).ds) 1 (V 3 rfl) ev_int) rfl) rfl ea_nil)) (by simp)) q)
theorem e_mirrored_through {X : Cx} (c : Core X.K X.mg) {O : List Addr} {Δ : List SV} {C : Cont} {pos p : Pos} {k : Nat} {s : List Pl} {g : List Pl} {a1 a2 : Expr} (hr : Room k X.A) (k1 : EvD X O a1 Δ C (.tuple (s.map Pl.d))) (k2 : EvD X O a2 Δ C (.tuple (g.map Pl.d))) (h1 : Tri s := by first | exact bz | exact bi | exact bf | exact bp | with_reducible assumption | omega) (h2 : Tri g := by first | exact bz | exact bi | exact bf | exact bp | with_reducible assumption | omega) (h3 : (∀ x ∈ s, BP 230 x) := by first | exact bz | exact bi | exact bf | exact bp | with_reducible assumption | omega) (h4 : (∀ x ∈ g, BP 230 x) := by first | exact bz | exact bi | exact bf | exact bp | with_reducible assumption | omega) (hk : 6 ≤ k := by decide) (hg : Gl X "mirrored_through" := by rfl)
    (s0 : starEach [a1, a2] X.env = (false, eval a1 X.env) :: starEach [a2] X.env := by rfl) (s1 : starEach [a2] X.env = (false, eval a2 X.env) :: starEach [] X.env := by rfl) : EvD X O (.Call (.Name "mirrored_through" p) [a1, a2] [] pos) Δ C (chD 1 (way 1 s g)) :=
  ev_call (ok_mirrored_through c) (hr.mono hk) (A2 k1 k2 s0 s1) ⟨s, g, rfl, h1, h2, h3, h4, rfl⟩ hg (by decide) s0 (by rw [s1] <;> rfl)
def F_law_joined (ds : List D) (d : D) : Prop := ∃ (f : F4) (g : F4), ds = [chD 0 f, chD 0 g] ∧ B4 2000 f ∧ B4 2000 g ∧ d = chD 0 (F4.mul f g)
theorem ok_law_joined (c : Core K mg) : DefOk P w K mg base 2 "_law_joined" ["_law_chart_here", "_law_other"] (pur F_law_joined) := by
  refine mkDef c.law_joined sc_law_joined (fun _ _ _ _ _ _ us hl => match us, hl with | [_, _], _ => rfl) (len_pur fun ds d h0 => by obtain ⟨_, _, h, _⟩ := h0; rw [h] <;> rfl) fun f cdv A outer s H E hr O C ss Q hq => ?_
  obtain ⟨_, _, rfl, ⟨f, g, rfl, h1, h2, rfl⟩, q⟩ := hq
  refine b_re (Δ' := [.dat (chD 0 f), .dat (chD 0 g), .no, .no, .no, .no, .no, .no, .no, .no, .no, .no, .no, .no, .no, .no]) rfl ?_
  have i1 : FB _ f := ⟨h1⟩
  have i2 : FB _ g := ⟨h2⟩
  refine b_tgt (V 0 rfl) (tg_seq rfl (tgs_cons (tg_name (i := 2) sc_law_joined.nd) (tgs_cons (tg_name (i := 3) sc_law_joined.nd) (tgs_cons (tg_name (i := 4) sc_law_joined.nd) (tgs_cons (tg_name (i := 5) sc_law_joined.nd) (tgs_cons (tg_name (i := 6) sc_law_joined.nd) tgs_nil)))))) ?_
  refine b_re (Δ' := [.dat (chD 0 f), .dat (chD 0 g), .dat (.int 0), .dat f.a.d, .dat f.b.d, .dat f.c.d, .dat f.d.d, .no, .no, .no, .no, .no, .no, .no, .no, .no]) rfl ?_
  refine b_tgt (V 1 rfl) (tg_seq rfl (tgs_cons (tg_name (i := 7) sc_law_joined.nd) (tgs_cons (tg_name (i := 8) sc_law_joined.nd) (tgs_cons (tg_name (i := 9) sc_law_joined.nd) (tgs_cons (tg_name (i := 10) sc_law_joined.nd) (tgs_cons (tg_name (i := 11) sc_law_joined.nd) tgs_nil)))))) ?_
  refine b_re (Δ' := [.dat (chD 0 f), .dat (chD 0 g), .dat (.int 0), .dat f.a.d, .dat f.b.d, .dat f.c.d, .dat f.d.d, .dat (.int 0), .dat g.a.d, .dat g.b.d, .dat g.c.d, .dat g.d.d, .no, .no, .no, .no]) rfl ?_
  refine b_ifF (et_is (t_eq hr (V 2 rfl) ev_int) rfl) ?_
  refine b_par (i := 12) (j := 13) sc_law_joined.nd ((A2 (e_law_plus c hr (e_law_times c hr (V 3 rfl) (V 8 rfl)) (e_law_times c hr (V 4 rfl) (V 10 rfl))) (e_law_plus c hr (e_law_times c hr (V 3 rfl) (V 9 rfl)) (e_law_times c hr (V 4 rfl) (V 11 rfl)))).p ⟨_, _, rfl, ?_⟩)
  refine b_par (i := 14) (j := 15) sc_law_joined.nd ((A2 (e_law_plus c hr (e_law_times c hr (V 5 rfl) (V 8 rfl)) (e_law_times c hr (V 6 rfl) (V 10 rfl))) (e_law_plus c hr (e_law_times c hr (V 5 rfl) (V 9 rfl)) (e_law_times c hr (V 6 rfl) (V 11 rfl)))).p ⟨_, _, rfl, ?_⟩)
  exact b_ret (EvD.p (T5 (ev_is (z := .int 0) (ev_sub (ev_add (V 2 rfl) (V 7 rfl)) (ev_mul (ev_mul ev_int (V 2 rfl) bi' bi') (V 7 rfl) bi' bi')) rfl) (V 12 rfl) (V 13 rfl) (V 14 rfl) (V 15 rfl)) q)
theorem e_law_joined {X : Cx} (c : Core X.K X.mg) {O : List Addr} {Δ : List SV} {C : Cont} {pos p : Pos} {k : Nat} {f : F4} {g : F4} {a1 a2 : Expr} (hr : Room k X.A) (k1 : EvD X O a1 Δ C (chD 0 f)) (k2 : EvD X O a2 Δ C (chD 0 g)) (h1 : B4 2000 f := by first | exact bz | exact bi | exact bf | exact bp | with_reducible assumption | omega) (h2 : B4 2000 g := by first | exact bz | exact bi | exact bf | exact bp | with_reducible assumption | omega) (hk : 2 ≤ k := by decide) (hg : Gl X "_law_joined" := by rfl)
    (s0 : starEach [a1, a2] X.env = (false, eval a1 X.env) :: starEach [a2] X.env := by rfl) (s1 : starEach [a2] X.env = (false, eval a2 X.env) :: starEach [] X.env := by rfl) : EvD X O (.Call (.Name "_law_joined" p) [a1, a2] [] pos) Δ C (chD 0 (F4.mul f g)) :=
  ev_call (ok_law_joined c) (hr.mono hk) (A2 k1 k2 s0 s1) ⟨f, g, rfl, h1, h2, rfl⟩ hg (by decide) s0 (by rw [s1] <;> rfl)
def F_law_back (ds : List D) (d : D) : Prop := ∃ (f : F4), ds = [chD 0 f] ∧ d = chD 0 (F4.adj f)
theorem ok_law_back (c : Core K mg) : DefOk P w K mg base 2 "_law_back" ["_law_chart_here"] (pur F_law_back) := by
  refine mkDef c.law_back sc_law_back (fun _ _ _ _ _ _ us hl => match us, hl with | [_], _ => rfl) (len_pur fun ds d h0 => by obtain ⟨_, h, _⟩ := h0; rw [h] <;> rfl) fun f cdv A outer s H E hr O C ss Q hq => ?_
  obtain ⟨_, _, rfl, ⟨f, rfl, rfl⟩, q⟩ := hq
  refine b_tgt (V 0 rfl) (tg_seq rfl (tgs_cons (tg_name (i := 1) sc_law_back.nd) (tgs_cons (tg_name (i := 2) sc_law_back.nd) (tgs_cons (tg_name (i := 3) sc_law_back.nd) (tgs_cons (tg_name (i := 4) sc_law_back.nd) (tgs_cons (tg_name (i := 5) sc_law_back.nd) tgs_nil)))))) ?_
  refine b_ifF (et_is (t_eq hr (V 1 rfl) ev_int) rfl) ?_
  exact b_ret (EvD.p (T5 (V 1 rfl) (V 5 rfl) (e_law_minus c hr (V 3 rfl)) (e_law_minus c hr (V 4 rfl)) (V 2 rfl)) q)
theorem e_law_back {X : Cx} (c : Core X.K X.mg) {O : List Addr} {Δ : List SV} {C : Cont} {pos p : Pos} {k : Nat} {f : F4} {a1 : Expr} (hr : Room k X.A) (k1 : EvD X O a1 Δ C (chD 0 f))  (hk : 2 ≤ k := by decide) (hg : Gl X "_law_back" := by rfl)
    (s0 : starEach [a1] X.env = (false, eval a1 X.env) :: starEach [] X.env := by rfl) : EvD X O (.Call (.Name "_law_back" p) [a1] [] pos) Δ C (chD 0 (F4.adj f)) :=
  ev_call (ok_law_back c) (hr.mono hk) (A1 k1 s0) ⟨f, rfl, rfl⟩ hg (by decide) s0 (by rfl)
def F_law_three (ds : List D) (d : D) : Prop := ∃ (u : Pl) (v : Pl) (w : Pl), ds = [u.d, v.d, w.d] ∧ BP 2000 u ∧ BP 2000 v ∧ BP 2000 w ∧ d = chD 0 (F4.three u v w)
theorem ok_law_three (c : Core K mg) : DefOk P w K mg base 2 "_law_three" ["_law_u", "_law_v", "_law_w"] (pur F_law_three) := by
  refine mkDef c.law_three sc_law_three (fun _ _ _ _ _ _ us hl => match us, hl with | [_, _, _], _ => rfl) (len_pur fun ds d h0 => by obtain ⟨_, _, _, h, _⟩ := h0; rw [h] <;> rfl) fun f cdv A outer s H E hr O C ss Q hq => ?_
  obtain ⟨_, _, rfl, ⟨u, v, w, rfl, h1, h2, h3, rfl⟩, q⟩ := hq
  have i1 : PB _ u := ⟨h1⟩
  have i2 : PB _ v := ⟨h2⟩
  have i3 : PB _ w := ⟨h3⟩
  refine b_par3 (i := 5) (j := 6) (l := 7) sc_law_three.nd ((A3 (asZ u.num (T2 (IX (V 0 rfl) rfl rfl) (IX (V 0 rfl) rfl rfl))) (asZ v.num (T2 (IX (V 1 rfl) rfl rfl) (IX (V 1 rfl) rfl rfl))) (asZ w.num (T2 (IX (V 2 rfl) rfl rfl) (IX (V 2 rfl) rfl rfl)))).p ⟨_, _, _, rfl, ?_⟩)
  refine b_set (i := 3) sc_law_three.nd ((ev_is (z := (v.den * w.num - w.den * v.num).d) (e_law_plus c hr (e_law_scaled c hr (IX (V 1 rfl) rfl rfl) (V 7 rfl)) (e_law_minus c hr (e_law_scaled c hr (IX (V 2 rfl) rfl rfl) (V 6 rfl)))) (congrArg G.d (sub_add _ _))).p ?_)
  refine b_set (i := 4) sc_law_three.nd ((ev_is (z := (u.den * w.num - w.den * u.num).d) (e_law_plus c hr (e_law_scaled c hr (IX (V 0 rfl) rfl rfl) (V 7 rfl)) (e_law_minus c hr (e_law_scaled c hr (IX (V 2 rfl) rfl rfl) (V 5 rfl)))) (congrArg G.d (sub_add _ _))).p ?_)
  have j2 : BZ _ (v.den * w.num - w.den * v.num) := ⟨b_apart h2 h3⟩
  have j3 : BZ _ (u.den * w.num - w.den * u.num) := ⟨b_apart h1 h3⟩
  exact b_ret (EvD.p (T5 ev_int (e_law_scaled c hr (IX (V 0 rfl) rfl rfl) (V 3 rfl)) (e_law_minus c hr (e_law_times c hr (V 5 rfl) (V 3 rfl))) (e_law_scaled c hr (IX (V 1 rfl) rfl rfl) (V 4 rfl)) (e_law_minus c hr (e_law_times c hr (V 6 rfl) (V 4 rfl)))) q)
theorem e_law_three {X : Cx} (c : Core X.K X.mg) {O : List Addr} {Δ : List SV} {C : Cont} {pos p : Pos} {k : Nat} {u : Pl} {v : Pl} {w : Pl} {a1 a2 a3 : Expr} (hr : Room k X.A) (k1 : EvD X O a1 Δ C (u.d)) (k2 : EvD X O a2 Δ C (v.d)) (k3 : EvD X O a3 Δ C (w.d)) (h1 : BP 2000 u := by first | exact bz | exact bi | exact bf | exact bp | with_reducible assumption | omega) (h2 : BP 2000 v := by first | exact bz | exact bi | exact bf | exact bp | with_reducible assumption | omega) (h3 : BP 2000 w := by first | exact bz | exact bi | exact bf | exact bp | with_reducible assumption | omega) (hk : 2 ≤ k := by decide) (hg : Gl X "_law_three" := by rfl)
    (s0 : starEach [a1, a2, a3] X.env = (false, eval a1 X.env) :: starEach [a2, a3] X.env := by rfl) (s1 : starEach [a2, a3] X.env = (false, eval a2 X.env) :: starEach [a3] X.env := by rfl) (s2 : starEach [a3] X.env = (false, eval a3 X.env) :: starEach [] X.env := by rfl) : EvD X O (.Call (.Name "_law_three" p) [a1, a2, a3] [] pos) Δ C (chD 0 (F4.three u v w)) :=
  ev_call (ok_law_three c) (hr.mono hk) (A3 k1 k2 k3 s0 s1 s2) ⟨u, v, w, rfl, h1, h2, h3, rfl⟩ hg (by decide) s0 (by rw [s1, s2] <;> rfl)
def F_law_fit (ds : List D) (d : D) : Prop := ∃ (h : Int) (x : Te) (y : Te) (z : Te), ds = [.int h, .list [teD x, teD y, teD z]] ∧ (∀ t ∈ [x, y, z], BP 230 t.1 ∧ BP 230 t.2) ∧ d = chD h (F4.fit3 (x.1.hd h) (y.1.hd h) (z.1.hd h) x.2 y.2 z.2)
theorem ok_law_fit (c : Core K mg) : DefOk P w K mg base 3 "_law_fit" ["_law_hand", "_law_pairs"] (pur F_law_fit) := by
  refine mkDef c.law_fit sc_law_fit (fun _ _ _ _ _ _ us hl => match us, hl with | [_, _], _ => rfl) (len_pur fun ds d h0 => by obtain ⟨_, _, _, _, h, _⟩ := h0; rw [h] <;> rfl) fun f cdv A outer s H E hr O C ss Q hq => ?_
  obtain ⟨_, _, rfl, ⟨h, x, y, z, rfl, h1, rfl⟩, q⟩ := hq
  obtain ⟨x1, x2⟩ := h1 x (by simp)
  obtain ⟨y1, y2⟩ := h1 y (by simp)
  obtain ⟨z1, z2⟩ := h1 z (by simp)
  refine (b_map (i := 2) (xs := [x, y, z]) (enc := teD) (val := fun t => (t.1.hd h).d) sc_law_fit.nd (blkOk_by (own := [("_law_p", 6), ("_law_s", 7), ("_law_r", 8), ("_law_goal", 5)]) (N := ["_law_hand", "_law_pairs", "_law_some", "_law_chart_here", "_law_found", "_law_goal", "_law_p", "_law_s", "_law_r"]) (sc := defScope (topS 94)) (by decide +kernel)) (iv_seq (V 1 rfl) rfl) rfl (fun O' x hx => stepD_all (is := [6, 7, 8, 5]) (by decide) (fun s H A cl fp => (tg_tup (tgs_cons (tg_tup (tgs_cons (tg_name (i := 6) sc_law_fit.nd) (tgs_cons (tg_name (i := 7) sc_law_fit.nd) (tgs_cons (tg_name (i := 8) sc_law_fit.nd) tgs_nil)))) (tgs_cons (tg_name (i := 5) sc_law_fit.nd) tgs_nil)))) fun s H A cl fp => (ev_if (t_eq hr (V 0 rfl) ev_int) (fun e => ev_is (T3 (V 6 rfl) (ev_sub ev_int (V 7 rfl)) (V 8 rfl)) (hdd1 x.1 e)) (fun e => ev_is (T3 (V 6 rfl) (V 7 rfl) (V 8 rfl)) (hdd0 x.1 e)))) (by simp) ?_)
  refine b_set (i := 3) sc_law_fit.nd ((e_law_three c hr (u := x.1.hd h) (v := y.1.hd h) (w := z.1.hd h) (IX (V 2 rfl) rfl rfl) (IX (V 2 rfl) rfl rfl) (IX (V 2 rfl) rfl rfl) ((x1.hd h).mono (by decide)) ((y1.hd h).mono (by decide)) ((z1.hd h).mono (by decide))).p ?_)
  refine b_set (i := 4) sc_law_fit.nd ((e_law_joined c hr (e_law_back c hr (e_law_three c hr (u := x.2) (v := y.2) (w := z.2) (IX (IX (V 1 rfl) rfl rfl) rfl rfl) (IX (IX (V 1 rfl) rfl rfl) rfl rfl) (IX (IX (V 1 rfl) rfl rfl) rfl rfl) (x2.mono (by decide)) (y2.mono (by decide)) (z2.mono (by decide)))) (V 3 rfl) ((B4.three x2 y2 z2).adj.mono (by decide)) ((B4.three (x1.hd h) (y1.hd h) (z1.hd h)).mono (by decide))).p ?_)
  exact b_ret (EvD.p (T5 (V 0 rfl) (IX (V 4 rfl) rfl rfl) (IX (V 4 rfl) rfl rfl) (IX (V 4 rfl) rfl rfl) (IX (V 4 rfl) rfl rfl)) q)
theorem e_law_fit {X : Cx} (c : Core X.K X.mg) {O : List Addr} {Δ : List SV} {C : Cont} {pos p : Pos} {k : Nat} {h : Int} {x : Te} {y : Te} {z : Te} {a1 a2 : Expr} (hr : Room k X.A) (k1 : EvD X O a1 Δ C (.int h)) (k2 : EvD X O a2 Δ C (.list [teD x, teD y, teD z])) (h1 : (∀ t ∈ [x, y, z], BP 230 t.1 ∧ BP 230 t.2) := by first | exact bz | exact bi | exact bf | exact bp | with_reducible assumption | omega) (hk : 3 ≤ k := by decide) (hg : Gl X "_law_fit" := by rfl)
    (s0 : starEach [a1, a2] X.env = (false, eval a1 X.env) :: starEach [a2] X.env := by rfl) (s1 : starEach [a2] X.env = (false, eval a2 X.env) :: starEach [] X.env := by rfl) : EvD X O (.Call (.Name "_law_fit" p) [a1, a2] [] pos) Δ C (chD h (F4.fit3 (x.1.hd h) (y.1.hd h) (z.1.hd h) x.2 y.2 z.2)) :=
  ev_call (ok_law_fit c) (hr.mono hk) (A2 k1 k2 s0 s1) ⟨h, x, y, z, rfl, h1, rfl⟩ hg (by decide) s0 (by rw [s1] <;> rfl)
def F_law_reduced (ds : List D) (d : D) : Prop := ∃ (h : Int) (f : F4), ds = [chD h f] ∧ B4 3990 f ∧ f.Nz ∧ d = chD h (F4.form f)
theorem ok_law_reduced (c : Core K mg) : DefOk P w K mg base 4 "_law_reduced" ["_law_chart_here"] (pur F_law_reduced) := by
  refine mkDef c.law_reduced sc_law_reduced (fun _ _ _ _ _ _ us hl => match us, hl with | [_], _ => rfl) (len_pur fun ds d h0 => by obtain ⟨_, _, h, _⟩ := h0; rw [h] <;> rfl) fun f cdv A outer s H E hr O C ss Q hq => ?_
  obtain ⟨_, _, rfl, ⟨h, f, rfl, h1, h2, rfl⟩, q⟩ := hq
  refine b_tgt (V 0 rfl) (tg_seq rfl (tgs_cons (tg_name (i := 1) sc_law_reduced.nd) (tgs_cons (tg_name (i := 2) sc_law_reduced.nd) (tgs_cons (tg_name (i := 3) sc_law_reduced.nd) (tgs_cons (tg_name (i := 4) sc_law_reduced.nd) (tgs_cons (tg_name (i := 5) sc_law_reduced.nd) tgs_nil)))))) ?_
  exact b_ret (EvD.p (e_law_chart c hr (V 1 rfl) (L4 (V 2 rfl) (V 3 rfl) (V 4 rfl) (V 5 rfl)) rfl h1 h2) q)
theorem e_law_reduced {X : Cx} (c : Core X.K X.mg) {O : List Addr} {Δ : List SV} {C : Cont} {pos p : Pos} {k : Nat} {h : Int} {f : F4} {a1 : Expr} (hr : Room k X.A) (k1 : EvD X O a1 Δ C (chD h f)) (h1 : B4 3990 f := by first | exact bz | exact bi | exact bf | exact bp | with_reducible assumption | omega) (h2 : f.Nz := by first | exact bz | exact bi | exact bf | exact bp | with_reducible assumption | omega) (hk : 4 ≤ k := by decide) (hg : Gl X "_law_reduced" := by rfl)
    (s0 : starEach [a1] X.env = (false, eval a1 X.env) :: starEach [] X.env := by rfl) : EvD X O (.Call (.Name "_law_reduced" p) [a1] [] pos) Δ C (chD h (F4.form f)) :=
  ev_call (ok_law_reduced c) (hr.mono hk) (A1 k1 s0) ⟨h, f, rfl, h1, h2, rfl⟩ hg (by decide) s0 (by rfl)
def F_law_is_map (ds : List D) (d : D) : Prop := ∃ (h : Int) (f : F4), ds = [chD h f] ∧ (h = 0 ∨ h = 1) ∧ f.det ≠ 0 ∧ F4.form f = f ∧ B4 3990 f ∧ d = .bool true
theorem ok_law_is_map (c : Core K mg) : DefOk P w K mg base 4 "_law_is_map" ["_law_value"] (pur F_law_is_map) := by
  refine mkDef c.law_is_map sc_law_is_map (fun _ _ _ _ _ _ us hl => match us, hl with | [_], _ => rfl) (len_pur fun ds d h0 => by obtain ⟨_, _, h, _⟩ := h0; rw [h] <;> rfl) fun f cdv A outer s H E hr O C ss Q hq => ?_
  obtain ⟨_, _, rfl, ⟨h, f, rfl, h1, h2, h3, h4, rfl⟩, q⟩ := hq
  have i1 : FB _ f := ⟨h4⟩
  refine b_ifF (et_is (EvW.t (ew_or (et_not (et_val (isi "tuple" (k := true) c.b_isinstance c.b_tuple (V 0 rfl) (by decide +kernel) (kit_ty (by decide +kernel))))) fun _ => (ew_or (t_ne hr (ev_len c.b_len (V 0 rfl) rfl) ev_int) fun _ => (ew_or (et_not (et_val (e_law_is_whole c hr (IX (V 0 rfl) rfl rfl)))) fun _ => (ew_or1 (t_nin hr (IX (V 0 rfl) rfl rfl) (T2 ev_int ev_int))))))) (by rcases h1 with rfl | rfl <;> rfl)) ?_
  refine b_for PassesOwn.never (iv_seq (ev_fromK 1 (V 0 rfl) ev_int) rfl) (fun i Δ1 C1 => C1 = C ∧ ∃ s, Δ1 = [.dat (chD h f), s, .no, .no, .no, .no]) ⟨rfl, .no, rfl⟩ ?_ ?_
  · rintro i Δ1 C1 d hd ⟨rfl, s, rfl⟩
    have hd : (f.l.map G.d)[i]? = some d := hd
    rw [List.getElem?_map] at hd
    obtain ⟨x, hx, rfl⟩ := Option.map_eq_some_iff.mp hd
    exact ⟨_, _, tg_name (i := 1) sc_law_is_map.nd, b_ifF (et_is (EvW.t (ew_or (et_not (et_val (isi "tuple" (k := true) c.b_isinstance c.b_tuple (V 1 rfl) (by decide +kernel) (kit_ty (by decide +kernel))))) fun _ => (ew_or (t_ne hr (ev_len c.b_len (V 1 rfl) rfl) ev_int) fun _ => (ew_or (et_not (et_val (e_law_is_whole c hr (IX (V 1 rfl) rfl rfl)))) fun _ => (ew_or1 (et_not (et_val (e_law_is_whole c hr (IX (V 1 rfl) rfl rfl))))))))) rfl) (b_nil ⟨rfl, .dat x.d, rfl⟩)⟩
  rintro Δ1 C1 ⟨rfl, s, rfl⟩
  refine b_tgt (ev_fromK 1 (V 0 rfl) ev_int) (tg_seq (ds := f.ds) rfl (tgs_cons (tg_name (i := 2) sc_law_is_map.nd) (tgs_cons (tg_name (i := 3) sc_law_is_map.nd) (tgs_cons (tg_name (i := 4) sc_law_is_map.nd) (tgs_cons (tg_name (i := 5) sc_law_is_map.nd) tgs_nil))))) ?_
  refine b_ret (EvD.p (ev_is (ev_and (k := true) (l := true) (ev_is (q_ne hr (e_law_times c hr (V 2 rfl) (V 5 rfl)) (e_law_times c hr (V 3 rfl) (V 4 rfl))) ?_) fun _ => ev_one (ev_is (q_eq hr (e_law_chart c hr (f := f) (IX (V 0 rfl) rfl rfl) (L4 (V 2 rfl) (V 3 rfl) (V 4 rfl) (V 5 rfl)) rfl h4 (F4.nz_of_det h2)) (V 0 rfl)) (by rw [decide_eq_true ⟨rfl, h3⟩]))) rfl) q)
  rw [decide_eq_false (fun e => h2 (by unfold F4.det; rw [e]; grind))] <;> rfl
theorem e_law_is_map {X : Cx} (c : Core X.K X.mg) {O : List Addr} {Δ : List SV} {C : Cont} {pos p : Pos} {k : Nat} {h : Int} {f : F4} {a1 : Expr} (hr : Room k X.A) (k1 : EvD X O a1 Δ C (chD h f)) (h1 : (h = 0 ∨ h = 1) := by first | exact bz | exact bi | exact bf | exact bp | with_reducible assumption | omega) (h2 : f.det ≠ 0 := by first | exact bz | exact bi | exact bf | exact bp | with_reducible assumption | omega) (h3 : F4.form f = f := by first | exact bz | exact bi | exact bf | exact bp | with_reducible assumption | omega) (h4 : B4 3990 f := by first | exact bz | exact bi | exact bf | exact bp | with_reducible assumption | omega) (hk : 4 ≤ k := by decide) (hg : Gl X "_law_is_map" := by rfl)
    (s0 : starEach [a1] X.env = (false, eval a1 X.env) :: starEach [] X.env := by rfl) : EvD X O (.Call (.Name "_law_is_map" p) [a1] [] pos) Δ C (.bool true) :=
  ev_call (ok_law_is_map c) (hr.mono hk) (A1 k1 s0) ⟨h, f, rfl, h1, h2, h3, h4, rfl⟩ hg (by decide) s0 (by rfl)
def F_law_is_fit (ds : List D) (d : D) : Prop := ∃ (h : Int) (f : F4) (ts : List Te), ds = [chD h f, tsD ts] ∧ B4 2000 f ∧ (∀ t ∈ ts, BP 1000 t.1 ∧ BP 1000 t.2) ∧ d = .bool (relB h f ts)
theorem ok_law_is_fit (c : Core K mg) : DefOk P w K mg base 2 "_law_is_fit" ["_law_chart_here", "_law_tests_here"] (pur F_law_is_fit) := by
  refine mkDef c.law_is_fit sc_law_is_fit (fun _ _ _ _ _ _ us hl => match us, hl with | [_, _], _ => rfl) (len_pur fun ds d h0 => by obtain ⟨_, _, _, h, _⟩ := h0; rw [h] <;> rfl) fun f cdv A outer s H E hr O C ss Q hq => ?_
  obtain ⟨_, _, rfl, ⟨h, f, ts, rfl, h1, h2, rfl⟩, q⟩ := hq
  have i1 : FB _ f := ⟨h1⟩
  refine b_tgt (V 0 rfl) (tg_seq rfl (tgs_cons (tg_name (i := 2) sc_law_is_fit.nd) (tgs_cons (tg_name (i := 3) sc_law_is_fit.nd) (tgs_cons (tg_name (i := 4) sc_law_is_fit.nd) (tgs_cons (tg_name (i := 5) sc_law_is_fit.nd) (tgs_cons (tg_name (i := 6) sc_law_is_fit.nd) tgs_nil)))))) ?_
  refine b_for PassesOwn.never (iv_tup (V 1 rfl)) (fun i Δ1 C1 => C1 = C ∧ (∃ s1 s2 s3 s4 s5 s6 s7 s8 s9, Δ1 = [.dat (chD h f), .dat (tsD ts), .dat (.int h), .dat f.a.d, .dat f.b.d, .dat f.c.d, .dat f.d.d, s1, s2, s3, s4, s5, s6, s7, s8, s9]) ∧ relB h f (ts.take i) = true) ⟨rfl, ⟨.no, .no, .no, .no, .no, .no, .no, .no, .no, rfl⟩, rfl⟩ ?_ ?_
  · rintro i Δ1 C1 d hd ⟨rfl, ⟨s1, s2, s3, s4, s5, s6, s7, s8, s9, rfl⟩, hp⟩
    rw [List.getElem?_map] at hd
    obtain ⟨t, ht, rfl⟩ := Option.map_eq_some_iff.mp hd
    obtain ⟨b1, b2⟩ := h2 t (List.mem_of_getElem? ht)
    have i2 : PB _ t.1 := ⟨b1⟩
    have i3 : PB _ t.2 := ⟨b2⟩
    refine ⟨_, _, tg_tup (tgs_cons (tg_tup (tgs_cons (tg_name (i := 10) sc_law_is_fit.nd) (tgs_cons (tg_name (i := 11) sc_law_is_fit.nd) (tgs_cons (tg_name (i := 12) sc_law_is_fit.nd) tgs_nil)))) (tgs_cons (tg_tup (tgs_cons (tg_name (i := 13) sc_law_is_fit.nd) (tgs_cons (tg_name (i := 14) sc_law_is_fit.nd) (tgs_cons (tg_name (i := 15) sc_law_is_fit.nd) tgs_nil)))) tgs_nil)), ?_⟩
    refine b_set (i := 7) sc_law_is_fit.nd ((ev_if (d := (t.1.hd h).num.d) (t_eq hr (V 2 rfl) ev_int) (fun e => ev_is (asG (T2 (V 10 rfl) (ev_sub ev_int (V 11 rfl)))) (by rw [hd_num1 t.1 e, Int.zero_sub])) (fun e => ev_is (asG (T2 (V 10 rfl) (V 11 rfl))) (by rw [hd_num0 t.1 e] <;> rfl))).p ?_)
    have et : f.a * (t.1.hd h).num + G.ofI t.1.r * f.b = f.top (t.1.hd h) := by unfold F4.top; rw [hd_den] <;> rfl
    have eb : f.c * (t.1.hd h).num + G.ofI t.1.r * f.d = f.bot (t.1.hd h) := by unfold F4.bot; rw [hd_den] <;> rfl
    refine b_set (i := 8) sc_law_is_fit.nd ((ev_is (e_law_plus c hr (e_law_times c hr (V 3 rfl) (V 7 rfl)) (e_law_scaled c hr (V 12 rfl) (V 4 rfl))) (congrArg G.d et)).p ?_)
    refine b_set (i := 9) sc_law_is_fit.nd ((ev_is (e_law_plus c hr (e_law_times c hr (V 5 rfl) (V 7 rfl)) (e_law_scaled c hr (V 12 rfl) (V 6 rfl))) (congrArg G.d eb)).p ?_)
    have j1 : BZ _ (f.top (t.1.hd h)) := ⟨h1.top (b1.hd h)⟩
    have j2 : BZ _ (f.bot (t.1.hd h)) := ⟨h1.bot (b1.hd h)⟩
    have step : relB h f (ts.take (i + 1)) = decide (t.2.den * f.top (t.1.hd h) = t.2.num * f.bot (t.1.hd h)) := by
      unfold relB at hp ⊢
      rw [List.take_add_one, ht, List.all_append, hp] <;> simp
    refine b_ifB (t_ne hr (e_law_scaled c hr (V 15 rfl) (V 8 rfl)) (e_law_times c hr (asZ t.2.num (T2 (V 13 rfl) (V 14 rfl))) (V 9 rfl))) (fun e => b_ret (EvD.p ev_bl ?_)) fun e => b_nil (b_nil ⟨rfl, ⟨_, _, _, _, _, _, _, _, _, rfl⟩, ?_⟩)
    · have e : decide (t.2.den * f.top (t.1.hd h) = t.2.num * f.bot (t.1.hd h)) = false := by
        cases z : decide (t.2.den * f.top (t.1.hd h) = t.2.num * f.bot (t.1.hd h)) with
        | true =>
          have z : decide (G.ofI t.2.r * f.top (t.1.hd h) = t.2.num * f.bot (t.1.hd h)) = true := z
          rw [z] at e
          cases e
        | false => rfl
      have : relB h f ts = false := by
        unfold relB
        exact List.all_eq_false.mpr ⟨t, List.mem_of_getElem? ht, by rw [e]; decide⟩
      rw [this] at q
      exact q
    · rw [step]
      cases z : decide (t.2.den * f.top (t.1.hd h) = t.2.num * f.bot (t.1.hd h)) with
      | true => rfl
      | false =>
        have z : decide (G.ofI t.2.r * f.top (t.1.hd h) = t.2.num * f.bot (t.1.hd h)) = false := z
        rw [z] at e
        cases e
  · rintro Δ1 C1 ⟨rfl, ⟨s1, s2, s3, s4, s5, s6, s7, s8, s9, rfl⟩, hp⟩
    rw [List.length_map, List.take_length] at hp
    rw [hp] at q
    exact b_ret (EvD.p ev_bl q)
theorem e_law_is_fit {X : Cx} (c : Core X.K X.mg) {O : List Addr} {Δ : List SV} {C : Cont} {pos p : Pos} {k : Nat} {h : Int} {f : F4} {ts : List Te} {a1 a2 : Expr} (hr : Room k X.A) (k1 : EvD X O a1 Δ C (chD h f)) (k2 : EvD X O a2 Δ C (tsD ts)) (h1 : B4 2000 f := by first | exact bz | exact bi | exact bf | exact bp | with_reducible assumption | omega) (h2 : (∀ t ∈ ts, BP 1000 t.1 ∧ BP 1000 t.2) := by first | exact bz | exact bi | exact bf | exact bp | with_reducible assumption | omega) (hk : 2 ≤ k := by decide) (hg : Gl X "_law_is_fit" := by rfl)
    (s0 : starEach [a1, a2] X.env = (false, eval a1 X.env) :: starEach [a2] X.env := by rfl) (s1 : starEach [a2] X.env = (false, eval a2 X.env) :: starEach [] X.env := by rfl) : EvD X O (.Call (.Name "_law_is_fit" p) [a1, a2] [] pos) Δ C (.bool (relB h f ts)) :=
  ev_call (ok_law_is_fit c) (hr.mono hk) (A2 k1 k2 s0 s1) ⟨h, f, ts, rfl, h1, h2, rfl⟩ hg (by decide) s0 (by rw [s1] <;> rfl)
end DL

/-! part Df6 -/
set_option Elab.async false
set_option linter.all false
set_option maxRecDepth 100000
set_option maxHeartbeats 4000000
namespace DL
open PySem PySem.Spec PyProof.Rows L2
variable {P : Program} {w : World} {K : PySem.W.Frag} {mg : Str → Option Value} {base : Heap}
abbrev natD (i : Nat) : D := .int (i : Nat)
abbrev natsD (l : List Nat) : D := .list (l.map natD)
def opD : Option (Nat × Nat) → D
  | none => .none
  | some (i, j) => .tuple [.int (i : Nat), .int (j : Nat)]
def cfD (h : Int) (ts : List Te) : D := match chartFor h ts with
  | none => .none
  | some f => chD h f
instance qB {x y : Bool} : Eqv (.bool x) (.bool y) (x == y) := ⟨rfl⟩
theorem tat_get {ts : List Te} {i : Nat} (h : i < ts.length) : (ts.map teD)[((i : Nat) : Int).toNat]? = some (teD (tat ts i)) := by
  rw [List.getElem?_map, Int.toNat_natCast, List.getElem?_eq_getElem h, tat_eq (List.getElem?_eq_getElem h)] <;> rfl
theorem enums_T (ts : List Te) : enums (ts.map teD) = (List.range ts.length).map fun i => .tuple [.int (i : Nat), teD (tat ts i)] := by
  unfold enums
  rw [List.length_map]
  refine List.map_congr_left fun i hi => ?_
  have h := tat_get (List.mem_range.mp hi)
  rw [Int.toNat_natCast] at h
  rw [List.getD_eq_getElem?_getD, h] <;> rfl
theorem not_self {b : Bool} (h : b = true) : (!b) = false := by rw [h] <;> rfl
def F_is_test (ds : List D) (d : D) : Prop := ∃ (t : Te), ds = [teD t] ∧ t.1.ok ∧ t.2.ok ∧ d = .bool true
theorem ok_is_test (c : Core K mg) : DefOk P w K mg base 4 "is_test" ["value"] (pur F_is_test) := by
  refine mkDef c.is_test sc_is_test (fun _ _ _ _ _ _ us hl => match us, hl with | [_], _ => rfl) (len_pur fun ds d h0 => by obtain ⟨_, h, _⟩ := h0; rw [h] <;> rfl) fun f cdv A outer s H E hr O C ss Q hq => ?_
  obtain ⟨_, _, rfl, ⟨t, rfl, h1, h2, rfl⟩, q⟩ := hq
  exact b_ret (EvD.p (ev_is (z := .bool true) (ev_and (isi "tuple" (k := true) c.b_isinstance c.b_tuple (V 0 rfl) (by decide +kernel) (kit_ty (by decide +kernel))) fun _ => (ev_and (q_eq hr (ev_len c.b_len (V 0 rfl) rfl) ev_int) fun _ => (ev_and (e_is_place c hr (IX (V 0 rfl) rfl rfl) h1) fun _ => (ev_one (e_is_place c hr (IX (V 0 rfl) rfl rfl) h2))))) rfl) q)
theorem e_is_test {X : Cx} (c : Core X.K X.mg) {O : List Addr} {Δ : List SV} {C : Cont} {pos p : Pos} {k : Nat} {t : Te} {a1 : Expr} (hr : Room k X.A) (k1 : EvD X O a1 Δ C (teD t)) (h1 : t.1.ok := by first | exact bz | exact bi | exact bf | exact bp | with_reducible assumption | omega) (h2 : t.2.ok := by first | exact bz | exact bi | exact bf | exact bp | with_reducible assumption | omega) (hk : 4 ≤ k := by decide) (hg : Gl X "is_test" := by rfl)
    (s0 : starEach [a1] X.env = (false, eval a1 X.env) :: starEach [] X.env := by rfl) : EvD X O (.Call (.Name "is_test" p) [a1] [] pos) Δ C (.bool true) :=
  ev_call (ok_is_test c) (hr.mono hk) (A1 k1 s0) ⟨t, rfl, h1, h2, rfl⟩ hg (by decide) s0 (by rfl)
def F_check_tests (ds : List D) (d : D) : Prop := ∃ (ts : List Te), ds = [tsD ts] ∧ Valid ts ∧ ts.length ≤ 8 ∧ d = .none
theorem ok_check_tests (c : Core K mg) : DefOk P w K mg base 5 "check_tests" ["value"] (pur F_check_tests) := by
  refine mkDef c.check_tests sc_check_tests (fun _ _ _ _ _ _ us hl => match us, hl with | [_], _ => rfl) (len_pur fun ds d h0 => by obtain ⟨_, h, _⟩ := h0; rw [h] <;> rfl) fun f cdv A outer s H E hr O C ss Q hq => ?_
  obtain ⟨_, _, rfl, ⟨ts, rfl, h1, h2, rfl⟩, q⟩ := hq
  refine b_ifF (et_is (et_not (et_val (isi "tuple" (k := true) c.b_isinstance c.b_tuple (V 0 rfl) (by decide +kernel) (kit_ty (by decide +kernel))))) rfl) ?_
  refine b_for PassesOwn.never (iv_enum c.b_enumerate (V 0 rfl)) (fun i Δ1 C1 => C1 = C ∧ ∃ s t, Δ1 = [.dat (tsD ts), s, t]) ⟨rfl, .no, .no, rfl⟩ ?_ ?_
  · rintro i Δ1 C1 d hd ⟨rfl, s, t, rfl⟩
    obtain ⟨z, hz, rfl⟩ := enums_get hd
    rw [List.getElem?_map] at hz
    obtain ⟨x, hx, rfl⟩ := Option.map_eq_some_iff.mp hz
    have hi := (List.getElem?_eq_some_iff.mp hx).1
    have m := List.mem_of_getElem? hx
    refine ⟨_, _, tg_tup (tgs_cons (tg_name (i := 1) sc_check_tests.nd) (tgs_cons (tg_name (i := 2) sc_check_tests.nd) tgs_nil)), b_ifF (et_is (EvW.t (ew_or (t_eq hr (V 1 rfl) (ev_glo c.k_MOST)) fun _ => ew_or1 (et_not (et_val (e_is_test c hr (V 2 rfl) (h1.s x m) (h1.g x m)))))) ?_) (b_nil ⟨rfl, .dat (.int (i : Nat)), .dat (teD x), rfl⟩)⟩
    rw [decide_eq_false (by omega)] <;> rfl
  · rintro Δ1 C1 ⟨rfl, s, t, rfl⟩
    exact b_nil q
theorem e_check_tests {X : Cx} (c : Core X.K X.mg) {O : List Addr} {Δ : List SV} {C : Cont} {pos p : Pos} {k : Nat} {ts : List Te} {a1 : Expr} (hr : Room k X.A) (k1 : EvD X O a1 Δ C (tsD ts)) (h1 : Valid ts := by first | exact bz | exact bi | exact bf | exact bp | with_reducible assumption | omega) (h2 : ts.length ≤ 8 := by first | exact bz | exact bi | exact bf | exact bp | with_reducible assumption | omega) (hk : 5 ≤ k := by decide) (hg : Gl X "check_tests" := by rfl)
    (s0 : starEach [a1] X.env = (false, eval a1 X.env) :: starEach [] X.env := by rfl) : EvD X O (.Call (.Name "check_tests" p) [a1] [] pos) Δ C (.none) :=
  ev_call (ok_check_tests c) (hr.mono hk) (A1 k1 s0) ⟨ts, rfl, h1, h2, rfl⟩ hg (by decide) s0 (by rfl)
def F_check_hand (ds : List D) (d : D) : Prop := ∃ (h : Int), ds = [.int h] ∧ (h = 0 ∨ h = 1) ∧ d = .none
theorem ok_check_hand (c : Core K mg) : DefOk P w K mg base 3 "check_hand" ["hand"] (pur F_check_hand) := by
  refine mkDef c.check_hand sc_check_hand (fun _ _ _ _ _ _ us hl => match us, hl with | [_], _ => rfl) (len_pur fun ds d h0 => by obtain ⟨_, h, _⟩ := h0; rw [h] <;> rfl) fun f cdv A outer s H E hr O C ss Q hq => ?_
  obtain ⟨_, _, rfl, ⟨h, rfl, h1, rfl⟩, q⟩ := hq
  exact b_ifF (et_is (et_not (et_val (e_is_flag c hr (V 0 rfl) h1))) rfl) (b_nil q)
theorem e_check_hand {X : Cx} (c : Core X.K X.mg) {O : List Addr} {Δ : List SV} {C : Cont} {pos p : Pos} {k : Nat} {h : Int} {a1 : Expr} (hr : Room k X.A) (k1 : EvD X O a1 Δ C (.int h)) (h1 : (h = 0 ∨ h = 1) := by first | exact bz | exact bi | exact bf | exact bp | with_reducible assumption | omega) (hk : 3 ≤ k := by decide) (hg : Gl X "check_hand" := by rfl)
    (s0 : starEach [a1] X.env = (false, eval a1 X.env) :: starEach [] X.env := by rfl) : EvD X O (.Call (.Name "check_hand" p) [a1] [] pos) Δ C (.none) :=
  ev_call (ok_check_hand c) (hr.mono hk) (A1 k1 s0) ⟨h, rfl, h1, rfl⟩ hg (by decide) s0 (by rfl)
def hoD : Option Int → D
  | none => .none
  | some h => .int h
def F_check_hands (ds : List D) (d : D) : Prop := ∃ (o : Option Int), ds = [hoD o] ∧ (o = none ∨ o = some 0 ∨ o = some 1) ∧ d = .none
theorem ok_check_hands (c : Core K mg) : DefOk P w K mg base 4 "check_hands" ["hand"] (pur F_check_hands) := by
  refine mkDef c.check_hands sc_check_hands (fun _ _ _ _ _ _ us hl => match us, hl with | [_], _ => rfl) (len_pur fun ds d h0 => by obtain ⟨_, h, _⟩ := h0; rw [h] <;> rfl) fun f cdv A outer s H E hr O C ss Q hq => ?_
  obtain ⟨_, _, rfl, ⟨o, rfl, h1, rfl⟩, q⟩ := hq
  rcases h1 with rfl | rfl | rfl
  · exact b_ifF (et_is (et_notN (V 0 rfl)) rfl) (b_nil q)
  · exact b_ifT (et_is (et_notN (V 0 rfl)) rfl) (b_expr ((e_check_hand c hr (h := 0) (V 0 rfl) (.inl rfl)).p (b_nil (b_nil q))))
  · exact b_ifT (et_is (et_notN (V 0 rfl)) rfl) (b_expr ((e_check_hand c hr (h := 1) (V 0 rfl) (.inr rfl)).p (b_nil (b_nil q))))
theorem e_check_hands {X : Cx} (c : Core X.K X.mg) {O : List Addr} {Δ : List SV} {C : Cont} {pos p : Pos} {k : Nat} {o : Option Int} {a1 : Expr} (hr : Room k X.A) (k1 : EvD X O a1 Δ C (hoD o)) (h1 : (o = none ∨ o = some 0 ∨ o = some 1) := by first | exact bz | exact bi | exact bf | exact bp | with_reducible assumption | omega) (hk : 4 ≤ k := by decide) (hg : Gl X "check_hands" := by rfl)
    (s0 : starEach [a1] X.env = (false, eval a1 X.env) :: starEach [] X.env := by rfl) : EvD X O (.Call (.Name "check_hands" p) [a1] [] pos) Δ C (.none) :=
  ev_call (ok_check_hands c) (hr.mono hk) (A1 k1 s0) ⟨o, rfl, h1, rfl⟩ hg (by decide) s0 (by rfl)
def F_is_fitting (ds : List D) (d : D) : Prop := ∃ (h : Int) (f : F4) (u : D) (ts : List Te), ds = [chD h f, u] ∧ seqOf u = some (ts.map teD) ∧ B4 2000 f ∧ (∀ t ∈ ts, BP 1000 t.1) ∧ ts.length ≤ 100 ∧ d = .bool (fitB h f ts)
theorem ok_is_fitting (c : Core K mg) : DefOk P w K mg base 5 "is_fitting" ["chart", "tests"] (pur F_is_fitting) := by
  refine mkDef c.is_fitting sc_is_fitting (fun _ _ _ _ _ _ us hl => match us, hl with | [_, _], _ => rfl) (len_pur fun ds d h0 => by obtain ⟨_, _, _, _, h, _⟩ := h0; rw [h] <;> rfl) fun f cdv A outer s H E hr O C ss Q hq => ?_
  obtain ⟨_, _, rfl, ⟨h, f, u, ts, rfl, h1, h2, h3, h4, rfl⟩, q⟩ := hq
  refine b_ret (EvD.p (ev_is (ev_all (bs := ts.map fun t => decide (F4.led h f t.1 = t.2)) c.b_all (ev_is (ev_map (xs := ts) (enc := teD) (val := fun t => .bool (decide (F4.led h f t.1 = t.2))) sc_is_fitting.nd (blkOk_by (own := [("test", 2)]) (N := ["chart", "tests", "test"]) (sc := defScope (topS 56)) (by decide +kernel)) (iv_seq (V 1 rfl) h1) rfl (fun O' x hx => stepD_all (is := [2]) (by decide) (fun s H A cl fp => (tg_name (i := 2) sc_is_fitting.nd)) fun s H A cl fp => (q_eq hr (e_led_by c hr (V 0 rfl) (IX (V 2 rfl) rfl rfl) h2 (h3 x hx)) (IX (V 2 rfl) rfl rfl))) (by omega)) (by rw [List.map_map] <;> rfl))) (by unfold fitB; rw [List.all_map] <;> rfl)) q)
theorem e_is_fitting {X : Cx} (c : Core X.K X.mg) {O : List Addr} {Δ : List SV} {C : Cont} {pos p : Pos} {k : Nat} {h : Int} {f : F4} {u : D} {ts : List Te} {a1 a2 : Expr} (hr : Room k X.A) (k1 : EvD X O a1 Δ C (chD h f)) (k2 : EvD X O a2 Δ C (u)) (h1 : seqOf u = some (ts.map teD) := by first | exact bz | exact bi | exact bf | exact bp | with_reducible assumption | omega) (h2 : B4 2000 f := by first | exact bz | exact bi | exact bf | exact bp | with_reducible assumption | omega) (h3 : (∀ t ∈ ts, BP 1000 t.1) := by first | exact bz | exact bi | exact bf | exact bp | with_reducible assumption | omega) (h4 : ts.length ≤ 100 := by first | exact bz | exact bi | exact bf | exact bp | with_reducible assumption | omega) (hk : 5 ≤ k := by decide) (hg : Gl X "is_fitting" := by rfl)
    (s0 : starEach [a1, a2] X.env = (false, eval a1 X.env) :: starEach [a2] X.env := by rfl) (s1 : starEach [a2] X.env = (false, eval a2 X.env) :: starEach [] X.env := by rfl) : EvD X O (.Call (.Name "is_fitting" p) [a1, a2] [] pos) Δ C (.bool (fitB h f ts)) :=
  ev_call (ok_is_fitting c) (hr.mono hk) (A2 k1 k2 s0 s1) ⟨h, f, u, ts, rfl, h1, h2, h3, h4, rfl⟩ hg (by decide) s0 (by rw [s1] <;> rfl)
def F_are_crossed (ds : List D) (d : D) : Prop := ∃ (t : Te) (u : Te), ds = [teD t, teD u] ∧ d = .bool (crs t u)
theorem ok_are_crossed (c : Core K mg) : DefOk P w K mg base 1 "are_crossed" ["test", "other"] (pur F_are_crossed) := by
  refine mkDef c.are_crossed sc_are_crossed (fun _ _ _ _ _ _ us hl => match us, hl with | [_, _], _ => rfl) (len_pur fun ds d h0 => by obtain ⟨_, _, h, _⟩ := h0; rw [h] <;> rfl) fun f cdv A outer s H E hr O C ss Q hq => ?_
  obtain ⟨_, _, rfl, ⟨t, u, rfl, rfl⟩, q⟩ := hq
  exact b_ret (EvD.p (q_ne hr (q_eq hr (IX (V 0 rfl) rfl rfl) (IX (V 1 rfl) rfl rfl)) (q_eq hr (IX (V 0 rfl) rfl rfl) (IX (V 1 rfl) rfl rfl))) q)
theorem e_are_crossed {X : Cx} (c : Core X.K X.mg) {O : List Addr} {Δ : List SV} {C : Cont} {pos p : Pos} {k : Nat} {t : Te} {u : Te} {a1 a2 : Expr} (hr : Room k X.A) (k1 : EvD X O a1 Δ C (teD t)) (k2 : EvD X O a2 Δ C (teD u))  (hk : 1 ≤ k := by decide) (hg : Gl X "are_crossed" := by rfl)
    (s0 : starEach [a1, a2] X.env = (false, eval a1 X.env) :: starEach [a2] X.env := by rfl) (s1 : starEach [a2] X.env = (false, eval a2 X.env) :: starEach [] X.env := by rfl) : EvD X O (.Call (.Name "are_crossed" p) [a1, a2] [] pos) Δ C (.bool (crs t u)) :=
  ev_call (ok_are_crossed c) (hr.mono hk) (A2 k1 k2 s0 s1) ⟨t, u, rfl, rfl⟩ hg (by decide) s0 (by rw [s1] <;> rfl)
def F_first_crossed (ds : List D) (d : D) : Prop := ∃ (ts : List Te), ds = [tsD ts] ∧ ts.length ≤ 100 ∧ d = opD (cross1 ts)
theorem ok_first_crossed (c : Core K mg) : DefOk P w K mg base 2 "first_crossed" ["tests"] (pur F_first_crossed) := by
  refine mkDef c.first_crossed sc_first_crossed (fun _ _ _ _ _ _ us hl => match us, hl with | [_], _ => rfl) (len_pur fun ds d h0 => by obtain ⟨_, h, _⟩ := h0; rw [h] <;> rfl) fun f cdv A outer s H E hr O C ss Q hq => ?_
  obtain ⟨_, _, rfl, ⟨ts, rfl, h1, rfl⟩, q⟩ := hq
  refine b_for PassesOwn.never (iv_enum c.b_enumerate (V 0 rfl)) (fun i Δ1 C1 => C1 = C ∧ (∃ s t u, Δ1 = [.dat (tsD ts), s, t, u]) ∧ ∀ k, k < i → row1 ts k = none) ⟨rfl, ⟨.no, .no, .no, rfl⟩, fun k h => absurd h (Nat.not_lt_zero k)⟩ ?_ ?_
  · rintro i Δ1 C1 d hd ⟨rfl, ⟨s, t, u, rfl⟩, h0⟩
    obtain ⟨z, hz, rfl⟩ := enums_get hd
    rw [List.getElem?_map] at hz
    obtain ⟨x, hx, rfl⟩ := Option.map_eq_some_iff.mp hz
    have hi := (List.getElem?_eq_some_iff.mp hx).1
    have ex : tat ts i = x := tat_eq hx
    refine ⟨_, _, tg_tup (tgs_cons (tg_name (i := 1) sc_first_crossed.nd) (tgs_cons (tg_name (i := 2) sc_first_crossed.nd) tgs_nil)), ?_⟩
    refine b_for PassesOwn.never (iv_range2 c.b_range (ev_add (V 1 rfl) ev_int) (ev_len c.b_len (V 0 rfl) rfl) (by rw [List.length_map]; omega)) (fun j Δ1 C2 => C2 = C1 ∧ (∃ s, Δ1 = [.dat (tsD ts), .dat (.int (i : Nat)), .dat (teD x), s]) ∧ ∀ k, i < k → k < i + 1 + j → crs (tat ts i) (tat ts k) = false) ⟨rfl, ⟨u, rfl⟩, fun k a b => by omega⟩ ?_ ?_
    · rintro j Δ2 C2 d hd ⟨rfl, ⟨s, rfl⟩, hj⟩
      have hl := (List.getElem?_eq_some_iff.mp hd).1
      rw [ups_len, List.length_map] at hl
      have hd2 := ups_at (lo := (i : Nat) + 1) (i := j) (n := (((ts.map teD).length : Int) - ((i : Nat) + 1)).toNat) (by rw [List.length_map]; exact hl)
      rw [hd2] at hd
      have ed : d = natD (i + 1 + j) := by
        cases hd
        show PyData.int _ = .int _
        exact congrArg _ (by omega)
      subst ed
      have hlt : i + 1 + j < ts.length := by omega
      refine ⟨_, _, tg_name (i := 3) sc_first_crossed.nd, b_ifB (et_val (e_are_crossed c hr (V 2 rfl) (ev_ix (V 0 rfl) (V 3 rfl) rfl (tat_get hlt) (by omega)))) (fun h => b_ret (EvD.p (T2 (V 1 rfl) (V 3 rfl)) ?_)) fun h => b_nil (b_nil ⟨rfl, ⟨.dat (natD (i + 1 + j)), rfl⟩, fun k a b => ?_⟩)⟩
      · rw [← ex] at h
        rw [cross1_at hi h0 (row1_some (by omega) hlt h hj)] at q
        exact q
      · rcases Nat.lt_or_ge k (i + 1 + j) with l | l
        · exact hj k a l
        · have e : k = i + 1 + j := by omega
          rw [e, ex]
          exact h
    · rintro Δ2 C2 ⟨rfl, ⟨s, rfl⟩, hj⟩
      refine b_nil ⟨rfl, ⟨.dat (.int (i : Nat)), .dat (teD x), s, rfl⟩, fun k hk => ?_⟩
      rcases Nat.lt_or_ge k i with l | l
      · exact h0 k l
      · have e : k = i := by omega
        rw [e]
        refine row1_none fun k a b => hj k a ?_
        rw [ups_len, List.length_map]
        omega
  · rintro Δ1 C1 ⟨rfl, ⟨s, t, u, rfl⟩, h0⟩
    rw [enums_len, List.length_map] at h0
    rw [cross1_no h0] at q
    exact b_ret (EvD.p ev_non q)
theorem e_first_crossed {X : Cx} (c : Core X.K X.mg) {O : List Addr} {Δ : List SV} {C : Cont} {pos p : Pos} {k : Nat} {ts : List Te} {a1 : Expr} (hr : Room k X.A) (k1 : EvD X O a1 Δ C (tsD ts)) (h1 : ts.length ≤ 100 := by first | exact bz | exact bi | exact bf | exact bp | with_reducible assumption | omega) (hk : 2 ≤ k := by decide) (hg : Gl X "first_crossed" := by rfl)
    (s0 : starEach [a1] X.env = (false, eval a1 X.env) :: starEach [] X.env := by rfl) : EvD X O (.Call (.Name "first_crossed" p) [a1] [] pos) Δ C (opD (cross1 ts)) :=
  ev_call (ok_first_crossed c) (hr.mono hk) (A1 k1 s0) ⟨ts, rfl, h1, rfl⟩ hg (by decide) s0 (by rfl)
def F_unlike_in (ds : List D) (d : D) : Prop := ∃ (ts : List Te), ds = [tsD ts] ∧ ts.length ≤ 100 ∧ d = natsD (unlike ts)
theorem ok_unlike_in (c : Core K mg) : DefOk P w K mg base 1 "unlike_in" ["tests"] (pur F_unlike_in) := by
  refine mkDef c.unlike_in sc_unlike_in (fun _ _ _ _ _ _ us hl => match us, hl with | [_], _ => rfl) (len_pur fun ds d h0 => by obtain ⟨_, h, _⟩ := h0; rw [h] <;> rfl) fun f cdv A outer s H E hr O C ss Q hq => ?_
  obtain ⟨_, _, rfl, ⟨ts, rfl, h1, rfl⟩, q⟩ := hq
  refine b_ret (EvD.p (ev_lc (xs := List.range ts.length) (enc := fun i => .tuple [.int (i : Nat), teD (tat ts i)]) (val := natD) sc_unlike_in.nd (blkOk_by (own := [("index", 1), ("test", 2)]) (N := ["tests", "index", "test"]) (sc := defScope (topS 59)) (by decide +kernel)) (iv_enum c.b_enumerate (V 0 rfl)) (enums_T ts) (fun O' x hx => stepD_if (is := [1, 2]) (by decide) (fun s H A cl fp => (tg_tup (tgs_cons (tg_name (i := 1) sc_unlike_in.nd) (tgs_cons (tg_name (i := 2) sc_unlike_in.nd) tgs_nil)))) (fun s H A cl fp => (et_is (t_nin hr (V 2 rfl) (ev_toK (ds := ts.map teD) x (V 0 rfl) (V 1 rfl)) rfl rfl (by rw [← List.map_take]; exact lay_T _)) (by rw [← List.map_take, any_T] <;> rfl))) fun _ s H A cl fp => (V 1 rfl)) (by rw [List.length_range]; omega)) q)
theorem e_unlike_in {X : Cx} (c : Core X.K X.mg) {O : List Addr} {Δ : List SV} {C : Cont} {pos p : Pos} {k : Nat} {ts : List Te} {a1 : Expr} (hr : Room k X.A) (k1 : EvD X O a1 Δ C (tsD ts)) (h1 : ts.length ≤ 100 := by first | exact bz | exact bi | exact bf | exact bp | with_reducible assumption | omega) (hk : 1 ≤ k := by decide) (hg : Gl X "unlike_in" := by rfl)
    (s0 : starEach [a1] X.env = (false, eval a1 X.env) :: starEach [] X.env := by rfl) : EvD X O (.Call (.Name "unlike_in" p) [a1] [] pos) Δ C (natsD (unlike ts)) :=
  ev_call (ok_unlike_in c) (hr.mono hk) (A1 k1 s0) ⟨ts, rfl, h1, rfl⟩ hg (by decide) s0 (by rfl)
end DL

/-! part Df7 -/
set_option Elab.async false
set_option linter.all false
set_option maxRecDepth 100000
set_option maxHeartbeats 4000000
namespace DL
open PySem PySem.Spec PyProof.Rows L2
variable {P : Program} {w : World} {K : PySem.W.Frag} {mg : Str → Option Value} {base : Heap}
theorem ea_is {X : Cx} {O : List Addr} {es : List Expr} {Δ : List SV} {C : Cont} {ss st : List SV} (h : EvA X O es Δ C ss) (e : ss = st) : EvA X O es Δ C st := e ▸ h
def C_spare (ss : List SV) (C : Cont) (q : SV → Cont → Prop) : Prop := ∃ p l, ss = [.own p] ∧ (p, l.map Pl.d) ∈ C ∧ l.length ≤ 4 ∧ q (.dat (spare l).d) C
theorem ok_spare_beside (c : Core K mg) : DefOk P w K mg base 1 "spare_beside" ["used"] C_spare := by
  refine mkDef c.spare_beside sc_spare_beside (fun _ _ _ _ _ _ us hl => match us, hl with | [_], _ => rfl) (fun ss C q ⟨_, _, h, _⟩ => by rw [h] <;> rfl) fun f cdv A outer s H E hr O C ss Q hq => ?_
  obtain ⟨p, l, rfl, m, hl, q⟩ := hq
  refine b_ret (EvD.p (ev_ix (z := (spare l).d) (ev_lc (keep := fun x => !decide (x ∈ l)) (xs := spares) (enc := Pl.d) (val := Pl.d) sc_spare_beside.nd (blkOk_by (own := [("place", 1)]) (N := ["used", "place"]) (sc := defScope (topS 60)) (by decide +kernel)) (iv_seq (ev_glo c.k_SPARE) rfl) rfl (fun O' x hx => stepD_if (is := [1]) (by decide) (fun s H A cl fp => (tg_name (i := 1) sc_spare_beside.nd)) (fun s H A cl fp => (et_is (et_ninO (i := 0) (hu65 hr) (V 1 rfl) rfl m rfl (lay_P l)) (by rw [any_P]))) fun _ s H A cl fp => (V 1 rfl)) (by decide)) (ev_int (i := 0)) rfl ?_) q)
  rw [List.getElem?_map, show (0 : Int).toNat = 0 from rfl, head_get Pl.far (spare_some hl)] <;> rfl
def hl : Option Int → List Int
  | none => [0, 1]
  | some h => [h]
def chs (o : Option Int) (ts : List Te) : List D := (hl o).filterMap fun h => (chartFor h ts).map (chD h)
def notN : D → Bool
  | .none => false
  | _ => true
def fitD (o : Option Int) (ts : List Te) : D := (chs o ts).headD .none
def barD (h : Int) (ts : List Te) : D := match cross1 ts with
  | some (i, j) => .tuple [.str "crossed", natD i, natD j]
  | none => if (chartFor h ts).isSome = true then .none else .tuple (.str "other" :: (((unlike ts).take 3).map natD ++ [natD ((late h (way h (srcs ts) (gols ts)) ts).headD 0)]))
section
variable {X : Cx} {O : List Addr} {Δ : List SV} {C : Cont} {pos : Pos} {a : Expr} {d : D}
theorem t_notN {j pos'} (ha : EvD X O a Δ C d) : EvT X O (.Compare a [.IsNot] [.Constant .none j pos'] pos) Δ C (notN d) := et_is (et_notN ha) (by cases d <;> rfl)
theorem t_isN {j pos'} (ha : EvD X O a Δ C d) : EvT X O (.Compare a [.Is] [.Constant .none j pos'] pos) Δ C (!notN d) := et_is (et_isN ha) (by cases d <;> rfl)
theorem e_isN {j pos'} (ha : EvD X O a Δ C d) : EvD X O (.Compare a [.Is] [.Constant .none j pos'] pos) Δ C (.bool (!notN d)) := ev_is (ev_isN ha) (by cases d <;> rfl)
end
def F_chart_through (ds : List D) (d : D) : Prop := ∃ (u : D) (h : Int) (ts : List Te), ds = [u, .int h] ∧ seqOf u = some (ts.map teD) ∧ ts.length ≤ 3 ∧ (h = 0 ∨ h = 1) ∧ Tri (pad3 (ts.map (·.1))) ∧ Tri (pad3 (ts.map (·.2))) ∧ (∀ x ∈ pad3 (ts.map (·.1)), BP 230 x) ∧ (∀ x ∈ pad3 (ts.map (·.2)), BP 230 x) ∧ d = chD h (way h (pad3 (ts.map (·.1))) (pad3 (ts.map (·.2))))
theorem ok_chart_through (c : Core K mg) : DefOk P w K mg base 7 "chart_through" ["tests", "hand"] (pur F_chart_through) := by
  refine mkDef c.chart_through sc_chart_through (fun _ _ _ _ _ _ us hl => match us, hl with | [_, _], _ => rfl) (len_pur fun ds d h0 => by obtain ⟨_, _, _, h, _⟩ := h0; rw [h] <;> rfl) fun f cdv A outer s H E hr O C ss Q hq => ?_
  obtain ⟨_, _, rfl, ⟨u, h, ts, rfl, h1, h2, h3, h4, h5, h6, h7, rfl⟩, q⟩ := hq
  refine b_less (R' := fun s C' => ∃ A, C' = A ++ C ∧ Q s C) ?_ fun s C' ⟨A, e, q⟩ => ⟨C, by rw [e]; exact List.sublist_append_right _ _, q⟩
  refine b_par (i := 2) (j := 3) sc_chart_through.nd (av_cons (vp_mapO (xs := ts) (enc := teD) (val := fun t => t.1.d) sc_chart_through.nd (blkOk_by (own := [("test", 4)]) (N := ["tests", "hand", "sources", "goals", "test"]) (sc := defScope (topS 61)) (by decide +kernel)) (iv_seq (V 0 rfl) h1) rfl (fun O' x hx => stepD_all (is := [4]) (by decide) (fun s H A cl fp => (tg_name (i := 4) sc_chart_through.nd)) fun s H A cl fp => (IX (V 4 rfl) rfl rfl)) (by omega) fun p1 np1 no1 => av_cons (vp_mapO (xs := ts) (enc := teD) (val := fun t => t.2.d) sc_chart_through.nd (blkOk_by (own := [("test", 4)]) (N := ["tests", "hand", "sources", "goals", "test"]) (sc := defScope (topS 61)) (by decide +kernel)) (iv_seq (V 0 rfl) h1) rfl (fun O' x hx => stepD_all (is := [4]) (by decide) (fun s H A cl fp => (tg_name (i := 4) sc_chart_through.nd)) fun s H A cl fp => (IX (V 4 rfl) rfl rfl)) (by omega) fun p2 np2 no2 => av_nil ⟨_, _, rfl, ?_⟩)))
  refine b_while PassesOwn.never (fun m Δ1 C1 => ∃ sl gl : List Pl, C1 = (p2, gl.map Pl.d) :: (p1, sl.map Pl.d) :: C ∧ Δ1 = [.dat u, .dat (.int h), .own p1, .own p2, .no] ∧ sl.length = gl.length ∧ sl.length ≤ 3 ∧ padN (3 - sl.length) sl = pad3 (ts.map (·.1)) ∧ padN (3 - gl.length) gl = pad3 (ts.map (·.2)) ∧ m = 3 - sl.length) _ ⟨ts.map (·.1), ts.map (·.2), by rw [List.map_map, List.map_map] <;> rfl, rfl, by rw [List.length_map, List.length_map], by rw [List.length_map]; exact h2, rfl, rfl, rfl⟩ ?_
  rintro m Δ1 C1 ⟨sl, gl, rfl, rfl, hlen, hle, hs, hg, rfl⟩
  refine ⟨_, et_lt (ev_lenO (i := 2) (p := p1) (ds := sl.map Pl.d) c.b_len rfl (List.mem_cons_of_mem _ List.mem_cons_self)) (ev_glo c.k_ENOUGH), fun hw => ?_, fun hw => ?_⟩
  · have hw := of_decide_eq_true hw
    rw [List.length_map] at hw
    have hw3 : sl.length < 3 := by omega
    refine b_append (i := 2) (p := p1) rfl (List.mem_cons_of_mem _ List.mem_cons_self) (vp_call (ok_spare_beside c) (hr.mono (by decide)) (av_cons (vp_own (i := 2) rfl (av_nil ⟨p1, sl, rfl, List.mem_cons_of_mem _ List.mem_cons_self, by omega, _, [(p2, gl.map Pl.d)], sl.map Pl.d, C, rfl, rfl, by rw [List.length_map]; omega, ?_⟩))))
    refine b_append (i := 3) (p := p2) rfl List.mem_cons_self (vp_call (ok_spare_beside c) (hr.mono (by decide)) (av_cons (vp_own (i := 3) rfl (av_nil ⟨p2, gl, rfl, List.mem_cons_self, by omega, _, [], gl.map Pl.d, (p1, sl.map Pl.d ++ [(spare sl).d]) :: C, rfl, rfl, by rw [List.length_map]; omega, ?_⟩))))
    refine b_nil ⟨3 - (sl ++ [spare sl]).length, by rw [List.length_append]; simp; omega, sl ++ [spare sl], gl ++ [spare gl], by rw [List.map_append, List.map_append] <;> rfl, rfl, by rw [List.length_append, List.length_append, hlen] <;> rfl, by rw [List.length_append]; simp; omega, ?_, ?_, rfl⟩
    · exact (padN_step (n := 3 - sl.length) hw3 rfl).trans hs
    · exact (padN_step (n := 3 - gl.length) (by omega) rfl).trans hg
  · have hw := of_decide_eq_false hw
    rw [List.length_map] at hw
    have e1 : 3 - sl.length = 0 := by omega
    have e2 : 3 - gl.length = 0 := by omega
    rw [e1] at hs
    rw [e2] at hg
    have hs : sl = pad3 (ts.map (·.1)) := hs
    have hg : gl = pad3 (ts.map (·.2)) := hg
    rw [← hs, ← hg] at q
    rw [← hs] at h4 h6
    rw [← hg] at h5 h7
    refine b_ifB (t_eq hr (V 1 rfl) ev_int) (fun k => ?_) fun k => b_nil ?_
    · have k : h = 1 := of_decide_eq_true k
      subst k
      exact b_ret (EvD.p (e_mirrored_through c hr (ev_totupO (i := 2) (p := p1) (ds := sl.map Pl.d) c.b_tuple rfl (List.mem_cons_of_mem _ List.mem_cons_self)) (ev_totupO (i := 3) (p := p2) (ds := gl.map Pl.d) c.b_tuple rfl List.mem_cons_self) h4 h5 h6 h7) ⟨[(p2, gl.map Pl.d), (p1, sl.map Pl.d)], rfl, q⟩)
    · have k : h ≠ 1 := of_decide_eq_false k
      have k : h = 0 := h3.resolve_right k
      subst k
      exact b_ret (EvD.p (e_plain_through c hr (ev_totupO (i := 2) (p := p1) (ds := sl.map Pl.d) c.b_tuple rfl (List.mem_cons_of_mem _ List.mem_cons_self)) (ev_totupO (i := 3) (p := p2) (ds := gl.map Pl.d) c.b_tuple rfl List.mem_cons_self) h4 h5 h6 h7) ⟨[(p2, gl.map Pl.d), (p1, sl.map Pl.d)], rfl, q⟩)
theorem e_chart_through {X : Cx} (c : Core X.K X.mg) {O : List Addr} {Δ : List SV} {C : Cont} {pos p : Pos} {k : Nat} {u : D} {h : Int} {ts : List Te} {a1 a2 : Expr} (hr : Room k X.A) (k1 : EvD X O a1 Δ C (u)) (k2 : EvD X O a2 Δ C (.int h)) (h1 : seqOf u = some (ts.map teD) := by first | exact bz | exact bi | exact bf | exact bp | with_reducible assumption | omega) (h2 : ts.length ≤ 3 := by first | exact bz | exact bi | exact bf | exact bp | with_reducible assumption | omega) (h3 : (h = 0 ∨ h = 1) := by first | exact bz | exact bi | exact bf | exact bp | with_reducible assumption | omega) (h4 : Tri (pad3 (ts.map (·.1))) := by first | exact bz | exact bi | exact bf | exact bp | with_reducible assumption | omega) (h5 : Tri (pad3 (ts.map (·.2))) := by first | exact bz | exact bi | exact bf | exact bp | with_reducible assumption | omega) (h6 : (∀ x ∈ pad3 (ts.map (·.1)), BP 230 x) := by first | exact bz | exact bi | exact bf | exact bp | with_reducible assumption | omega) (h7 : (∀ x ∈ pad3 (ts.map (·.2)), BP 230 x) := by first | exact bz | exact bi | exact bf | exact bp | with_reducible assumption | omega) (hk : 7 ≤ k := by decide) (hg : Gl X "chart_through" := by rfl)
    (s0 : starEach [a1, a2] X.env = (false, eval a1 X.env) :: starEach [a2] X.env := by rfl) (s1 : starEach [a2] X.env = (false, eval a2 X.env) :: starEach [] X.env := by rfl) : EvD X O (.Call (.Name "chart_through" p) [a1, a2] [] pos) Δ C (chD h (way h (pad3 (ts.map (·.1))) (pad3 (ts.map (·.2))))) :=
  ev_call (ok_chart_through c) (hr.mono hk) (A2 k1 k2 s0 s1) ⟨u, h, ts, rfl, h1, h2, h3, h4, h5, h6, h7, rfl⟩ hg (by decide) s0 (by rw [s1] <;> rfl)
def F_chart_for (ds : List D) (d : D) : Prop := ∃ (ts : List Te) (h : Int), ds = [tsD ts, .int h] ∧ (h = 0 ∨ h = 1) ∧ Valid ts ∧ BT ts ∧ ts.length ≤ 100 ∧ d = cfD h ts
theorem ok_chart_for (c : Core K mg) : DefOk P w K mg base 8 "chart_for" ["tests", "hand"] (pur F_chart_for) := by
  refine mkDef c.chart_for sc_chart_for (fun _ _ _ _ _ _ us hl => match us, hl with | [_, _], _ => rfl) (len_pur fun ds d h0 => by obtain ⟨_, _, h, _⟩ := h0; rw [h] <;> rfl) fun f cdv A outer s H E hr O C ss Q hq => ?_
  obtain ⟨_, _, rfl, ⟨ts, h, rfl, h1, h2, h3, h4, rfl⟩, q⟩ := hq
  cases hc : cross1 ts with
  | some x =>
    have e : cfD h ts = .none := by unfold cfD chartFor; rw [if_neg (by rw [hc]; exact fun z => nomatch z)]
    rw [e] at q
    obtain ⟨i, j⟩ := x
    exact b_ifT (et_is (t_notN (e_first_crossed c hr (V 0 rfl) h4)) (by rw [hc] <;> rfl)) (b_ret (EvD.p ev_non q))
  | none =>
    refine b_ifF (et_is (t_notN (e_first_crossed c hr (V 0 rfl) h4)) (by rw [hc] <;> rfl)) ?_
    obtain ⟨t1, t2⟩ := tri_of h2 hc
    obtain ⟨b1, b2⟩ := srcs_bp h2 h3 hc
    have wb := way_b4 (h := h) t1 t2 b1 b2
    have et : ((unlike ts).take 3).map (fun i => teD (tat ts i)) = (trio ts).map teD := by unfold trio; rw [List.map_map] <;> rfl
    have eu : ((unlike ts).map natD).take 3 = ((unlike ts).take 3).map natD := by rw [List.map_take]
    refine b_set (i := 2) sc_chart_for.nd ((e_chart_through c hr (ts := trio ts) (ev_is (z := .list ((trio ts).map teD)) (ev_map (xs := (unlike ts).take 3) (enc := natD) (val := fun i => teD (tat ts i)) sc_chart_for.nd (blkOk_by (own := [("index", 3)]) (N := ["tests", "hand", "found", "index"]) (sc := defScope (topS 62)) (by decide +kernel)) (iv_seq (ev_toLK 3 (e_unlike_in c hr (V 0 rfl) h4) (ev_glo c.k_ENOUGH)) rfl) eu (fun O' x hx => stepD_all (is := [3]) (by decide) (fun s H A cl fp => (tg_name (i := 3) sc_chart_for.nd)) fun s H A cl fp => (ev_ix (V 0 rfl) (V 3 rfl) rfl (tat_get (unlike_lt (List.mem_of_mem_take hx))) (by omega))) (by rw [List.length_take]; omega)) (congrArg PyData.list et)) (V 1 rfl) rfl (trio_le ts) h1 t1 t2 b1 b2).p ?_)
    refine b_ret (EvD.p (ev_if (et_val (e_is_fitting c hr (ts := ts) (V 2 rfl) (V 0 rfl) rfl (wb.mono (by decide)) (fun t ht => (h3 t ht).1.mono (by decide)) h4)) (fun k => ?_) (fun k => ?_)) q)
    · have e : cfD h ts = chD h (way h (srcs ts) (gols ts)) := by unfold cfD chartFor; rw [if_pos hc, if_pos k]
      rw [e]
      exact V 2 rfl
    · have e : cfD h ts = .none := by unfold cfD chartFor; rw [if_pos hc, if_neg (by rw [k]; decide)]
      rw [e]
      exact ev_non
theorem e_chart_for {X : Cx} (c : Core X.K X.mg) {O : List Addr} {Δ : List SV} {C : Cont} {pos p : Pos} {k : Nat} {ts : List Te} {h : Int} {a1 a2 : Expr} (hr : Room k X.A) (k1 : EvD X O a1 Δ C (tsD ts)) (k2 : EvD X O a2 Δ C (.int h)) (h1 : (h = 0 ∨ h = 1) := by first | exact bz | exact bi | exact bf | exact bp | with_reducible assumption | omega) (h2 : Valid ts := by first | exact bz | exact bi | exact bf | exact bp | with_reducible assumption | omega) (h3 : BT ts := by first | exact bz | exact bi | exact bf | exact bp | with_reducible assumption | omega) (h4 : ts.length ≤ 100 := by first | exact bz | exact bi | exact bf | exact bp | with_reducible assumption | omega) (hk : 8 ≤ k := by decide) (hg : Gl X "chart_for" := by rfl)
    (s0 : starEach [a1, a2] X.env = (false, eval a1 X.env) :: starEach [a2] X.env := by rfl) (s1 : starEach [a2] X.env = (false, eval a2 X.env) :: starEach [] X.env := by rfl) : EvD X O (.Call (.Name "chart_for" p) [a1, a2] [] pos) Δ C (cfD h ts) :=
  ev_call (ok_chart_for c) (hr.mono hk) (A2 k1 k2 s0 s1) ⟨ts, h, rfl, h1, h2, h3, h4, rfl⟩ hg (by decide) s0 (by rw [s1] <;> rfl)
def F_charts_for (ds : List D) (d : D) : Prop := ∃ (ts : List Te) (o : Option Int), ds = [tsD ts, hoD o] ∧ (o = none ∨ o = some 0 ∨ o = some 1) ∧ Valid ts ∧ BT ts ∧ ts.length ≤ 100 ∧ d = .list (chs o ts)
theorem ok_charts_for (c : Core K mg) : DefOk P w K mg base 9 "charts_for" ["tests", "hand"] (pur F_charts_for) := by
  refine mkDef c.charts_for sc_charts_for (fun _ _ _ _ _ _ us hl => match us, hl with | [_, _], _ => rfl) (len_pur fun ds d h0 => by obtain ⟨_, _, h, _⟩ := h0; rw [h] <;> rfl) fun f cdv A outer s H E hr O C ss Q hq => ?_
  obtain ⟨_, _, rfl, ⟨ts, o, rfl, h1, h2, h3, h4, rfl⟩, q⟩ := hq
  rcases h1 with rfl | rfl | rfl
  · refine (b_lc (i := 2) (keep := fun _ => true) (xs := ([0, 1] : List Int)) (enc := .int) (val := fun e => cfD e ts) sc_charts_for.nd (blkOk_by (own := [("each", 3)]) (N := ["tests", "hand", "found", "each", "chart"]) (sc := defScope (topS 63)) (by decide +kernel)) (iv_seq (T2 ev_int ev_int) rfl) rfl (fun O' x hx => stepD_if (is := [3]) (by decide) (fun s H A cl fp => (tg_name (i := 3) sc_charts_for.nd)) (fun s H A cl fp => (EvW.t (ew_or (k := true) (l := true) (et_is (t_isN (V 1 rfl)) rfl) fun z => nomatch z))) fun _ s H A cl fp => (e_chart_for c hr (V 0 rfl) (V 3 rfl) (by simpa using hx) h2 h3 h4)) (by simp) ?_)
    refine b_ret (EvD.p (ev_is (z := .list (chs none ts)) (ev_lc (keep := notN) (xs := ((([0, 1] : List Int).filter (fun _ => true)).map fun e => cfD e ts)) (enc := fun d => d) (val := fun d => d) sc_charts_for.nd (blkOk_by (own := [("chart", 4)]) (N := ["tests", "hand", "found", "each", "chart"]) (sc := defScope (topS 63)) (by decide +kernel)) (iv_seq (V 2 rfl) rfl) (List.map_id' _).symm (fun O' x hx => stepD_if (is := [4]) (by decide) (fun s H A cl fp => (tg_name (i := 4) sc_charts_for.nd)) (fun s H A cl fp => (t_notN (V 4 rfl))) fun _ s H A cl fp => (V 4 rfl)) (by rw [List.length_map]; exact Nat.le_trans (List.length_filter_le ..) (by simp))) ?_) q)
    cases e0 : chartFor 0 ts <;> cases e1 : chartFor 1 ts <;> simp [chs, hl, cfD, e0, e1, notN] <;> rfl
  · refine (b_lc (i := 2) (keep := fun e => decide ((0 : Int) = e)) (xs := ([0, 1] : List Int)) (enc := .int) (val := fun e => cfD e ts) sc_charts_for.nd (blkOk_by (own := [("each", 3)]) (N := ["tests", "hand", "found", "each", "chart"]) (sc := defScope (topS 63)) (by decide +kernel)) (iv_seq (T2 ev_int ev_int) rfl) rfl (fun O' x hx => stepD_if (is := [3]) (by decide) (fun s H A cl fp => (tg_name (i := 3) sc_charts_for.nd)) (fun s H A cl fp => (EvW.t (ew_or (k := false) (et_is (t_isN (V 1 rfl)) rfl) fun _ => ew_or1 (t_eq hr (d := .int 0) (V 1 rfl) (V 3 rfl))))) fun _ s H A cl fp => (e_chart_for c hr (V 0 rfl) (V 3 rfl) (by simpa using hx) h2 h3 h4)) (by simp) ?_)
    refine b_ret (EvD.p (ev_is (z := .list (chs (some 0) ts)) (ev_lc (keep := notN) (xs := ((([0, 1] : List Int).filter (fun e => decide ((0 : Int) = e))).map fun e => cfD e ts)) (enc := fun d => d) (val := fun d => d) sc_charts_for.nd (blkOk_by (own := [("chart", 4)]) (N := ["tests", "hand", "found", "each", "chart"]) (sc := defScope (topS 63)) (by decide +kernel)) (iv_seq (V 2 rfl) rfl) (List.map_id' _).symm (fun O' x hx => stepD_if (is := [4]) (by decide) (fun s H A cl fp => (tg_name (i := 4) sc_charts_for.nd)) (fun s H A cl fp => (t_notN (V 4 rfl))) fun _ s H A cl fp => (V 4 rfl)) (by rw [List.length_map]; exact Nat.le_trans (List.length_filter_le ..) (by simp))) ?_) q)
    cases e0 : chartFor 0 ts <;> cases e1 : chartFor 1 ts <;> simp [chs, hl, cfD, e0, e1, notN] <;> rfl
  · refine (b_lc (i := 2) (keep := fun e => decide ((1 : Int) = e)) (xs := ([0, 1] : List Int)) (enc := .int) (val := fun e => cfD e ts) sc_charts_for.nd (blkOk_by (own := [("each", 3)]) (N := ["tests", "hand", "found", "each", "chart"]) (sc := defScope (topS 63)) (by decide +kernel)) (iv_seq (T2 ev_int ev_int) rfl) rfl (fun O' x hx => stepD_if (is := [3]) (by decide) (fun s H A cl fp => (tg_name (i := 3) sc_charts_for.nd)) (fun s H A cl fp => (EvW.t (ew_or (k := false) (et_is (t_isN (V 1 rfl)) rfl) fun _ => ew_or1 (t_eq hr (d := .int 1) (V 1 rfl) (V 3 rfl))))) fun _ s H A cl fp => (e_chart_for c hr (V 0 rfl) (V 3 rfl) (by simpa using hx) h2 h3 h4)) (by simp) ?_)
    refine b_ret (EvD.p (ev_is (z := .list (chs (some 1) ts)) (ev_lc (keep := notN) (xs := ((([0, 1] : List Int).filter (fun e => decide ((1 : Int) = e))).map fun e => cfD e ts)) (enc := fun d => d) (val := fun d => d) sc_charts_for.nd (blkOk_by (own := [("chart", 4)]) (N := ["tests", "hand", "found", "each", "chart"]) (sc := defScope (topS 63)) (by decide +kernel)) (iv_seq (V 2 rfl) rfl) (List.map_id' _).symm (fun O' x hx => stepD_if (is := [4]) (by decide) (fun s H A cl fp => (tg_name (i := 4) sc_charts_for.nd)) (fun s H A cl fp => (t_notN (V 4 rfl))) fun _ s H A cl fp => (V 4 rfl)) (by rw [List.length_map]; exact Nat.le_trans (List.length_filter_le ..) (by simp))) ?_) q)
    cases e0 : chartFor 0 ts <;> cases e1 : chartFor 1 ts <;> simp [chs, hl, cfD, e0, e1, notN] <;> rfl
theorem e_charts_for {X : Cx} (c : Core X.K X.mg) {O : List Addr} {Δ : List SV} {C : Cont} {pos p : Pos} {k : Nat} {ts : List Te} {o : Option Int} {a1 a2 : Expr} (hr : Room k X.A) (k1 : EvD X O a1 Δ C (tsD ts)) (k2 : EvD X O a2 Δ C (hoD o)) (h1 : (o = none ∨ o = some 0 ∨ o = some 1) := by first | exact bz | exact bi | exact bf | exact bp | with_reducible assumption | omega) (h2 : Valid ts := by first | exact bz | exact bi | exact bf | exact bp | with_reducible assumption | omega) (h3 : BT ts := by first | exact bz | exact bi | exact bf | exact bp | with_reducible assumption | omega) (h4 : ts.length ≤ 100 := by first | exact bz | exact bi | exact bf | exact bp | with_reducible assumption | omega) (hk : 9 ≤ k := by decide) (hg : Gl X "charts_for" := by rfl)
    (s0 : starEach [a1, a2] X.env = (false, eval a1 X.env) :: starEach [a2] X.env := by rfl) (s1 : starEach [a2] X.env = (false, eval a2 X.env) :: starEach [] X.env := by rfl) : EvD X O (.Call (.Name "charts_for" p) [a1, a2] [] pos) Δ C (.list (chs o ts)) :=
  ev_call (ok_charts_for c) (hr.mono hk) (A2 k1 k2 s0 s1) ⟨ts, o, rfl, h1, h2, h3, h4, rfl⟩ hg (by decide) s0 (by rw [s1] <;> rfl)
theorem chs_cases {o : Option Int} {ts : List Te} (h : o = none ∨ o = some 0 ∨ o = some 1) : chs o ts = [] ∨ (∃ k f, chs o ts = [chD k f]) ∨ ∃ k f l g, chs o ts = [chD k f, chD l g] := by
  rcases h with rfl | rfl | rfl <;> cases e0 : chartFor 0 ts <;> cases e1 : chartFor 1 ts <;> simp only [chs, hl, List.filterMap_cons, List.filterMap_nil, e0, e1, Option.map_none, Option.map_some] <;> first | exact .inl rfl | exact .inl trivial | exact .inr (.inl ⟨_, _, rfl⟩) | exact .inr (.inr ⟨_, _, _, _, rfl⟩)
def F_fits (ds : List D) (d : D) : Prop := ∃ (h : Int) (f : F4) (ts : List Te), ds = [chD h f, tsD ts] ∧ (h = 0 ∨ h = 1) ∧ f.det ≠ 0 ∧ F4.form f = f ∧ B4 1400 f ∧ Valid ts ∧ BT ts ∧ ts.length ≤ 8 ∧ d = .bool (fitB h f ts)
theorem ok_fits (c : Core K mg) : DefOk P w K mg base 7 "fits" ["chart", "tests"] (pur F_fits) := by
  refine mkDef c.fits sc_fits (fun _ _ _ _ _ _ us hl => match us, hl with | [_, _], _ => rfl) (len_pur fun ds d h0 => by obtain ⟨_, _, _, h, _⟩ := h0; rw [h] <;> rfl) fun f cdv A outer s H E hr O C ss Q hq => ?_
  obtain ⟨_, _, rfl, ⟨h, f, ts, rfl, h1, h2, h3, h4, h5, h6, h7, rfl⟩, q⟩ := hq
  refine b_expr ((e_check_map c hr (V 0 rfl) h1 h2 h3 (h4.mono (by decide))).p (b_expr ((e_check_tests c hr (V 1 rfl) h5 h7).p ?_)))
  exact b_ret (EvD.p (e_is_fitting c hr (ts := ts) (V 0 rfl) (V 1 rfl) rfl (h4.mono (by decide)) (fun t ht => (h6 t ht).1.mono (by decide)) (by omega)) q)
theorem e_fits {X : Cx} (c : Core X.K X.mg) {O : List Addr} {Δ : List SV} {C : Cont} {pos p : Pos} {k : Nat} {h : Int} {f : F4} {ts : List Te} {a1 a2 : Expr} (hr : Room k X.A) (k1 : EvD X O a1 Δ C (chD h f)) (k2 : EvD X O a2 Δ C (tsD ts)) (h1 : (h = 0 ∨ h = 1) := by first | exact bz | exact bi | exact bf | exact bp | with_reducible assumption | omega) (h2 : f.det ≠ 0 := by first | exact bz | exact bi | exact bf | exact bp | with_reducible assumption | omega) (h3 : F4.form f = f := by first | exact bz | exact bi | exact bf | exact bp | with_reducible assumption | omega) (h4 : B4 1400 f := by first | exact bz | exact bi | exact bf | exact bp | with_reducible assumption | omega) (h5 : Valid ts := by first | exact bz | exact bi | exact bf | exact bp | with_reducible assumption | omega) (h6 : BT ts := by first | exact bz | exact bi | exact bf | exact bp | with_reducible assumption | omega) (h7 : ts.length ≤ 8 := by first | exact bz | exact bi | exact bf | exact bp | with_reducible assumption | omega) (hk : 7 ≤ k := by decide) (hg : Gl X "fits" := by rfl)
    (s0 : starEach [a1, a2] X.env = (false, eval a1 X.env) :: starEach [a2] X.env := by rfl) (s1 : starEach [a2] X.env = (false, eval a2 X.env) :: starEach [] X.env := by rfl) : EvD X O (.Call (.Name "fits" p) [a1, a2] [] pos) Δ C (.bool (fitB h f ts)) :=
  ev_call (ok_fits c) (hr.mono hk) (A2 k1 k2 s0 s1) ⟨h, f, ts, rfl, h1, h2, h3, h4, h5, h6, h7, rfl⟩ hg (by decide) s0 (by rw [s1] <;> rfl)
def F_fitting (ds : List D) (d : D) : Prop := ∃ (ts : List Te) (o : Option Int), ds = [tsD ts, hoD o] ∧ (o = none ∨ o = some 0 ∨ o = some 1) ∧ Valid ts ∧ BT ts ∧ ts.length ≤ 8 ∧ d = fitD o ts
theorem ok_fitting (c : Core K mg) : DefOk P w K mg base 10 "fitting" ["tests", "hand"] (pur F_fitting) := by
  refine mkDef c.fitting sc_fitting (fun _ _ _ _ _ _ us hl => match us, hl with | [_, _], _ => rfl) (len_pur fun ds d h0 => by obtain ⟨_, _, h, _⟩ := h0; rw [h] <;> rfl) fun f cdv A outer s H E hr O C ss Q hq => ?_
  obtain ⟨_, _, rfl, ⟨ts, o, rfl, h1, h2, h3, h4, rfl⟩, q⟩ := hq
  refine b_expr ((e_check_tests c hr (V 0 rfl) h2 h4).p (b_expr ((e_check_hands c hr (V 1 rfl) h1).p ?_)))
  refine b_set (i := 2) sc_fitting.nd ((e_charts_for c hr (V 0 rfl) (V 1 rfl) h1 h2 h3 (by omega)).p ?_)
  unfold fitD at q
  rcases chs_cases (ts := ts) h1 with e | ⟨k, f, e⟩ | ⟨k, f, l, g, e⟩ <;> rw [e] at q ⊢
  · exact b_ret (EvD.p (ev_if (et_is (l := true) (et_eq hr (V 2 rfl) (ev_lst (ds := []) ea_nil) rfl rfl) rfl) (fun _ => ev_non) (fun z => nomatch z)) q)
  · exact b_ret (EvD.p (ev_if (et_is (l := false) (et_eq hr (V 2 rfl) (ev_lst (ds := []) ea_nil) rfl rfl) rfl) (fun z => nomatch z) (fun _ => IX (V 2 rfl) rfl rfl)) q)
  · exact b_ret (EvD.p (ev_if (et_is (l := false) (et_eq hr (V 2 rfl) (ev_lst (ds := []) ea_nil) rfl rfl) rfl) (fun z => nomatch z) (fun _ => IX (V 2 rfl) rfl rfl)) q)
theorem e_fitting {X : Cx} (c : Core X.K X.mg) {O : List Addr} {Δ : List SV} {C : Cont} {pos p : Pos} {k : Nat} {ts : List Te} {o : Option Int} {a1 a2 : Expr} (hr : Room k X.A) (k1 : EvD X O a1 Δ C (tsD ts)) (k2 : EvD X O a2 Δ C (hoD o)) (h1 : (o = none ∨ o = some 0 ∨ o = some 1) := by first | exact bz | exact bi | exact bf | exact bp | with_reducible assumption | omega) (h2 : Valid ts := by first | exact bz | exact bi | exact bf | exact bp | with_reducible assumption | omega) (h3 : BT ts := by first | exact bz | exact bi | exact bf | exact bp | with_reducible assumption | omega) (h4 : ts.length ≤ 8 := by first | exact bz | exact bi | exact bf | exact bp | with_reducible assumption | omega) (hk : 10 ≤ k := by decide) (hg : Gl X "fitting" := by rfl)
    (s0 : starEach [a1, a2] X.env = (false, eval a1 X.env) :: starEach [a2] X.env := by rfl) (s1 : starEach [a2] X.env = (false, eval a2 X.env) :: starEach [] X.env := by rfl) : EvD X O (.Call (.Name "fitting" p) [a1, a2] [] pos) Δ C (fitD o ts) :=
  ev_call (ok_fitting c) (hr.mono hk) (A2 k1 k2 s0 s1) ⟨ts, o, rfl, h1, h2, h3, h4, rfl⟩ hg (by decide) s0 (by rw [s1] <;> rfl)
def F_bar (ds : List D) (d : D) : Prop := ∃ (ts : List Te) (h : Int), ds = [tsD ts, .int h] ∧ (h = 0 ∨ h = 1) ∧ Valid ts ∧ BT ts ∧ ts.length ≤ 8 ∧ d = barD h ts
theorem ok_bar (c : Core K mg) : DefOk P w K mg base 9 "bar" ["tests", "hand"] (pur F_bar) := by
  refine mkDef c.bar sc_bar (fun _ _ _ _ _ _ us hl => match us, hl with | [_, _], _ => rfl) (len_pur fun ds d h0 => by obtain ⟨_, _, h, _⟩ := h0; rw [h] <;> rfl) fun f cdv A outer s H E hr O C ss Q hq => ?_
  obtain ⟨_, _, rfl, ⟨ts, h, rfl, h1, h2, h3, h4, rfl⟩, q⟩ := hq
  refine b_expr ((e_check_tests c hr (V 0 rfl) h2 h4).p (b_expr ((e_check_hand c hr (V 1 rfl) h1).p ?_)))
  refine b_set (i := 2) sc_bar.nd ((e_first_crossed c hr (V 0 rfl) (by omega)).p ?_)
  unfold barD at q
  cases hc : cross1 ts with
  | some x =>
    obtain ⟨i, j⟩ := x
    rw [hc] at q
    refine b_ifT (et_is (t_notN (V 2 rfl)) rfl) ?_
    exact b_ret (EvD.p (ev_tup (ds := [.str "crossed", natD i, natD j]) (ea_cons ev_str (ea_star (ds := [natD i, natD j]) (V 2 rfl) rfl ea_nil)) (by simp)) q)
  | none =>
    rw [hc] at q
    refine b_ifF (et_is (t_notN (V 2 rfl)) rfl) ?_
    cases he : chartFor h ts with
    | some f =>
      rw [he] at q
      exact b_ifT (et_is (t_notN (e_chart_for c hr (V 0 rfl) (V 1 rfl) h1 h2 h3 (by omega))) (by unfold cfD; rw [he] <;> rfl)) (b_ret (EvD.p ev_non q))
    | none =>
      rw [he] at q
      refine b_ifF (et_is (t_notN (e_chart_for c hr (V 0 rfl) (V 1 rfl) h1 h2 h3 (by omega))) (by unfold cfD; rw [he] <;> rfl)) ?_
      obtain ⟨t1, t2⟩ := tri_of h2 hc
      obtain ⟨b1, b2⟩ := srcs_bp h2 h3 hc
      have wb := way_b4 (h := h) t1 t2 b1 b2
      have et : ((unlike ts).take 3).map (fun i => teD (tat ts i)) = (trio ts).map teD := by unfold trio; rw [List.map_map] <;> rfl
      have eu : ((unlike ts).map natD).take 3 = ((unlike ts).take 3).map natD := by rw [List.map_take]
      refine b_set (i := 3) sc_bar.nd ((ev_is (z := .list (((unlike ts).take 3).map natD)) (ev_toLK 3 (e_unlike_in c hr (V 0 rfl) (by omega)) (ev_glo c.k_ENOUGH)) (congrArg PyData.list eu)).p ?_)
      refine b_set (i := 4) sc_bar.nd ((e_chart_through c hr (ts := trio ts) (ev_is (z := .list ((trio ts).map teD)) (ev_map (xs := (unlike ts).take 3) (enc := natD) (val := fun i => teD (tat ts i)) sc_bar.nd (blkOk_by (own := [("index", 5)]) (N := ["tests", "hand", "pair", "first", "chart", "index", "test"]) (sc := defScope (topS 66)) (by decide +kernel)) (iv_seq (V 3 rfl) rfl) rfl (fun O' x hx => stepD_all (is := [5]) (by decide) (fun s H A cl fp => (tg_name (i := 5) sc_bar.nd)) fun s H A cl fp => (ev_ix (V 0 rfl) (V 5 rfl) rfl (tat_get (unlike_lt (List.mem_of_mem_take hx))) (by omega))) (by rw [List.length_take]; omega)) (congrArg PyData.list et)) (V 1 rfl) rfl (trio_le ts) h1 t1 t2 b1 b2).p ?_)
      have ln := late_ne (chart_none hc he)
      have l3 : ((unlike ts).take 3).length ≤ 3 := by rw [List.length_take]; omega
      refine b_ret (EvD.p (ev_tup (ds := .str "other" :: (((unlike ts).take 3).map natD ++ [natD ((late h (way h (srcs ts) (gols ts)) ts).headD 0)])) (ea_is (ea_cons ev_str (ea_star (V 3 rfl) rfl (ea_cons (ev_ix (z := natD ((late h (way h (srcs ts) (gols ts)) ts).headD 0)) (ev_lc (keep := fun i => !decide (F4.led h (way h (srcs ts) (gols ts)) (tat ts i).1 = (tat ts i).2)) (xs := List.range ts.length) (enc := fun i => .tuple [.int (i : Nat), teD (tat ts i)]) (val := natD) sc_bar.nd (blkOk_by (own := [("index", 5), ("test", 6)]) (N := ["tests", "hand", "pair", "first", "chart", "index", "test"]) (sc := defScope (topS 66)) (by decide +kernel)) (iv_enum c.b_enumerate (V 0 rfl)) (enums_T ts) (fun O' x hx => stepD_if (is := [5, 6]) (by decide) (fun s H A cl fp => (tg_tup (tgs_cons (tg_name (i := 5) sc_bar.nd) (tgs_cons (tg_name (i := 6) sc_bar.nd) tgs_nil)))) (fun s H A cl fp => (et_is (et_not (et_val (e_is_fitting c hr (ts := [tat ts x]) (V 4 rfl) (L1 (V 6 rfl)) rfl (wb.mono (by decide)) (fun t ht => by rw [List.mem_singleton.mp ht]; exact (h3 _ (tat_mem (List.mem_range.mp hx))).1.mono (by decide)) (by simp)))) (by unfold fitB; rw [List.all_cons, List.all_nil, Bool.and_true]))) fun _ s H A cl fp => (V 5 rfl)) (by rw [List.length_range]; omega)) (ev_int (i := 0)) rfl ?_) ea_nil))) (by rw [List.map_cons, List.map_append] <;> rfl)) (by rw [List.length_cons, List.length_append, List.length_map, List.length_singleton]; omega)) q)
      rw [List.getElem?_map, show (0 : Int).toNat = 0 from rfl]
      exact congrArg (Option.map natD) (head_get 0 ln)
theorem e_bar {X : Cx} (c : Core X.K X.mg) {O : List Addr} {Δ : List SV} {C : Cont} {pos p : Pos} {k : Nat} {ts : List Te} {h : Int} {a1 a2 : Expr} (hr : Room k X.A) (k1 : EvD X O a1 Δ C (tsD ts)) (k2 : EvD X O a2 Δ C (.int h)) (h1 : (h = 0 ∨ h = 1) := by first | exact bz | exact bi | exact bf | exact bp | with_reducible assumption | omega) (h2 : Valid ts := by first | exact bz | exact bi | exact bf | exact bp | with_reducible assumption | omega) (h3 : BT ts := by first | exact bz | exact bi | exact bf | exact bp | with_reducible assumption | omega) (h4 : ts.length ≤ 8 := by first | exact bz | exact bi | exact bf | exact bp | with_reducible assumption | omega) (hk : 9 ≤ k := by decide) (hg : Gl X "bar" := by rfl)
    (s0 : starEach [a1, a2] X.env = (false, eval a1 X.env) :: starEach [a2] X.env := by rfl) (s1 : starEach [a2] X.env = (false, eval a2 X.env) :: starEach [] X.env := by rfl) : EvD X O (.Call (.Name "bar" p) [a1, a2] [] pos) Δ C (barD h ts) :=
  ev_call (ok_bar c) (hr.mono hk) (A2 k1 k2 s0 s1) ⟨ts, h, rfl, h1, h2, h3, h4, rfl⟩ hg (by decide) s0 (by rw [s1] <;> rfl)
end DL

/-! part Df8 -/
set_option Elab.async false
set_option linter.all false
set_option maxRecDepth 100000
set_option maxHeartbeats 4000000
namespace DL
open PySem PySem.Spec PyProof.Rows L2
variable {P : Program} {w : World} {K : PySem.W.Frag} {mg : Str → Option Value} {base : Heap}
theorem ups0 (n : Nat) : ups ((n : Int)).toNat 0 = (List.range n).map natD := by
  unfold ups
  rw [Int.toNat_natCast]
  exact List.map_congr_left fun i _ => by rw [Int.zero_add]
theorem opD_some {x : Nat × Nat} : notN (opD (some x)) = true := rfl
def F_law_crossed (ds : List D) (d : D) : Prop := ∃ (ts : List Te), ds = [tsD ts] ∧ ts.length ≤ 100 ∧ d = opD (cross1 ts)
theorem ok_law_crossed (c : Core K mg) : DefOk P w K mg base 1 "_law_crossed" ["_law_tests_here"] (pur F_law_crossed) := by
  refine mkDef c.law_crossed sc_law_crossed (fun _ _ _ _ _ _ us hl => match us, hl with | [_], _ => rfl) (len_pur fun ds d h0 => by obtain ⟨_, h, _⟩ := h0; rw [h] <;> rfl) fun f cdv A outer s H E hr O C ss Q hq => ?_
  obtain ⟨_, _, rfl, ⟨ts, rfl, h1, rfl⟩, q⟩ := hq
  refine b_for PassesOwn.never (iv_range c.b_range (ev_len c.b_len (V 0 rfl) rfl) (by rw [List.length_map]; omega)) (fun i Δ1 C1 => C1 = C ∧ (∃ s t, Δ1 = [.dat (tsD ts), s, t]) ∧ ∀ k, k < i → row1 ts k = none) ⟨rfl, ⟨.no, .no, rfl⟩, fun k h => absurd h (Nat.not_lt_zero k)⟩ ?_ ?_
  · rintro i Δ1 C1 d hd ⟨rfl, ⟨s, t, rfl⟩, h0⟩
    rw [List.length_map, ups0, List.getElem?_map] at hd
    obtain ⟨i', hi', rfl⟩ := Option.map_eq_some_iff.mp hd
    have hi : i < ts.length := by
      have := (List.getElem?_eq_some_iff.mp hi').1
      rwa [List.length_range] at this
    rw [List.getElem?_range hi] at hi'
    cases hi'
    refine ⟨_, _, tg_name (i := 1) sc_law_crossed.nd, ?_⟩
    refine b_for PassesOwn.never (iv_range2 c.b_range (ev_add (V 1 rfl) ev_int) (ev_len c.b_len (V 0 rfl) rfl) (by rw [List.length_map]; omega)) (fun j Δ1 C2 => C2 = C1 ∧ (∃ s, Δ1 = [.dat (tsD ts), .dat (natD i), s]) ∧ ∀ k, i < k → k < i + 1 + j → crs (tat ts i) (tat ts k) = false) ⟨rfl, ⟨t, rfl⟩, fun k a b => by omega⟩ ?_ ?_
    · rintro j Δ2 C2 d hd ⟨rfl, ⟨s, rfl⟩, hj⟩
      have hl := (List.getElem?_eq_some_iff.mp hd).1
      rw [ups_len, List.length_map] at hl
      have hd2 := ups_at (lo := (i : Nat) + 1) (i := j) (n := (((ts.map teD).length : Int) - ((i : Nat) + 1)).toNat) (by rw [List.length_map]; exact hl)
      rw [hd2] at hd
      have ed : d = natD (i + 1 + j) := by
        cases hd
        show PyData.int _ = .int _
        exact congrArg _ (by omega)
      subst ed
      have hlt : i + 1 + j < ts.length := by omega
      refine ⟨_, _, tg_name (i := 2) sc_law_crossed.nd, b_ifB (t_ne hr (q_eq hr (IX (ev_ix (V 0 rfl) (V 1 rfl) rfl (tat_get hi) (by omega)) rfl rfl) (IX (ev_ix (V 0 rfl) (V 2 rfl) rfl (tat_get hlt) (by omega)) rfl rfl)) (q_eq hr (IX (ev_ix (V 0 rfl) (V 1 rfl) rfl (tat_get hi) (by omega)) rfl rfl) (IX (ev_ix (V 0 rfl) (V 2 rfl) rfl (tat_get hlt) (by omega)) rfl rfl))) (fun h => b_ret (EvD.p (T2 (V 1 rfl) (V 2 rfl)) ?_)) fun h => b_nil (b_nil ⟨rfl, ⟨.dat (natD (i + 1 + j)), rfl⟩, fun k a b => ?_⟩)⟩
      · have h : crs (tat ts i) (tat ts (i + 1 + j)) = true := h
        rw [cross1_at hi h0 (row1_some (by omega) hlt h hj)] at q
        exact q
      · rcases Nat.lt_or_ge k (i + 1 + j) with l | l
        · exact hj k a l
        · have e : k = i + 1 + j := by omega
          rw [e]
          exact h
    · rintro Δ2 C2 ⟨rfl, ⟨s, rfl⟩, hj⟩
      refine b_nil ⟨rfl, ⟨.dat (natD i), s, rfl⟩, fun k hk => ?_⟩
      rcases Nat.lt_or_ge k i with l | l
      · exact h0 k l
      · have e : k = i := by omega
        rw [e]
        refine row1_none fun k a b => hj k a ?_
        rw [ups_len, List.length_map]
        omega
  · rintro Δ1 C1 ⟨rfl, ⟨s, t, rfl⟩, h0⟩
    rw [ups_len, List.length_map, Int.toNat_natCast] at h0
    rw [cross1_no h0] at q
    exact b_ret (EvD.p ev_non q)
theorem e_law_crossed {X : Cx} (c : Core X.K X.mg) {O : List Addr} {Δ : List SV} {C : Cont} {pos p : Pos} {k : Nat} {ts : List Te} {a1 : Expr} (hr : Room k X.A) (k1 : EvD X O a1 Δ C (tsD ts)) (h1 : ts.length ≤ 100 := by first | exact bz | exact bi | exact bf | exact bp | with_reducible assumption | omega) (hk : 1 ≤ k := by decide) (hg : Gl X "_law_crossed" := by rfl)
    (s0 : starEach [a1] X.env = (false, eval a1 X.env) :: starEach [] X.env := by rfl) : EvD X O (.Call (.Name "_law_crossed" p) [a1] [] pos) Δ C (opD (cross1 ts)) :=
  ev_call (ok_law_crossed c) (hr.mono hk) (A1 k1 s0) ⟨ts, rfl, h1, rfl⟩ hg (by decide) s0 (by rfl)
def F_law_firsts (ds : List D) (d : D) : Prop := ∃ (ts : List Te), ds = [tsD ts] ∧ ts.length ≤ 100 ∧ d = natsD (unlike ts)
theorem ok_law_firsts (c : Core K mg) : DefOk P w K mg base 1 "_law_firsts" ["_law_tests_here"] (pur F_law_firsts) := by
  refine mkDef c.law_firsts sc_law_firsts (fun _ _ _ _ _ _ us hl => match us, hl with | [_], _ => rfl) (len_pur fun ds d h0 => by obtain ⟨_, h, _⟩ := h0; rw [h] <;> rfl) fun f cdv A outer s H E hr O C ss Q hq => ?_
  obtain ⟨_, _, rfl, ⟨ts, rfl, h1, rfl⟩, q⟩ := hq
  have ei : ups ((((ts.map teD).length : Nat) : Int)).toNat 0 = (List.range ts.length).map natD := by rw [List.length_map, ups0]
  refine b_ret (EvD.p (ev_lc (xs := List.range ts.length) (enc := natD) (val := natD) sc_law_firsts.nd (blkOk_by (own := [("_law_at", 1)]) (N := ["_law_tests_here", "_law_at"]) (sc := defScope (topS 100)) (by decide +kernel)) (iv_range c.b_range (ev_len c.b_len (V 0 rfl) rfl) (by rw [List.length_map]; omega)) ei (fun O' x hx => stepD_if (is := [1]) (by decide) (fun s H A cl fp => (tg_name (i := 1) sc_law_firsts.nd)) (fun s H A cl fp => (et_is (t_nin hr (ev_ix (V 0 rfl) (V 1 rfl) rfl (tat_get (List.mem_range.mp hx)) (by omega)) (ev_toK (ds := ts.map teD) x (V 0 rfl) (V 1 rfl)) rfl rfl (by rw [← List.map_take]; exact lay_T _)) (by rw [← List.map_take, any_T] <;> rfl))) fun _ s H A cl fp => (V 1 rfl)) (by rw [List.length_range]; omega)) q)
theorem e_law_firsts {X : Cx} (c : Core X.K X.mg) {O : List Addr} {Δ : List SV} {C : Cont} {pos p : Pos} {k : Nat} {ts : List Te} {a1 : Expr} (hr : Room k X.A) (k1 : EvD X O a1 Δ C (tsD ts)) (h1 : ts.length ≤ 100 := by first | exact bz | exact bi | exact bf | exact bp | with_reducible assumption | omega) (hk : 1 ≤ k := by decide) (hg : Gl X "_law_firsts" := by rfl)
    (s0 : starEach [a1] X.env = (false, eval a1 X.env) :: starEach [] X.env := by rfl) : EvD X O (.Call (.Name "_law_firsts" p) [a1] [] pos) Δ C (natsD (unlike ts)) :=
  ev_call (ok_law_firsts c) (hr.mono hk) (A1 k1 s0) ⟨ts, rfl, h1, rfl⟩ hg (by decide) s0 (by rfl)
def F_law_trio (ds : List D) (d : D) : Prop := ∃ (h : Int) (ts : List Te), ds = [.int h, tsD ts] ∧ BT ts ∧ ts.length ≤ 100 ∧ 3 ≤ (unlike ts).length ∧ d = chD h (lawRaw h ts)
theorem ok_law_trio (c : Core K mg) : DefOk P w K mg base 4 "_law_trio" ["_law_hand", "_law_tests_here"] (pur F_law_trio) := by
  refine mkDef c.law_trio sc_law_trio (fun _ _ _ _ _ _ us hl => match us, hl with | [_, _], _ => rfl) (len_pur fun ds d h0 => by obtain ⟨_, _, h, _⟩ := h0; rw [h] <;> rfl) fun f cdv A outer s H E hr O C ss Q hq => ?_
  obtain ⟨_, _, rfl, ⟨h, ts, rfl, h1, h2, h3, rfl⟩, q⟩ := hq
  have hl3 : (trio ts).length = 3 := by rw [trio_len]; omega
  have et : ((unlike ts).take 3).map (fun i => teD (tat ts i)) = (trio ts).map teD := by unfold trio; rw [List.map_map] <;> rfl
  obtain ⟨x, y, z, e⟩ : ∃ x y z, trio ts = [x, y, z] := by
    match h : trio ts, hl3 with
    | [x, y, z], _ => exact ⟨x, y, z, rfl⟩
  have hb : ∀ t ∈ [x, y, z], BP 230 t.1 ∧ BP 230 t.2 := fun t ht => h1 t (trio_mem (by rw [e]; exact ht))
  have er : lawRaw h ts = F4.fit3 (x.1.hd h) (y.1.hd h) (z.1.hd h) x.2 y.2 z.2 := by unfold lawRaw; rw [e] <;> rfl
  rw [e] at et
  rw [er] at q
  exact b_ret (EvD.p (e_law_fit c hr (x := x) (y := y) (z := z) (V 0 rfl) (ev_is (ev_map (xs := (unlike ts).take 3) (enc := natD) (val := fun i => teD (tat ts i)) sc_law_trio.nd (blkOk_by (own := [("_law_at", 2)]) (N := ["_law_hand", "_law_tests_here", "_law_at"]) (sc := defScope (topS 101)) (by decide +kernel)) (iv_seq (ev_toLK 3 (e_law_firsts c hr (V 1 rfl) h2) ev_int) rfl) (by rw [List.map_take]) (fun O' x hx => stepD_all (is := [2]) (by decide) (fun s H A cl fp => (tg_name (i := 2) sc_law_trio.nd)) fun s H A cl fp => (ev_ix (V 1 rfl) (V 2 rfl) rfl (tat_get (unlike_lt (List.mem_of_mem_take hx))) (by omega))) (by rw [List.length_take]; omega)) (congrArg PyData.list et)) hb) q)
theorem e_law_trio {X : Cx} (c : Core X.K X.mg) {O : List Addr} {Δ : List SV} {C : Cont} {pos p : Pos} {k : Nat} {h : Int} {ts : List Te} {a1 a2 : Expr} (hr : Room k X.A) (k1 : EvD X O a1 Δ C (.int h)) (k2 : EvD X O a2 Δ C (tsD ts)) (h1 : BT ts := by first | exact bz | exact bi | exact bf | exact bp | with_reducible assumption | omega) (h2 : ts.length ≤ 100 := by first | exact bz | exact bi | exact bf | exact bp | with_reducible assumption | omega) (h3 : 3 ≤ (unlike ts).length := by first | exact bz | exact bi | exact bf | exact bp | with_reducible assumption | omega) (hk : 4 ≤ k := by decide) (hg : Gl X "_law_trio" := by rfl)
    (s0 : starEach [a1, a2] X.env = (false, eval a1 X.env) :: starEach [a2] X.env := by rfl) (s1 : starEach [a2] X.env = (false, eval a2 X.env) :: starEach [] X.env := by rfl) : EvD X O (.Call (.Name "_law_trio" p) [a1, a2] [] pos) Δ C (chD h (lawRaw h ts)) :=
  ev_call (ok_law_trio c) (hr.mono hk) (A2 k1 k2 s0 s1) ⟨h, ts, rfl, h1, h2, h3, rfl⟩ hg (by decide) s0 (by rw [s1] <;> rfl)
theorem lawRaw_b4 {h : Int} {ts : List Te} (b : BT ts) (hl : 3 ≤ (unlike ts).length) : B4 1400 (lawRaw h ts) := by
  have hl3 : (trio ts).length = 3 := by rw [trio_len]; omega
  obtain ⟨x, y, z, e⟩ : ∃ x y z, trio ts = [x, y, z] := by
    match h : trio ts, hl3 with
    | [x, y, z], _ => exact ⟨x, y, z, rfl⟩
  have hb : ∀ t ∈ [x, y, z], BP 230 t.1 ∧ BP 230 t.2 := fun t ht => b t (trio_mem (by rw [e]; exact ht))
  have er : lawRaw h ts = F4.fit3 (x.1.hd h) (y.1.hd h) (z.1.hd h) x.2 y.2 z.2 := by unfold lawRaw; rw [e] <;> rfl
  rw [er]
  have hx := hb x (by simp)
  have hy := hb y (by simp)
  have hz := hb z (by simp)
  exact (B4.fit3 (hx.1.hd h) (hy.1.hd h) (hz.1.hd h) hx.2 hy.2 hz.2).mono (by decide)
def F_law_can (ds : List D) (d : D) : Prop := ∃ (h : Int) (ts : List Te), ds = [.int h, tsD ts] ∧ BT ts ∧ ts.length ≤ 100 ∧ d = .bool (lawCan h ts)
theorem ok_law_can (c : Core K mg) : DefOk P w K mg base 5 "_law_can" ["_law_hand", "_law_tests_here"] (pur F_law_can) := by
  refine mkDef c.law_can sc_law_can (fun _ _ _ _ _ _ us hl => match us, hl with | [_, _], _ => rfl) (len_pur fun ds d h0 => by obtain ⟨_, _, h, _⟩ := h0; rw [h] <;> rfl) fun f cdv A outer s H E hr O C ss Q hq => ?_
  obtain ⟨_, _, rfl, ⟨h, ts, rfl, h1, h2, rfl⟩, q⟩ := hq
  cases hc : cross1 ts with
  | some x =>
    have e : lawCan h ts = false := by unfold lawCan; rw [hc] <;> rfl
    rw [e] at q
    exact b_ifT (et_is (t_notN (e_law_crossed c hr (V 1 rfl) h2)) (by rw [hc] <;> rfl)) (b_ret (EvD.p ev_bl q))
  | none =>
    refine b_ifF (et_is (t_notN (e_law_crossed c hr (V 1 rfl) h2)) (by rw [hc] <;> rfl)) ?_
    have e : lawCan h ts = (decide ((unlike ts).length < 3) || relB h (lawRaw h ts) ts) := by unfold lawCan; rw [hc] <;> rfl
    rw [e] at q
    have el : (decide ((((unlike ts).map natD).length : Int) < 3)) = decide ((unlike ts).length < 3) := by rw [List.length_map]; exact decide_eq_decide.mpr (by omega)
    by_cases few : (unlike ts).length < 3
    · rw [decide_eq_true few] at el q
      exact b_ret (EvD.p (ev_is (ev_or (k := true) (l := true) (ev_is (ev_lt (ev_len c.b_len (e_law_firsts c hr (V 1 rfl) h2) rfl) ev_int) (congrArg PyData.bool el)) fun z => nomatch z) rfl) q)
    · rw [decide_eq_false few] at el q
      have b := lawRaw_b4 (h := h) h1 (by omega)
      exact b_ret (EvD.p (ev_is (ev_or (k := false) (l := relB h (lawRaw h ts) ts) (ev_is (ev_lt (ev_len c.b_len (e_law_firsts c hr (V 1 rfl) h2) rfl) ev_int) (congrArg PyData.bool el)) fun _ => ev_one (e_law_is_fit c hr (e_law_trio c hr (V 0 rfl) (V 1 rfl) h1 h2 (by omega)) (V 1 rfl) (b.mono (by decide)) (fun t ht => ⟨(h1 t ht).1.mono (by decide), (h1 t ht).2.mono (by decide)⟩))) rfl) q)
theorem e_law_can {X : Cx} (c : Core X.K X.mg) {O : List Addr} {Δ : List SV} {C : Cont} {pos p : Pos} {k : Nat} {h : Int} {ts : List Te} {a1 a2 : Expr} (hr : Room k X.A) (k1 : EvD X O a1 Δ C (.int h)) (k2 : EvD X O a2 Δ C (tsD ts)) (h1 : BT ts := by first | exact bz | exact bi | exact bf | exact bp | with_reducible assumption | omega) (h2 : ts.length ≤ 100 := by first | exact bz | exact bi | exact bf | exact bp | with_reducible assumption | omega) (hk : 5 ≤ k := by decide) (hg : Gl X "_law_can" := by rfl)
    (s0 : starEach [a1, a2] X.env = (false, eval a1 X.env) :: starEach [a2] X.env := by rfl) (s1 : starEach [a2] X.env = (false, eval a2 X.env) :: starEach [] X.env := by rfl) : EvD X O (.Call (.Name "_law_can" p) [a1, a2] [] pos) Δ C (.bool (lawCan h ts)) :=
  ev_call (ok_law_can c) (hr.mono hk) (A2 k1 k2 s0 s1) ⟨h, ts, rfl, h1, h2, rfl⟩ hg (by decide) s0 (by rw [s1] <;> rfl)
def ableL (o : Option Int) (ts : List Te) : List D := ((hl o).filter fun h => lawCan h ts).map .int
def F_law_hands (ds : List D) (d : D) : Prop := ∃ (ts : List Te) (o : Option Int), ds = [tsD ts, hoD o] ∧ (o = none ∨ o = some 0 ∨ o = some 1) ∧ BT ts ∧ ts.length ≤ 100 ∧ d = .list (ableL o ts)
theorem ok_law_hands (c : Core K mg) : DefOk P w K mg base 6 "_law_hands" ["_law_tests_here", "_law_hand"] (pur F_law_hands) := by
  refine mkDef c.law_hands sc_law_hands (fun _ _ _ _ _ _ us hl => match us, hl with | [_, _], _ => rfl) (len_pur fun ds d h0 => by obtain ⟨_, _, h, _⟩ := h0; rw [h] <;> rfl) fun f cdv A outer s H E hr O C ss Q hq => ?_
  obtain ⟨_, _, rfl, ⟨ts, o, rfl, h1, h2, h3, rfl⟩, q⟩ := hq
  rcases h1 with rfl | rfl | rfl
  · exact b_ret (EvD.p (ev_lc (keep := fun h => lawCan h ts) (xs := (hl none)) (enc := .int) (val := .int) sc_law_hands.nd (blkOk_by (own := [("_law_each", 2)]) (N := ["_law_tests_here", "_law_hand", "_law_each"]) (sc := defScope (topS 105)) (by decide +kernel)) (iv_seq (ev_if (d := .list [.int 0, .int 1]) (et_is (l := true) (t_isN (V 1 rfl)) rfl) (fun _ => L2 ev_int ev_int) (fun z => nomatch z)) rfl) rfl (fun O' x hx => stepD_if (is := [2]) (by decide) (fun s H A cl fp => (tg_name (i := 2) sc_law_hands.nd)) (fun s H A cl fp => (et_val (e_law_can c hr (V 2 rfl) (V 0 rfl) h2 h3))) fun _ s H A cl fp => (V 2 rfl)) (by simp [hl])) q)
  · exact b_ret (EvD.p (ev_lc (keep := fun h => lawCan h ts) (xs := (hl (some 0))) (enc := .int) (val := .int) sc_law_hands.nd (blkOk_by (own := [("_law_each", 2)]) (N := ["_law_tests_here", "_law_hand", "_law_each"]) (sc := defScope (topS 105)) (by decide +kernel)) (iv_seq (ev_if (d := .list [.int 0]) (et_is (l := false) (t_isN (V 1 rfl)) rfl) (fun z => nomatch z) (fun _ => L1 (V 1 rfl))) rfl) rfl (fun O' x hx => stepD_if (is := [2]) (by decide) (fun s H A cl fp => (tg_name (i := 2) sc_law_hands.nd)) (fun s H A cl fp => (et_val (e_law_can c hr (V 2 rfl) (V 0 rfl) h2 h3))) fun _ s H A cl fp => (V 2 rfl)) (by simp [hl])) q)
  · exact b_ret (EvD.p (ev_lc (keep := fun h => lawCan h ts) (xs := (hl (some 1))) (enc := .int) (val := .int) sc_law_hands.nd (blkOk_by (own := [("_law_each", 2)]) (N := ["_law_tests_here", "_law_hand", "_law_each"]) (sc := defScope (topS 105)) (by decide +kernel)) (iv_seq (ev_if (d := .list [.int 1]) (et_is (l := false) (t_isN (V 1 rfl)) rfl) (fun z => nomatch z) (fun _ => L1 (V 1 rfl))) rfl) rfl (fun O' x hx => stepD_if (is := [2]) (by decide) (fun s H A cl fp => (tg_name (i := 2) sc_law_hands.nd)) (fun s H A cl fp => (et_val (e_law_can c hr (V 2 rfl) (V 0 rfl) h2 h3))) fun _ s H A cl fp => (V 2 rfl)) (by simp [hl])) q)
theorem e_law_hands {X : Cx} (c : Core X.K X.mg) {O : List Addr} {Δ : List SV} {C : Cont} {pos p : Pos} {k : Nat} {ts : List Te} {o : Option Int} {a1 a2 : Expr} (hr : Room k X.A) (k1 : EvD X O a1 Δ C (tsD ts)) (k2 : EvD X O a2 Δ C (hoD o)) (h1 : (o = none ∨ o = some 0 ∨ o = some 1) := by first | exact bz | exact bi | exact bf | exact bp | with_reducible assumption | omega) (h2 : BT ts := by first | exact bz | exact bi | exact bf | exact bp | with_reducible assumption | omega) (h3 : ts.length ≤ 100 := by first | exact bz | exact bi | exact bf | exact bp | with_reducible assumption | omega) (hk : 6 ≤ k := by decide) (hg : Gl X "_law_hands" := by rfl)
    (s0 : starEach [a1, a2] X.env = (false, eval a1 X.env) :: starEach [a2] X.env := by rfl) (s1 : starEach [a2] X.env = (false, eval a2 X.env) :: starEach [] X.env := by rfl) : EvD X O (.Call (.Name "_law_hands" p) [a1, a2] [] pos) Δ C (.list (ableL o ts)) :=
  ev_call (ok_law_hands c) (hr.mono hk) (A2 k1 k2 s0 s1) ⟨ts, o, rfl, h1, h2, h3, rfl⟩ hg (by decide) s0 (by rw [s1] <;> rfl)
def F_law_bar (ds : List D) (d : D) : Prop := ∃ (h : Int) (ts : List Te), ds = [.int h, tsD ts] ∧ Valid ts ∧ BT ts ∧ ts.length ≤ 100 ∧ d = barD h ts
theorem ok_law_bar (c : Core K mg) : DefOk P w K mg base 6 "_law_bar" ["_law_hand", "_law_tests_here"] (pur F_law_bar) := by
  refine mkDef c.law_bar sc_law_bar (fun _ _ _ _ _ _ us hl => match us, hl with | [_, _], _ => rfl) (len_pur fun ds d h0 => by obtain ⟨_, _, h, _⟩ := h0; rw [h] <;> rfl) fun f cdv A outer s H E hr O C ss Q hq => ?_
  obtain ⟨_, _, rfl, ⟨h, ts, rfl, h1, h2, h3, rfl⟩, q⟩ := hq
  have h2b := h2
  have ei : ups ((((ts.map teD).length : Nat) : Int)).toNat 0 = (List.range ts.length).map natD := by rw [List.length_map, ups0]
  refine b_set (i := 2) sc_law_bar.nd ((e_law_crossed c hr (V 1 rfl) h3).p ?_)
  unfold barD at q
  cases hc : cross1 ts with
  | some x =>
    obtain ⟨i, j⟩ := x
    rw [hc] at q
    refine b_ifT (et_is (t_notN (V 2 rfl)) rfl) ?_
    exact b_ret (EvD.p (T3 ev_str (IX (V 2 rfl) rfl rfl) (IX (V 2 rfl) rfl rfl)) q)
  | none =>
    rw [hc] at q
    refine b_ifF (et_is (t_notN (V 2 rfl)) rfl) ?_
    refine b_set (i := 3) sc_law_bar.nd ((e_law_firsts c hr (V 1 rfl) h3).p ?_)
    have el : (decide ((((unlike ts).map natD).length : Int) < 4)) = decide ((unlike ts).length < 4) := by rw [List.length_map]; exact decide_eq_decide.mpr (by omega)
    have can := can_chart (ts := ts) h1 h
    cases he : chartFor h ts with
    | some f =>
      rw [he] at q can
      have can : lawCan h ts = true := can.symm
      exact b_ifT (et_is (EvW.t (ew_or (et_is (et_lt (ev_len c.b_len (V 3 rfl) rfl) ev_int) el) fun _ => ew_or1 (et_val (e_law_can c hr (V 0 rfl) (V 1 rfl) h2 h3)))) (by rw [can, Bool.or_true])) (b_ret (EvD.p ev_non q))
    | none =>
      rw [he] at q can
      have can : lawCan h ts = false := can.symm
      have four := many_of h1 hc he
      refine b_ifF (et_is (EvW.t (ew_or (et_is (et_lt (ev_len c.b_len (V 3 rfl) rfl) ev_int) el) fun _ => ew_or1 (et_val (e_law_can c hr (V 0 rfl) (V 1 rfl) h2 h3)))) (by rw [can, decide_eq_false (by omega)] <;> rfl)) ?_
      have bw := lawRaw_b4 (h := h) h2 (by omega)
      obtain ⟨t1, t2⟩ := tri_of h1 hc
      have ra : lawRaw h ts = raw h (srcs ts) (gols ts) := by
        unfold lawRaw
        rw [srcs_full (by omega), gols_full (by omega)]
      have el2 : late h (way h (srcs ts) (gols ts)) ts = late h (lawRaw h ts) ts := by
        rw [ra, way_raw t1 t2]
        exact late_form (raw_det t1 t2) h1
      have ln := late_ne (chart_none hc he)
      rw [el2] at q ln
      refine b_set (i := 4) sc_law_bar.nd ((e_law_trio c hr (V 0 rfl) (V 1 rfl) h2 h3 (by omega)).p ?_)
      refine (b_lc (i := 5) (keep := fun i => !decide (F4.led h (lawRaw h ts) (tat ts i).1 = (tat ts i).2)) (xs := List.range ts.length) (enc := natD) (val := natD) sc_law_bar.nd (blkOk_by (own := [("_law_at", 6)]) (N := ["_law_hand", "_law_tests_here", "_law_pair", "_law_trio_here", "_law_chart_here", "_law_late", "_law_at"]) (sc := defScope (topS 106)) (by decide +kernel)) (iv_range c.b_range (ev_len c.b_len (V 1 rfl) rfl) (by rw [List.length_map]; omega)) ei (fun O' x hx => stepD_if (is := [6]) (by decide) (fun s H A cl fp => (tg_name (i := 6) sc_law_bar.nd)) (fun s H A cl fp => (t_ne hr (e_law_led c hr (V 4 rfl) (IX (ev_ix (V 1 rfl) (V 6 rfl) rfl (tat_get (List.mem_range.mp hx)) (by omega)) rfl rfl) (bw.mono (by decide)) ((h2b _ (tat_mem (List.mem_range.mp hx))).1.mono (by decide))) (IX (ev_ix (V 1 rfl) (V 6 rfl) rfl (tat_get (List.mem_range.mp hx)) (by omega)) rfl rfl))) fun _ s H A cl fp => (V 6 rfl)) (by rw [List.length_range]; omega) ?_)
      have e3 : ∃ a b d r, unlike ts = a :: b :: d :: r := by
        match hu : unlike ts, four with
        | a :: b :: d :: r, _ => exact ⟨a, b, d, r, rfl⟩
      obtain ⟨a, b, d, r, e3⟩ := e3
      have el3 : ∃ a r, (List.range ts.length).filter (fun i => !decide (F4.led h (lawRaw h ts) (tat ts i).1 = (tat ts i).2)) = a :: r := by
        have ln : (List.range ts.length).filter (fun i => !decide (F4.led h (lawRaw h ts) (tat ts i).1 = (tat ts i).2)) ≠ [] := ln
        match hu : (List.range ts.length).filter (fun i => !decide (F4.led h (lawRaw h ts) (tat ts i).1 = (tat ts i).2)), ln with
        | a :: r, _ => exact ⟨a, r, rfl⟩
      obtain ⟨a1, r1, el3⟩ := el3
      unfold late at q
      rw [e3, el3] at q ⊢
      exact b_ret (EvD.p (T5 ev_str (IX (V 3 rfl) rfl rfl) (IX (V 3 rfl) rfl rfl) (IX (V 3 rfl) rfl rfl) (IX (V 5 rfl) rfl rfl)) q)
theorem e_law_bar {X : Cx} (c : Core X.K X.mg) {O : List Addr} {Δ : List SV} {C : Cont} {pos p : Pos} {k : Nat} {h : Int} {ts : List Te} {a1 a2 : Expr} (hr : Room k X.A) (k1 : EvD X O a1 Δ C (.int h)) (k2 : EvD X O a2 Δ C (tsD ts)) (h1 : Valid ts := by first | exact bz | exact bi | exact bf | exact bp | with_reducible assumption | omega) (h2 : BT ts := by first | exact bz | exact bi | exact bf | exact bp | with_reducible assumption | omega) (h3 : ts.length ≤ 100 := by first | exact bz | exact bi | exact bf | exact bp | with_reducible assumption | omega) (hk : 6 ≤ k := by decide) (hg : Gl X "_law_bar" := by rfl)
    (s0 : starEach [a1, a2] X.env = (false, eval a1 X.env) :: starEach [a2] X.env := by rfl) (s1 : starEach [a2] X.env = (false, eval a2 X.env) :: starEach [] X.env := by rfl) : EvD X O (.Call (.Name "_law_bar" p) [a1, a2] [] pos) Δ C (barD h ts) :=
  ev_call (ok_law_bar c) (hr.mono hk) (A2 k1 k2 s0 s1) ⟨h, ts, rfl, h1, h2, h3, rfl⟩ hg (by decide) s0 (by rw [s1] <;> rfl)
end DL

/-! part Df9 -/
set_option Elab.async false
set_option linter.all false
set_option maxRecDepth 100000
set_option maxHeartbeats 4000000
namespace DL
open PySem PySem.Spec PyProof.Rows L2
variable {P : Program} {w : World} {K : PySem.W.Frag} {mg : Str → Option Value} {base : Heap}
/-! ### the well -/
def WellOk (n : Nat) (ds : List D) : Prop := ∃ r m k : Int, ds = [.int r, .int m, .int k] ∧ Bd 70 m ∧ 0 ≤ k ∧ k ≤ n
theorem WellOk.up {n m : Nat} {ds : List D} (h : WellOk n ds) (l : n ≤ m) : WellOk m ds := by
  obtain ⟨r, a, k, e, b, c, d⟩ := h
  exact ⟨r, a, k, e, b, c, by omega⟩
def wel (F : List D → (D → Prop) → Prop) (bump : Nat) : Con := fun ss C q => ∃ w A ds B n args post, ss = .own w :: args.map .dat ∧ C = A ++ (w, ds) :: B ∧ WellOk n ds ∧ n + bump ≤ 1000000 ∧ F args post ∧ ∀ z ds', post z → WellOk (n + bump) ds' → q (.dat z) (A ++ (w, ds') :: B)
theorem len_wel {m bump : Nat} {F : List D → (D → Prop) → Prop} (h : ∀ a p, F a p → a.length = m) : ∀ (ss : List SV) (C : Cont) q, wel F bump ss C q → ss.length = m + 1 := by
  rintro ss C q ⟨w, A, ds, B, n, args, post, rfl, _, _, _, f, _⟩
  rw [List.length_cons, List.length_map, h args post f]
section
variable {X : Cx} {O : List Addr} {Δ : List SV} {C A B : Cont} {P : SV → Cont → Prop} {PA' : List SV → Cont → Prop} {PT : Bool → Cont → Prop} {pos p' px : Pos} {a b : Expr} {es : List Expr} {x wn : Str} {ps : List Str} {w : Addr} {ds : List D} {n : Nat}
theorem am : (w, ds) ∈ A ++ (w, ds) :: B := List.mem_append_right _ List.mem_cons_self
theorem vp_wel {F : List D → (D → Prop) → Prop} {bump k k' i : Nat} {args : List D} {post : D → Prop} (f : DefOk X.prog X.w X.K X.mg X.base k x ps (wel F bump)) (hr : Room k' X.A) (hk : k ≤ k') (hΔ : Δ[i]? = some (.own w)) (h : EvA X O es Δ (A ++ (w, ds) :: B) (args.map .dat)) (hF : F args post) (ok : WellOk n ds) (hn : n + bump ≤ 1000000)
    (kk : ∀ z ds', post z → WellOk (n + bump) ds' → P (.dat z) (A ++ (w, ds') :: B)) (hN : X.N[i]? = some wn := by rfl) (hv : Vis X.env.scope wn := by first | exact Or.inl rfl | exact Or.inr (Or.inl rfl) | exact Or.inr (Or.inr rfl))
    (h1 : (wn == ("__debug__" : Str)) = false := by decide) (h3 : (wn == ("__classdict__" : Str)) = false := by decide) (hg : Gl X x := by rfl) (hdb : (x == ("__debug__" : Str)) = false := by decide)
    (he : starEach (.Name wn px :: es) X.env = (false, eval (.Name wn px) X.env) :: starEach es X.env := by rfl) (hpl : (backTo pos (starEach es X.env)).any (·.1) = false := by rfl) : EvP X O (.Call (.Name x p') (.Name wn px :: es) [] pos) Δ (A ++ (w, ds) :: B) P :=
  vp_call f (hr.mono hk) (av_cons (vp_own hΔ (h.p ⟨w, A, ds, B, n, args, post, rfl, rfl, ok, hn, hF, kk⟩) hN hv h1 h3) he) hg hdb he hpl
theorem vp_subL {C : Cont} (ha : EvP X O a Δ C fun s C1 => ∃ i j, s = .dat (.int i) ∧ EvD X O b Δ C1 (.int j) ∧ P (.dat (.int (i - j))) C1) : EvP X O (.BinOp a .Sub b pos) Δ C P :=
  vp_op op_sub (ha.imp fun s C1 ⟨i, j, e, h, p⟩ => ⟨.int i, e, h.p ⟨.int j, _, rfl, od_int, p⟩⟩)
theorem vp_addR {C : Cont} {i : Int} (ha : EvD X O a Δ C (.int i)) (hb : EvP X O b Δ C fun s C1 => ∃ j, s = .dat (.int j) ∧ P (.dat (.int (i + j))) C1) : EvP X O (.BinOp a .Add b pos) Δ C P :=
  vp_op op_add (ha.p ⟨.int i, rfl, hb.imp fun s C1 ⟨j, e, p⟩ => ⟨.int j, _, e, od_int, p⟩⟩)
theorem tv_eqI {C : Cont} {k : Nat} (hr : Room k X.A) (ha : EvP X O a Δ C fun s C1 => ∃ i j, s = .dat (.int i) ∧ EvD X O b Δ C1 (.int j) ∧ PT (decide (i = j)) C1) : TvP X O (.Compare a [.Eq] [b] pos) Δ C PT :=
  tv_cmp (op_eqD (hu64 hr)) (ha.imp fun s C1 ⟨i, j, e, h, p⟩ => ⟨.int i, e, h.p ⟨.int j, _, rfl, by rw [← eqv_i]; exact od_eq rfl rfl, p⟩⟩)
theorem vp_T2 {C : Cont} {kx : Nat} (h : EvP X O a Δ C fun s C1 => ∃ d, s = .dat d ∧ EvP X O b Δ C1 fun t C2 => ∃ e, t = .dat e ∧ P (.dat (.tuple [d, e])) C2) (h1 : starEach [a, b] X.env = (false, eval a X.env) :: starEach [b] X.env := by rfl) (h2 : starEach [b] X.env = (false, eval b X.env) :: starEach [] X.env := by rfl) : EvP X O (.Tuple [a, b] kx pos) Δ C P :=
  vp_tup (av_cons (h.imp fun s C1 ⟨d, es, h⟩ => av_cons (h.imp fun t C2 ⟨e, et, p⟩ => av_nil ⟨[d, e], by rw [es, et] <;> rfl, by simp, p⟩) h2) h1)
theorem vp_T3 {C : Cont} {kx : Nat} {c : Expr} (h : EvP X O a Δ C fun s C1 => ∃ d, s = .dat d ∧ EvP X O b Δ C1 fun t C2 => ∃ e, t = .dat e ∧ EvP X O c Δ C2 fun u C3 => ∃ f, u = .dat f ∧ P (.dat (.tuple [d, e, f])) C3) (h1 : starEach [a, b, c] X.env = (false, eval a X.env) :: starEach [b, c] X.env := by rfl) (h2 : starEach [b, c] X.env = (false, eval b X.env) :: starEach [c] X.env := by rfl) (h3 : starEach [c] X.env = (false, eval c X.env) :: starEach [] X.env := by rfl) : EvP X O (.Tuple [a, b, c] kx pos) Δ C P :=
  vp_tup (av_cons (h.imp fun s C1 ⟨d, es, h⟩ => av_cons (h.imp fun t C2 ⟨e, et, h⟩ => av_cons (h.imp fun u C3 ⟨f, eu, p⟩ => av_nil ⟨[d, e, f], by rw [es, et, eu] <;> rfl, by simp, p⟩) h3) h2) h1)
end
instance bi67 : BI 20 67 := ⟨Bd.lit 20 67⟩
instance bi90011 : BI 20 90011 := ⟨Bd.lit 20 90011⟩
def F_law_dip (a : List D) (post : D → Prop) : Prop := ∃ many : Int, a = [.int many] ∧ 0 < many ∧ many < 1073741824 ∧ post = fun z => ∃ d : Int, z = .int d ∧ 0 ≤ d ∧ d < many

theorem ok_law_dip (c : Core K mg) : DefOk P w K mg base 1 "_law_dip" ["_law_well_here", "_law_many"] (wel F_law_dip 1) := by
  refine mkDef c.law_dip sc_law_dip (fun _ _ _ _ _ _ us hl => match us, hl with | [_, _], _ => rfl) (len_wel (m := 1) fun a p hF => by obtain ⟨_, h, _⟩ := hF; rw [h] <;> rfl) fun f cdv A0 outer s H E hr O C ss Q hq => ?_
  obtain ⟨w, A, ds, B, n, args, post, rfl, rfl, ⟨r, m, k, rfl, hm, hk0, hk⟩, hn, ⟨many, rfl, h0, h1, rfl⟩, q⟩ := hq
  refine b_ifB (et_gt (ev_ixO (i := 0) (p := w) (ds := [.int r, .int m, .int k]) rfl am ev_int (by decide) rfl) ev_int) (fun h => ?_) fun h => b_nil ?_
  · refine b_put2 (i := 0) (j := 3) (p := w) sc_law_dip.nd rfl ((ev_divmod c.b_divmod (ev_ixO (i := 0) (p := w) (ds := [.int r, .int m, .int k]) rfl am ev_int (by decide) rfl) (V 1 rfl) h0 h1).p ⟨_, _, A, [.int r, .int m, .int k], B, 0, rfl, rfl, ev_int, by decide, (by show _ < 3; decide), ?_⟩)
    have e1 := Int.emod_nonneg r (show many ≠ 0 by omega)
    have e2 := Int.emod_lt_of_pos r h0
    exact b_ret ((V 3 rfl).p (q _ _ ⟨r % many, rfl, e1, e2⟩ ⟨r / many, m, k, rfl, hm, hk0, by omega⟩))
  · refine b_put (i := 0) (p := w) rfl ((ev_add (ev_ixO (i := 0) (p := w) (ds := [.int r, .int m, .int k]) rfl am ev_int (by decide) rfl) ev_int).p ⟨_, rfl, ev_int.p ⟨2, A, [.int r, .int m, .int k], B, rfl, rfl, by decide, (by show _ < 3; decide), ?_⟩⟩)
    have k1 : BI 70 (k + 1) := ⟨(Bd.le (n := 30) (by omega) (show k + 1 ≤ 1000001 by omega) (Bd.lit 30 1000001)).mono (by decide)⟩
    have m1 : BI 70 m := ⟨hm⟩
    have s1 := Int.emod_nonneg m (show (10037 : Int) ≠ 0 by decide)
    have s2 := Int.emod_lt_of_pos m (show (0 : Int) < 10037 by decide)
    have s3 : BI 30 (m % 10037 + 20023) := ⟨Bd.le (n := 30) (by omega) (show m % 10037 + 20023 ≤ 40000 by omega) (Bd.lit 30 40000)⟩
    refine b_set (i := 2) sc_law_dip.nd ((ev_add (ev_mod (ev_toint c.b_int (ev_ixO (i := 0) (p := w) (ds := [.int r, .int m, .int (k + 1)]) rfl am ev_int (by decide) rfl)) ev_int (by decide)) ev_int).p ?_)
    refine b_put (i := 0) (p := w) rfl ((ev_mod (ev_toint c.b_int (ev_add (ev_add (ev_mul (ev_ixO (i := 0) (p := w) (ds := [.int r, .int m, .int (k + 1)]) rfl am ev_int (by decide) rfl) (V 2 rfl) bi' bi') (ev_mul ev_int (ev_ixO (i := 0) (p := w) (ds := [.int r, .int m, .int (k + 1)]) rfl am ev_int (by decide) rfl) bi' bi')) ev_int)) ev_int (by decide)).p ⟨_, rfl, ev_int.p ⟨1, A, [.int r, .int m, .int (k + 1)], B, rfl, rfl, by decide, (by show _ < 3; decide), ?_⟩⟩)
    have t1 := Int.emod_nonneg (m * (m % 10037 + 20023) + 90011 * (k + 1) + 17) (show (2147483549 : Int) ≠ 0 by decide)
    have t2 := Int.emod_lt_of_pos (m * (m % 10037 + 20023) + 90011 * (k + 1) + 17) (show (0 : Int) < 2147483549 by decide)
    generalize (m * (m % 10037 + 20023) + 90011 * (k + 1) + 17) % 2147483549 = m2 at *
    have e1 := Int.emod_nonneg (m2 / 67) (show many ≠ 0 by omega)
    have e2 := Int.emod_lt_of_pos (m2 / 67) h0
    refine b_ret ((ev_mod (ev_toint c.b_int (ev_div (ev_ixO (i := 0) (p := w) (ds := [.int r, .int m2, .int (k + 1)]) rfl am ev_int (by decide) rfl) ev_int (by decide) bi')) (V 1 rfl) h0).p (q _ _ ⟨m2 / 67 % many, rfl, e1, e2⟩ ⟨r, m2, k + 1, rfl, ?_, by omega, by omega⟩))
    exact (Bd.le (n := 40) (by omega) (show m2 ≤ 2147483549 by omega) (Bd.lit 40 2147483549)).mono (by decide)
end DL

/-! part Dfa -/
set_option Elab.async false
set_option linter.all false
set_option maxRecDepth 100000
set_option maxHeartbeats 4000000
namespace DL
open PySem PySem.Spec PyProof.Rows L2
variable {P : Program} {w : World} {K : PySem.W.Frag} {mg : Str → Option Value} {base : Heap}
def F_law_of (a : List D) (post : D → Prop) : Prop := ∃ (d : D) (ds : List D), a = [d] ∧ seqOf d = some ds ∧ 0 < ds.length ∧ ds.length ≤ 1000 ∧ post = fun z => z ∈ ds
def C_ofO : Con := fun ss C q => ∃ w A ds B n p xs, ss = [.own w, .own p] ∧ C = A ++ (w, ds) :: B ∧ (p, xs) ∈ A ∧ WellOk n ds ∧ n + 1 ≤ 1000000 ∧ 0 < xs.length ∧ xs.length ≤ 1000 ∧ ∀ z ds', z ∈ xs → WellOk (n + 1) ds' → q (.dat z) (A ++ (w, ds') :: B)
theorem ok_law_of2 (c : Core K mg) : DefOk P w K mg base 2 "_law_of" ["_law_well_here", "_law_some"] (fun ss C q => wel F_law_of 1 ss C q ∨ C_ofO ss C q) := by
  refine mkDef c.law_of sc_law_of (fun _ _ _ _ _ _ us hl => match us, hl with | [_, _], _ => rfl) (fun ss C q h => h.elim (len_wel (m := 1) (fun a p ⟨_, _, h, _⟩ => by rw [h] <;> rfl) ss C q) fun ⟨_, _, _, _, _, _, _, h, _⟩ => by rw [h] <;> rfl) fun f cdv A0 outer s H E hr O C ss Q hq => ?_
  rcases hq with ⟨w, A, ds, B, n, args, post, rfl, rfl, ok, hn, ⟨d, xs, rfl, hs, h0, h1, rfl⟩, q⟩ | ⟨w, A, ds, B, n, p, xs, rfl, rfl, hp, ok, hn, h0, h1, q⟩
  · refine b_ret (vp_ix ((V 1 rfl).p ⟨_, rfl, vp_wel (i := 0) (ok_law_dip c) hr (by decide) rfl (A1 (ev_len c.b_len (V 1 rfl) hs)) ⟨xs.length, rfl, by omega, by omega, rfl⟩ ok hn ?_⟩))
    rintro z ds2 ⟨i, rfl, i0, i1⟩ ok2
    have hi : i.toNat < xs.length := by omega
    exact ⟨_, xs[i.toNat], rfl, od_ix hs i0 (List.getElem?_eq_getElem hi), q _ _ (List.getElem_mem hi) ok2⟩
  · refine b_ret (vp_ixO (p := p) (vp_own (i := 1) rfl ⟨rfl, vp_wel (i := 0) (ok_law_dip c) hr (by decide) rfl (A1 (ev_lenO (i := 1) (p := p) (ds := xs) c.b_len rfl (List.mem_append_left _ hp))) ⟨xs.length, rfl, by omega, by omega, rfl⟩ ok hn ?_⟩))
    rintro z ds2 ⟨i, rfl, i0, i1⟩ ok2
    have hi : i.toNat < xs.length := by omega
    exact ⟨i, xs, xs[i.toNat], rfl, List.mem_append_left _ hp, i0, List.getElem?_eq_getElem hi, q _ _ (List.getElem_mem hi) ok2⟩
theorem ok_law_of (c : Core K mg) : DefOk P w K mg base 2 "_law_of" ["_law_well_here", "_law_some"] (wel F_law_of 1) := (ok_law_of2 c).imp fun _ _ _ h => .inl h
theorem ok_law_ofO (c : Core K mg) : DefOk P w K mg base 2 "_law_of" ["_law_well_here", "_law_some"] C_ofO := (ok_law_of2 c).imp fun _ _ _ h => .inr h
def F_law_whole (a : List D) (post : D → Prop) : Prop := ∃ wide : Int, a = [.int wide] ∧ 0 ≤ wide ∧ wide ≤ 1000 ∧ post = fun z => ∃ i : Int, z = .int i ∧ -wide ≤ i ∧ i ≤ wide
theorem ok_law_whole (c : Core K mg) : DefOk P w K mg base 2 "_law_whole" ["_law_well_here", "_law_wide"] (wel F_law_whole 1) := by
  refine mkDef c.law_whole sc_law_whole (fun _ _ _ _ _ _ us hl => match us, hl with | [_, _], _ => rfl) (len_wel (m := 1) fun a p hF => by obtain ⟨_, h, _⟩ := hF; rw [h] <;> rfl) fun f cdv A0 outer s H E hr O C ss Q hq => ?_
  obtain ⟨w, A, ds, B, n, args, post, rfl, rfl, ok, hn, ⟨wide, rfl, h0, h1, rfl⟩, q⟩ := hq
  have i1 : BI 20 wide := ⟨Bd.le h0 h1 (Bd.lit 20 1000)⟩
  refine b_ifT (et_is (et_le (V 1 rfl) ev_int) (decide_eq_true h1)) (b_ret (vp_subL (vp_wel (i := 0) (ok_law_dip c) hr (by decide) rfl (A1 (ev_add (ev_mul ev_int (V 1 rfl) bi' bi') ev_int)) ⟨2 * wide + 1, rfl, by omega, by omega, rfl⟩ ok hn ?_)))
  rintro z ds2 ⟨i, rfl, i0, i1⟩ ok2
  exact ⟨i, wide, rfl, V 1 rfl, q _ _ ⟨i - wide, rfl, by omega, by omega⟩ ok2⟩
theorem bd_box {n : Nat} {i : Int} {b : Int} (h1 : -b ≤ i) (h2 : i ≤ b) (h : Bd n b) : Bd n i := by
  unfold Bd at *
  omega
def F_law_place (a : List D) (post : D → Prop) : Prop := ∃ wide : Int, a = [.int wide] ∧ 1 ≤ wide ∧ wide ≤ 1000 ∧ post = fun z => ∃ x : Pl, z = x.d ∧ x.ok ∧ BP 10 x
theorem ok_law_place (c : Core K mg) : DefOk P w K mg base 3 "_law_place" ["_law_well_here", "_law_wide"] (wel F_law_place 4) := by
  refine mkDef c.law_place sc_law_place (fun _ _ _ _ _ _ us hl => match us, hl with | [_, _], _ => rfl) (len_wel (m := 1) fun a p hF => by obtain ⟨_, h, _⟩ := hF; rw [h] <;> rfl) fun f cdv A0 outer s H E hr O C ss Q hq => ?_
  obtain ⟨w, A, ds, B, n, args, post, rfl, rfl, ok, hn, ⟨wide, rfl, h0, h1, rfl⟩, q⟩ := hq
  refine b_if (tv_eqI hr (vp_wel (i := 0) (ok_law_dip c) hr (by decide) rfl (A1 ev_int) ⟨9, rfl, by decide, by decide, rfl⟩ ok (by omega) ?_))
  rintro z ds2 ⟨d, rfl, d0, d1⟩ ok2
  refine ⟨d, 0, rfl, ev_int, ?_⟩
  by_cases e : d = 0
  · rw [if_pos (decide_eq_true e)]
    exact b_ret ((T3 ev_int ev_int ev_int).p (q _ _ ⟨Pl.far, rfl, .inl rfl, bp_far 9⟩ (ok2.up (by omega))))
  rw [if_neg (by rw [decide_eq_false e]; decide)]
  refine b_nil (b_par (i := 2) (j := 3) sc_law_place.nd (av_cons (vp_wel (i := 0) (ok_law_whole c) hr (by decide) rfl (A1 (V 1 rfl)) ⟨wide, rfl, by omega, h1, rfl⟩ ok2 (by omega) ?_)))
  rintro z ds3 ⟨p, rfl, p0, p1⟩ ok3
  refine av_cons (vp_wel (i := 0) (ok_law_whole c) hr (by decide) rfl (A1 (V 1 rfl)) ⟨wide, rfl, by omega, h1, rfl⟩ ok3 (by omega) ?_)
  rintro z ds4 ⟨s2, rfl, s0, s1⟩ ok4
  refine av_nil ⟨_, _, rfl, ?_⟩
  refine b_ret (vp_call (ok_law_cut c) (hr.mono (by decide)) (av_cons (vp_T3 ((V 2 rfl).p ⟨_, rfl, (V 3 rfl).p ⟨_, rfl, vp_addR ev_int (vp_wel (i := 0) (ok_law_dip c) hr (by decide) rfl (A1 (ev_min c.b_min (V 1 rfl) ev_int)) ⟨wide, ?_, by omega, by omega, rfl⟩ ok4 (by omega) ?_)⟩⟩))))
  · rw [if_neg (by omega)] <;> rfl
  rintro z ds5 ⟨r, rfl, r0, r1⟩ ok5
  have hr1 : Bd 10 (1 + r) := Bd.le (by omega) (show 1 + r ≤ 1000 by omega) (Bd.lit 10 1000)
  obtain ⟨g1, g2⟩ := low_bd (p := p) (s := s2) (show 0 < 1 + r by omega) hr1 (by decide)
  have hw : Bd 10 wide := Bd.le (by omega) h1 (Bd.lit 10 1000)
  refine ⟨r, rfl, _, rfl, av_nil ⟨[_], _, rfl, ⟨[p, s2, 1 + r], rfl, by simp, g1, g2, rfl⟩, q _ _ ⟨Pl.low p s2 (1 + r), rfl, Pl.low_ok (by omega), BP.low (bd_box p0 p1 hw) (bd_box s0 s1 hw) hr1 g1⟩ (ok5.up (by omega))⟩⟩
end DL

/-! part Dfb -/
set_option Elab.async false
set_option linter.all false
set_option maxRecDepth 100000
set_option maxHeartbeats 4000000
namespace DL
open PySem PySem.Spec PyProof.Rows L2
variable {P : Program} {w : World} {K : PySem.W.Frag} {mg : Str → Option Value} {base : Heap}
def GoodP (n : Nat) (l : List Pl) : Prop := ∀ x ∈ l, x.ok ∧ BP n x
/-- a place moved, other places -/
def moved (x : Pl) (k : Nat) : Pl := if 0 < x.r then ⟨x.p + (k : Int) * x.r, x.s, x.r⟩ else x
def cands (x : Pl) (i : Nat) : List Pl := (List.range (i + 1)).map (moved x)
def ones (i : Nat) : List Pl := (List.range i).map fun k => ⟨(k : Nat), 1, 1⟩
theorem gcd_shift (p s r : Int) (k : Int) : gcdL [p + k * r, s, r] = gcdL [p, s, r] := by
  rw [Pl.g3_eq, Pl.g3_eq]
  refine congrArg _ (Nat.dvd_antisymm (Int.dvd_gcd ?_ ?_) (Int.dvd_gcd ?_ ?_))
  · have h1 := Int.gcd_dvd_left (a := (Int.gcd (p + k * r) s : Int)) (b := r)
    have h2 := Int.gcd_dvd_right (a := (Int.gcd (p + k * r) s : Int)) (b := r)
    have h3 := Int.dvd_trans h1 (Int.gcd_dvd_left (a := p + k * r) (b := s))
    have h4 := Int.dvd_trans h1 (Int.gcd_dvd_right (a := p + k * r) (b := s))
    refine Int.dvd_coe_gcd ?_ h4
    have := Int.dvd_sub h3 (Int.dvd_mul_of_dvd_right (b := k) h2)
    have e : p + k * r - k * r = p := by omega
    rwa [e] at this
  · exact Int.gcd_dvd_right ..
  · have h1 := Int.gcd_dvd_left (a := (Int.gcd p s : Int)) (b := r)
    have h2 := Int.gcd_dvd_right (a := (Int.gcd p s : Int)) (b := r)
    have h3 := Int.dvd_trans h1 (Int.gcd_dvd_left (a := p) (b := s))
    have h4 := Int.dvd_trans h1 (Int.gcd_dvd_right (a := p) (b := s))
    refine Int.dvd_coe_gcd ?_ h4
    exact Int.dvd_add h3 (Int.dvd_mul_of_dvd_right (b := k) h2)
  · exact Int.gcd_dvd_right ..
theorem moved_ok {x : Pl} (h : x.ok) (k : Nat) : (moved x k).ok := by
  unfold moved
  split
  · rename_i hr
    rcases h with h | ⟨_, h⟩
    · rw [h] at hr; exact absurd hr (by decide)
    · exact .inr ⟨hr, by rw [gcd_shift]; exact h⟩
  · exact h
theorem moved_bp {x : Pl} (h : BP 10 x) {k : Nat} (hk : k ≤ 6) : BP 13 (moved x k) := by
  unfold moved
  split
  · rename_i hr
    refine ⟨?_, h.s.mono (by decide), h.r.mono (by decide)⟩
    have h1 : x.p.natAbs < 1024 := h.p
    have h2 : x.r.natAbs < 1024 := h.r
    have a := Int.mul_le_mul_of_nonneg_right (show (k : Int) ≤ 6 by omega) (show 0 ≤ x.r by omega)
    have b := Int.mul_nonneg (show 0 ≤ (k : Int) by omega) (show 0 ≤ x.r by omega)
    show (x.p + (k : Int) * x.r).natAbs < 8192
    generalize (k : Int) * x.r = m at *
    omega
  · exact h.mono (by decide)
theorem ones_ok {i : Nat} : ∀ x ∈ ones i, x.ok := by
  intro x hx
  obtain ⟨k, _, rfl⟩ := List.mem_map.mp hx
  refine .inr ⟨(by show (0 : Int) < 1; decide), ?_⟩
  rw [Pl.g3_eq, Int.gcd_one_right] <;> rfl
theorem ones_bp {i : Nat} (h : i ≤ 6) : ∀ x ∈ ones i, BP 13 x := by
  intro x hx
  obtain ⟨k, hk, rfl⟩ := List.mem_map.mp hx
  have := List.mem_range.mp hk
  have b1 : Bd 3 (k : Int) := by unfold Bd; omega
  exact ⟨b1.mono (by decide), Bd.lit 13 1, Bd.lit 13 1⟩
theorem ones_nd (i : Nat) : (ones i).Nodup := by
  refine List.pairwise_map.mpr (List.Pairwise.imp (fun {a b} l e => ?_) List.pairwise_lt_range)
  cases e
  have l : a < a := l
  omega
theorem cands_nd {x : Pl} (h : 0 < x.r) (i : Nat) : (cands x i).Nodup := by
  refine List.pairwise_map.mpr (List.Pairwise.imp (fun {a b} l e => ?_) List.pairwise_lt_range)
  have l : a < b := l
  unfold moved at e
  rw [if_pos h, if_pos h] at e
  have e1 : x.p + (a : Int) * x.r = x.p + (b : Int) * x.r := congrArg Pl.p e
  have e2 : (a : Int) * x.r = (b : Int) * x.r := by omega
  have e3 := Int.eq_of_mul_eq_mul_right (show x.r ≠ 0 by omega) e2
  omega
/-- some candidate is new -/
theorem new_one {cs l : List Pl} {i : Nat} (hl : l.length = i) {ds : List Pl} (nd : ds.Nodup) (hd : i < ds.length) (sub : ∀ x ∈ ds, x ∈ cs) : cs.filter (fun x => !decide (x ∈ l)) ≠ [] := fun e => by
  have : ∀ x ∈ ds, x ∈ l := fun x hx => by
    refine Classical.byContradiction fun z => ?_
    have m : x ∈ cs.filter (fun x => !decide (x ∈ l)) := List.mem_filter.mpr ⟨sub x hx, by rw [decide_eq_false z] <;> rfl⟩
    rw [e] at m
    cases m
  have := sub_len nd this
  omega
theorem moved_far {x : Pl} (h : ¬0 < x.r) (k : Nat) : moved x k = x := by unfold moved; rw [if_neg h]
theorem far_cands {x : Pl} (h : ¬0 < x.r) (ho : x.ok) (i : Nat) : (Pl.far :: ones i).Nodup ∧ ∀ y ∈ Pl.far :: ones i, y ∈ cands x i ++ ones i := by
  have e : x = Pl.far := ho.resolve_right fun z => h z.1
  refine ⟨List.nodup_cons.mpr ⟨fun z => ?_, ones_nd i⟩, fun y hy => ?_⟩
  · obtain ⟨k, _, e⟩ := List.mem_map.mp z
    cases e
  · rcases List.mem_cons.mp hy with z | z
    · refine List.mem_append_left _ (List.mem_map.mpr ⟨0, List.mem_range.mpr (by omega), ?_⟩)
      rw [moved_far h, z, e]
    · exact List.mem_append_right _ z
def F_law_unlike (a : List D) (post : D → Prop) : Prop := ∃ (many : Nat) (wide : Int), a = [.int (many : Nat), .int wide] ∧ many ≤ 6 ∧ 1 ≤ wide ∧ wide ≤ 1000 ∧ post = fun z => ∃ l : List Pl, z = .list (l.map Pl.d) ∧ l.length = many ∧ GoodP 13 l
theorem ok_law_unlike (c : Core K mg) : DefOk P w K mg base 4 "_law_unlike" ["_law_well_here", "_law_many", "_law_wide"] (wel F_law_unlike 24) := by
  refine mkDef c.law_unlike sc_law_unlike (fun _ _ _ _ _ _ us hl => match us, hl with | [_, _, _], _ => rfl) (len_wel (m := 2) fun a p hF => by obtain ⟨_, _, h, _⟩ := hF; rw [h] <;> rfl) fun f cdv A0 outer s H E hr O C ss Q hq => ?_
  obtain ⟨wl, A, ds, B, n, args, post, rfl, rfl, ok, hn, ⟨many, wide, rfl, hm, h0, h1, rfl⟩, q⟩ := hq
  refine b_set (i := 3) sc_law_unlike.nd (vp_lstO (av_nil ⟨[], rfl, by simp, fun f2 nf no => ?_⟩))
  refine b_for PassesOwn.never (iv_range c.b_range (V 1 rfl) (by omega)) (fun i Δ1 C1 => ∃ (l : List Pl) (ds2 : List D) (s4 s5 s6 s7 s8 s9 s10 : SV), C1 = (f2, l.map Pl.d) :: (A ++ (wl, ds2) :: B) ∧ Δ1 = [.own wl, .dat (.int (many : Nat)), .dat (.int wide), .own f2, s4, s5, s6, s7, s8, s9, s10] ∧ l.length = i ∧ GoodP 13 l ∧ WellOk (n + 4 * i) ds2) ⟨[], ds, .no, .no, .no, .no, .no, .no, .no, rfl, rfl, rfl, (fun x hx => nomatch hx), ok⟩ ?_ ?_
  · rintro i Δ1 C1 d hd ⟨l, ds2, s4, s5, s6, s7, s8, s9, s10, rfl, rfl, hl, gl, ok2⟩
    rw [show ups ((many : Int)).toNat 0 = (List.range many).map natD from ups0 many, List.getElem?_map] at hd
    obtain ⟨i', hi', rfl⟩ := Option.map_eq_some_iff.mp hd
    have hi : i < many := by
      have := (List.getElem?_eq_some_iff.mp hi').1
      rwa [List.length_range] at this
    rw [List.getElem?_range hi] at hi'
    cases hi'
    refine ⟨_, _, tg_name (i := 4) sc_law_unlike.nd, ?_⟩
    refine b_asg (vp_wel (A := (f2, l.map Pl.d) :: A) (i := 0) (ok_law_place c) hr (by decide) rfl (A1 (V 2 rfl)) ⟨wide, rfl, h0, h1, rfl⟩ ok2 (by omega) ?_)
    rintro z ds3 ⟨y, rfl, by1, by2⟩ ok3
    refine ⟨_, _, _, rfl, tg_tup (tgs_cons (tg_name (i := 6) sc_law_unlike.nd) (tgs_cons (tg_name (i := 7) sc_law_unlike.nd) (tgs_cons (tg_name (i := 8) sc_law_unlike.nd) tgs_nil))), ?_⟩
    have er1 : ups (((i : Nat) : Int) + 1).toNat 0 = (List.range (i + 1)).map natD := ups0 (i + 1)
    have er0 : ups (((i : Nat) : Int)).toNat 0 = (List.range i).map natD := ups0 i
    refine b_re (Δ' := [.own wl, .dat (.int (many : Nat)), .dat (.int wide), .own f2, .dat (natD i), s5, .dat (.int y.p), .dat (.int y.s), .dat (.int y.r), s9, s10]) rfl ?_
    refine (b_map (i := 5) (xs := List.range (i + 1)) (enc := natD) (val := fun k => (moved y k).d) sc_law_unlike.nd (blkOk_by (own := [("_law_step", 9)]) (N := ["_law_well_here", "_law_many", "_law_wide", "_law_found", "_law_turn", "_law_some", "_law_p", "_law_s", "_law_r", "_law_step", "_law_each"]) (sc := defScope (topS 90)) (by decide +kernel)) (iv_range c.b_range (ev_add (V 4 rfl) ev_int) (by omega)) er1 (fun O' x hx => stepD_all (is := [9]) (by decide) (fun s H A cl fp => (tg_name (i := 9) sc_law_unlike.nd)) fun s H A cl fp => (ev_if (d := (moved y x).d) (et_gt (V 8 rfl) ev_int) (fun e => ev_is (T3 (ev_add (V 6 rfl) (ev_mul (V 9 rfl) (V 8 rfl) (n := 70) (m := 70) (((show Bd 70 (x : Int) from by have := List.mem_range.mp hx; unfold Bd; omega))) (by2.r.mono (by decide)))) (V 7 rfl) (V 8 rfl)) (by unfold moved; rw [if_pos (of_decide_eq_true e)])) (fun e => ev_is (T3 (V 6 rfl) (V 7 rfl) (V 8 rfl)) (by unfold moved; rw [if_neg (of_decide_eq_false e)])))) (by rw [List.length_range]; omega) ?_)
    have gc0 : GoodP 13 (cands y i) := fun x hx => by
      obtain ⟨k, hk, rfl⟩ := List.mem_map.mp hx
      have := List.mem_range.mp hk
      exact ⟨moved_ok by1 k, moved_bp by2 (by omega)⟩
    have ec : (List.range (i + 1)).map (fun k => (moved y k).d) = (cands y i).map Pl.d := by unfold cands; rw [List.map_map] <;> rfl
    have eo : (List.range i).map (fun k => (Pl.d ⟨(k : Nat), 1, 1⟩)) = (ones i).map Pl.d := by unfold ones; rw [List.map_map] <;> rfl
    have lc0 : (cands y i).length = i + 1 := by unfold cands; rw [List.length_map, List.length_range]
    have lo0 : (ones i).length = i := by unfold ones; rw [List.length_map, List.length_range]
    refine b_re (Δ' := [.own wl, .dat (.int (many : Nat)), .dat (.int wide), .own f2, .dat (natD i), .dat (.list ((cands y i).map Pl.d)), .dat (.int y.p), .dat (.int y.s), .dat (.int y.r), s9, s10]) (by rw [← ec] <;> rfl) ?_
    refine b_ifJ (fun Δ2 C2 => ∃ (cs ds5 : List Pl), Δ2 = [.own wl, .dat (.int (many : Nat)), .dat (.int wide), .own f2, .dat (natD i), .dat (.list (cs.map Pl.d)), .dat (.int y.p), .dat (.int y.s), .dat (.int y.r), s9, s10] ∧ C2 = (f2, l.map Pl.d) :: (A ++ (wl, ds3) :: B) ∧ GoodP 13 cs ∧ cs.length ≤ 100 ∧ ds5.Nodup ∧ i < ds5.length ∧ (∀ x ∈ ds5, x ∈ cs)) (t_eq hr (V 8 rfl) ev_int) (fun e => ?_) (fun e => b_nil ?_) ?_
    · have e : y.r = 0 := of_decide_eq_true e
      obtain ⟨f1, f3⟩ := far_cands (x := y) (by omega) by1 i
      refine b_set (i := 5) sc_law_unlike.nd ((ev_is (z := .list ((cands y i ++ ones i).map Pl.d)) (ev_cat (V 5 rfl) (ev_map (xs := List.range i) (enc := natD) (val := fun k => (Pl.d ⟨(k : Nat), 1, 1⟩)) sc_law_unlike.nd (blkOk_by (own := [("_law_step", 9)]) (N := ["_law_well_here", "_law_many", "_law_wide", "_law_found", "_law_turn", "_law_some", "_law_p", "_law_s", "_law_r", "_law_step", "_law_each"]) (sc := defScope (topS 90)) (by decide +kernel)) (iv_range c.b_range (V 4 rfl) (by omega)) er0 (fun O' x hx => stepD_all (is := [9]) (by decide) (fun s H A cl fp => (tg_name (i := 9) sc_law_unlike.nd)) fun s H A cl fp => (T3 (V 9 rfl) ev_int ev_int)) (by rw [List.length_range]; omega)) (by rw [List.length_map, List.length_map, List.length_range]; omega)) (by rw [eo, List.map_append])).p (b_nil ⟨cands y i ++ ones i, Pl.far :: ones i, rfl, rfl, fun x hx => (List.mem_append.mp hx).elim (gc0 x) fun z => ⟨ones_ok x z, ones_bp (by omega) x z⟩, by rw [List.length_append]; omega, f1, by rw [List.length_cons]; omega, f3⟩))
    · have e : ¬y.r = 0 := of_decide_eq_false e
      have hr0 : 0 < y.r := by have := Pl.ok_r by1; omega
      exact ⟨cands y i, cands y i, rfl, rfl, gc0, by omega, cands_nd hr0 i, by omega, fun x hx => hx⟩
    · rintro Δ2 C2 ⟨cs, ds5, rfl, rfl, gc, lc, nd, hd5, sub⟩
      have ne := new_one hl nd hd5 sub
      have hg := head_get Pl.far ne
      refine b_append (i := 3) (p := f2) rfl List.mem_cons_self (EvD.p (ev_ix (z := ((cs.filter fun x => !decide (x ∈ l)).headD Pl.far).d) (ev_lc (keep := fun x => !decide (x ∈ l)) (xs := cs) (enc := Pl.d) (val := Pl.d) sc_law_unlike.nd (blkOk_by (own := [("_law_each", 10)]) (N := ["_law_well_here", "_law_many", "_law_wide", "_law_found", "_law_turn", "_law_some", "_law_p", "_law_s", "_law_r", "_law_step", "_law_each"]) (sc := defScope (topS 90)) (by decide +kernel)) (iv_seq (V 5 rfl) rfl) rfl (fun O' x hx => stepD_if (is := [10]) (by decide) (fun s H A cl fp => (tg_name (i := 10) sc_law_unlike.nd)) (fun s H A cl fp => (et_is (et_ninO (i := 3) (p := f2) (hu65 hr) (V 10 rfl) rfl List.mem_cons_self rfl (lay_P l)) (by rw [any_P]))) fun _ s H A cl fp => (V 10 rfl)) (by omega)) (ev_int (i := 0)) rfl ?_) ⟨_, [], l.map Pl.d, _, rfl, rfl, by rw [List.length_map]; omega, b_nil ⟨l ++ [(cs.filter fun x => !decide (x ∈ l)).headD Pl.far], ds3, _, _, _, _, _, _, _, by rw [List.map_append] <;> rfl, rfl, by rw [List.length_append, hl] <;> rfl, fun x hx => ?_, ok3.up (by omega)⟩⟩)
      · rw [List.getElem?_map, show (0 : Int).toNat = 0 from rfl, hg] <;> rfl
      · rcases List.mem_append.mp hx with z | z
        · exact gl x z
        · rw [List.mem_singleton.mp z]
          exact gc _ (List.mem_filter.mp (List.mem_of_getElem? hg)).1
  · rintro Δ1 C1 ⟨l, ds2, s4, s5, s6, s7, s8, s9, s10, rfl, rfl, hl, gl, ok2⟩
    rw [ups_len, Int.toNat_natCast] at hl ok2
    refine b_ret (vp_frz (p := f2) no (vp_own (i := 3) rfl ⟨[], l.map Pl.d, A ++ (wl, ds2) :: B, rfl, rfl, q _ _ ⟨l, rfl, hl, gl⟩ (ok2.up (by omega))⟩))
end DL

/-! part Dfc -/
set_option Elab.async false
set_option linter.all false
set_option maxRecDepth 100000
set_option maxHeartbeats 4000000
namespace DL
open PySem PySem.Spec PyProof.Rows L2
variable {P : Program} {w : World} {K : PySem.W.Frag} {mg : Str → Option Value} {base : Heap}
def F_law_four (a : List D) (post : D → Prop) : Prop := ∃ wide : Int, a = [.int wide] ∧ 1 ≤ wide ∧ wide ≤ 1000 ∧ post = fun z => ∃ f : F4, z = .list f.ds ∧ f.det ≠ 0 ∧ B4 11 f
def Bx (wide i : Int) : Prop := -wide ≤ i ∧ i ≤ wide
theorem Bx.bd {wide i : Int} (h : Bx wide i) (l : wide ≤ 1000) (l0 : 1 ≤ wide) : Bd 10 i := bd_box h.1 h.2 (Bd.le (by omega) l (Bd.lit 10 1000))
theorem ok_law_four (c : Core K mg) : DefOk P w K mg base 3 "_law_four" ["_law_well_here", "_law_wide"] (wel F_law_four 8) := by
  refine mkDef c.law_four sc_law_four (fun _ _ _ _ _ _ us hl => match us, hl with | [_, _], _ => rfl) (len_wel (m := 1) fun a p hF => by obtain ⟨_, h, _⟩ := hF; rw [h] <;> rfl) fun f cdv A0 outer s H E hr O C ss Q hq => ?_
  obtain ⟨wl, A, ds, B, n, args, post, rfl, rfl, ok, hn, ⟨wide, rfl, h0, h1, rfl⟩, q⟩ := hq
  refine b_asg (vp_lc sc_law_four.nd (blkOk_by (own := [("_law_turn", 6)]) (N := ["_law_well_here", "_law_wide", "_law_a", "_law_b", "_law_c", "_law_d", "_law_turn"]) (sc := defScope (topS 91)) (by decide +kernel)) (iv_range c.b_range (ev_int (i := 4)) (by decide)) (fun i acc C1 => ∃ (zs : List G) (ds2 : List D), acc = zs.map G.d ∧ zs.length = i ∧ (∀ z ∈ zs, Bz 10 z) ∧ C1 = A ++ (wl, ds2) :: B ∧ WellOk (n + 2 * i) ds2) ⟨[], ds, rfl, rfl, (fun z hz => nomatch hz), rfl, ok⟩ ?_ ?_ (by rw [ups_len]; decide))
  · rintro O' i acc C1 d hd ⟨zs, ds2, rfl, hl, hz, rfl, ok2⟩
    have hi : i < 4 := by
      have := (List.getElem?_eq_some_iff.mp hd).1
      rw [ups_len] at this
      exact this
    refine ⟨[6], _, by decide, fun s H Ax cl fp => ⟨tg_name (i := 6) sc_law_four.nd, tvs_nil (iteT fun s H Ax cl fp => vp_T2 (vp_wel (i := 0) (ok_law_whole c) hr (by decide) rfl (A1 (V 1 rfl)) ⟨wide, rfl, by omega, h1, rfl⟩ ok2 (by omega) ?_))⟩⟩
    rintro z ds3 ⟨p, rfl, p0, p1⟩ ok3
    refine ⟨_, rfl, vp_wel (i := 0) (ok_law_whole c) hr (by decide) rfl (A1 (V 1 rfl)) ⟨wide, rfl, by omega, h1, rfl⟩ ok3 (by omega) ?_⟩
    rintro z ds4 ⟨p2, rfl, p3, p4⟩ ok4
    refine ⟨_, rfl, _, rfl, zs ++ [⟨p, p2⟩], ds4, by rw [List.map_append] <;> rfl, by rw [List.length_append, hl] <;> rfl, fun z hz' => ?_, rfl, ok4.up (by omega)⟩
    rcases List.mem_append.mp hz' with y | y
    · exact hz z y
    · rw [List.mem_singleton.mp y]
      exact ⟨Bx.bd (wide := wide) ⟨p0, p1⟩ h1 h0, Bx.bd (wide := wide) ⟨p3, p4⟩ h1 h0⟩
  rintro acc C1 ⟨zs, ds2, rfl, hl, hz, rfl, ok2⟩
  rw [ups_len] at hl ok2
  have hl : zs.length = 4 := hl
  obtain ⟨a, b, d, e, rfl⟩ : ∃ a b d e, zs = [a, b, d, e] := by
    match zs, hl with
    | [a, b, d, e], _ => exact ⟨a, b, d, e, rfl⟩
  have ha : BZ _ a := ⟨hz a (by simp)⟩
  have hb : BZ _ b := ⟨hz b (by simp)⟩
  have hd : BZ _ d := ⟨hz d (by simp)⟩
  have he : BZ _ e := ⟨hz e (by simp)⟩
  refine ⟨_, _, _, rfl, tg_lst (ds := [a.d, b.d, d.d, e.d]) (tgs_cons (tg_name (i := 2) sc_law_four.nd) (tgs_cons (tg_name (i := 3) sc_law_four.nd) (tgs_cons (tg_name (i := 4) sc_law_four.nd) (tgs_cons (tg_name (i := 5) sc_law_four.nd) tgs_nil)))), ?_⟩
  refine b_re (Δ' := [.own wl, .dat (.int wide), .dat a.d, .dat b.d, .dat d.d, .dat e.d, .no]) rfl ?_
  refine b_ifJ (fun Δ2 C2 => ∃ f : F4, Δ2 = [.own wl, .dat (.int wide), .dat f.a.d, .dat f.b.d, .dat f.c.d, .dat f.d.d, .no] ∧ C2 = A ++ (wl, ds2) :: B ∧ f.det ≠ 0 ∧ B4 11 f) (t_eq hr (e_law_times c hr (V 2 rfl) (V 5 rfl)) (e_law_times c hr (V 3 rfl) (V 4 rfl))) (fun k => ?_) (fun k => b_nil ⟨⟨a, b, d, e⟩, rfl, rfl, ?_, bf⟩) ?_
  · have k : a * e = b * d := of_decide_eq_true k
    refine b_ifB (t_eq hr (V 2 rfl) (asZ (0 : G) (T2 ev_int ev_int))) (fun k2 => ?_) fun k2 => ?_
    · have k2 : a = 0 := of_decide_eq_true k2
      subst k2
      refine b_tgt (T3 (asZ (1 : G) (T2 ev_int ev_int)) (asZ (0 : G) (T2 ev_int ev_int)) (asZ G.I1 (T2 ev_int ev_int))) (tg_tup (ds := [G.d 1, G.d 0, G.I1.d]) (tgs_cons (tg_name (i := 2) sc_law_four.nd) (tgs_cons (tg_name (i := 4) sc_law_four.nd) (tgs_cons (tg_name (i := 5) sc_law_four.nd) tgs_nil)))) (b_nil (b_nil ⟨⟨1, b, 0, G.I1⟩, rfl, rfl, ?_, ⟨(bz1.h).mono (by decide), hb.h.mono (by decide), bz0.h.mono (by decide), ⟨Bd.lit 11 0, Bd.lit 11 1⟩⟩⟩))
      show (1 : G) * G.I1 - b * 0 ≠ 0
      have e2 : (1 : G) * G.I1 - b * 0 = G.I1 := by grind
      rw [e2]
      decide
    · have k2 : a ≠ 0 := of_decide_eq_false k2
      refine b_set (i := 5) sc_law_four.nd ((asZ (e + 1) (T2 (ev_add (IX (V 5 rfl) rfl rfl) ev_int) (IX (V 5 rfl) rfl rfl)) (by simp) (by simp)).p (b_nil (b_nil ⟨⟨a, b, d, e + 1⟩, rfl, rfl, ?_, bf⟩)))
      show a * (e + 1) - b * d ≠ 0
      have e2 : a * (e + 1) - b * d = a := by
        have : a * (e + 1) = a * e + a := by grind
        rw [this, k]
        grind
      rw [e2]
      exact k2
  · have k : a * e ≠ b * d := of_decide_eq_false k
    show a * e - b * d ≠ 0
    exact fun z => k (by grind)
  · rintro Δ2 C2 ⟨f, rfl, rfl, k1, k2⟩
    exact b_ret ((L4 (V 2 rfl) (V 3 rfl) (V 4 rfl) (V 5 rfl)).p (q _ _ ⟨f, rfl, k1, k2⟩ (ok2.up (by omega))))
def F_law_map (a : List D) (post : D → Prop) : Prop := ∃ wide : Int, a = [.int wide] ∧ 1 ≤ wide ∧ wide ≤ 1000 ∧ post = fun z => ∃ (h : Int) (f : F4), z = chD h f ∧ B4 12 f
theorem ok_law_map (c : Core K mg) : DefOk P w K mg base 4 "_law_map" ["_law_well_here", "_law_wide"] (wel F_law_map 9) := by
  refine mkDef c.law_map sc_law_map (fun _ _ _ _ _ _ us hl => match us, hl with | [_, _], _ => rfl) (len_wel (m := 1) fun a p hF => by obtain ⟨_, h, _⟩ := hF; rw [h] <;> rfl) fun f cdv A0 outer s H E hr O C ss Q hq => ?_
  obtain ⟨wl, A, ds, B, n, args, post, rfl, rfl, ok, hn, ⟨wide, rfl, h0, h1, rfl⟩, q⟩ := hq
  refine b_set (i := 2) sc_law_map.nd (vp_wel (i := 0) (ok_law_dip c) hr (by decide) rfl (A1 ev_int) ⟨2, rfl, by decide, by decide, rfl⟩ ok (by omega) ?_)
  rintro z ds2 ⟨h, rfl, d0, d1⟩ ok2
  refine b_ret (vp_call (ok_law_chart c) (hr.mono (by decide)) (av_cons ((V 2 rfl).p (av_cons (vp_wel (i := 0) (ok_law_four c) hr (by decide) rfl (A1 (V 1 rfl)) ⟨wide, rfl, h0, h1, rfl⟩ ok2 (by omega) ?_)))))
  rintro z ds3 ⟨f, rfl, k1, k2⟩ ok3
  have nz := F4.nz_of_det k1
  exact av_nil ⟨[_, _], _, rfl, ⟨h, _, f, rfl, rfl, k2.mono (by decide), nz, rfl⟩, q _ _ ⟨h, F4.form f, rfl, k2.form nz⟩ (ok3.up (by omega))⟩
def F_law_on_round (a : List D) (post : D → Prop) : Prop := ∃ (u v w : Pl) (many : Nat), a = [u.d, v.d, w.d, .int (many : Nat)] ∧ BP 13 u ∧ BP 13 v ∧ BP 13 w ∧ many ≤ 3 ∧ post = fun z => ∃ l : List Pl, z = .list (l.map Pl.d) ∧ l.length = many ∧ GoodP 97 l
def roundAt (u v w : Pl) (sg st dp : Int) (k : Nat) : Pl := F4.led 0 (F4.adj (F4.three u v w)) (Pl.low (sg * (st + (k : Nat)) * dp + sg) 0 dp)
theorem ok_law_on_round (c : Core K mg) : DefOk P w K mg base 5 "_law_on_round" ["_law_well_here", "_law_u", "_law_v", "_law_w", "_law_many"] (wel F_law_on_round 3) := by
  refine mkDef c.law_on_round sc_law_on_round (fun _ _ _ _ _ _ us hl => match us, hl with | [_, _, _, _, _], _ => rfl) (len_wel (m := 4) fun a p hF => by obtain ⟨_, _, _, _, h, _⟩ := hF; rw [h] <;> rfl) fun f cdv A0 outer s H E hr O C ss Q hq => ?_
  obtain ⟨wl, A, ds, B, n, args, post, rfl, rfl, ok, hn, ⟨u, v, w, many, rfl, bu, bv, bw, hm, rfl⟩, q⟩ := hq
  have b3 := B4.three bu bv bw
  refine b_asg (vp_T2 ((e_law_back c hr (f := F4.three u v w) (e_law_three c hr (V 1 rfl) (V 2 rfl) (V 3 rfl) (bu.mono (by decide)) (bv.mono (by decide)) (bw.mono (by decide)))).p ⟨_, rfl, vp_addR ev_int (vp_wel (i := 0) (ok_law_dip c) hr (by decide) rfl (A1 ev_int) ⟨3, rfl, by decide, by decide, rfl⟩ ok (by omega) ?_)⟩))
  rintro z ds2 ⟨s0, rfl, d0, d1⟩ ok2
  refine ⟨_, rfl, _, rfl, _, _, _, rfl, tg_tup (tgs_cons (tg_name (i := 5) sc_law_on_round.nd) (tgs_cons (tg_name (i := 6) sc_law_on_round.nd) tgs_nil)), ?_⟩
  refine b_re (Δ' := [.own wl, .dat u.d, .dat v.d, .dat w.d, .dat (natD many), .dat (chD 0 (F4.adj (F4.three u v w))), .dat (.int (2 + s0)), .no, .no, .no]) rfl ?_
  obtain ⟨st, est⟩ : ∃ st, 2 + s0 = st := ⟨_, rfl⟩
  rw [est]
  refine b_asg (vp_T2 (vp_wel (i := 0) (ok_law_of c) hr (by decide) rfl (A1 (T2 ev_int (ev_neg ev_int))) ⟨_, [.int 1, .int (-1)], rfl, rfl, by decide, by decide, rfl⟩ ok2 (by omega) ?_))
  rintro z ds3 hz ok3
  obtain ⟨sg, rfl, hsg⟩ : ∃ sg : Int, z = .int sg ∧ (sg = 1 ∨ sg = -1) := by
    rcases List.mem_cons.mp hz with h | h
    · exact ⟨1, h, .inl rfl⟩
    · exact ⟨-1, List.mem_singleton.mp h, .inr rfl⟩
  refine ⟨_, rfl, vp_addR ev_int (vp_wel (i := 0) (ok_law_dip c) hr (by decide) rfl (A1 ev_int) ⟨3, rfl, by decide, by decide, rfl⟩ ok3 (by omega) ?_)⟩
  rintro z ds4 ⟨p0, rfl, d2, d3⟩ ok4
  refine ⟨_, rfl, _, rfl, _, _, _, rfl, tg_tup (tgs_cons (tg_name (i := 7) sc_law_on_round.nd) (tgs_cons (tg_name (i := 8) sc_law_on_round.nd) tgs_nil)), ?_⟩
  refine b_re (Δ' := [.own wl, .dat u.d, .dat v.d, .dat w.d, .dat (natD many), .dat (chD 0 (F4.adj (F4.three u v w))), .dat (.int st), .dat (.int sg), .dat (.int (1 + p0)), .no]) rfl ?_
  obtain ⟨dp, edp⟩ : ∃ dp, 1 + p0 = dp := ⟨_, rfl⟩
  rw [edp]
  have bsg : Bd 20 sg := by rcases hsg with h | h <;> rw [h] <;> exact Bd.lit 20 _
  have bdp : Bd 20 dp := Bd.le (by omega) (show dp ≤ 3 by omega) (Bd.lit 20 3)
  have kst : ∀ x ∈ List.range many, Bd 20 (st + (x : Nat)) := fun x hx => by
    have := List.mem_range.mp hx
    exact Bd.le (by omega) (show st + (x : Nat) ≤ 10 by omega) (Bd.lit 20 10)
  have kmul : ∀ x ∈ List.range many, Bd 40 (sg * (st + (x : Nat))) := fun x hx => bsg.mul (kst x hx)
  have kv : ∀ x ∈ List.range many, Bd 5 (sg * (st + (x : Nat)) * dp + sg) := fun x hx => by
    have := List.mem_range.mp hx
    have c1 : st = 2 ∨ st = 3 ∨ st = 4 := by omega
    have c2 : dp = 1 ∨ dp = 2 ∨ dp = 3 := by omega
    have c3 : x = 0 ∨ x = 1 ∨ x = 2 := by omega
    rcases c1 with e1 | e1 | e1 <;> rcases c2 with e2 | e2 | e2 <;> rcases c3 with e3 | e3 | e3 <;> rcases hsg with e4 | e4 <;> rw [e1, e2, e3, e4] <;> exact Bd.lit 5 _
  have dp5 : Bd 5 dp := Bd.le (by omega) (show dp ≤ 3 by omega) (Bd.lit 5 3)
  have klow : ∀ x ∈ List.range many, 0 < gcdL [sg * (st + (x : Nat)) * dp + sg, 0, dp] ∧ Bd 8999 (gcdL [sg * (st + (x : Nat)) * dp + sg, 0, dp]) := fun x hx => low_bd (show 0 < dp by omega) dp5 (by decide)
  have kbp : ∀ x ∈ List.range many, BP 5 (Pl.low (sg * (st + (x : Nat)) * dp + sg) 0 dp) := fun x hx => BP.low (kv x hx) (Bd.lit 5 0) dp5 (klow x hx).1
  refine b_ret (EvD.p (ev_map (xs := List.range many) (enc := natD) (val := fun k => (roundAt u v w sg st dp k).d) sc_law_on_round.nd (blkOk_by (own := [("_law_turn", 9)]) (N := ["_law_well_here", "_law_u", "_law_v", "_law_w", "_law_many", "_law_back_here", "_law_start", "_law_sign", "_law_deep_here", "_law_turn"]) (sc := defScope (topS 104)) (by decide +kernel)) (iv_range c.b_range (V 4 rfl) (by omega)) (ups0 many) (fun O' x hx => stepD_all (is := [9]) (by decide) (fun s H A cl fp => (tg_name (i := 9) sc_law_on_round.nd)) fun s H A cl fp => (e_law_led c hr (h := 0) (f := F4.adj (F4.three u v w)) (x := Pl.low (sg * (st + (x : Nat)) * dp + sg) 0 dp) (V 5 rfl) (ev_is (e_law_cut c hr (l := [sg * (st + (x : Nat)) * dp + sg, 0, dp]) (T3 (ev_add (ev_mul (ev_mul (V 7 rfl) (ev_add (V 6 rfl) (V 9 rfl)) (n := 20) (m := 20) bsg (kst x hx)) (V 8 rfl) (n := 40) (m := 20) (kmul x hx) bdp) (V 7 rfl)) ev_int (V 8 rfl)) (by simp) (klow x hx).1 (klow x hx).2) rfl) (b3.adj.mono (by decide)) ((kbp x hx).mono (by decide)))) (by rw [List.length_range]; omega)) (q _ _ ⟨(List.range many).map (roundAt u v w sg st dp), by rw [List.map_map] <;> rfl, by rw [List.length_map, List.length_range], fun y hy => ?_⟩ ok4))
  obtain ⟨k, hk, rfl⟩ := List.mem_map.mp hy
  exact ⟨Pl.spot_ok _ _, (B4.led 0 b3.adj (kbp k hk)).mono (by decide)⟩
end DL

/-! part Dfd -/
set_option Elab.async false
set_option linter.all false
set_option maxRecDepth 100000
set_option maxHeartbeats 4000000
namespace DL
open PySem PySem.Spec PyProof.Rows L2
variable {P : Program} {w : World} {K : PySem.W.Frag} {mg : Str → Option Value} {base : Heap}
section
variable {X : Cx} {O : List Addr} {Δ : List SV} {C : Cont} {P : SV → Cont → Prop} {pos p2 : Pos} {a : Expr}
theorem vp_fst {j} (ha : EvP X O a Δ C fun s C1 => ∃ t : Te, s = .dat (teD t) ∧ P (.dat t.1.d) C1) : EvP X O (.Subscript a (.Constant (.int 0) j p2) pos) Δ C P :=
  vp_ix (ha.imp fun s C1 ⟨t, e, p⟩ => ⟨_, e, ev_int.p ⟨_, _, rfl, od_ix rfl (by decide) rfl, p⟩⟩)
theorem vp_snd {j} (ha : EvP X O a Δ C fun s C1 => ∃ t : Te, s = .dat (teD t) ∧ P (.dat t.2.d) C1) : EvP X O (.Subscript a (.Constant (.int 1) j p2) pos) Δ C P :=
  vp_ix (ha.imp fun s C1 ⟨t, e, p⟩ => ⟨_, e, ev_int.p ⟨_, _, rfl, od_ix rfl (by decide) rfl, p⟩⟩)
end
/-- tests that are fine -/
structure GT (ts : List Te) : Prop where
  v : Valid ts
  b : BT ts
theorem GT.of {ts us : List Te} (h : GT ts) (s : ∀ t ∈ us, (∃ u ∈ ts, t.1 = u.1) ∧ ((∃ u ∈ ts, t.2 = u.2) ∨ (t.2.ok ∧ BP 230 t.2))) : GT us := by
  refine ⟨⟨fun t ht => ?_, fun t ht => ?_⟩, fun t ht => ⟨?_, ?_⟩⟩
  · obtain ⟨⟨u, hu, e⟩, _⟩ := s t ht
    rw [e]; exact h.v.s u hu
  · rcases (s t ht).2 with ⟨u, hu, e⟩ | z
    · rw [e]; exact h.v.g u hu
    · exact z.1
  · obtain ⟨⟨u, hu, e⟩, _⟩ := s t ht
    rw [e]; exact (h.b u hu).1
  · rcases (s t ht).2 with ⟨u, hu, e⟩ | z
    · rw [e]; exact (h.b u hu).2
    · exact z.2
theorem GT.insert {ts : List Te} {t : Te} (h : GT ts) (ht : t ∈ ts) (j : Nat) : GT (ts.take j ++ [t] ++ ts.drop j) := h.of fun u hu => by
  have m : u ∈ ts := by
    rcases List.mem_append.mp hu with z | z
    · rcases List.mem_append.mp z with z | z
      · exact List.mem_of_mem_take z
      · rw [List.mem_singleton.mp z]; exact ht
    · exact List.mem_of_mem_drop z
  exact ⟨⟨u, m, rfl⟩, .inl ⟨u, m, rfl⟩⟩
theorem GT.set {ts : List Te} {t : Te} (h : GT ts) (j : Nat) (ht : (∃ u ∈ ts, t.1 = u.1) ∧ ((∃ u ∈ ts, t.2 = u.2) ∨ (t.2.ok ∧ BP 230 t.2))) : GT (ts.set j t) := h.of fun u hu => by
  rcases List.mem_or_eq_of_mem_set hu with m | e
  · exact ⟨⟨u, m, rfl⟩, .inl ⟨u, m, rfl⟩⟩
  · rw [e]; exact ht
theorem set_te {ts : List Te} {t : Te} {j : Nat} : (ts.map teD).set j (teD t) = (ts.set j t).map teD := by rw [List.map_set]
def F_law_tests (a : List D) (post : D → Prop) : Prop := ∃ wide : Int, a = [.int wide] ∧ 1 ≤ wide ∧ wide ≤ 1000 ∧ post = fun z => ∃ ts : List Te, z = tsD ts ∧ GT ts ∧ ts.length ≤ 8
theorem ok_law_tests (c : Core K mg) : DefOk P w K mg base 6 "_law_tests" ["_law_well_here", "_law_wide"] (wel F_law_tests 60) := by
  refine mkDef c.law_tests sc_law_tests (fun _ _ _ _ _ _ us hl => match us, hl with | [_, _], _ => rfl) (len_wel (m := 1) fun a p hF => by obtain ⟨_, h, _⟩ := hF; rw [h] <;> rfl) fun f cdv A0 outer s H E hr O C ss Q hq => ?_
  obtain ⟨wl, A, ds, B, n, args, post, rfl, rfl, ok, hn, ⟨wide, rfl, h0, h1, rfl⟩, q⟩ := hq
  refine b_less (R' := fun s C' => ∃ (p : Addr × List D) (ts : List Te) (ds' : List D), C' = p :: (A ++ (wl, ds') :: B) ∧ s = .dat (tsD ts) ∧ GT ts ∧ ts.length ≤ 8 ∧ WellOk (n + 60) ds') ?_ (by
    rintro s C' ⟨p, ts, ds', rfl, rfl, g, hl, o⟩
    exact ⟨_, List.sublist_cons_self _ _, q _ _ ⟨ts, rfl, g, hl⟩ o⟩)
  refine b_asg (vp_T2 (vp_wel (i := 0) (ok_law_map c) hr (by decide) rfl (A1 (V 1 rfl)) ⟨wide, rfl, h0, h1, rfl⟩ ok (by omega) ?_))
  rintro z ds2 ⟨h, f, rfl, bmap⟩ ok2
  refine ⟨_, rfl, vp_wel (i := 0) (ok_law_of c) hr (by decide) rfl (A1 (ev_tup (ds := [.int 0, .int 1, .int 2, .int 3, .int 3, .int 4, .int 4, .int 5, .int 6]) (ea_cons ev_int (ea_cons ev_int (ea_cons ev_int (ea_cons ev_int (ea_cons ev_int (ea_cons ev_int (ea_cons ev_int (ea_cons ev_int (ea_cons ev_int ea_nil))))))))) (by decide))) ⟨_, _, rfl, rfl, by decide, by decide, rfl⟩ ok2 (by omega) ?_⟩
  rintro z ds3 hz ok3
  obtain ⟨many, rfl, hm⟩ : ∃ m : Nat, z = .int (m : Nat) ∧ m ≤ 6 := by
    simp only [List.mem_cons, List.not_mem_nil, or_false] at hz
    rcases hz with h | h | h | h | h | h | h | h | h <;> first | exact ⟨0, h, by decide⟩ | exact ⟨1, h, by decide⟩ | exact ⟨2, h, by decide⟩ | exact ⟨3, h, by decide⟩ | exact ⟨4, h, by decide⟩ | exact ⟨5, h, by decide⟩ | exact ⟨6, h, by decide⟩
  refine ⟨_, rfl, _, _, _, rfl, tg_tup (tgs_cons (tg_name (i := 3) sc_law_tests.nd) (tgs_cons (tg_name (i := 4) sc_law_tests.nd) tgs_nil)), ?_⟩
  refine b_re (Δ' := [.own wl, .dat (.int wide), .no, .dat (chD h f), .dat (natD many), .no, .no, .no, .no, .no, .no, .no]) rfl ?_
  refine b_par (i := 5) (j := 6) sc_law_tests.nd (av_cons (vp_wel (i := 0) (ok_law_unlike c) hr (by decide) rfl (A2 (V 4 rfl) (V 1 rfl)) ⟨many, wide, rfl, hm, h0, h1, rfl⟩ ok3 (by omega) ?_))
  rintro z ds4 ⟨l0, rfl, hl0, gl0⟩ ok4
  refine av_cons (vp_wel (i := 0) (ok_law_dip c) hr (by decide) rfl (A1 ev_int) ⟨8, rfl, by decide, by decide, rfl⟩ ok4 (by omega) ?_)
  rintro z ds5 ⟨way, rfl, d0, d1⟩ ok5
  refine av_nil ⟨_, _, rfl, ?_⟩
  refine b_re (Δ' := [.own wl, .dat (.int wide), .no, .dat (chD h f), .dat (natD many), .dat (.list (l0.map Pl.d)), .dat (.int way), .no, .no, .no, .no, .no]) rfl ?_
  refine b_ifJ (fun Δ2 C2 => ∃ (l : List Pl) (ds2 : List D) (s8 s9 s10 : SV), Δ2 = [.own wl, .dat (.int wide), .no, .dat (chD h f), .dat (natD many), .dat (.list (l.map Pl.d)), .dat (.int way), .no, s8, s9, s10, .no] ∧ C2 = A ++ (wl, ds2) :: B ∧ l.length = many ∧ GoodP 97 l ∧ WellOk (n + 40) ds2) (EvW.t (ew_and (t_in hr (V 6 rfl) (T2 ev_int ev_int)) fun _ => ew_and (et_gt (V 4 rfl) ev_int) fun _ => ew_and1 (et_le (V 1 rfl) ev_int))) (fun k => ?_) (fun k => b_nil ⟨l0, ds5, _, _, _, rfl, rfl, hl0, fun x hx => ⟨(gl0 x hx).1, (gl0 x hx).2.mono (by decide)⟩, ok5.up (by omega)⟩) ?_
  · have hm3 : 3 < many := by
      have k := (Bool.and_eq_true_iff.mp k).2
      have k := (Bool.and_eq_true_iff.mp k).1
      have := of_decide_eq_true k
      omega
    obtain ⟨u, v, w, r, rfl⟩ : ∃ u v w r, l0 = u :: v :: w :: r := by
      match l0, hl0 with
      | u :: v :: w :: r, _ => exact ⟨u, v, w, r, rfl⟩
      | [], e => exact absurd e (by simp; omega)
      | [_], e => exact absurd e (by simp; omega)
      | [_, _], e => exact absurd e (by simp; omega)
    have gu := gl0 u (by simp)
    have gv := gl0 v (by simp)
    have gw := gl0 w (by simp)
    have em : ((many : Nat) : Int) - 3 = ((many - 3 : Nat) : Int) := by omega
    refine b_tgt (ev_toLK 3 (V 5 rfl) ev_int) (tg_seq (ds := [u.d, v.d, w.d]) rfl (tgs_cons (tg_name (i := 8) sc_law_tests.nd) (tgs_cons (tg_name (i := 9) sc_law_tests.nd) (tgs_cons (tg_name (i := 10) sc_law_tests.nd) tgs_nil)))) ?_
    refine b_re (Δ' := [.own wl, .dat (.int wide), .no, .dat (chD h f), .dat (natD many), .dat (.list ((u :: v :: w :: r).map Pl.d)), .dat (.int way), .no, .dat u.d, .dat v.d, .dat w.d, .no]) rfl ?_
    refine b_set (i := 5) sc_law_tests.nd (vp_op op_catS ((L3 (V 8 rfl) (V 9 rfl) (V 10 rfl)).p ⟨_, rfl, vp_wel (i := 0) (ok_law_on_round c) hr (by decide) rfl (A4 (V 8 rfl) (V 9 rfl) (V 10 rfl) (ev_is (z := natD (many - 3)) (ev_sub (V 4 rfl) ev_int) (congrArg PyData.int em))) ⟨u, v, w, many - 3, rfl, gu.2, gv.2, gw.2, by omega, rfl⟩ ok5 (by omega) ?_⟩))
    rintro z ds6 ⟨l2, rfl, hl2, gl2⟩ ok6
    refine ⟨_, _, rfl, od_cat (by rw [List.length_map]; simp; omega), b_nil ⟨u :: v :: w :: l2, ds6, _, _, _, rfl, rfl, by simp; omega, fun x hx => ?_, ok6.up (by omega)⟩⟩
    rcases List.mem_cons.mp hx with z | hx
    · rw [z]; exact ⟨gu.1, gu.2.mono (by decide)⟩
    rcases List.mem_cons.mp hx with z | hx
    · rw [z]; exact ⟨gv.1, gv.2.mono (by decide)⟩
    rcases List.mem_cons.mp hx with z | hx
    · rw [z]; exact ⟨gw.1, gw.2.mono (by decide)⟩
    exact gl2 x hx
  rintro Δ2 C2 ⟨l, ds6, s8, s9, s10, rfl, rfl, hl, gl, ok6⟩
  refine (b_mapO (i := 2) (xs := l) (enc := Pl.d) (val := fun x => teD (x, F4.led h f x)) sc_law_tests.nd (blkOk_by (own := [("_law_place_here", 11)]) (N := ["_law_well_here", "_law_wide", "_law_tests_here", "_law_chart_here", "_law_many", "_law_places", "_law_way", "_law_at", "_law_u", "_law_v", "_law_w", "_law_place_here"]) (sc := defScope (topS 103)) (by decide +kernel)) (iv_list (V 5 rfl)) rfl (fun O' x hx => stepD_all (is := [11]) (by decide) (fun s H A cl fp => (tg_name (i := 11) sc_law_tests.nd)) fun s H A cl fp => (T2 (V 11 rfl) (e_law_led c hr (V 3 rfl) (V 11 rfl) (bmap.mono (by decide)) ((gl x hx).2.mono (by decide))))) (by omega) fun tl ntl ntO => ?_)
  have et : l.map (fun x => teD (x, F4.led h f x)) = (l.map fun x => (x, F4.led h f x)).map teD := by rw [List.map_map] <;> rfl
  have g0 : GT (l.map fun x => (x, F4.led h f x)) := by
    have key : ∀ t ∈ (l.map fun x => (x, F4.led h f x)), t.1.ok ∧ t.2.ok ∧ BP 230 t.1 ∧ BP 230 t.2 := fun t ht => by
      obtain ⟨x, hx, rfl⟩ := List.mem_map.mp ht
      have g := gl x hx
      exact ⟨g.1, Pl.spot_ok _ _, g.2.mono (by decide), (B4.led h bmap g.2).mono (by decide)⟩
    exact ⟨⟨fun t ht => (key t ht).1, fun t ht => (key t ht).2.1⟩, fun t ht => ⟨(key t ht).2.2.1, (key t ht).2.2.2⟩⟩
  refine b_ifJ (fun Δ2 C2 => ∃ (ts : List Te) (ds2 : List D) (s7 s8 s9 s10 s11 : SV), Δ2 = [.own wl, .dat (.int wide), .own tl, .dat (chD h f), .dat (natD many), .dat (.list (l.map Pl.d)), .dat (.int way), s7, s8, s9, s10, s11] ∧ C2 = (tl, ts.map teD) :: (A ++ (wl, ds2) :: B) ∧ many ≤ ts.length ∧ ts.length ≤ 7 ∧ GT ts ∧ WellOk (n + 42) ds2) (EvW.t (ew_and (t_in hr (V 6 rfl) (T2 ev_int ev_int)) fun _ => ew_and1 (et_gt (V 4 rfl) ev_int))) (fun k => ?_) (fun k => b_nil ⟨_, ds6, _, _, _, _, _, rfl, by rw [et], by rw [List.length_map]; omega, by rw [List.length_map]; omega, g0, ok6.up (by omega)⟩) ?_
  · have hm0 : 0 < many := by
      have k := (Bool.and_eq_true_iff.mp k).2
      have := of_decide_eq_true k
      omega
    have hlt : (l.map fun x => (x, F4.led h f x)).length = many := by rw [List.length_map, hl]
    rw [et]
    generalize (l.map fun x => (x, F4.led h f x)) = ts at *
    refine b_insert (i := 2) (p := tl) (dz := ts.map teD) rfl List.mem_cons_self (av_cons (vp_wel (A := (tl, ts.map teD) :: A) (i := 0) (ok_law_dip c) hr (by decide) rfl (A1 (ev_add (V 4 rfl) ev_int)) ⟨(many : Nat) + 1, rfl, by omega, by omega, rfl⟩ ok6 (by omega) ?_))
    rintro z ds7 ⟨j, rfl, j0, j1⟩ ok7
    refine av_cons (vp_call (ok_law_ofO c) (hr.mono (by decide)) (av_cons (vp_own (i := 0) rfl (av_cons (vp_own (i := 2) rfl (av_nil ⟨wl, (tl, ts.map teD) :: A, ds7, B, n + 41, tl, ts.map teD, rfl, rfl, List.mem_cons_self, ok7.up (by omega), by omega, by rw [List.length_map]; omega, by rw [List.length_map]; omega, ?_⟩))))))
    rintro z ds8 hz ok8
    obtain ⟨t, ht, rfl⟩ := List.mem_map.mp hz
    refine av_nil ⟨j, teD t, [], ts.map teD, A ++ (wl, ds8) :: B, rfl, rfl, j0, by omega, by rw [List.length_map]; omega, b_nil ⟨ts.take j.toNat ++ [t] ++ ts.drop j.toNat, ds8, _, _, _, _, _, rfl, ?_, ?_, ?_, g0.insert ht _, ok8⟩⟩
    · rw [List.map_append, List.map_append, List.map_take, List.map_drop] <;> rfl
    · simp; omega
    · simp; omega
  rintro Δ2 C2 ⟨ts, ds7, s7, s8, s9, s10, s11, rfl, rfl, hl1, hl2, g, ok7⟩
  refine b_ifJ (fun Δ2 C2 => ∃ (ts : List Te) (ds2 : List D) (s7 s8 s9 s10 s11 : SV), Δ2 = [.own wl, .dat (.int wide), .own tl, .dat (chD h f), .dat (natD many), .dat (.list (l.map Pl.d)), .dat (.int way), s7, s8, s9, s10, s11] ∧ C2 = (tl, ts.map teD) :: (A ++ (wl, ds2) :: B) ∧ many ≤ ts.length ∧ ts.length ≤ 7 ∧ GT ts ∧ WellOk (n + 46) ds2) (EvW.t (ew_and (t_eq hr (V 6 rfl) ev_int) fun _ => ew_and1 (et_gt (V 4 rfl) ev_int))) (fun k => ?_) (fun k => b_nil ⟨ts, ds7, _, _, _, _, _, rfl, rfl, hl1, hl2, g, ok7.up (by omega)⟩) ?_
  · have hm1 : 1 < many := by
      have k := (Bool.and_eq_true_iff.mp k).2
      have := of_decide_eq_true k
      omega
    refine b_set (i := 7) sc_law_tests.nd (vp_wel (A := (tl, ts.map teD) :: A) (i := 0) (ok_law_dip c) hr (by decide) rfl (A1 (ev_sub (V 4 rfl) ev_int)) ⟨(many : Nat) - 1, rfl, by omega, by omega, rfl⟩ ok7 (by omega) ?_)
    rintro z ds8 ⟨at0, rfl, a0, a1⟩ ok8
    refine b_if (tv_eqI hr (vp_wel (A := (tl, ts.map teD) :: A) (i := 0) (ok_law_dip c) hr (by decide) rfl (A1 ev_int) ⟨2, rfl, by decide, by decide, rfl⟩ ok8 (by omega) ?_))
    rintro z ds9 ⟨d2, rfl, b0, b1⟩ ok9
    refine ⟨d2, 0, rfl, ev_int, ?_⟩
    have hi1 : (at0 + 1).toNat < ts.length := by omega
    have g1 : (ts.map teD)[(at0 + 1).toNat]? = some (teD (tat ts (at0 + 1).toNat)) := by
      have := tat_get hi1
      rwa [Int.toNat_natCast] at this
    have m1 := tat_mem hi1
    split
    · refine b_put (i := 2) (p := tl) rfl (vp_T2 (vp_fst (vp_ixO (p := tl) (vp_own (i := 2) rfl ⟨rfl, vp_wel (A := (tl, ts.map teD) :: A) (i := 0) (ok_law_dip c) hr (by decide) rfl (A1 (ev_add (V 7 rfl) ev_int)) ⟨at0 + 1, rfl, by omega, by omega, rfl⟩ ok9 (by omega) ?_⟩))))
      rintro z ds10 ⟨j, rfl, j0, j1⟩ ok10
      have hj : j.toNat < ts.length := by omega
      have g2 : (ts.map teD)[j.toNat]? = some (teD (tat ts j.toNat)) := by
        have := tat_get hj
        rwa [Int.toNat_natCast] at this
      refine ⟨j, ts.map teD, _, rfl, List.mem_cons_self, j0, g2, tat ts j.toNat, rfl, _, rfl, (IX (ev_ixO (i := 2) (p := tl) (ds := ts.map teD) rfl List.mem_cons_self (ev_add (V 7 rfl) ev_int) (by omega) g1) rfl rfl).p ⟨_, rfl, _, rfl, (ev_add (V 7 rfl) ev_int).p ⟨at0 + 1, [], ts.map teD, A ++ (wl, ds10) :: B, rfl, rfl, by omega, by rw [List.length_map]; exact hi1, b_nil (b_nil ⟨ts.set (at0 + 1).toNat ((tat ts j.toNat).1, (tat ts (at0 + 1).toNat).2), ds10, _, _, _, _, _, rfl, ?_, by rw [List.length_set]; exact hl1, by rw [List.length_set]; exact hl2, g.set _ ⟨⟨_, tat_mem hj, rfl⟩, .inl ⟨_, m1, rfl⟩⟩, ok10.up (by omega)⟩)⟩⟩⟩
      rw [← set_te] <;> rfl
    · refine b_put (i := 2) (p := tl) rfl (vp_T2 ((IX (ev_ixO (i := 2) (p := tl) (ds := ts.map teD) rfl List.mem_cons_self (ev_add (V 7 rfl) ev_int) (by omega) g1) rfl rfl).p ⟨_, rfl, vp_snd (vp_ixO (p := tl) (vp_own (i := 2) rfl ⟨rfl, vp_wel (A := (tl, ts.map teD) :: A) (i := 0) (ok_law_dip c) hr (by decide) rfl (A1 (ev_add (V 7 rfl) ev_int)) ⟨at0 + 1, rfl, by omega, by omega, rfl⟩ ok9 (by omega) ?_⟩))⟩))
      rintro z ds10 ⟨j, rfl, j0, j1⟩ ok10
      have hj : j.toNat < ts.length := by omega
      have g2 : (ts.map teD)[j.toNat]? = some (teD (tat ts j.toNat)) := by
        have := tat_get hj
        rwa [Int.toNat_natCast] at this
      refine ⟨j, ts.map teD, _, rfl, List.mem_cons_self, j0, g2, tat ts j.toNat, rfl, _, rfl, _, rfl, (ev_add (V 7 rfl) ev_int).p ⟨at0 + 1, [], ts.map teD, A ++ (wl, ds10) :: B, rfl, rfl, by omega, by rw [List.length_map]; exact hi1, b_nil (b_nil ⟨ts.set (at0 + 1).toNat ((tat ts (at0 + 1).toNat).1, (tat ts j.toNat).2), ds10, _, _, _, _, _, rfl, ?_, by rw [List.length_set]; exact hl1, by rw [List.length_set]; exact hl2, g.set _ ⟨⟨_, m1, rfl⟩, .inl ⟨_, tat_mem hj, rfl⟩⟩, ok10.up (by omega)⟩)⟩⟩
      rw [← set_te] <;> rfl
  rintro Δ2 C2 ⟨ts, ds8, s7, s8, s9, s10, s11, rfl, rfl, hl1, hl2, g, ok8⟩
  refine b_ifJ (fun Δ2 C2 => ∃ (ts : List Te) (ds2 : List D) (s7 s8 s9 s10 s11 : SV), Δ2 = [.own wl, .dat (.int wide), .own tl, .dat (chD h f), .dat (natD many), .dat (.list (l.map Pl.d)), .dat (.int way), s7, s8, s9, s10, s11] ∧ C2 = (tl, ts.map teD) :: (A ++ (wl, ds2) :: B) ∧ many ≤ ts.length ∧ ts.length ≤ 7 ∧ GT ts ∧ WellOk (n + 60) ds2) (EvW.t (ew_and (t_eq hr (V 6 rfl) ev_int) fun _ => ew_and1 (et_gt (V 4 rfl) ev_int))) (fun k => ?_) (fun k => b_nil ⟨ts, ds8, _, _, _, _, _, rfl, rfl, hl1, hl2, g, ok8.up (by omega)⟩) ?_
  · have hm1 : 0 < many := by
      have k := (Bool.and_eq_true_iff.mp k).2
      have := of_decide_eq_true k
      omega
    refine b_set (i := 7) sc_law_tests.nd (vp_wel (A := (tl, ts.map teD) :: A) (i := 0) (ok_law_dip c) hr (by decide) rfl (A1 (V 4 rfl)) ⟨(many : Nat), rfl, by omega, by omega, rfl⟩ ok8 (by omega) ?_)
    rintro z ds9 ⟨at0, rfl, a0, a1⟩ ok9
    have hi1 : at0.toNat < ts.length := by omega
    have g1 : (ts.map teD)[at0.toNat]? = some (teD (tat ts at0.toNat)) := by
      have := tat_get hi1
      rwa [Int.toNat_natCast] at this
    refine b_put (i := 2) (p := tl) rfl (vp_T2 ((IX (ev_ixO (i := 2) (p := tl) (ds := ts.map teD) rfl List.mem_cons_self (V 7 rfl) (by omega) g1) rfl rfl).p ⟨_, rfl, vp_wel (A := (tl, ts.map teD) :: A) (i := 0) (ok_law_place c) hr (by decide) rfl (A1 (V 1 rfl)) ⟨wide, rfl, h0, h1, rfl⟩ ok9 (by omega) ?_⟩))
    rintro z ds10 ⟨y, rfl, y1, y2⟩ ok10
    refine ⟨_, rfl, _, rfl, (V 7 rfl).p ⟨at0, [], ts.map teD, A ++ (wl, ds10) :: B, rfl, rfl, by omega, by rw [List.length_map]; exact hi1, b_nil ⟨ts.set at0.toNat ((tat ts at0.toNat).1, y), ds10, _, _, _, _, _, rfl, ?_, by rw [List.length_set]; exact hl1, by rw [List.length_set]; exact hl2, g.set _ ⟨⟨_, tat_mem hi1, rfl⟩, .inr ⟨y1, y2.mono (by decide)⟩⟩, ok10.up (by omega)⟩⟩⟩
    rw [← set_te] <;> rfl
  rintro Δ2 C2 ⟨ts, ds9, s7, s8, s9, s10, s11, rfl, rfl, hl1, hl2, g, ok9⟩
  exact b_ret ((ev_totupO (i := 2) (p := tl) (ds := ts.map teD) c.b_tuple rfl List.mem_cons_self).p ⟨(tl, ts.map teD), ts, ds9, rfl, rfl, g, by omega, ok9⟩)
end DL

/-! part Dfe -/
set_option Elab.async false
set_option linter.all false
set_option maxRecDepth 100000
set_option maxHeartbeats 4000000
namespace DL
open PySem PySem.Spec PyProof.Rows L2
variable {P : Program} {w : World} {K : PySem.W.Frag} {mg : Str → Option Value} {base : Heap}
def F_law_rounds (ds : List D) (d : D) : Prop := ∃ (l : List Int), ds = [.list (l.map .int)] ∧ l.length ≤ 100 ∧ d = natD (if l.length ≤ 2 then 2 else 3)
theorem ok_law_rounds (c : Core K mg) : DefOk P w K mg base 1 "_law_rounds" ["_law_script"] (pur F_law_rounds) := by
  refine mkDef c.law_rounds sc_law_rounds (fun _ _ _ _ _ _ us hl => match us, hl with | [_], _ => rfl) (len_pur fun ds d h0 => by obtain ⟨_, h, _⟩ := h0; rw [h] <;> rfl) fun f cdv A outer s H E hr O C ss Q hq => ?_
  obtain ⟨_, _, rfl, ⟨l, rfl, h1, rfl⟩, q⟩ := hq
  refine b_ret (EvD.p (ev_is (ev_max c.b_max ev_int (ev_min c.b_min (ev_len c.b_len (V 0 rfl) rfl) ev_int)) ?_) q)
  rw [List.length_map]
  refine congrArg PyData.int ?_
  split <;> split <;> split <;> omega
theorem e_law_rounds {X : Cx} (c : Core X.K X.mg) {O : List Addr} {Δ : List SV} {C : Cont} {pos p : Pos} {k : Nat} {l : List Int} {a1 : Expr} (hr : Room k X.A) (k1 : EvD X O a1 Δ C (.list (l.map .int))) (h1 : l.length ≤ 100 := by first | exact bz | exact bi | exact bf | exact bp | with_reducible assumption | omega) (hk : 1 ≤ k := by decide) (hg : Gl X "_law_rounds" := by rfl)
    (s0 : starEach [a1] X.env = (false, eval a1 X.env) :: starEach [] X.env := by rfl) : EvD X O (.Call (.Name "_law_rounds" p) [a1] [] pos) Δ C (natD (if l.length ≤ 2 then 2 else 3)) :=
  ev_call (ok_law_rounds c) (hr.mono hk) (A1 k1 s0) ⟨l, rfl, h1, rfl⟩ hg (by decide) s0 (by rfl)
def C_well (ss : List SV) (C : Cont) (q : SV → Cont → Prop) : Prop := ∃ (l : List Int) (k : Nat), ss = [.dat (.list (l.map .int)), .dat (natD k)] ∧ l.length ≤ 100 ∧ k ≤ 3 ∧ ∀ p ds, WellOk 0 ds → q (.own p) ((p, ds) :: C)
theorem ok_law_well (c : Core K mg) : DefOk P w K mg base 1 "_law_well" ["_law_script", "_law_spot_here"] C_well := by
  refine mkDef c.law_well sc_law_well (fun _ _ _ _ _ _ us hl => match us, hl with | [_, _], _ => rfl) (fun ss C q ⟨_, _, h, _⟩ => by rw [h] <;> rfl) fun f cdv A outer s H E hr O C ss Q hq => ?_
  obtain ⟨l, k, rfl, hl, hk, q⟩ := hq
  have k1 : BI 20 (k : Int) := ⟨by unfold Bd; omega⟩
  have k2 : BI 20 2203 := ⟨Bd.lit 20 2203⟩
  have k3 : BI 20 47917 := ⟨Bd.lit 20 47917⟩
  have k4 : BI 20 30029 := ⟨Bd.lit 20 30029⟩
  have k5 : BI 20 6211 := ⟨Bd.lit 20 6211⟩
  refine b_set (i := 2) sc_law_well.nd ((ev_add ev_int (ev_mul ev_int (V 1 rfl) bi' bi')).p ?_)
  have hp := Int.emod_nonneg
  have md : ∀ x : Int, Bd 40 (x % 2147483549) := fun x => by
    have a := Int.emod_nonneg x (show (2147483549 : Int) ≠ 0 by decide)
    have b := Int.emod_lt_of_pos x (show (0 : Int) < 2147483549 by decide)
    exact Bd.le a (show x % 2147483549 ≤ 2147483549 by omega) (Bd.lit 40 2147483549)
  refine b_for PassesOwn.never (iv_seq (ev_toLK 9 (V 0 rfl) ev_int) rfl) (fun i Δ1 C1 => C1 = C ∧ ∃ (m : Int) (s3 : SV), Δ1 = [.dat (.list (l.map .int)), .dat (natD k), .dat (.int m), s3, .no, .no] ∧ Bd 60 m) ⟨rfl, _, .no, rfl, ?_⟩ ?_ ?_
  · have : Bd _ (66245 + 2203 * (k : Int)) := (Bd.lit 20 66245).add (k2.h.mul k1.h)
    exact this.mono (by decide)
  · rintro i Δ1 C1 d hd ⟨rfl, m, s3, rfl, hm⟩
    rw [← List.map_take, List.getElem?_map] at hd
    obtain ⟨x, hx, rfl⟩ := Option.map_eq_some_iff.mp hd
    have m1 : BI 60 m := ⟨hm⟩
    exact ⟨_, _, tg_name (i := 3) sc_law_well.nd, b_set (i := 2) sc_law_well.nd ((ev_mod (ev_toint c.b_int (ev_add (ev_add (ev_mul (V 2 rfl) ev_int bi' bi') (ev_mod (ev_toint c.b_int (V 3 rfl)) ev_int (by decide))) ev_int)) ev_int (by decide)).p (b_nil ⟨rfl, _, .dat (.int x), rfl, (md _).mono (by decide)⟩))⟩
  rintro Δ1 C1 ⟨rfl, m, s3, rfl, hm⟩
  have m1 : BI 60 m := ⟨hm⟩
  obtain ⟨o, ho⟩ : ∃ o, l.getD k 0 = o := ⟨_, rfl⟩
  have hg : k < l.length → (l.map PyData.int)[((k : Nat) : Int).toNat]? = some (.int o) := fun h => by
    rw [← ho, List.getElem?_map, Int.toNat_natCast, List.getElem?_eq_getElem h, List.getD_eq_getElem?_getD, List.getElem?_eq_getElem h] <;> rfl
  refine b_set (i := 4) sc_law_well.nd ((ev_if (d := .int o) (et_lt (V 1 rfl) (ev_len c.b_len (V 0 rfl) rfl)) (fun e => ev_toint c.b_int (ev_ix (V 0 rfl) (V 1 rfl) rfl (hg ?_) (by omega))) (fun e => ev_is ev_int ?_)).p ?_)
  · have e := of_decide_eq_true e
    rw [List.length_map] at e
    omega
  · have e := of_decide_eq_false e
    rw [List.length_map] at e
    rw [← ho, List.getD_eq_getElem?_getD, List.getElem?_eq_none (by omega)] <;> rfl
  refine b_set (i := 5) sc_law_well.nd ((ev_if (k := (decide (o < 0) || decide (1000000000000000000 ≤ o))) (d := .int (if (decide (o < 0) || decide (1000000000000000000 ≤ o)) = true then (if o < 0 then -o else o) else 0)) (EvW.t (ew_or (et_lt (V 4 rfl) ev_int) fun _ => ew_or1 (et_ge (V 4 rfl) (ev_is (z := .int 1000000000000000000) (ev_op op_pow ev_int ev_int (od_intC (g := fun i j => i ^ j.toNat) (i := 10) (j := 18) ⟨by decide, by decide, by decide⟩)) (congrArg PyData.int (by decide)))))) (fun e => ev_is (ev_abs c.b_abs (V 4 rfl)) (by rw [if_pos e])) (fun e => ev_is ev_int (by rw [if_neg (by rw [e]; decide)]))).p ?_)
  generalize (if (decide (o < 0) || decide (1000000000000000000 ≤ o)) = true then (if o < 0 then -o else o) else 0) = rs
  have o1 : BI 40 (o % 2147483549) := ⟨md o⟩
  refine b_ret (vp_lstO ((A3 (V 5 rfl) (ev_mod (ev_toint c.b_int (ev_add (ev_add (ev_mul (V 2 rfl) ev_int bi' bi') (ev_mul (ev_mod (ev_toint c.b_int (V 4 rfl)) ev_int (by decide)) ev_int bi' bi')) ev_int)) ev_int (by decide)) ev_int).p ⟨[_, _, _], rfl, by simp, fun p np no => q p _ ⟨rs, _, 0, rfl, (md _).mono (by decide), by decide, by decide⟩⟩))
end DL

/-! part Di -/
set_option Elab.async false
set_option linter.all false
set_option maxRecDepth 100000
set_option maxHeartbeats 4000000
/-! The texts of what is asked: short enough, of known kinds. -/
namespace DL
open PySem PySem.Spec PyProof.Rows L2
/-- may be shown, within n signs -/
structure Sh (n : Nat) (d : D) : Prop where
  s : d.showable = true
  h : d.hasDict = false
  t : d.depth ≤ 10
  l : d.shown.length ≤ n
theorem sh_int {i : Int} (h : Bd 1400 i) : Sh 1402 (.int i) := by
  have hl : i.natAbs.log2 < 1400 := by
    by_cases h0 : i.natAbs = 0
    · rw [h0]; decide
    · exact (Nat.log2_lt h0).mpr h
  refine ⟨?_, rfl, by show 0 ≤ 10; decide, ?_⟩
  · show decide (i.natAbs.log2 < 1920) = true
    exact decide_eq_true (by omega)
  · have e := int_text_length_le (a := i) (k := 1400) (by decide) hl
    show (Str.ofString (toString i)).length ≤ 1402
    rw [PySem.ofString_length]
    omega
theorem sh_none : Sh 4 .none := ⟨rfl, rfl, by decide, by decide +kernel⟩
theorem sh_str {x : Str} {n : Nat} (h : (PyData.shown (.str x)).length ≤ n) : Sh n (.str x) := ⟨rfl, rfl, by show (0 : Nat) ≤ 10; decide, h⟩
/-- .. of some data, all together within n signs -/
structure ShL (n k : Nat) (ds : List D) : Prop where
  s : PyData.showableAll ds = true
  h : PyData.hasDictAll ds = false
  t : PyData.depthAll ds ≤ k
  l : ((PyData.shownAll ds).map (·.length)).sum + 2 * ds.length ≤ n
theorem shl_nil {k : Nat} : ShL 0 k [] := ⟨rfl, rfl, by simp [PyData.depthAll], by simp [PyData.shownAll]⟩
theorem shl_cons {d : D} {ds : List D} {n m k : Nat} (a : Sh n d) (hd : d.depth ≤ k) (b : ShL m k ds) : ShL (n + 2 + m) k (d :: ds) := by
  refine ⟨?_, ?_, ?_, ?_⟩
  · show (d.showable && PyData.showableAll ds) = true
    rw [a.s, b.s] <;> rfl
  · show (d.hasDict || PyData.hasDictAll ds) = false
    rw [a.h, b.h] <;> rfl
  · have := b.t
    simp only [PyData.depthAll]
    omega
  · have := a.l
    have := b.l
    simp only [PyData.shownAll, List.map_cons, List.sum_cons, List.length_cons]
    omega
theorem sh_tup {ds : List D} {n k : Nat} (h : ShL n k ds) (hk : k + 1 ≤ 10) : Sh (n + 3) (.tuple ds) ∧ (PyData.tuple ds).depth ≤ k + 1 := by
  have e := PyData.shownAll_length ds
  have e2 := tupleText_len_le (PyData.shownAll ds)
  have := h.l
  have := h.t
  have dd : (PyData.tuple ds).depth ≤ k + 1 := by simp only [PyData.depth]; omega
  refine ⟨⟨h.s, h.h, by omega, ?_⟩, dd⟩
  show (tupleText (PyData.shownAll ds)).length ≤ n + 3
  omega
theorem sh_lst {ds : List D} {n k : Nat} (h : ShL n k ds) (hk : k + 1 ≤ 10) : Sh (n + 3) (.list ds) ∧ (PyData.list ds).depth ≤ k + 1 := by
  have e := PyData.shownAll_length ds
  have e2 := listText_len_le (PyData.shownAll ds)
  have := h.l
  have := h.t
  have dd : (PyData.list ds).depth ≤ k + 1 := by simp only [PyData.depth]; omega
  refine ⟨⟨h.s, h.h, by omega, ?_⟩, dd⟩
  show (listText (PyData.shownAll ds)).length ≤ n + 3
  omega
theorem dp0 {i : Int} {k : Nat} : (PyData.int i).depth ≤ k := by show 0 ≤ k; omega
theorem sh_G {z : G} (h : Bz 1400 z) : Sh 2811 z.d ∧ z.d.depth ≤ 1 := sh_tup (shl_cons (sh_int h.1) dp0 (shl_cons (sh_int h.2) dp0 (shl_nil (k := 0)))) (by decide)
theorem sh_ch {h : Int} {f : F4} (hh : Bd 1400 h) (b : B4 1400 f) : Sh 13000 (chD h f) := by
  have g := fun z (q : Bz 1400 z) => sh_G q
  have k := sh_tup (shl_cons (sh_int hh) dp0 (shl_cons (g _ b.a).1 (g _ b.a).2 (shl_cons (g _ b.b).1 (g _ b.b).2 (shl_cons (g _ b.c).1 (g _ b.c).2 (shl_cons (g _ b.d).1 (g _ b.d).2 (shl_nil (k := 1))))))) (by decide)
  exact ⟨k.1.s, k.1.h, k.1.t, Nat.le_trans k.1.l (by decide)⟩
theorem bd_nat {i : Nat} (h : i ≤ 100) : Bd 1400 (i : Int) := Bd.mono (n := 10) (by show (i : Int).natAbs < 1024; omega) (by decide)
theorem bar_cases {h : Int} {ts : List Te} (v : Valid ts) (hl : ts.length ≤ 100) : barD h ts = .none ∨ (∃ i j : Nat, i ≤ 100 ∧ j ≤ 100 ∧ barD h ts = .tuple [.str "crossed", natD i, natD j]) ∨ ∃ a b d e : Nat, a ≤ 100 ∧ b ≤ 100 ∧ d ≤ 100 ∧ e ≤ 100 ∧ barD h ts = .tuple [.str "other", natD a, natD b, natD d, natD e] := by
  unfold barD
  cases hc : cross1 ts with
  | some x =>
    obtain ⟨i, j⟩ := x
    have hij : i < ts.length ∧ j < ts.length := by
      unfold cross1 at hc
      have s1 := firstFrom_spec (p := fun i => (row1 ts i).isSome) (n := ts.length) (i := 0)
      cases q : firstFrom (fun i => (row1 ts i).isSome) ts.length 0 with
      | none => rw [q] at hc; cases hc
      | some k =>
        rw [q] at hc s1
        have hc : (row1 ts k).map (fun j => (k, j)) = some (i, j) := hc
        have s2 := firstFrom_spec (p := fun j => crs (tat ts k) (tat ts j)) (n := ts.length - (k + 1)) (i := k + 1)
        cases r : row1 ts k with
        | none => rw [r] at hc; cases hc
        | some m =>
          rw [r] at hc
          cases hc
          have r : firstFrom (fun j => crs (tat ts i) (tat ts j)) (ts.length - (i + 1)) (i + 1) = some j := r
          rw [r] at s2
          obtain ⟨_, a, _⟩ := s1
          obtain ⟨_, b, _⟩ := s2
          exact ⟨by omega, by omega⟩
    exact .inr (.inl ⟨i, j, by omega, by omega, rfl⟩)
  | none =>
    cases he : chartFor h ts with
    | some f => exact .inl rfl
    | none =>
      have four := many_of v hc he
      have ln := late_ne (chart_none hc he)
      obtain ⟨a, b, d, r, e3⟩ : ∃ a b d r, unlike ts = a :: b :: d :: r := by
        match hu : unlike ts, four with
        | a :: b :: d :: r, _ => exact ⟨a, b, d, r, rfl⟩
      have lt : ∀ i ∈ unlike ts, i ≤ 100 := fun i hi => by have := unlike_lt hi; omega
      have hm := List.mem_of_getElem? (head_get 0 ln)
      have hm2 := List.mem_range.mp (List.mem_filter.mp hm).1
      refine .inr (.inr ⟨a, b, d, (late h (way h (srcs ts) (gols ts)) ts).headD 0, lt a (by rw [e3]; simp), lt b (by rw [e3]; simp), lt d (by rw [e3]; simp), by omega, ?_⟩)
      rw [e3] <;> rfl
theorem sh_bar {h : Int} {ts : List Te} (v : Valid ts) (hl : ts.length ≤ 100) : Sh 20000 (.list [barD h ts, barD h ts]) := by
  have key : ∃ n k, n ≤ 9000 ∧ k ≤ 1 ∧ Sh n (barD h ts) ∧ (barD h ts).depth ≤ k := by
    rcases bar_cases (h := h) v hl with e | ⟨i, j, hi, hj, e⟩ | ⟨a, b, d, f, ha, hb, hd, hf, e⟩ <;> rw [e]
    · exact ⟨4, 0, by decide, by decide, sh_none, by decide⟩
    · have k := sh_tup (shl_cons (sh_str (x := "crossed") (n := 20) (by decide +kernel)) (by show 0 ≤ 0; decide) (shl_cons (sh_int (bd_nat hi)) dp0 (shl_cons (sh_int (bd_nat hj)) dp0 (shl_nil (k := 0))))) (by decide)
      exact ⟨_, 1, by decide, by decide, k.1, k.2⟩
    · have k := sh_tup (shl_cons (sh_str (x := "other") (n := 20) (by decide +kernel)) (by show 0 ≤ 0; decide) (shl_cons (sh_int (bd_nat ha)) dp0 (shl_cons (sh_int (bd_nat hb)) dp0 (shl_cons (sh_int (bd_nat hd)) dp0 (shl_cons (sh_int (bd_nat hf)) dp0 (shl_nil (k := 0))))))) (by decide)
      exact ⟨_, 1, by decide, by decide, k.1, k.2⟩
  obtain ⟨n, k, hn, hk, a, b⟩ := key
  have r := sh_lst (shl_cons a b (shl_cons a b (shl_nil (k := k)))) (by omega)
  exact ⟨r.1.s, r.1.h, r.1.t, Nat.le_trans r.1.l (by omega)⟩
theorem fit_cases {o : Option Int} {ts : List Te} (ho : o = none ∨ o = some 0 ∨ o = some 1) : (fitD o ts = .none ∧ ∀ h ∈ hl o, chartFor h ts = none) ∨ ∃ h f r, fitD o ts = chD h f ∧ (h = 0 ∨ h = 1) ∧ chartFor h ts = some f ∧ ((hl o).filter fun h => (chartFor h ts).isSome) = h :: r := by
  rcases ho with rfl | rfl | rfl
  · cases e0 : chartFor 0 ts with
    | some f => exact .inr ⟨0, f, ([1] : List Int).filter (fun h => (chartFor h ts).isSome), by simp [fitD, chs, hl, e0], .inl rfl, e0, by simp [hl, e0]⟩
    | none =>
      cases e1 : chartFor 1 ts with
      | some f => exact .inr ⟨1, f, [], by simp [fitD, chs, hl, e0, e1], .inr rfl, e1, by simp [hl, e0, e1]⟩
      | none => exact .inl ⟨by simp [fitD, chs, hl, e0, e1], by simp [hl, e0, e1]⟩
  · cases e0 : chartFor 0 ts with
    | some f => exact .inr ⟨0, f, [], by simp [fitD, chs, hl, e0], .inl rfl, e0, by simp [hl, e0]⟩
    | none => exact .inl ⟨by simp [fitD, chs, hl, e0], by simp [hl, e0]⟩
  · cases e1 : chartFor 1 ts with
    | some f => exact .inr ⟨1, f, [], by simp [fitD, chs, hl, e1], .inr rfl, e1, by simp [hl, e1]⟩
    | none => exact .inl ⟨by simp [fitD, chs, hl, e1], by simp [hl, e1]⟩
end DL

/-! part Dff -/
set_option Elab.async false
set_option linter.all false
set_option maxRecDepth 100000
set_option maxHeartbeats 4000000
namespace DL
open PySem PySem.Spec PyProof.Rows L2
variable {P : Program} {w : World} {K : PySem.W.Frag} {mg : Str → Option Value} {base : Heap}
theorem tgu {k : Nat} {A : Around} (hr : Room k A) : A.units + 70 < cLine := by have := hr.un; omega
theorem okK_bar (c : Core K mg) : DefOkK P w K mg base 9 "bar" ["tests", "hand"] ["hand", "tests"] (pur F_bar) := (ok_bar c).names c.bar fun _ _ _ _ _ _ _ _ => rfl
theorem okK_fitting (c : Core K mg) : DefOkK P w K mg base 10 "fitting" ["tests", "hand"] ["hand", "tests"] (pur F_fitting) := (ok_fitting c).names c.fitting fun _ _ _ _ _ _ _ _ => rfl
theorem able_eq {o : Option Int} {ts : List Te} (v : Valid ts) : ableL o ts = ((hl o).filter fun h => (chartFor h ts).isSome).map .int := by
  unfold ableL
  exact congrArg _ (List.filter_congr fun h _ => (can_chart v h).symm)
theorem raw_way {h : Int} {ts : List Te} (v : Valid ts) (hc : cross1 ts = none) (hl : 3 ≤ (unlike ts).length) : way h (srcs ts) (gols ts) = F4.form (lawRaw h ts) ∧ (lawRaw h ts).det ≠ 0 := by
  obtain ⟨t1, t2⟩ := tri_of v hc
  have ra : lawRaw h ts = raw h (srcs ts) (gols ts) := by
    unfold lawRaw
    rw [srcs_full hl, gols_full hl]
  rw [ra]
  exact ⟨way_raw t1 t2, raw_det t1 t2⟩
theorem depth_ints : ∀ r : List Int, PyData.depthAll (r.map .int) ≤ 0
  | [] => by simp [PyData.depthAll]
  | x :: r => by
    have := depth_ints r
    simp only [List.map_cons, PyData.depthAll, PyData.depth]
    omega
theorem shaped_ints (r : List Int) : SeqAt.shaped (.list (r.map .int)) = true := by
  show (PyData.canLayAll0 (r.map .int) && decide ((PyData.list (r.map .int)).depth ≤ 64)) = true
  have := depth_ints r
  rw [lay_map (fun _ => rfl), decide_eq_true (by simp only [PyData.depth]; omega)] <;> rfl
def C_right : Con := fun ss C q => ∃ w A ds B, ss = [.own w] ∧ C = A ++ (w, ds) :: B ∧ WellOk 0 ds ∧ ∀ ds', q (.dat (.bool true)) (A ++ (w, ds') :: B)
theorem ok_law_right (c : Core K mg) : DefOkG P w K mg base 11 "_law_right" ["_law_well_here"] C_right := by
  refine mkDefG c.law_right sc_law_right (fun _ _ _ _ _ _ us hl => match us, hl with | [_], _ => rfl) (fun ss C q ⟨_, _, _, _, h, _⟩ => by rw [h] <;> rfl) fun f cdv A0 outer s H E hg hr O C ss Q hq => ?_
  obtain ⟨wl, A, ds, B, rfl, rfl, ok, q⟩ := hq
  refine b_set (i := 1) sc_law_right.nd (vp_wel (i := 0) (ok_law_of c) hr (by decide) rfl (A1 (ev_tup (ds := [.int 1, .int 1, .int 2, .int 3, .int 9, .int 40, .int 1000]) (ea_cons ev_int (ea_cons ev_int (ea_cons ev_int (ea_cons ev_int (ea_cons ev_int (ea_cons ev_int (ea_cons ev_int ea_nil))))))) (by decide))) ⟨_, _, rfl, rfl, by decide, by decide, rfl⟩ ok (by omega) ?_)
  rintro z ds2 hz ok2
  obtain ⟨wide, rfl, w0, w1⟩ : ∃ m : Int, z = .int m ∧ 1 ≤ m ∧ m ≤ 1000 := by
    simp only [List.mem_cons, List.not_mem_nil, or_false] at hz
    rcases hz with h | h | h | h | h | h | h <;> exact ⟨_, h, by decide, by decide⟩
  refine b_set (i := 2) sc_law_right.nd (vp_wel (i := 0) (ok_law_tests c) hr (by decide) rfl (A1 (V 1 rfl)) ⟨wide, rfl, w0, w1, rfl⟩ ok2 (by omega) ?_)
  rintro z ds3 ⟨ts, rfl, g, hl⟩ ok3
  have q := q ds3
  generalize A ++ (wl, ds3) :: B = C0 at *
  refine b_re (Δ' := [.own wl, .dat (.int wide), .dat (tsD ts), .no, .no, .no, .no]) rfl ?_
  refine b_for PassesOwn.never (iv_seq (T2 ev_int ev_int) rfl) (fun i Δ1 C1 => C1 = C0 ∧ ∃ s3 s4, Δ1 = [.own wl, .dat (.int wide), .dat (tsD ts), s3, s4, .no, .no]) ⟨rfl, .no, .no, rfl⟩ ?_ ?_
  · rintro i Δ1 C1 d hd ⟨rfl, s3, s4, rfl⟩
    obtain ⟨h, rfl, h01⟩ : ∃ h : Int, d = .int h ∧ (h = 0 ∨ h = 1) := by
      have m := List.mem_of_getElem? hd
      simp only [List.mem_cons, List.not_mem_nil, or_false] at m
      rcases m with rfl | rfl
      · exact ⟨0, rfl, .inl rfl⟩
      · exact ⟨1, rfl, .inr rfl⟩
    have sh := sh_bar (h := h) g.v (show ts.length ≤ 100 by omega)
    refine ⟨_, _, tg_name (i := 3) sc_law_right.nd, b_set (i := 4) sc_law_right.nd ((e_law_bar c hr (V 3 rfl) (V 2 rfl) g.v g.b (by omega)).p ?_)⟩
    exact b_ifF (et_is (et_neS (ev_repr hg (tgu hr) c.b_repr (L2 (e_bar c hr (V 2 rfl) (V 3 rfl) h01 g.v g.b hl) (ev_callK (okK_bar c) (hr.mono (by decide)) (V 3 rfl) (V 2 rfl) ⟨ts, h, rfl, h01, g.v, g.b, hl, rfl⟩)) sh.s sh.h (Nat.le_trans sh.t (by decide)) (Nat.le_trans sh.l (by decide)) (.inr ⟨_, rfl⟩)) (ev_repr hg (tgu hr) c.b_repr (L2 (V 4 rfl) (V 4 rfl)) sh.s sh.h (Nat.le_trans sh.t (by decide)) (Nat.le_trans sh.l (by decide)) (.inr ⟨_, rfl⟩))) (by simp)) (b_nil ⟨rfl, .dat (.int h), .dat (barD h ts), rfl⟩)
  rintro Δ1 C1 ⟨rfl, s3, s4, rfl⟩
  refine b_for PassesOwn.never (iv_seq (T3 ev_int ev_int ev_non) rfl) (fun i Δ1 C2 => C2 = C1 ∧ ∃ s3 s5 s6, Δ1 = [.own wl, .dat (.int wide), .dat (tsD ts), s3, s4, s5, s6]) ⟨rfl, s3, .no, .no, rfl⟩ ?_ ?_
  · rintro i Δ1 C2 d hd ⟨rfl, s3, s5, s6, rfl⟩
    obtain ⟨o, rfl, ho⟩ : ∃ o : Option Int, d = hoD o ∧ (o = none ∨ o = some 0 ∨ o = some 1) := by
      have m := List.mem_of_getElem? hd
      simp only [List.mem_cons, List.not_mem_nil, or_false] at m
      rcases m with rfl | rfl | rfl
      · exact ⟨some 0, rfl, .inr (.inl rfl)⟩
      · exact ⟨some 1, rfl, .inr (.inr rfl)⟩
      · exact ⟨none, rfl, .inl rfl⟩
    refine ⟨_, _, tg_name (i := 3) sc_law_right.nd, b_par (i := 5) (j := 6) sc_law_right.nd ((A2 (e_fitting c hr (V 2 rfl) (V 3 rfl) ho g.v g.b hl) (e_law_hands c hr (V 2 rfl) (V 3 rfl) ho g.b (by omega))).p ⟨_, _, rfl, ?_⟩)⟩
    refine b_re (Δ' := [.own wl, .dat (.int wide), .dat (tsD ts), .dat (hoD o), s4, .dat (fitD o ts), .dat (.list (ableL o ts))]) rfl ?_
    rcases fit_cases (ts := ts) ho with ⟨e, hn⟩ | ⟨h, f2, r, e, h01, hf, hfl⟩
    · have ea : ableL o ts = [] := by
        rw [able_eq g.v]
        have : ((DL.hl o).filter fun h => (chartFor h ts).isSome) = [] := List.filter_eq_nil_iff.mpr fun h hh => by rw [hn h hh]; decide
        rw [this] <;> rfl
      rw [ea]
      refine b_re (Δ' := [.own wl, .dat (.int wide), .dat (tsD ts), .dat (hoD o), s4, .dat .none, .dat (.list [])]) (by rw [e]) ?_
      refine b_ifF (et_is (EvW.t (ew_or (k := false) (l := false) (et_is (et_neS (ev_repr hg (tgu hr) c.b_repr (ev_is (ev_callK (okK_fitting c) (hr.mono (by decide)) (V 3 rfl) (V 2 rfl) ⟨ts, o, rfl, ho, g.v, g.b, hl, rfl⟩) e) rfl rfl (by decide) (by decide +kernel) (.inl rfl)) (ev_repr hg (tgu hr) c.b_repr (V 5 rfl) rfl rfl (by decide) (by decide +kernel) (.inl rfl))) (by simp)) fun _ => ew_or1 (et_is (t_ne hr (e_isN (V 5 rfl)) (ev_eq hr (V 6 rfl) (ev_lst (ds := []) ea_nil) rfl rfl)) rfl))) rfl) ?_
      exact b_ifF (et_is (t_notN (V 5 rfl)) rfl) (b_nil ⟨rfl, .dat (hoD o), .dat .none, .dat (.list []), rfl⟩)
    · obtain ⟨hc, ew, hdet, hform, hb4, hfit⟩ := chart_some g.v g.b hf
      have ea : ableL o ts = .int h :: r.map .int := by rw [able_eq g.v, hfl] <;> rfl
      have sh := sh_ch (h := h) (by rcases h01 with z | z <;> rw [z] <;> exact (Bd.lit 10 _).mono (by decide)) hb4
      have rel := (fit_rel (h := h) hdet g.v).symm.trans hfit
      rw [ea]
      refine b_re (Δ' := [.own wl, .dat (.int wide), .dat (tsD ts), .dat (hoD o), s4, .dat (chD h f2), .dat (.list (.int h :: r.map .int))]) (by rw [e]) ?_
      refine b_ifF (et_is (EvW.t (ew_or (k := false) (l := false) (et_is (et_neS (ev_repr hg (tgu hr) c.b_repr (ev_is (ev_callK (okK_fitting c) (hr.mono (by decide)) (V 3 rfl) (V 2 rfl) ⟨ts, o, rfl, ho, g.v, g.b, hl, rfl⟩) e) sh.s sh.h (Nat.le_trans sh.t (by decide)) (Nat.le_trans sh.l (by decide)) (.inr ⟨_, rfl⟩)) (ev_repr hg (tgu hr) c.b_repr (V 5 rfl) sh.s sh.h (Nat.le_trans sh.t (by decide)) (Nat.le_trans sh.l (by decide)) (.inr ⟨_, rfl⟩))) (by simp)) fun _ => ew_or1 (et_is (t_ne hr (e_isN (V 5 rfl)) (ev_eq hr (V 6 rfl) (ev_lst (ds := []) ea_nil) (shaped_ints (h :: r)) rfl)) rfl))) rfl) ?_
      refine b_ifT (et_is (t_notN (V 5 rfl)) rfl) ?_
      refine b_ifF (et_is (EvW.t (ew_or (k := false) (l := false) (et_is (et_not (et_val (e_law_is_map c hr (V 5 rfl) h01 hdet hform (hb4.mono (by decide))))) rfl) fun _ => ew_or (k := false) (l := false) (et_is (t_ne hr (IX (V 5 rfl) rfl rfl) (IX (V 6 rfl) rfl rfl)) (by rw [decide_eq_true rfl] <;> rfl)) fun _ => ew_or1 (et_is (et_not (et_val (e_law_is_fit c hr (V 5 rfl) (V 2 rfl) (hb4.mono (by decide)) fun t ht => ⟨(g.b t ht).1.mono (by decide), (g.b t ht).2.mono (by decide)⟩))) (by rw [rel] <;> rfl)))) rfl) ?_
      refine b_ifF (et_isnotT (ev_is (e_fits c hr (V 5 rfl) (V 2 rfl) h01 hdet hform hb4 g.v g.b hl) (by rw [hfit])) ev_bl) ?_
      refine b_ifF (et_is (EvW.t (ew_and (k := decide (2 < (unlike ts).length)) (l := false) (et_is (et_gt (ev_len c.b_len (e_law_firsts c hr (V 2 rfl) (by omega)) rfl) ev_int) (by rw [List.length_map]; exact decide_eq_decide.mpr (by omega))) fun k => ew_and1 (et_is (t_ne hr (V 5 rfl) (e_law_reduced c hr (e_law_trio c hr (h := h) (IX (V 6 rfl) rfl rfl) (V 2 rfl) g.b (by omega) (of_decide_eq_true k)) ((lawRaw_b4 g.b (of_decide_eq_true k)).mono (by decide)) (F4.nz_of_det (raw_way g.v hc (of_decide_eq_true k)).2))) ?_))) (by rw [Bool.and_false])) (b_nil (b_nil ⟨rfl, .dat (hoD o), .dat (chD h f2), .dat (.list (.int h :: r.map .int)), rfl⟩))
      have e2 := (raw_way (h := h) g.v hc (of_decide_eq_true k)).1
      rw [decide_eq_true ⟨rfl, ew.trans e2⟩] <;> rfl
  · rintro Δ1 C2 ⟨rfl, s3, s5, s6, rfl⟩
    exact b_ret (ev_bl.p q)
def C_law : Con := fun ss C q => ∃ l : List Int, ss = [.dat (.list (l.map .int))] ∧ l.length ≤ 63 ∧ q (.dat (.bool true)) C
theorem ok_law (c : Core K mg) : DefOkG P w K mg base 12 "law" ["_law_script"] C_law := by
  refine mkDefG c.law sc_law (fun _ _ _ _ _ _ us hl => match us, hl with | [_], _ => rfl) (fun ss C q ⟨_, h, _⟩ => by rw [h] <;> rfl) fun f cdv A0 outer s H E hg hr O C ss Q hq => ?_
  obtain ⟨l, rfl, hl, q⟩ := hq
  refine b_for PassesOwn.never (iv_range c.b_range (e_law_rounds c hr (V 0 rfl) (by omega)) (by split <;> omega)) (fun i Δ1 C1 => C1 = C ∧ ∃ s, Δ1 = [.dat (.list (l.map .int)), s]) ⟨rfl, .no, rfl⟩ ?_ ?_
  · rintro i Δ1 C1 d hd ⟨rfl, s1, rfl⟩
    rw [ups0, List.getElem?_map] at hd
    obtain ⟨j, hj, rfl⟩ := Option.map_eq_some_iff.mp hd
    have hj2 := List.mem_range.mp (List.mem_of_getElem? hj)
    have hj3 : j ≤ 3 := by split at hj2 <;> omega
    refine ⟨_, _, tg_name (i := 1) sc_law.nd, b_ifF (et_is (l := false) (et_not (et_val (EvP.d (vp_less (P' := fun s C' => ∃ x, C' = x :: C1 ∧ s = .dat (.bool true)) (vp_callG (ok_law_right c) hg hr (av_cons (vp_call (ok_law_well c) (hr.mono (by decide)) (av_cons ((V 0 rfl).p (av_cons ((V 1 rfl).p (av_nil ⟨l, j, rfl, by omega, hj3, fun p ds ok => av_nil ⟨p, [], ds, C1, rfl, rfl, ok, fun ds' => ⟨_, rfl, rfl⟩⟩⟩)))))))) fun s C' ⟨x, e1, e2⟩ => ⟨C1, by rw [e1]; exact List.sublist_cons_self _ _, e2, rfl⟩)))) rfl) (b_nil ⟨rfl, .dat (natD j), rfl⟩)⟩
  · rintro Δ1 C1 ⟨rfl, s1, rfl⟩
    exact b_ret (ev_bl.p q)
end DL

/-! part Dx -/
set_option Elab.async false
set_option linter.all false
set_option maxRecDepth 100000
set_option maxHeartbeats 0
/-! The head: what stands behind the top. -/
namespace DL
open PySem PySem.Spec PyProof.Rows L2
/-! ### the module's data -/
def datB (K : PySem.W.Frag) : Nat → Value → D → Bool
  | 0, _, _ => false
  | _ + 1, .int i _, .int j => decide (i = j)
  | n + 1, .ref a, .tuple ds => (match K.lookup a with
    | some ⟨.type c, _, .seq its _, _⟩ => decide (c = "tuple") && (decide (its.size ≤ sizeLine) && (decide (its.toList.length = ds.length) && (its.toList.zip ds).all fun p => datB K n p.1 p.2))
    | _ => false)
  | _ + 1, _, _ => false
theorem datL_ok {K : PySem.W.Frag} {n : Nat} (ih : ∀ u d, datB K n u d = true → ∃ v, RelV v u ∧ ∀ W : Hp, Dp K W v d) : ∀ (us : List Value) (ds : List D), us.length = ds.length → ((us.zip ds).all fun p => datB K n p.1 p.2) = true → ∃ vs, Vals vs us ∧ ∀ W : Hp, DpAll K W vs ds
  | [], [], _, _ => ⟨[], .nil, fun _ => .nil⟩
  | [], _ :: _, h, _ => by cases h
  | _ :: _, [], h, _ => by cases h
  | u :: us, d :: ds, h, a => by
    obtain ⟨a1, a2⟩ := Bool.and_eq_true_iff.mp (show (datB K n u d && ((us.zip ds).all fun p => datB K n p.1 p.2)) = true from a)
    obtain ⟨v, r, e⟩ := ih u d a1
    obtain ⟨vs, rs, es⟩ := datL_ok ih us ds (Nat.succ.inj h) a2
    exact ⟨v :: vs, .cons r rs, fun W => .cons (e W) (es W)⟩
theorem datB_ok {K : PySem.W.Frag} : ∀ (n : Nat) (u : Value) (d : D), datB K n u d = true → ∃ v, RelV v u ∧ ∀ W : Hp, Dp K W v d
  | 0, _, _, h => by cases h
  | n + 1, u, d, h => by
    unfold datB at h
    split at h
    · cases h
    · have e := of_decide_eq_true h
      subst e
      exact ⟨.int _, ⟨_, rfl⟩, fun _ => .int _⟩
    · rename_i n' a ds e
      cases e
      split at h
      · rename_i tc od its m sl lk
        obtain ⟨h1, h⟩ := Bool.and_eq_true_iff.mp h
        obtain ⟨h2, h⟩ := Bool.and_eq_true_iff.mp h
        obtain ⟨h3, h4⟩ := Bool.and_eq_true_iff.mp h
        obtain ⟨vs, r, e⟩ := datL_ok (datB_ok n) its.toList ds (of_decide_eq_true h3) h4
        exact ⟨.ref a, rfl, fun W => .tup (.inr ⟨_, its, m, lk, congrArg Value.type (of_decide_eq_true h1), rfl, of_decide_eq_true h2, r⟩) (e W)⟩
      · cases h
    · cases h
def atB (K : PySem.W.Frag) (x : Str) (d : D) : Bool := match PySem.W.nsIn K mainGlobals x with
  | some (some u) => datB K 5 u d
  | _ => false
theorem atB_ok {K : PySem.W.Frag} {h : Heap} {mg : Str → Option Value} (X : K.In h) (Gn : h.Ns mainGlobals mg) {x : Str} {d : D} (c : atB K x d = true) : Glo K mg x d := by
  unfold atB at c
  split at c
  · rename_i u e
    obtain ⟨v, r, q⟩ := datB_ok 5 u d c
    exact ⟨u, v, PySem.W.mg_of X Gn e, r, q⟩
  · cases c
def cst (K : PySem.W.Frag) : Bool := atB K "ZERO" (G.d 0) && (atB K "UNITS" (.tuple [pr 1 0, pr 0 1, pr (-1) 0, pr 0 (-1)]) && (atB K "FAR" Pl.far.d && (atB K "SPARE" (.tuple (spares.map Pl.d)) && (atB K "MANY" (.int 3) && (atB K "MOST_TESTS" (.int 8) && (atB K "ENOUGH" (.int 3) && He.eqO (PySem.W.nsIn K mainGlobals "gcd") (some (some (.builtin "math.gcd")))))))))
def fn : List He.DefD := ([dOf "is_whole" 8, dOf "are_wholes" 9, dOf "divisor_of" 10, dOf "lowest" 11, dOf "is_lowest" 12, dOf "is_complex" 16, dOf "plus" 17, dOf "minus" 18, dOf "times" 19, dOf "scaled" 20, dOf "turned_over" 21, dOf "square_size" 22, dOf "unit_for" 23, dOf "nearest" 24, dOf "divisor_of_two" 25, dOf "divisor_of_all" 26, dOf "divided" 27, dOf "is_place" 30, dOf "quotient_place" 31, dOf "determinant" 33, dOf "form_of" 34, dOf "is_flag" 35, dOf "is_map" 36, dOf "check_map" 37, dOf "led_by" 38, dOf "joined" 39, dOf "way_back" 40, dOf "check_triple" 43, dOf "apart" 44, dOf "chart_to_three" 45] : List He.DefD) ++ ([dOf "plain_through" 46, dOf "mirrored_through" 47, dOf "is_test" 52, dOf "check_tests" 53, dOf "check_hand" 54, dOf "check_hands" 55, dOf "is_fitting" 56, dOf "are_crossed" 57, dOf "first_crossed" 58, dOf "unlike_in" 59, dOf "spare_beside" 60, dOf "chart_through" 61, dOf "chart_for" 62, dOf "charts_for" 63, dOf "fits" 64, dOf "fitting" 65, dOf "bar" 66, dOf "_law_well" 68, dOf "_law_dip" 69, dOf "_law_of" 70, dOf "_law_whole" 71, dOf "_law_rounds" 72, dOf "_law_gcd" 73, dOf "_law_cut" 74, dOf "_law_times" 75, dOf "_law_plus" 76, dOf "_law_minus" 77, dOf "_law_conj" 78, dOf "_law_norm" 79, dOf "_law_scaled" 80] : List He.DefD) ++ ([dOf "_law_over" 81, dOf "_law_deep" 82, dOf "_law_quarter" 83, dOf "_law_chart" 84, dOf "_law_spot" 85, dOf "_law_led" 86, dOf "_law_joined" 87, dOf "_law_back" 88, dOf "_law_place" 89, dOf "_law_unlike" 90, dOf "_law_four" 91, dOf "_law_map" 92, dOf "_law_three" 93, dOf "_law_fit" 94, dOf "_law_reduced" 95, dOf "_law_is_whole" 96, dOf "_law_is_map" 97, dOf "_law_is_fit" 98, dOf "_law_crossed" 99, dOf "_law_firsts" 100, dOf "_law_trio" 101, dOf "_law_can" 102, dOf "_law_tests" 103, dOf "_law_on_round" 104, dOf "_law_hands" 105, dOf "_law_bar" 106, dOf "_law_right" 107, dOf "law" 108] : List He.DefD)
def fa : List He.Fa := ([.glo "is_whole", .glo "are_wholes", .glo "divisor_of", .glo "lowest", .glo "is_lowest", .glo "is_complex", .glo "plus", .glo "minus", .glo "times", .glo "scaled", .glo "turned_over", .glo "square_size", .glo "unit_for", .glo "nearest", .glo "divisor_of_two", .glo "divisor_of_all", .glo "divided", .glo "is_place", .glo "quotient_place", .glo "determinant", .glo "form_of", .glo "is_flag", .glo "is_map", .glo "check_map", .glo "led_by", .glo "joined", .glo "way_back", .glo "check_triple", .glo "apart", .glo "chart_to_three"] : List He.Fa) ++ ([.glo "plain_through", .glo "mirrored_through", .glo "is_test", .glo "check_tests", .glo "check_hand", .glo "check_hands", .glo "is_fitting", .glo "are_crossed", .glo "first_crossed", .glo "unlike_in", .glo "spare_beside", .glo "chart_through", .glo "chart_for", .glo "charts_for", .glo "fits", .glo "fitting", .glo "bar", .glo "_law_well", .glo "_law_dip", .glo "_law_of", .glo "_law_whole", .glo "_law_rounds", .glo "_law_gcd", .glo "_law_cut", .glo "_law_times", .glo "_law_plus", .glo "_law_minus", .glo "_law_conj", .glo "_law_norm", .glo "_law_scaled"] : List He.Fa) ++ ([.glo "_law_over", .glo "_law_deep", .glo "_law_quarter", .glo "_law_chart", .glo "_law_spot", .glo "_law_led", .glo "_law_joined", .glo "_law_back", .glo "_law_place", .glo "_law_unlike", .glo "_law_four", .glo "_law_map", .glo "_law_three", .glo "_law_fit", .glo "_law_reduced", .glo "_law_is_whole", .glo "_law_is_map", .glo "_law_is_fit", .glo "_law_crossed", .glo "_law_firsts", .glo "_law_trio", .glo "_law_can", .glo "_law_tests", .glo "_law_on_round", .glo "_law_hands", .glo "_law_bar", .glo "_law_right", .glo "law", .free "len", .free "isinstance"] : List He.Fa) ++ ([.free "int", .free "bool", .free "tuple", .free "list", .free "all", .free "range", .free "enumerate", .free "abs", .free "min", .free "max", .free "divmod", .free "repr"] : List He.Fa)
abbrev Alk : Type := He.AlD × Bool
def obk (n : Nat) (g : Addr → Option Obj) : Alk := (He.obsDG n fa fn g, cst (He.frG g (He.asD g n)))
def hkk (n : Nat) : PySem.W.Hook where
  α := Alk
  obs := fun s => obk n s.heap.get?
  val := fun _ => (He.valD fn, true)
  says := fun _ h => ∃ K : PySem.W.Frag, K.In h ∧ He.SaysD fa fn K ∧ cst K = true
  of := fun _ _ e => ⟨_, He.frG_in, congrArg (fun z : Alk => z.1) e, congrArg (fun z : Alk => z.2) e⟩
  keeps := fun _ _ _ ⟨K, hK, c⟩ k => ⟨K, PySem.W.Frag.In.keeps hK k, c⟩
theorem obk_eq {n : Nat} {g : Addr → Option Obj} {s : Shared} (h : ∀ a, g a = s.heap.get? a) : obk n g = (hkk n).obs s := by
  have e : g = s.heap.get? := funext h
  rw [e] <;> rfl
section
variable {K : PySem.W.Frag} {h : Heap} {mg : Str → Option Value}
theorem stands (X : K.In h) (Gn : h.Ns mainGlobals mg) (c : He.SaysD fa fn K) (j : Nat) {x : Str} {i : Nat} (h1 : fa[j]? = some (.glo x)) (h2 : fn[j]? = some (dOf x i)) : Stands K mg x i := by
  obtain ⟨fd, F⟩ := c.def_ j h2
  exact ⟨_, fd, He.glo_ok X Gn (c.fact j h1), F⟩
theorem core_of (X : K.In h) (Gn : h.Ns mainGlobals mg) (c : He.SaysD fa fn K) (k : cst K = true) : Core K mg := by
  obtain ⟨k1, k⟩ := Bool.and_eq_true_iff.mp k
  obtain ⟨k2, k⟩ := Bool.and_eq_true_iff.mp k
  obtain ⟨k3, k⟩ := Bool.and_eq_true_iff.mp k
  obtain ⟨k4, k⟩ := Bool.and_eq_true_iff.mp k
  obtain ⟨k5, k⟩ := Bool.and_eq_true_iff.mp k
  obtain ⟨k6, k⟩ := Bool.and_eq_true_iff.mp k
  obtain ⟨k7, k8⟩ := Bool.and_eq_true_iff.mp k
  exact {
    is_whole := stands X Gn c 0 rfl rfl
    are_wholes := stands X Gn c 1 rfl rfl
    divisor_of := stands X Gn c 2 rfl rfl
    lowest := stands X Gn c 3 rfl rfl
    is_lowest := stands X Gn c 4 rfl rfl
    is_complex := stands X Gn c 5 rfl rfl
    plus := stands X Gn c 6 rfl rfl
    minus := stands X Gn c 7 rfl rfl
    times := stands X Gn c 8 rfl rfl
    scaled := stands X Gn c 9 rfl rfl
    turned_over := stands X Gn c 10 rfl rfl
    square_size := stands X Gn c 11 rfl rfl
    unit_for := stands X Gn c 12 rfl rfl
    nearest := stands X Gn c 13 rfl rfl
    divisor_of_two := stands X Gn c 14 rfl rfl
    divisor_of_all := stands X Gn c 15 rfl rfl
    divided := stands X Gn c 16 rfl rfl
    is_place := stands X Gn c 17 rfl rfl
    quotient_place := stands X Gn c 18 rfl rfl
    determinant := stands X Gn c 19 rfl rfl
    form_of := stands X Gn c 20 rfl rfl
    is_flag := stands X Gn c 21 rfl rfl
    is_map := stands X Gn c 22 rfl rfl
    check_map := stands X Gn c 23 rfl rfl
    led_by := stands X Gn c 24 rfl rfl
    joined := stands X Gn c 25 rfl rfl
    way_back := stands X Gn c 26 rfl rfl
    check_triple := stands X Gn c 27 rfl rfl
    apart := stands X Gn c 28 rfl rfl
    chart_to_three := stands X Gn c 29 rfl rfl
    plain_through := stands X Gn c 30 rfl rfl
    mirrored_through := stands X Gn c 31 rfl rfl
    is_test := stands X Gn c 32 rfl rfl
    check_tests := stands X Gn c 33 rfl rfl
    check_hand := stands X Gn c 34 rfl rfl
    check_hands := stands X Gn c 35 rfl rfl
    is_fitting := stands X Gn c 36 rfl rfl
    are_crossed := stands X Gn c 37 rfl rfl
    first_crossed := stands X Gn c 38 rfl rfl
    unlike_in := stands X Gn c 39 rfl rfl
    spare_beside := stands X Gn c 40 rfl rfl
    chart_through := stands X Gn c 41 rfl rfl
    chart_for := stands X Gn c 42 rfl rfl
    charts_for := stands X Gn c 43 rfl rfl
    fits := stands X Gn c 44 rfl rfl
    fitting := stands X Gn c 45 rfl rfl
    bar := stands X Gn c 46 rfl rfl
    law_well := stands X Gn c 47 rfl rfl
    law_dip := stands X Gn c 48 rfl rfl
    law_of := stands X Gn c 49 rfl rfl
    law_whole := stands X Gn c 50 rfl rfl
    law_rounds := stands X Gn c 51 rfl rfl
    law_gcd := stands X Gn c 52 rfl rfl
    law_cut := stands X Gn c 53 rfl rfl
    law_times := stands X Gn c 54 rfl rfl
    law_plus := stands X Gn c 55 rfl rfl
    law_minus := stands X Gn c 56 rfl rfl
    law_conj := stands X Gn c 57 rfl rfl
    law_norm := stands X Gn c 58 rfl rfl
    law_scaled := stands X Gn c 59 rfl rfl
    law_over := stands X Gn c 60 rfl rfl
    law_deep := stands X Gn c 61 rfl rfl
    law_quarter := stands X Gn c 62 rfl rfl
    law_chart := stands X Gn c 63 rfl rfl
    law_spot := stands X Gn c 64 rfl rfl
    law_led := stands X Gn c 65 rfl rfl
    law_joined := stands X Gn c 66 rfl rfl
    law_back := stands X Gn c 67 rfl rfl
    law_place := stands X Gn c 68 rfl rfl
    law_unlike := stands X Gn c 69 rfl rfl
    law_four := stands X Gn c 70 rfl rfl
    law_map := stands X Gn c 71 rfl rfl
    law_three := stands X Gn c 72 rfl rfl
    law_fit := stands X Gn c 73 rfl rfl
    law_reduced := stands X Gn c 74 rfl rfl
    law_is_whole := stands X Gn c 75 rfl rfl
    law_is_map := stands X Gn c 76 rfl rfl
    law_is_fit := stands X Gn c 77 rfl rfl
    law_crossed := stands X Gn c 78 rfl rfl
    law_firsts := stands X Gn c 79 rfl rfl
    law_trio := stands X Gn c 80 rfl rfl
    law_can := stands X Gn c 81 rfl rfl
    law_tests := stands X Gn c 82 rfl rfl
    law_on_round := stands X Gn c 83 rfl rfl
    law_hands := stands X Gn c 84 rfl rfl
    law_bar := stands X Gn c 85 rfl rfl
    law_right := stands X Gn c 86 rfl rfl
    law := stands X Gn c 87 rfl rfl
    b_len := He.free_ok X Gn (c.fact 88 rfl)
    b_isinstance := He.free_ok X Gn (c.fact 89 rfl)
    b_int := He.free_ok X Gn (c.fact 90 rfl)
    b_bool := He.free_ok X Gn (c.fact 91 rfl)
    b_tuple := He.free_ok X Gn (c.fact 92 rfl)
    b_list := He.free_ok X Gn (c.fact 93 rfl)
    b_all := He.free_ok X Gn (c.fact 94 rfl)
    b_range := He.free_ok X Gn (c.fact 95 rfl)
    b_enumerate := He.free_ok X Gn (c.fact 96 rfl)
    b_abs := He.free_ok X Gn (c.fact 97 rfl)
    b_min := He.free_ok X Gn (c.fact 98 rfl)
    b_max := He.free_ok X Gn (c.fact 99 rfl)
    b_divmod := He.free_ok X Gn (c.fact 100 rfl)
    b_repr := He.free_ok X Gn (c.fact 101 rfl)
    b_gcd := PySem.W.mg_of X Gn (He.eqO_ok k8)
    k_ZERO := atB_ok X Gn k1
    k_UNITS := atB_ok X Gn k2
    k_FAR := atB_ok X Gn k3
    k_SPARE := atB_ok X Gn k4
    k_MANY := atB_ok X Gn k5
    k_MOST := atB_ok X Gn k6
    k_ENOUGH := atB_ok X Gn k7 }
end
end DL

/-! part Dy -/
set_option Elab.async false
set_option linter.all false
set_option maxRecDepth 100000
set_option maxHeartbeats 0
/-! The head's run. -/
namespace DL
open PySem PySem.Spec PyProof.Rows L2
abbrev R : PySem.W.OpenRow := PySem.W.OpenLaw.row theRow
abbrev qv : Program := PySem.W.view R.prog [0, 108]
def loose : List Str := (["__name__", "ArmError", "InvalidMap", "InvalidHand", "InvalidTriple", "InvalidTests", "is_whole", "are_wholes", "divisor_of", "lowest", "is_lowest", "ZERO", "UNITS", "is_complex", "plus", "minus", "times", "scaled", "turned_over", "square_size", "unit_for", "nearest", "divisor_of_two", "divisor_of_all", "divided", "FAR", "is_place", "quotient_place", "determinant"] : List Str) ++ (["form_of", "is_flag", "is_map", "check_map", "led_by", "joined", "way_back", "MANY", "check_triple", "apart", "chart_to_three", "plain_through", "mirrored_through", "MOST_TESTS", "ENOUGH", "SPARE", "is_test", "check_tests", "check_hand", "check_hands", "is_fitting", "are_crossed", "first_crossed", "unlike_in", "spare_beside", "chart_through", "chart_for", "charts_for", "fits", "fitting"] : List Str) ++ (["bar", "_law_well", "_law_dip", "_law_of", "_law_whole", "_law_rounds", "_law_gcd", "_law_cut", "_law_times", "_law_plus", "_law_minus", "_law_conj", "_law_norm", "_law_scaled", "_law_over", "_law_deep", "_law_quarter", "_law_chart", "_law_spot", "_law_led", "_law_joined", "_law_back", "_law_place", "_law_unlike", "_law_four", "_law_map", "_law_three", "_law_fit", "_law_reduced", "_law_is_whole"] : List Str) ++ (["_law_is_map", "_law_is_fit", "_law_crossed", "_law_firsts", "_law_trio", "_law_can", "_law_tests", "_law_on_round", "_law_hands", "_law_bar", "_law_right"] : List Str)
def ob (s : PySem.W.SharedT) : Alk := obk 2 (HandSHeadRun.getT s)
theorem ob_eq (s : PySem.W.SharedT) : ob s = (hkk 2).obs s.abs := obk_eq (HandSHeadRun.getT_eq s)
theorem run (w : World) : HandSHeadRun.RunEqI R qv (hkk 2) ob 20000 loose w := by
  unfold HandSHeadRun.RunEqI
  kernel_rfl
end DL

/-! part De -/
set_option Elab.async false
set_option linter.all false
set_option maxRecDepth 100000
set_option maxHeartbeats 0
/-! The end. -/
namespace DL
open PySem PySem.Spec PyProof.Rows L2
theorem ints_dp {K : PySem.W.Frag} {H : Hp} : ∀ ns : List Int, DpAll K H (ns.map V.int) (ns.map PyData.int)
  | [] => .nil
  | n :: ns => .cons (.int n) (ints_dp ns)
theorem sp_law {K : PySem.W.Frag} {H : Hp} {a : Addr} {ns : List Int} (hl : ns.length ≤ 63) (hS : SqL K H a (ns.map V.int)) : spC K C_law [.ref a] H (fun v _ => v = .bl true) fun _ _ _ => False := by
  have ex : Ex H (vw ([] ++ adr []) H) := fun b o e => by
    have z : b ∉ (([] : List Addr) ++ adr ([] : Cont)) := List.not_mem_nil
    rw [vw_at z]
    exact e
  refine ⟨[], [], [.dat (.list (ns.map .int))], fun s C => s = .dat (.bool true) ∧ C = [], ?_, ⟨(fun p hp => by cases hp), (fun b hb => by cases hb), List.nodup_nil⟩, ⟨ns, rfl, hl, rfl, rfl⟩, ?_⟩
  · exact .cons (.lst (Evl.ex_l ex hS) (ints_dp ns)) .nil
  · rintro s C' v H' ⟨rfl, rfl⟩ _ h
    exact dp_bl h
theorem law_facts {P : Program} {w : World} {K : PySem.W.Frag} {h : Heap} {mg : Str → Option Value} {f : Addr} (X : K.In h) (Gn : h.Ns mainGlobals mg) (hm : mg ("law" : Str) = some (.ref f)) (c : He.SaysD fa fn K) (k : cst K = true) (base : Heap) :
    ∃ fd : FuncData, Binds K fd ["_law_script"] [] ∧ FnG P w K mg base 12 f fd ["_law_script"] (spC K C_law) := by
  obtain ⟨g, fd, e, _, hb, F⟩ := (ok_law (P := P) (w := w) (base := base) (core_of X Gn c k)).ex
  have e := hm.symm.trans e
  cases e
  exact ⟨fd, hb, F⟩
end DL
open PySem PySem.W PySem.Calls PyProof.Rows
theorem PySem.Challenge.cw_drawarms_k67_whole_fitting_maps_and_bars_holds : PySem.Challenge.rw_drawarms_k67_whole_fitting_maps_and_bars.Holds := by
  w_on; o_law
  refine HandSHeadRun.head_imp (r := OpenLaw.row PySem.Challenge.rw_drawarms_k67_whole_fitting_maps_and_bars) (q := view (OpenLaw.row PySem.Challenge.rw_drawarms_k67_whole_fitting_maps_and_bars).prog [0, 108]) (H := DL.hkk 2) (ob := DL.ob) (M := 20000) (loose := DL.loose) (d := HandSHeadRun.topDef (OpenLaw.row PySem.Challenge.rw_drawarms_k67_whole_fitting_maps_and_bars).prog 108) (kwd := []) DL.ob_eq DL.run
    (by kernel_rfl) (by kernel_rfl) (by kernel_rfl) (by rfl) (by first | assumption | decide +kernel) (by decide +kernel) ⟨rfl, rfl, rfl, rfl, rfl, by decide +kernel⟩ ?hw ?hc
  case hw => w_witness2
  case hc =>
    refine DL.walkG (l := PySem.Challenge.rw_drawarms_k67_whole_fitting_maps_and_bars) (n := 63) (k := 12) (x := "_law_script") rfl (by decide) (by kernel_rfl) ⟨rfl, by decide, by decide⟩ ?F
    intro w mg fa h Y G hmg0
    obtain ⟨K, KX, c, k⟩ := Y
    have hmg : mg ("law" : PySem.Str) = some (.ref fa) := by
      have e : (HandSHeadRun.topDef (OpenLaw.row PySem.Challenge.rw_drawarms_k67_whole_fitting_maps_and_bars).prog 108).name = ("law" : PySem.Str) := by kernel_rfl
      rw [← e]
      exact hmg0
    exact ⟨K, DL.spC K DL.C_law, KX, fun H a ns hl _ hS => DL.sp_law hl hS, fun base _ _ => DL.law_facts KX G hmg c k base⟩
