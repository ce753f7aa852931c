import PyProof.Rows.All
import Wide.All
import OpenK.AllK
import Wide.FinOn
import PyProof.EqAt
import PyProof.EqKinds
import PyProof.TupleCall
import HandS.ForMost
import HandS.ForExc
import HandS.ExcCtx
import HandS.IsInst
import HandS.Wide
import HandS.Style
import HandS.TupAny
import HandS.Deep
import PySem.Challenge.RW_floorrows_k17_whole_game
set_option Elab.async false
set_option linter.all false
set_option maxRecDepth 100000
set_option maxHeartbeats 4000000
/-! Ma0: whole roots. -/
namespace Fl
/-- the greatest natural number whose square is not above n -/
def isq : Nat → Nat
  | 0 => 0
  | n + 1 => if (isq n + 1) * (isq n + 1) ≤ n + 1 then isq n + 1 else isq n
theorem isq_spec : ∀ n : Nat, isq n * isq n ≤ n ∧ n < (isq n + 1) * (isq n + 1)
  | 0 => by decide
  | n + 1 => by
    have ih := isq_spec n
    unfold isq
    split
    · constructor
      · assumption
      · grind
    · grind
theorem isq_uniq {n r : Nat} (h1 : r * r ≤ n) (h2 : n < (r + 1) * (r + 1)) : isq n = r := by
  have ih := isq_spec n
  have a : ¬ r < isq n := fun h => by
    have : (r + 1) * (r + 1) ≤ isq n * isq n := Nat.mul_le_mul h h
    omega
  have b : ¬ isq n < r := fun h => by
    have : (isq n + 1) * (isq n + 1) ≤ r * r := Nat.mul_le_mul h h
    omega
  omega
/-- the same of integers from 0 on -/
def sq (n : Int) : Int := (isq n.toNat : Int)
theorem sq_nonneg (n : Int) : 0 ≤ sq n := Int.natCast_nonneg _
theorem sq_spec {n : Int} (h : 0 ≤ n) : sq n * sq n ≤ n ∧ n < (sq n + 1) * (sq n + 1) := by
  have s := isq_spec n.toNat
  unfold sq
  have e : ((n.toNat : Nat) : Int) = n := Int.toNat_of_nonneg h
  constructor
  · have : ((isq n.toNat * isq n.toNat : Nat) : Int) ≤ ((n.toNat : Nat) : Int) := Int.ofNat_le.mpr s.1
    rw [Int.natCast_mul] at this
    omega
  · have : ((n.toNat : Nat) : Int) < (((isq n.toNat + 1) * (isq n.toNat + 1) : Nat) : Int) := Int.ofNat_lt.mpr s.2
    rw [Int.natCast_mul, Int.natCast_add] at this
    rw [e] at this
    exact this
theorem sq_uniq {n r : Int} (h0 : 0 ≤ r) (h1 : r * r ≤ n) (h2 : n < (r + 1) * (r + 1)) : sq n = r := by
  have hn : 0 ≤ n := Int.le_trans (Int.mul_nonneg h0 h0) h1
  have s := sq_spec hn
  have p := sq_nonneg n
  have a : ¬ r < sq n := fun h => by
    have : (r + 1) * (r + 1) ≤ sq n * sq n := Int.mul_le_mul h h (by omega) p
    omega
  have b : ¬ sq n < r := fun h => by
    have : (sq n + 1) * (sq n + 1) ≤ r * r := Int.mul_le_mul h h (by omega) h0
    omega
  omega
/-- a step of the search for a root -/
theorem root_step {n f : Int} (h1 : 1 ≤ f) (h2 : n < (f + 1) * (f + 1)) (h3 : n < f * f) (hn : 1 ≤ n) : 1 ≤ (f + n / f) / 2 ∧ (f + n / f) / 2 < f ∧ n < ((f + n / f) / 2 + 1) * ((f + n / f) / 2 + 1) := by
  have hf : 0 < f := by omega
  have e1 : n / f * f ≤ n := Int.ediv_mul_le n (by omega)
  have e2 : n < (n / f + 1) * f := Int.lt_ediv_add_one_mul_self n hf
  generalize hq : n / f = q at *
  have hq0 : 0 ≤ q := by rw [← hq]; exact Int.ediv_nonneg (by omega) (by omega)
  have hqf : q < f := by
    rw [← hq]
    exact Int.ediv_lt_of_lt_mul hf h3
  generalize hm : (f + q) / 2 = m
  have m1 : 2 * m ≤ f + q := by omega
  have m2 : f + q ≤ 2 * m + 1 := by omega
  refine ⟨by
    have : 2 ≤ f + q := by
      have : f ≠ 1 ∨ q ≠ 0 := by
        rcases Decidable.em (f = 1) with z | z
        · subst z; omega
        · exact .inl z
      omega
    omega, by omega, ?_⟩
  have k1 : (f + q + 1) * (f + q + 1) ≤ (2 * (m + 1)) * (2 * (m + 1)) := Int.mul_le_mul (by omega) (by omega) (by omega) (by omega)
  have k2 : 4 * ((q + 1) * f) ≤ (f + q + 1) * (f + q + 1) := by
    have : 0 ≤ (f - q - 1) * (f - q - 1) := by
      rcases Int.le_total 0 (f - q - 1) with z | z
      · exact Int.mul_nonneg z z
      · exact Int.mul_nonneg_of_nonpos_of_nonpos z z
    grind
  have k3 : (2 * (m + 1)) * (2 * (m + 1)) = 4 * ((m + 1) * (m + 1)) := by grind
  omega
end Fl
/-! Ma1: signs of u + v r, r the positive root of d, d no square. -/
namespace Fl
/-- u + v r > 0 -/
def Pst (d u v : Int) : Prop := (0 < u ∧ 0 ≤ v) ∨ (0 ≤ u ∧ 0 < v) ∨ (u < 0 ∧ 0 < v ∧ u * u < v * v * d) ∨ (0 < u ∧ v < 0 ∧ v * v * d < u * u)
instance (d u v : Int) : Decidable (Pst d u v) := by unfold Pst; infer_instance
/-- d lies between two neighbouring squares -/
def Nsq (d : Int) : Prop := ∃ s : Int, 0 < s ∧ s * s < d ∧ d < (s + 1) * (s + 1)
theorem Nsq.pos {d : Int} (h : Nsq d) : 0 < d := by
  obtain ⟨s, h0, h1, _⟩ := h
  have : 0 < s * s := Int.mul_pos h0 h0
  omega
theorem lt_of_sq {x y : Int} (hy : 0 ≤ y) (h : x * x < y * y) : x < y := by
  rcases Int.lt_or_le x y with z | z
  · exact z
  · have : y * y ≤ x * x := Int.mul_le_mul z z hy (by omega)
    omega
theorem le_of_sq {x y : Int} (hy : 0 ≤ y) (h : x * x ≤ y * y) : x ≤ y := by
  rcases Int.lt_or_le y x with z | z
  · have : y * y < x * x := by
      have h1 : y * y ≤ y * x := Int.mul_le_mul_of_nonneg_left (by omega) hy
      have h2 : y * x < x * x := Int.mul_lt_mul_of_pos_right z (by omega)
      omega
    omega
  · exact z
theorem sq_lt {x y : Int} (hx : 0 ≤ x) (h : x < y) : x * x < y * y := by
  have h1 : x * x ≤ x * y := Int.mul_le_mul_of_nonneg_left (by omega) hx
  have h2 : x * y < y * y := Int.mul_lt_mul_of_pos_right h (by omega)
  omega
theorem sq_pos' {x : Int} (h : x ≠ 0) : 0 < x * x := by
  rcases Int.lt_or_gt_of_ne h with z | z
  · exact Int.mul_pos_of_neg_of_neg z z
  · exact Int.mul_pos z z
theorem sq_nn (x : Int) : 0 ≤ x * x := by
  rcases Int.le_total 0 x with z | z
  · exact Int.mul_nonneg z z
  · exact Int.mul_nonneg_of_nonpos_of_nonpos z z
/-- no fraction's square is d -/
theorem irr {d : Int} (h : Nsq d) : ∀ (n : Nat) (u v : Int), 0 ≤ u → 0 ≤ v → v.toNat ≤ n → u * u = v * v * d → v = 0
  | 0, u, v, hu, hv, hn, e => by omega
  | n + 1, u, v, hu, hv, hn, e => by
    obtain ⟨s, h0, h1, h2⟩ := h
    rcases Int.lt_or_le 0 v with vp | vz
    · exfalso
      have vv : 0 < v * v := Int.mul_pos vp vp
      have a1 : s * v < u := by
        refine lt_of_sq hu ?_
        have : (s * s) * (v * v) < d * (v * v) := Int.mul_lt_mul_of_pos_right h1 vv
        grind
      have a2 : u < (s + 1) * v := by
        refine lt_of_sq (Int.mul_nonneg (by omega) (by omega)) ?_
        have : d * (v * v) < ((s + 1) * (s + 1)) * (v * v) := Int.mul_lt_mul_of_pos_right h2 vv
        grind
      have e2 : (d * v - s * u) * (d * v - s * u) = (u - s * v) * (u - s * v) * d := by grind
      have k : 0 ≤ d * v - s * u := by
        -- s u ≤ d v since (s u)^2 = s^2 d v^2 ≤ d^2 v^2
        have : s * u ≤ d * v := by
          refine le_of_sq (Int.mul_nonneg (by have := h1; have : 0 < s * s := Int.mul_pos h0 h0; omega) hv) ?_
          have q : (s * s) * (u * u) ≤ d * (u * u) := Int.mul_le_mul_of_nonneg_right (by omega) (sq_nn u)
          grind
        omega
      have := irr ⟨s, h0, h1, h2⟩ n (d * v - s * u) (u - s * v) k (by omega) (by
        have : (s + 1) * v = s * v + v := by grind
        omega) e2
      omega
    · omega
theorem irr' {d u v : Int} (h : Nsq d) (e : u * u = v * v * d) : u = 0 ∧ v = 0 := by
  have e' : (if 0 ≤ u then u else -u) * (if 0 ≤ u then u else -u) = (if 0 ≤ v then v else -v) * (if 0 ≤ v then v else -v) * d := by
    have a : (if 0 ≤ u then u else -u) * (if 0 ≤ u then u else -u) = u * u := by split <;> grind
    have b : (if 0 ≤ v then v else -v) * (if 0 ≤ v then v else -v) = v * v := by split <;> grind
    rw [a, b, e]
  have z := irr h (if 0 ≤ v then v else -v).toNat _ _ (by split <;> omega) (by split <;> omega) (Nat.le_refl _) e'
  have hv : v = 0 := by split at z <;> omega
  subst hv
  have : u * u = 0 := by rw [e]; simp
  exact ⟨by rcases Int.mul_eq_zero.mp this with q | q <;> exact q, rfl⟩
section
variable {d u v u' v' : Int}
theorem Pst.neg (h : Pst d u v) : ¬ Pst d (-u) (-v) := by
  unfold Pst at *
  have e1 : -u * -u = u * u := by grind
  have e2 : -v * -v * d = v * v * d := by grind
  rw [e1, e2]
  omega
theorem pos_tri (hd : Nsq d) (u v : Int) : Pst d u v ∨ Pst d (-u) (-v) ∨ (u = 0 ∧ v = 0) := by
  have e1 : -u * -u = u * u := by grind
  have e2 : -v * -v * d = v * v * d := by grind
  unfold Pst
  rw [e1, e2]
  rcases Int.lt_trichotomy (u * u) (v * v * d) with z | z | z
  · omega
  · have := irr' hd z
    omega
  · omega
theorem mul_lt_of {x y X Y : Int} (hx : 0 ≤ x) (hy : 0 ≤ y) (hX : 0 ≤ X) (hY : 0 ≤ Y) (h1 : x * x ≤ X * X * d) (h2 : y * y ≤ Y * Y * d) (hd : 0 < d) : x * y ≤ X * Y * d := by
  refine le_of_sq (Int.mul_nonneg (Int.mul_nonneg hX hY) (by omega)) ?_
  have : (x * x) * (y * y) ≤ (X * X * d) * (Y * Y * d) := Int.mul_le_mul h1 h2 (sq_nn y) (by have := sq_nn x; omega)
  grind
theorem mul_gt_of {x y X Y : Int} (hx : 0 ≤ x) (hy : 0 ≤ y) (hX : 0 ≤ X) (hY : 0 ≤ Y) (h1 : X * X * d ≤ x * x) (h2 : Y * Y * d ≤ y * y) (hd : 0 < d) : X * Y * d ≤ x * y := by
  refine le_of_sq (Int.mul_nonneg hx hy) ?_
  have q : 0 ≤ Y * Y * d := Int.mul_nonneg (sq_nn Y) (by omega)
  have : (X * X * d) * (Y * Y * d) ≤ (x * x) * (y * y) := Int.mul_le_mul h1 h2 q (sq_nn x)
  grind
/-- x ≤ X r, y < Y r: x + y < (X + Y) r -/
theorem add_lt_of {x y X Y : Int} (hx : 0 ≤ x) (hy : 0 ≤ y) (hX : 0 ≤ X) (hY : 0 ≤ Y) (h1 : x * x ≤ X * X * d) (h2 : y * y < Y * Y * d) (hd : 0 < d) : (x + y) * (x + y) < (X + Y) * (X + Y) * d := by
  have := mul_lt_of hx hy hX hY h1 (by omega) hd
  grind
theorem add_gt_of {x y X Y : Int} (hx : 0 ≤ x) (hy : 0 ≤ y) (hX : 0 ≤ X) (hY : 0 ≤ Y) (h1 : X * X * d ≤ x * x) (h2 : Y * Y * d < y * y) (hd : 0 < d) : (X + Y) * (X + Y) * d < (x + y) * (x + y) := by
  have := mul_gt_of hx hy hX hY h1 (by omega) hd
  grind
theorem mono_d {X Y : Int} (hX : 0 ≤ X) (h : X ≤ Y) (hd : 0 < d) : X * X * d ≤ Y * Y * d := Int.mul_le_mul_of_nonneg_right (Int.mul_le_mul h h hX (by omega)) (by omega)
theorem mono_s {X Y : Int} (hX : 0 ≤ X) (h : X ≤ Y) : X * X ≤ Y * Y := Int.mul_le_mul h h hX (by omega)
/-- v > 0: -u < v r -/
theorem pos_up (hd : 0 < d) (hv : 0 < v) (hu : u < 0) : Pst d u v ↔ (-u) * (-u) < v * v * d := by
  have e1 : -u * -u = u * u := by grind
  unfold Pst
  rw [e1]
  omega
theorem pos_dn (hd : 0 < d) (hv : v < 0) (hu : 0 < u) : Pst d u v ↔ (-v) * (-v) * d < u * u := by
  have e1 : -v * -v = v * v := by grind
  unfold Pst
  rw [e1]
  omega
theorem pos_pp (hu : 0 ≤ u) (hv : 0 ≤ v) (h : 0 < u ∨ 0 < v) : Pst d u v := by unfold Pst; omega
theorem pos_nn (hu : u ≤ 0) (hv : v ≤ 0) : ¬ Pst d u v := by unfold Pst; omega
theorem pos_add_mixed (hd : 0 < d) (hu : u < 0) (hv : 0 < v) (h : (-u) * (-u) < v * v * d) (hu' : 0 < u') (hv' : v' < 0) (h' : (-v') * (-v') * d < u' * u') : Pst d (u + u') (v + v') := by
  rcases Int.lt_trichotomy (u + u') 0 with z | z | z
  · rcases Int.lt_or_le 0 (v + v') with y | y
    · rw [pos_up hd y z]
      rcases Int.lt_or_le ((-(u + u')) * (-(u + u'))) ((v + v') * (v + v') * d) with k | k
      · exact k
      · exfalso
        have := add_gt_of (x := -(u + u')) (X := v + v') (y := u') (Y := -v') (by omega) (by omega) (by omega) (by omega) k h' hd
        have e1 : -(u + u') + u' = -u := by omega
        have e2 : v + v' + -v' = v := by omega
        rw [e1, e2] at this
        omega
    · exfalso
      have a := mono_d (X := v) (Y := -v') (by omega) (by omega) hd
      have b := mono_s (X := u') (Y := -u) (by omega) (by omega)
      omega
  · rcases Int.lt_or_le 0 (v + v') with y | y
    · exact pos_pp (by omega) (by omega) (by omega)
    · exfalso
      have a := mono_d (X := v) (Y := -v') (by omega) (by omega) hd
      have e1 : u' = -u := by omega
      rw [e1] at h'
      omega
  · rcases Int.lt_or_le (v + v') 0 with y | y
    · rw [pos_dn hd y z]
      rcases Int.lt_or_le ((-(v + v')) * (-(v + v')) * d) ((u + u') * (u + u')) with k | k
      · exact k
      · exfalso
        have := add_lt_of (x := u + u') (X := -(v + v')) (y := -u) (Y := v) (by omega) (by omega) (by omega) (by omega) k h hd
        have e1 : u + u' + -u = u' := by omega
        have e2 : -(v + v') + v = -v' := by omega
        rw [e1, e2] at this
        omega
    · exact pos_pp (by omega) (by omega) (by omega)
theorem pos_add_up (hd : 0 < d) (hu : u < 0) (hv : 0 < v) (h : (-u) * (-u) < v * v * d) (hu' : 0 ≤ u') (hv' : 0 ≤ v') : Pst d (u + u') (v + v') := by
  rcases Int.lt_or_le (u + u') 0 with z | z
  · rw [pos_up hd (by omega) z]
    have a := mono_s (X := -(u + u')) (Y := -u) (by omega) (by omega)
    have b := mono_d (X := v) (Y := v + v') (by omega) (by omega) hd
    omega
  · exact pos_pp z (by omega) (by omega)
theorem pos_add_dn (hd : 0 < d) (hu : 0 < u) (hv : v < 0) (h : (-v) * (-v) * d < u * u) (hu' : 0 ≤ u') (hv' : 0 ≤ v') : Pst d (u + u') (v + v') := by
  rcases Int.lt_or_le (v + v') 0 with z | z
  · rw [pos_dn hd z (by omega)]
    have a := mono_d (X := -(v + v')) (Y := -v) (by omega) (by omega) hd
    have b := mono_s (X := u) (Y := u + u') (by omega) (by omega)
    omega
  · exact pos_pp (by omega) z (by omega)
/-- the four ways -/
theorem Pst.ways (h : Pst d u v) : (0 ≤ u ∧ 0 ≤ v ∧ (0 < u ∨ 0 < v)) ∨ (u < 0 ∧ 0 < v ∧ (-u) * (-u) < v * v * d) ∨ (0 < u ∧ v < 0 ∧ (-v) * (-v) * d < u * u) := by
  have e1 : -u * -u = u * u := by grind
  have e2 : -v * -v = v * v := by grind
  rw [e1, e2]
  unfold Pst at h
  omega
theorem Pst.add (hd : 0 < d) (h : Pst d u v) (h' : Pst d u' v') : Pst d (u + u') (v + v') := by
  rcases h.ways with ⟨a, b, c⟩ | ⟨a, b, c⟩ | ⟨a, b, c⟩
  · rcases h'.ways with ⟨a', b', c'⟩ | ⟨a', b', c'⟩ | ⟨a', b', c'⟩
    · exact pos_pp (by omega) (by omega) (by omega)
    · rw [Int.add_comm u, Int.add_comm v]; exact pos_add_up hd a' b' c' a b
    · rw [Int.add_comm u, Int.add_comm v]; exact pos_add_dn hd a' b' c' a b
  · rcases h'.ways with ⟨a', b', c'⟩ | ⟨a', b', c'⟩ | ⟨a', b', c'⟩
    · exact pos_add_up hd a b c a' b'
    · rw [pos_up hd (by omega) (by omega)]
      have := add_lt_of (x := -u) (X := v) (y := -u') (Y := v') (by omega) (by omega) (by omega) (by omega) (by omega) c' hd
      have e1 : -u + -u' = -(u + u') := by omega
      rw [e1] at this
      exact this
    · exact pos_add_mixed hd a b c a' b' c'
  · rcases h'.ways with ⟨a', b', c'⟩ | ⟨a', b', c'⟩ | ⟨a', b', c'⟩
    · exact pos_add_dn hd a b c a' b'
    · rw [Int.add_comm u, Int.add_comm v]; exact pos_add_mixed hd a' b' c' a b c
    · rw [pos_dn hd (by omega) (by omega)]
      have := add_gt_of (x := u) (X := -v) (y := u') (Y := -v') (by omega) (by omega) (by omega) (by omega) (by omega) c' hd
      have e1 : -v + -v' = -(v + v') := by omega
      rw [e1] at this
      exact this
theorem Pst.nat_mul (hd : 0 < d) (h : Pst d u v) : ∀ k : Nat, Pst d (((k : Int) + 1) * u) (((k : Int) + 1) * v)
  | 0 => by simpa using h
  | k + 1 => by
    have := Pst.add hd (Pst.nat_mul hd h k) h
    have e1 : (((k + 1 : Nat) : Int) + 1) * u = ((k : Int) + 1) * u + u := by grind
    have e2 : (((k + 1 : Nat) : Int) + 1) * v = ((k : Int) + 1) * v + v := by grind
    rw [e1, e2]
    exact this
theorem Pst.mul_int (hd : 0 < d) (h : Pst d u v) {k : Int} (hk : 0 < k) : Pst d (k * u) (k * v) := by
  have := Pst.nat_mul hd h (k - 1).toNat
  have e : (((k - 1).toNat : Nat) : Int) + 1 = k := by omega
  rw [e] at this
  exact this
theorem pos_mul_int (hd : Nsq d) {k : Int} (hk : 0 < k) : Pst d (k * u) (k * v) ↔ Pst d u v := by
  refine ⟨fun h => ?_, fun h => h.mul_int hd.pos hk⟩
  rcases pos_tri hd u v with z | z | ⟨z1, z2⟩
  · exact z
  · exact absurd (by
      have := z.mul_int hd.pos hk
      rw [Int.mul_neg, Int.mul_neg] at this
      exact this) h.neg
  · subst z1; subst z2
    simp only [Int.mul_zero] at h
    exact absurd h (pos_nn (by omega) (by omega))
/-- times r -/
theorem Pst.root (hd : 0 < d) (h : Pst d u v) : Pst d (v * d) u := by
  rcases h.ways with ⟨a, b, c⟩ | ⟨a, b, c⟩ | ⟨a, b, c⟩
  · rcases c with c | c
    · exact pos_pp (Int.mul_nonneg b (by omega)) a (.inr c)
    · exact pos_pp (Int.mul_nonneg b (by omega)) a (.inl (Int.mul_pos c hd))
  · rw [pos_dn hd a (Int.mul_pos b hd)]
    have : (-u) * (-u) * d < (v * v * d) * d := Int.mul_lt_mul_of_pos_right c hd
    grind
  · rw [pos_up hd a (by have : 0 < -v * d := Int.mul_pos (by omega) hd; grind)]
    have : (-v) * (-v) * d * d < u * u * d := Int.mul_lt_mul_of_pos_right c hd
    grind
theorem Pst.mul_pp (hd : 0 < d) (h : Pst d u v) (a : 0 ≤ u') (b : 0 ≤ v') (c : 0 < u' ∨ 0 < v') : Pst d (u * u' + v * v' * d) (u * v' + v * u') := by
  rcases Int.lt_or_le 0 u' with hu | hu
  · have h1 := h.mul_int hd hu
    rcases Int.lt_or_le 0 v' with hv | hv
    · have h2 := (h.root hd).mul_int hd hv
      have := h1.add hd h2
      have e1 : u' * u + v' * (v * d) = u * u' + v * v' * d := by grind
      have e2 : u' * v + v' * u = u * v' + v * u' := by grind
      rw [e1, e2] at this
      exact this
    · have e : v' = 0 := by omega
      subst e
      have e1 : u * u' + v * 0 * d = u' * u := by grind
      have e2 : u * 0 + v * u' = u' * v := by grind
      rw [e1, e2]
      exact h1
  · have e : u' = 0 := by omega
    subst e
    have h2 := (h.root hd).mul_int hd (show 0 < v' by omega)
    have e1 : u * 0 + v * v' * d = v' * (v * d) := by grind
    have e2 : u * v' + v * 0 = v' * u := by grind
    rw [e1, e2]
    exact h2
theorem Pst.mul (hd : Nsq d) (h : Pst d u v) (h' : Pst d u' v') : Pst d (u * u' + v * v' * d) (u * v' + v * u') := by
  have dp := hd.pos
  rcases h'.ways with ⟨a, b, c⟩ | ⟨a, b, c⟩ | ⟨a, b, c⟩
  · exact h.mul_pp dp a b c
  · -- times (-u' + v' r): a number N = v'^2 d - u'^2 > 0
    rcases pos_tri hd (u * u' + v * v' * d) (u * v' + v * u') with z | z | ⟨z1, z2⟩
    · exact z
    · exfalso
      have k := z.mul_pp dp (u' := -u') (v' := v') (by omega) (by omega) (by omega)
      have N : 0 < v' * v' * d - u' * u' := by grind
      have q := h.mul_int dp N
      refine q.neg ?_
      have e1 : -(u * u' + v * v' * d) * -u' + -(u * v' + v * u') * v' * d = -((v' * v' * d - u' * u') * u) := by grind
      have e2 : -(u * u' + v * v' * d) * v' + -(u * v' + v * u') * -u' = -((v' * v' * d - u' * u') * v) := by grind
      rw [e1, e2] at k
      exact k
    · exfalso
      have N : 0 < v' * v' * d - u' * u' := by grind
      have e1 : (v' * v' * d - u' * u') * u = (u * u' + v * v' * d) * -u' + (u * v' + v * u') * v' * d := by grind
      have e2 : (v' * v' * d - u' * u') * v = (u * u' + v * v' * d) * v' + (u * v' + v * u') * -u' := by grind
      rw [z1, z2] at e1 e2
      have q := h.mul_int dp N
      rw [e1, e2] at q
      simp only [Int.zero_mul, Int.add_zero] at q
      exact absurd q (pos_nn (by omega) (by omega))
  · rcases pos_tri hd (u * u' + v * v' * d) (u * v' + v * u') with z | z | ⟨z1, z2⟩
    · exact z
    · exfalso
      have k := z.mul_pp dp (u' := u') (v' := -v') (by omega) (by omega) (by omega)
      have N : 0 < u' * u' - v' * v' * d := by grind
      have q := h.mul_int dp N
      refine q.neg ?_
      have e1 : -(u * u' + v * v' * d) * u' + -(u * v' + v * u') * -v' * d = -((u' * u' - v' * v' * d) * u) := by grind
      have e2 : -(u * u' + v * v' * d) * -v' + -(u * v' + v * u') * u' = -((u' * u' - v' * v' * d) * v) := by grind
      rw [e1, e2] at k
      exact k
    · exfalso
      have N : 0 < u' * u' - v' * v' * d := by grind
      have e1 : (u' * u' - v' * v' * d) * u = (u * u' + v * v' * d) * u' + (u * v' + v * u') * -v' * d := by grind
      have e2 : (u' * u' - v' * v' * d) * v = (u * u' + v * v' * d) * -v' + (u * v' + v * u') * u' := by grind
      rw [z1, z2] at e1 e2
      have q := h.mul_int dp N
      rw [e1, e2] at q
      simp only [Int.zero_mul, Int.add_zero] at q
      exact absurd q (pos_nn (by omega) (by omega))
/-- times a positive number the sign stays -/
theorem pos_mul_iff (hd : Nsq d) (h' : Pst d u' v') : Pst d (u * u' + v * v' * d) (u * v' + v * u') ↔ Pst d u v := by
  refine ⟨fun h => ?_, fun h => h.mul hd h'⟩
  rcases pos_tri hd u v with z | z | ⟨z1, z2⟩
  · exact z
  · have := z.mul hd h'
    refine absurd ?_ h.neg
    have e1 : -u * u' + -v * v' * d = -(u * u' + v * v' * d) := by grind
    have e2 : -u * v' + -v * u' = -(u * v' + v * u') := by grind
    rw [e1, e2] at this
    exact this
  · subst z1; subst z2
    simp only [Int.zero_mul, Int.add_zero] at h
    exact absurd h (pos_nn (by omega) (by omega))
end
end Fl
/-! Ma2: an irrational number x as the signs of p x + q; whole parts. -/
namespace Fl
/-- P p q: p x + q > 0 -/
structure Cut (P : Int → Int → Prop) : Prop where
  add : ∀ {p q p' q' : Int}, P p q → P p' q' → P (p + p') (q + q')
  neg : ∀ {p q : Int}, P p q → ¬ P (-p) (-q)
  tri : ∀ (p q : Int), P p q ∨ P (-p) (-q) ∨ (p = 0 ∧ q = 0)
  one : P 0 1
section
variable {P : Int → Int → Prop}
theorem Cut.zero (C : Cut P) : ¬ P 0 0 := fun h => C.neg h h
theorem Cut.natw (C : Cut P) : ∀ n : Nat, P 0 ((n : Int) + 1)
  | 0 => C.one
  | n + 1 => by
    have := C.add (C.natw n) C.one
    simpa using this
theorem Cut.whole (C : Cut P) {q : Int} (h : 0 < q) : P 0 q := by
  have := C.natw (q - 1).toNat
  have e : (((q - 1).toNat : Nat) : Int) + 1 = q := by omega
  rwa [e] at this
theorem Cut.whole_iff (C : Cut P) {q : Int} : P 0 q ↔ 0 < q := by
  refine ⟨fun h => ?_, C.whole⟩
  rcases Int.lt_trichotomy q 0 with z | z | z
  · exact absurd (by have := C.whole (show 0 < -q by omega); simpa using this) (C.neg h)
  · subst z; exact absurd h C.zero
  · exact z
theorem Cut.up (C : Cut P) {p q q' : Int} (h : P p q) (hq : q ≤ q') : P p q' := by
  rcases Int.lt_or_eq_of_le hq with z | z
  · have := C.add h (C.whole (show 0 < q' - q by omega))
    have e : q + (q' - q) = q' := by omega
    rw [e, Int.add_zero] at this
    exact this
  · rwa [← z]
theorem Cut.nat_mul (C : Cut P) {p q : Int} (h : P p q) : ∀ k : Nat, P (((k : Int) + 1) * p) (((k : Int) + 1) * q)
  | 0 => by simpa using h
  | k + 1 => by
    have := C.add (C.nat_mul h k) h
    have e1 : (((k + 1 : Nat) : Int) + 1) * p = ((k : Int) + 1) * p + p := by grind
    have e2 : (((k + 1 : Nat) : Int) + 1) * q = ((k : Int) + 1) * q + q := by grind
    rw [e1, e2]
    exact this
theorem Cut.mul (C : Cut P) {p q k : Int} (h : P p q) (hk : 0 < k) : P (k * p) (k * q) := by
  have := C.nat_mul h (k - 1).toNat
  have e : (((k - 1).toNat : Nat) : Int) + 1 = k := by omega
  rwa [e] at this
theorem Cut.of_not (C : Cut P) {p q : Int} (h : ¬ P p q) (hn : p ≠ 0 ∨ q ≠ 0) : P (-p) (-q) := by
  rcases C.tri p q with z | z | z
  · exact absurd z h
  · exact z
  · omega
theorem Cut.div (C : Cut P) {p q k : Int} (h : P (k * p) (k * q)) (hk : 0 < k) : P p q := by
  rcases C.tri p q with z | z | ⟨z1, z2⟩
  · exact z
  · have := C.mul z hk
    rw [Int.mul_neg, Int.mul_neg] at this
    exact absurd this (C.neg h)
  · subst z1; subst z2
    simp only [Int.mul_zero] at h
    exact absurd h C.zero
/-- k is the whole part of n x -/
structure IsFl (P : Int → Int → Prop) (n k : Int) : Prop where
  lo : P n (-k)
  hi : P (-n) (k + 1)
theorem IsFl.uniq (C : Cut P) {n k k' : Int} (h : IsFl P n k) (h' : IsFl P n k') : k = k' := by
  have a := C.whole_iff.mp (by have := C.add h.lo h'.hi; rwa [show n + -n = 0 by omega] at this)
  have b := C.whole_iff.mp (by have := C.add h'.lo h.hi; rwa [show n + -n = 0 by omega] at this)
  omega
end
/-! ### the numbers (a + b r)/c -/
structure Rt where
  a : Int
  b : Int
  d : Int
  c : Int
deriving DecidableEq
/-- p x + q > 0 -/
def Rt.P (x : Rt) (p q : Int) : Prop := Pst x.d (p * x.a + q * x.c) (p * x.b)
instance (x : Rt) (p q : Int) : Decidable (x.P p q) := by unfold Rt.P; infer_instance
structure Rt.Ok (x : Rt) : Prop where
  d : Nsq x.d
  b : x.b ≠ 0
  c : 0 < x.c
theorem Rt.Ok.cut {x : Rt} (o : x.Ok) : Cut x.P where
  add := fun {p q p' q'} h h' => by
    unfold Rt.P at *
    have := h.add o.d.pos h'
    have e1 : p * x.a + q * x.c + (p' * x.a + q' * x.c) = (p + p') * x.a + (q + q') * x.c := by grind
    have e2 : p * x.b + p' * x.b = (p + p') * x.b := by grind
    rwa [e1, e2] at this
  neg := fun {p q} h h' => by
    unfold Rt.P at *
    refine h.neg ?_
    have e1 : -p * x.a + -q * x.c = -(p * x.a + q * x.c) := by grind
    have e2 : -p * x.b = -(p * x.b) := by grind
    rwa [e1, e2] at h'
  tri := fun p q => by
    unfold Rt.P
    have e1 : -p * x.a + -q * x.c = -(p * x.a + q * x.c) := by grind
    have e2 : -p * x.b = -(p * x.b) := by grind
    rw [e1, e2]
    rcases pos_tri o.d (p * x.a + q * x.c) (p * x.b) with z | z | ⟨z1, z2⟩
    · exact .inl z
    · exact .inr (.inl z)
    · rcases Int.mul_eq_zero.mp z2 with y | y
      · subst y
        rw [Int.zero_mul, Int.zero_add] at z1
        rcases Int.mul_eq_zero.mp z1 with t | t
        · exact .inr (.inr ⟨rfl, t⟩)
        · exact absurd t (by have := o.c; omega)
      · exact absurd y o.b
  one := by
    unfold Rt.P
    have := o.c
    exact pos_pp (by omega) (by omega) (by omega)
/-- the whole part of s r, as the program has it -/
def rtE (s own : Int) : Int := if s > 0 then own else -own - 1
/-- e < s r < e + 1 -/
theorem rtE_lo {d s : Int} (hd : Nsq d) (hs : s ≠ 0) : Pst d (-(rtE s (sq (s * s * d)))) s := by
  have dp := hd.pos
  have h0 : 0 ≤ s * s * d := Int.mul_nonneg (sq_nn s) (by omega)
  have sp := sq_spec h0
  have nn := sq_nonneg (s * s * d)
  generalize sq (s * s * d) = r at *
  unfold rtE
  split
  · rcases Int.lt_or_le 0 r with z | z
    · rw [pos_up dp (by omega) (by omega)]
      have : r * r ≠ s * s * d := fun e => by have := irr' hd e; omega
      have e : - -r * - -r = r * r := by grind
      rw [e]
      omega
    · exact pos_pp (by omega) (by omega) (by omega)
  · have e : -(-r - 1) = r + 1 := by omega
    rw [e, pos_dn dp (by omega) (by omega)]
    have e2 : -s * -s * d = s * s * d := by grind
    rw [e2]
    exact sp.2
theorem rtE_hi {d s : Int} (hd : Nsq d) (hs : s ≠ 0) : Pst d (rtE s (sq (s * s * d)) + 1) (-s) := by
  have dp := hd.pos
  have h0 : 0 ≤ s * s * d := Int.mul_nonneg (sq_nn s) (by omega)
  have sp := sq_spec h0
  have nn := sq_nonneg (s * s * d)
  generalize sq (s * s * d) = r at *
  unfold rtE
  split
  · rw [pos_dn dp (by omega) (by omega)]
    have e2 : - -s * - -s * d = s * s * d := by grind
    rw [e2]
    exact sp.2
  · have e : -r - 1 + 1 = -r := by omega
    rw [e]
    rcases Int.lt_or_le 0 r with z | z
    · rw [pos_up dp (by omega) (by omega)]
      have : r * r ≠ s * s * d := fun e => by have := irr' hd e; omega
      have e : - -r * - -r = r * r := by grind
      have e2 : -s * -s * d = s * s * d := by grind
      rw [e, e2]
      omega
    · exact pos_pp (by omega) (by omega) (by omega)
/-- the whole part of n x, n not 0, as the program reckons it -/
def Rt.fn (x : Rt) (n : Int) : Int := (n * x.a + rtE (n * x.b) (sq (n * n * x.b * x.b * x.d))) / x.c
/-- the same, 0 for 0 -/
def Rt.fl (x : Rt) (n : Int) : Int := if n = 0 then 0 else x.fn n
theorem add_int {d u v k : Int} (hd : 0 < d) (h : Pst d u v) (hk : 0 ≤ k) : Pst d (u + k) v := by
  rcases Int.lt_or_eq_of_le hk with z | z
  · have := h.add hd (pos_pp (u := k) (v := 0) (by omega) (by omega) (by omega))
    simpa using this
  · subst z; simpa using h
theorem Rt.Ok.fn {x : Rt} (o : x.Ok) {n : Int} (hn : n ≠ 0) : IsFl x.P n (x.fn n) := by
  have dp := o.d.pos
  have hc := o.c
  have hs : n * x.b ≠ 0 := fun e => (Int.mul_eq_zero.mp e).elim (fun z => hn z) fun z => o.b z
  have e0 : n * n * x.b * x.b * x.d = (n * x.b) * (n * x.b) * x.d := by grind
  have lo := rtE_lo o.d hs
  have hi := rtE_hi o.d hs
  have q1 : x.fn n * x.c ≤ n * x.a + rtE (n * x.b) (sq ((n * x.b) * (n * x.b) * x.d)) := by
    unfold Rt.fn
    rw [e0]
    exact Int.ediv_mul_le _ (by omega)
  have q2 : n * x.a + rtE (n * x.b) (sq ((n * x.b) * (n * x.b) * x.d)) < (x.fn n + 1) * x.c := by
    unfold Rt.fn
    rw [e0]
    exact Int.lt_ediv_add_one_mul_self _ hc
  generalize rtE (n * x.b) (sq ((n * x.b) * (n * x.b) * x.d)) = e at *
  generalize x.fn n = f at *
  constructor
  · unfold Rt.P
    have := add_int dp lo (k := n * x.a + e - f * x.c) (by omega)
    have e1 : -e + (n * x.a + e - f * x.c) = n * x.a + -f * x.c := by grind
    rwa [e1] at this
  · unfold Rt.P
    have := add_int dp hi (k := (f + 1) * x.c - (n * x.a + e) - 1) (by omega)
    have e1 : e + 1 + ((f + 1) * x.c - (n * x.a + e) - 1) = -n * x.a + (f + 1) * x.c := by grind
    have e2 : -(n * x.b) = -n * x.b := by grind
    rwa [e1, e2] at this
theorem Rt.Ok.fl {x : Rt} (o : x.Ok) {n : Int} (hn : n ≠ 0) : IsFl x.P n (x.fl n) := by
  unfold Rt.fl
  rw [if_neg hn]
  exact o.fn hn
end Fl
/-! Ma3: the game of two heaps. -/
namespace Fl
def xt (t : Int) : Rt := ⟨2 - t, 1, t * t + 4, 2⟩
theorem xt_ok {t : Int} (h : 1 ≤ t) : (xt t).Ok := by
  refine ⟨?_, by show (1 : Int) ≠ 0; decide, by show (0 : Int) < 2; decide⟩
  show Nsq (t * t + 4)
  rcases Int.lt_or_eq_of_le h with z | z
  · exact ⟨t, by omega, by omega, by grind⟩
  · subst z; exact ⟨2, by decide, by decide, by decide⟩
/-- the lesser heap of the lost position n -/
def lh (t n : Int) : Int := (n * (2 - t) + sq (n * n * (t * t + 4))) / 2
theorem sq_zero : sq 0 = 0 := by decide
theorem lh_fl {t n : Int} (hn : 0 ≤ n) : lh t n = (xt t).fl n := by
  unfold Rt.fl lh
  split
  · rename_i e; subst e; simp [sq_zero]
  · unfold Rt.fn xt rtE
    have e1 : n * n * 1 * 1 * (t * t + 4) = n * n * (t * t + 4) := by grind
    simp only [Int.mul_one]
    rw [if_pos (by omega)]
theorem lh_zero (t : Int) : lh t 0 = 0 := by unfold lh; simp [sq_zero]
section
variable {t : Int}
theorem xt_gt (ht : 1 ≤ t) : (xt t).P 1 (-1) := by
  show Pst (t * t + 4) (1 * (2 - t) + -1 * 2) (1 * 1)
  have e : 1 * (2 - t) + -1 * 2 = -t := by omega
  rw [e, pos_up (by have := sq_nn t; omega) (by omega) (by omega)]
  grind
theorem xt_lt (ht : 1 ≤ t) : (xt t).P (-1) 2 := by
  show Pst (t * t + 4) (-1 * (2 - t) + 2 * 2) (-1 * 1)
  have e : -1 * (2 - t) + 2 * 2 = 2 + t := by omega
  rw [e, pos_dn (by have := sq_nn t; omega) (by omega) (by omega)]
  grind
theorem xt_pos (ht : 1 ≤ t) {p : Int} : (xt t).P p 0 ↔ 0 < p := by
  have C := (xt_ok ht).cut
  have one : (xt t).P 1 0 := by have := C.add (xt_gt ht) C.one; simpa using this
  refine ⟨fun h => ?_, fun h => by have := C.mul one h; simpa using this⟩
  rcases Int.lt_trichotomy p 0 with z | z | z
  · exact absurd (by have := C.mul one (show 0 < -p by omega); simpa using this) (C.neg h)
  · subst z; exact absurd h C.zero
  · exact z
/-- m (x + t) > k just if (k - m) x < k -/
theorem xt_dual (ht : 1 ≤ t) (m k : Int) : (xt t).P m (t * m - k) ↔ (xt t).P (m - k) k := by
  have o := xt_ok ht
  have hp : Pst (t * t + 4) (-t) 1 := by
    rw [pos_up (by have := sq_nn t; omega) (by omega) (by omega)]
    grind
  have od : Nsq (t * t + 4) := o.d
  have h := pos_mul_iff (u := m * (2 - t) + (t * m - k) * 2) (v := m * 1) od hp
  show Pst (t * t + 4) (m * (2 - t) + (t * m - k) * 2) (m * 1) ↔ Pst (t * t + 4) ((m - k) * (2 - t) + k * 2) ((m - k) * 1)
  rw [← h]
  have e1 : (m * (2 - t) + (t * m - k) * 2) * -t + m * 1 * 1 * (t * t + 4) = 2 * ((m - k) * (2 - t) + k * 2) := by grind
  have e2 : (m * (2 - t) + (t * m - k) * 2) * 1 + m * 1 * -t = 2 * ((m - k) * 1) := by grind
  rw [e1, e2]
  exact pos_mul_int od (by decide)
theorem lh_is (ht : 1 ≤ t) {n : Int} (hn : 0 < n) : IsFl (xt t).P n (lh t n) := by
  rw [lh_fl (by omega)]
  exact (xt_ok ht).fl (by omega)
theorem lh_step (ht : 1 ≤ t) {n : Int} (hn : 0 ≤ n) : lh t n + 1 ≤ lh t (n + 1) ∧ lh t (n + 1) ≤ lh t n + 2 := by
  have C := (xt_ok ht).cut
  have h1 := lh_is ht (show 0 < n + 1 by omega)
  rcases Int.lt_or_eq_of_le hn with z | z
  · have h0 := lh_is ht z
    have a := C.whole_iff.mp (by
      have := C.add (C.add h0.lo (xt_gt ht)) h1.hi
      rwa [show n + 1 + -(n + 1) = 0 by omega] at this)
    have b := C.whole_iff.mp (by
      have := C.add (C.add h0.hi (xt_lt ht)) h1.lo
      rwa [show -n + -1 + (n + 1) = 0 by omega] at this)
    omega
  · subst z
    have a := C.whole_iff.mp (by
      have := C.add (xt_gt ht) h1.hi
      rwa [show 1 + -(0 + 1) = (0 : Int) by omega] at this)
    have b := C.whole_iff.mp (by
      have := C.add (xt_lt ht) h1.lo
      rwa [show -1 + (0 + 1) = (0 : Int) by omega] at this)
    rw [lh_zero]
    omega
theorem lh_mono_nat (ht : 1 ≤ t) {n : Int} (hn : 0 ≤ n) : ∀ k : Nat, lh t n + k ≤ lh t (n + k)
  | 0 => by simp
  | k + 1 => by
    have := lh_mono_nat ht hn k
    have s := (lh_step ht (show 0 ≤ n + k by omega)).1
    have e : n + (k : Int) + 1 = n + ((k + 1 : Nat) : Int) := by omega
    rw [e] at s
    omega
theorem lh_mono (ht : 1 ≤ t) {n m : Int} (hn : 0 ≤ n) (h : n ≤ m) : lh t n + (m - n) ≤ lh t m := by
  have := lh_mono_nat ht hn (m - n).toNat
  have e : n + (((m - n).toNat : Nat) : Int) = m := by omega
  rw [e] at this
  omega
theorem lh_ge (ht : 1 ≤ t) {n : Int} (hn : 0 ≤ n) : n ≤ lh t n := by
  have := lh_mono ht (n := 0) (by omega) hn
  rw [lh_zero] at this
  omega
theorem lh_lt (ht : 1 ≤ t) {n m : Int} (hn : 0 ≤ n) (h : n < m) : lh t n < lh t m := by
  have := lh_mono ht hn (show n ≤ m by omega)
  omega
theorem lh_inj (ht : 1 ≤ t) {n m : Int} (hn : 0 ≤ n) (hm : 0 ≤ m) (h : lh t n = lh t m) : n = m := by
  rcases Int.lt_trichotomy n m with z | z | z
  · have := lh_lt ht hn z; omega
  · exact z
  · have := lh_lt ht hm z; omega
theorem lh_up_nat (ht : 1 ≤ t) : ∀ k : Nat, lh t k ≤ 2 * k
  | 0 => by show lh t 0 ≤ _; rw [lh_zero]; omega
  | k + 1 => by
    have := lh_up_nat ht k
    have s := (lh_step ht (show 0 ≤ (k : Int) by omega)).2
    have e : (k : Int) + 1 = ((k + 1 : Nat) : Int) := by omega
    rw [e] at s
    omega
theorem lh_up (ht : 1 ≤ t) {n : Int} (hn : 0 ≤ n) : lh t n ≤ 2 * n := by
  have := lh_up_nat ht n.toNat
  have e : ((n.toNat : Nat) : Int) = n := by omega
  rwa [e] at this
/-- the greater heap -/
def gh (t n : Int) : Int := lh t n + t * n
theorem gh_lt (ht : 1 ≤ t) {n m : Int} (hn : 0 ≤ n) (h : n < m) : gh t n < gh t m := by
  have := lh_lt ht hn h
  have : t * n ≤ t * m := Int.mul_le_mul_of_nonneg_left (by omega) (by omega)
  unfold gh
  omega
theorem gh_inj (ht : 1 ≤ t) {n m : Int} (hn : 0 ≤ n) (hm : 0 ≤ m) (h : gh t n = gh t m) : n = m := by
  rcases Int.lt_trichotomy n m with z | z | z
  · have := gh_lt ht hn z; omega
  · exact z
  · have := gh_lt ht hm z; omega
theorem gh_ge (ht : 1 ≤ t) {n : Int} (hn : 0 ≤ n) : lh t n + n ≤ gh t n := by
  have : 1 * n ≤ t * n := Int.mul_le_mul_of_nonneg_right ht hn
  unfold gh
  omega
/-- an integer between two neighbours is a greater heap -/
theorem gh_fill (ht : 1 ≤ t) {n k : Int} (hn : 0 < n) (hk : 0 < k) (h1 : lh t (n - 1) < k) (h2 : k < lh t n) : 0 < k - (n - 1) ∧ gh t (k - (n - 1)) = k := by
  have C := (xt_ok ht).cut
  have g : n - 1 < k := by have := lh_ge ht (show 0 ≤ n - 1 by omega); omega
  refine ⟨by omega, ?_⟩
  have hm : 0 < k - (n - 1) := by omega
  have a : (xt t).P (-(n - 1)) k := by
    rcases Int.lt_or_eq_of_le (show 0 ≤ n - 1 by omega) with z | z
    · exact C.up (lh_is ht z).hi (by omega)
    · rw [← z]; exact C.whole hk
  have b : (xt t).P n (-(k + 1)) := C.up (lh_is ht hn).lo (by omega)
  generalize hme : k - (n - 1) = m at *
  have p1 : (xt t).P m (t * m - k) := by
    rw [xt_dual ht, show m - k = -(n - 1) by omega]
    exact a
  have p2 : (xt t).P (-m) (k - t * m + 1) := by
    have : ¬ (xt t).P m (t * m - (k + 1)) := fun q => by
      rw [xt_dual ht, show m - (k + 1) = -n by omega] at q
      exact C.neg b (by simpa using q)
    have := C.of_not this (.inl (by omega))
    rwa [show -(t * m - (k + 1)) = k - t * m + 1 by omega] at this
  have : IsFl (xt t).P m (k - t * m) := ⟨by rwa [show -(k - t * m) = t * m - k by omega], p2⟩
  have := this.uniq C (lh_is ht hm)
  unfold gh
  omega
theorem lh_gh (ht : 1 ≤ t) {n m : Int} (hn : 0 < n) (hm : 0 < m) : lh t n ≠ gh t m := fun e => by
  have C := (xt_ok ht).cut
  have hA := lh_is ht hn
  have hB := lh_is ht hm
  generalize hk : lh t n = k at *
  have eB : lh t m = k - t * m := by unfold gh at e; omega
  rw [eB] at hB
  have kp : 0 < k := by have := lh_ge ht (show 0 ≤ n by omega); omega
  have p1 : (xt t).P (m - k) k := by
    rw [← xt_dual ht]
    have := hB.lo
    rwa [show -(k - t * m) = t * m - k by omega] at this
  have p2 : (xt t).P (k + 1 - m) (-(k + 1)) := by
    have : ¬ (xt t).P (m - (k + 1)) (k + 1) := fun q => by
      rw [← xt_dual ht] at q
      refine C.neg hB.hi ?_
      rwa [show -(k - t * m + 1) = t * m - (k + 1) by omega, Int.neg_neg]
    have := C.of_not this (.inr (by omega))
    rwa [show -(m - (k + 1)) = k + 1 - m by omega] at this
  have a := (xt_pos ht).mp (by have := C.add p1 hA.lo; rwa [show k + -k = 0 by omega] at this)
  have b := (xt_pos ht).mp (by have := C.add p2 hA.hi; rwa [show -(k + 1) + (k + 1) = 0 by omega] at this)
  omega
/-! ### the game -/
/-- a lost position -/
def Lost (t i j : Int) : Prop := ∃ n : Int, 0 ≤ n ∧ ((i = lh t n ∧ j = gh t n) ∨ (i = gh t n ∧ j = lh t n))
/-- a move from (i, j) to (k, l) -/
def Move (t i j k l : Int) : Prop := k ≤ i ∧ l ≤ j ∧ (i ≠ k ∨ j ≠ l) ∧ (i = k ∨ j = l ∨ ((i - k) - (j - l) < t ∧ (j - l) - (i - k) < t))
theorem Lost.symm {i j : Int} (h : Lost t i j) : Lost t j i := by
  obtain ⟨n, hn, h | h⟩ := h
  · exact ⟨n, hn, .inr ⟨h.2, h.1⟩⟩
  · exact ⟨n, hn, .inl ⟨h.2, h.1⟩⟩
theorem Move.symm {i j k l : Int} (h : Move t i j k l) : Move t j i l k := by unfold Move at *; omega
theorem gh_zero (t : Int) : gh t 0 = 0 := by unfold gh; rw [lh_zero]; omega
theorem lost_le {n : Int} (ht : 1 ≤ t) (hn : 0 ≤ n) : lh t n ≤ gh t n := by have := gh_ge ht hn; omega
theorem no_move_aux (ht : 1 ≤ t) {n m : Int} (hn : 0 ≤ n) (hm : 0 ≤ m) : ¬ Move t (lh t n) (gh t n) (lh t m) (gh t m) := fun ⟨h1, h2, h3, h4⟩ => by
  rcases Int.lt_trichotomy n m with z | z | z
  · have := lh_lt ht hn z; omega
  · subst z; omega
  · have a := lh_lt ht hm z
    have b := gh_lt ht hm z
    have c : t * (m + 1) ≤ t * n := Int.mul_le_mul_of_nonneg_left (by omega) (by omega)
    have e : t * (m + 1) = t * m + t := by grind
    unfold gh at h4 b
    omega
theorem no_move_aux2 (ht : 1 ≤ t) {n m : Int} (hn : 0 ≤ n) (hm : 0 ≤ m) : ¬ Move t (lh t n) (gh t n) (gh t m) (lh t m) := fun ⟨h1, h2, h3, h4⟩ => by
  rcases Int.lt_or_eq_of_le hn with zn | zn
  · rcases Int.lt_or_eq_of_le hm with zm | zm
    · have a := lh_gh ht zn zm
      have b := lh_gh ht zm zn
      have c : t * 1 ≤ t * n := Int.mul_le_mul_of_nonneg_left (by omega) (by omega)
      have e : t * 1 ≤ t * m := Int.mul_le_mul_of_nonneg_left (by omega) (by omega)
      unfold gh at h4 a b
      omega
    · subst zm
      rw [gh_zero, lh_zero] at h4
      have a := lh_ge ht hn
      have b := gh_ge ht hn
      have c : t * 1 ≤ t * n := Int.mul_le_mul_of_nonneg_left (by omega) (by omega)
      unfold gh at h4 b
      omega
  · subst zn
    rw [gh_zero, lh_zero] at *
    have a := lh_ge ht hm
    have b := gh_ge ht hm
    have : m = 0 := by omega
    subst this
    rw [gh_zero, lh_zero] at *
    omega
/-- no move leads from a lost position to a lost one -/
theorem no_move (ht : 1 ≤ t) {i j k l : Int} (h : Lost t i j) (h' : Lost t k l) : ¬ Move t i j k l := by
  obtain ⟨n, hn, ⟨rfl, rfl⟩ | ⟨rfl, rfl⟩⟩ := h
  · obtain ⟨m, hm, ⟨rfl, rfl⟩ | ⟨rfl, rfl⟩⟩ := h'
    · exact no_move_aux ht hn hm
    · exact no_move_aux2 ht hn hm
  · obtain ⟨m, hm, ⟨rfl, rfl⟩ | ⟨rfl, rfl⟩⟩ := h'
    · exact fun z => no_move_aux2 ht hn hm z.symm
    · exact fun z => no_move_aux ht hn hm z.symm
/-! ### what the program finds -/
/-- n is the first whose lesser heap is at least s -/
def FirstL (t s n : Int) : Prop := 0 ≤ n ∧ n ≤ s ∧ s ≤ lh t n ∧ ∀ m, 0 ≤ m → m < n → lh t m < s
def FirstG (t s n : Int) : Prop := 0 ≤ n ∧ n ≤ s ∧ s ≤ gh t n ∧ ∀ m, 0 ≤ m → m < n → gh t m < s
theorem firstL_uniq {s n m : Int} (h : FirstL t s n) (h' : FirstL t s m) : n = m := by
  obtain ⟨a, _, b, c⟩ := h
  obtain ⟨a', _, b', c'⟩ := h'
  rcases Int.lt_trichotomy n m with z | z | z
  · have := c' n a z; omega
  · exact z
  · have := c m a' z; omega
/-- the lost pairs, the lesser heap first -/
theorem lost_iff (ht : 1 ≤ t) {less more n : Int} (h : FirstL t less n) (hl : less ≤ more) : Lost t less more ↔ lh t n = less ∧ more = less + t * n := by
  constructor
  · rintro ⟨m, hm, ⟨rfl, rfl⟩ | ⟨rfl, rfl⟩⟩
    · have e : m = n := by
        obtain ⟨a, _, b, c⟩ := h
        rcases Int.lt_trichotomy n m with z | z | z
        · have := lh_lt ht a z; omega
        · exact z.symm
        · have := c m hm z; omega
      subst e
      exact ⟨rfl, rfl⟩
    · have g := gh_ge ht hm
      have : m = 0 := by omega
      subst this
      rw [gh_zero] at *
      obtain ⟨a, b, _, _⟩ := h
      have : n = 0 := by omega
      subst this
      rw [lh_zero]
      omega
  · rintro ⟨e1, e2⟩
    exact ⟨n, h.1, .inl ⟨e1.symm, by unfold gh; omega⟩⟩
/-- less is no lesser heap: it is the greater heap of the first one -/
theorem firstG_is (ht : 1 ≤ t) {less n m : Int} (h : FirstL t less n) (hne : lh t n ≠ less) (hg : FirstG t less m) : gh t m = less ∧ 0 < m ∧ lh t m < less := by
  obtain ⟨a, b, c, e⟩ := h
  have n0 : 0 < n := by
    rcases Int.lt_or_eq_of_le a with z | z
    · exact z
    · subst z; rw [lh_zero] at *; omega
  have f := gh_fill ht n0 (show 0 < less by have := lh_ge ht (show 0 ≤ n - 1 by omega); have := e (n - 1) (by omega) (by omega); omega) (e (n - 1) (by omega) (by omega)) (by omega)
  generalize less - (n - 1) = k at f
  obtain ⟨a', _, c', e'⟩ := hg
  have em : m = k := by
    rcases Int.lt_trichotomy m k with z | z | z
    · have := gh_lt ht a' z; omega
    · exact z
    · have := e' k (by omega) z; omega
  subst em
  have := gh_ge ht (show 0 ≤ m by omega)
  omega
/-- from (less, more), not lost, less a lesser heap, more too small: the pair m by the rest -/
theorem answer3 (ht : 1 ≤ t) {less more n : Int} (h : FirstL t less n) (e : lh t n = less) (hl : less ≤ more) (h2 : more < less + t * n) :
    0 ≤ (more - less) / t ∧ lh t ((more - less) / t) < less ∧ Move t less more (lh t ((more - less) / t)) (gh t ((more - less) / t)) := by
  have q1 : (more - less) / t * t ≤ more - less := Int.ediv_mul_le _ (by omega)
  have q2 : more - less < ((more - less) / t + 1) * t := Int.lt_ediv_add_one_mul_self _ (by omega)
  have q0 : 0 ≤ (more - less) / t := Int.ediv_nonneg (by omega) (by omega)
  generalize (more - less) / t = m at *
  have mn : m < n := by
    rcases Int.lt_or_le m n with z | z
    · exact z
    · have : t * n ≤ t * m := Int.mul_le_mul_of_nonneg_left z (by omega)
      have e : t * m = m * t := by grind
      omega
  have := lh_lt ht q0 mn
  have e2 : (m + 1) * t = m * t + t := by grind
  have e3 : t * m = m * t := by grind
  refine ⟨q0, by omega, ?_⟩
  unfold Move gh
  omega
end
end Fl
/-! Fl0: the base of all the laws' proofs: short names of readings, the call of a def by its promise, steps through readings. -/
namespace Fl
open PySem L2 PySem.Spec PyProof.Rows

/-! ### readings by short names -/
abbrev rAddI : R2 := rI0 fun i j => .int (i + j)
abbrev rSubI : R2 := rI0 fun i j => .int (i - j)
abbrev rMulI : R2 := rI CMul fun i j => .int (i * j)
abbrev rMulW : R2 := rI CMulW fun i j => .int (i * j)
abbrev rDivW : R2 := rI CDivW fun i j => .int (i / j)
abbrev rDivN : R2 := rI CDivN fun i j => .int (i.fdiv j)
abbrev rModI : R2 := rI (fun _ j => 0 < j) fun i j => .int (i % j)
abbrev rPowI : R2 := rI CPow fun i j => .int (i ^ j.toNat)
abbrev rNegI : V → Hp → VK → Prop := rU fun i => .int (-i)
abbrev rLtI : R2 := rI0 fun i j => .bl (decide (i < j))
abbrev rLeI : R2 := rI0 fun i j => .bl (decide (i ≤ j))
abbrev rGtI : R2 := rI0 fun i j => .bl (decide (j < i))
abbrev rGeI : R2 := rI0 fun i j => .bl (decide (j ≤ i))
abbrev rIsNon : R2 := fun x y H Q => y = .non ∧ Q (.bl (decide (x = .non))) H
abbrev rNotNon : R2 := fun x y H Q => y = .non ∧ Q (.bl (!decide (x = .non))) H
abbrev rLenQ (K : PySem.W.Frag) : List V → Hp → VK → Prop := fun xs H Q => ∃ p ys, xs = [.ref p] ∧ (SqL K H p ys ∨ SqT K H p ys) ∧ Q (.int ys.length) H
abbrev rAbs : List V → Hp → VK → Prop := fun xs H Q => ∃ i, xs = [.int i] ∧ Q (.int (if i < 0 then -i else i)) H
abbrev rMax2 : List V → Hp → VK → Prop := fun xs H Q => ∃ i j, xs = [.int i, .int j] ∧ Q (.int (if j > i then j else i)) H
abbrev rMin2 : List V → Hp → VK → Prop := fun xs H Q => ∃ i j, xs = [.int i, .int j] ∧ Q (.int (if j < i then j else i)) H
abbrev tTruth (K : PySem.W.Frag) (ta : TE) : TT := fun σ H Q => ta σ H fun x H' => ∃ k, TruV K x H' k ∧ Q k H'

/-! ### the class that a name of the module holds -/
def cV (mg : Str → Option Value) (x : Str) : V := match mg x with
  | some (.ref C) => .ref C
  | _ => .non
def cE (mg : Str → Option Value) (x : Str) : Value := match mg x with
  | some (.ref C) => .ref C
  | _ => .none
/-- raise X('..') -/
def tRaise (E : XK) (c : Value) : TS := fun _ _ H => E c none H

/-! ### what the top has left -/
/-- the built-in names that the text uses are still the built-ins -/
structure Bt (mg : Str → Option Value) : Prop where
  len : mg "len" = none
  abs : mg "abs" = none
  isinstance : mg "isinstance" = none
  int : mg "int" = none
  bool : mg "bool" = none
  tuple : mg "tuple" = none
  str : mg "str" = none
  list : mg "list" = none
  set : mg "set" = none
  all : mg "all" = none
  any : mg "any" = none
  range : mg "range" = none
  max : mg "max" = none
  min : mg "min" = none
  sum : mg "sum" = none
  sorted : mg "sorted" = none
  enumerate : mg "enumerate" = none
  reversed : mg "reversed" = none
  ValueError : mg "ValueError" = none

abbrev bmV : List Value := [.type "ValueError", .type "Exception", .type "BaseException", .type "object"]
/-- an exception class of the program's own -/
structure Xc (K : PySem.W.Frag) (mg : Str → Option Value) (x : Str) : Prop where
  ex : ∃ C : Addr, mg x = some (.ref C) ∧ PySem.W.excIn K C bmV "ValueError.__new__" = true ∧ PySem.W.keepIn K (.ref C) = true ∧ PySem.W.subIn K (.ref C) (.type "BaseException") = some true ∧ PySem.W.typeIn K (.ref C) = some (.type "type")

/-! ### a def by its promise -/
structure Cal (P : Program) (w : World) (K : PySem.W.Frag) (mg : Str → Option Value) (base : Heap) (k : Nat) (x : Str) (ps : List Str) (sp : Sp) : Prop where
  ex : ∃ (f : Addr) (fd : FuncData), FnOk P w K mg base (L2N.CX P w) k f fd ps sp ∧ mg x = some (.ref f) ∧ PySem.W.keepIn K (.ref f) = true ∧ Binds K fd ps []

section
variable {P : Program} {w : World} {K : PySem.W.Frag} {mg : Str → Option Value} {base : Heap}
/-- from a def's text and its body to its promise -/
theorem fnok_of {x : Str} {st : Stmt} {f : Addr} {fd : FuncData} {N ps : List Str} {k : Nat} {sp : Sp} (F : Fun K x x st f fd) (S : FnScope N ps (defScope st))
    (len : ∀ vs H Q E, sp vs H Q E → vs.length = ps.length) (t : XK → TS)
    (hd : ∀ (cdv : Value) (A : Around) (outer : List Env) (s : Shared) (H : Hp) (E : XK), Room k (A.deeper (envOfC x (defScope st) s.heap.objs.size f cdv)) → PSs (cxOf (L2N.CX P w) P w K mg base N x (defScope st) f cdv A outer s H E) (defBody st) (t E))
    (hq : ∀ (vs : List V) (H : Hp) (Q : VK) (E : XK), sp vs H Q E → t E { nx := fun _ H' => Q .non H', rt := Q } (start N vs) H) : FnOk P w K mg base (L2N.CX P w) (k + 1) f fd ps sp := by
  obtain ⟨oc, od, kV, doc, pm, an, cdv, ct, osl, e, lk, hcd⟩ := F.ex
  subst e
  exact fn_of lk hcd S len fun A outer s H vs Q E hr hsp => ⟨t E, hd cdv A outer s H E hr, hq vs H Q E hsp⟩
theorem cal_of {x : Str} {st : Stmt} {f : Addr} {fd : FuncData} {N ps : List Str} {k : Nat} {sp : Sp} (F : Fun K x x st f fd) (g : mg x = some (.ref f)) (S : FnScope N ps (defScope st))
    (hb : ∀ (kV doc pm : Value) (an : Option Addr) (cdv ct : Value) (us : List Value), us.length = ps.length → bindArgs (PySem.W.fnOf x x (defArgs st) (defBody st) (defScope st) .none kV doc pm an cdv ct) ⟨us, []⟩ = pure (ps.zip us))
    (len : ∀ vs H Q E, sp vs H Q E → vs.length = ps.length) (t : XK → TS)
    (hd : ∀ (cdv : Value) (A : Around) (outer : List Env) (s : Shared) (H : Hp) (E : XK), Room k (A.deeper (envOfC x (defScope st) s.heap.objs.size f cdv)) → PSs (cxOf (L2N.CX P w) P w K mg base N x (defScope st) f cdv A outer s H E) (defBody st) (t E))
    (hq : ∀ (vs : List V) (H : Hp) (Q : VK) (E : XK), sp vs H Q E → t E { nx := fun _ H' => Q .non H', rt := Q } (start N vs) H) : Cal P w K mg base (k + 1) x ps sp :=
  ⟨⟨f, fd, fnok_of F S len t hd hq, g, F.kp, F.binds (ps := ps) hb⟩⟩
/-- what a callee lets out is let out -/
theorem pasE {N : List Str} {q : Str} {sc : Scope} {f : Addr} {cd : Value} {A : Around} {outer : List Env} {s : Shared} {H : Hp} {E : XK} :
    Passes (L2N.CX P w) (cxOf (L2N.CX P w) P w K mg base N q sc f cd A outer s H E) E := L2N.passes_call (L2N.takes_of rfl rfl rfl rfl) fun _ _ _ _ h => h
end
section
variable {X : Cx}
theorem pas0 : Passes (L2N.CX X.prog X.w) X E0 := fun _ _ _ _ _ _ _ h => by
  obtain ⟨_, _, _, _, _, _, _, _, _, _, _, _, z⟩ := h
  exact z.elim
theorem pe_cl {k : Nat} {x : Str} {ps : List Str} {sp : Sp} {E : XK} {e : PySem.Expr} {es : List PySem.Expr} {t : TA} {p pos : Pos} (C : Cal X.prog X.w X.K X.mg X.base k x ps sp) (hr : Room k X.A) (hx : Passes (L2N.CX X.prog X.w) X E) (ha : PA X (e :: es) t) (hg : Gl X x := by rfl)
    (hdb : (x == ("__debug__" : Str)) = false := by decide) (he : starEach (e :: es) X.env = (false, eval e X.env) :: starEach es X.env := by rfl) (hpl : (backTo pos (starEach es X.env)).any (·.1) = false := by rfl) :
    PE X (.Call (.Name x p) (e :: es) [] pos) (tCall sp [] E t) := by
  obtain ⟨f, fd, F, g, kp, b⟩ := C.ex
  exact pe_call F hr hg g kp b .nil hx ha hdb he hpl
theorem ps_rs {E : XK} {x m : Str} {j : Nat} {p p2 pos pos2 : Pos} (hc : X.calm = true) (tk : L2N.Takes X (fun cls d _ H => E cls d H)) (C : Xc X.K X.mg x) (hg : Gl X x := by rfl) (hdb : (x == ("__debug__" : Str)) = false := by decide) :
    PS X (.Raise (some (.Call (.Name x p) [.Constant (.str m) j p2] [] pos)) none pos2) (tRaise E (cE X.mg x)) := by
  obtain ⟨C, g, q, kp, b, t⟩ := C.ex
  have e : cE X.mg x = .ref C := by unfold cE; rw [g]
  have h := L2N.ps_raise (pos := pos2) hc tk (L2N.pmk_own (m := m) (j := j) (p := p) (p2 := p2) (pos := pos) PySem.F.excBase_ValueError q g kp (raises_own b t) hg hdb)
  rw [e]
  exact h
end

/-! ### what the head tells -/
structure Fx (K : PySem.W.Frag) (x : Str) (st : Stmt) : Prop where
  ex : ∃ (f : Addr) (fd : FuncData), PySem.W.nsIn K mainGlobals x = some (some (.ref f)) ∧ Fun K x x st f fd
theorem fx_mk {K : PySem.W.Frag} {x : Str} {st : Stmt} {f : Addr} {oc : Value} {od an : Option Addr} {osl : Array (Option Value)} {kV doc pm cdv ct : Value} (a : PySem.W.nsIn K mainGlobals x = some (some (.ref f)))
    (l : K.lookup f = some ⟨oc, od, .func (PySem.W.fnOf x x (defArgs st) (defBody st) (defScope st) .none kV doc pm an cdv ct), osl⟩) (c : PySem.W.codeIn K cdv x = true) (k : PySem.W.keepIn K (.ref f) = true) : Fx K x st := ⟨f, _, a, fun_mk l c k⟩
theorem xc_mk {K : PySem.W.Frag} {h : Heap} {mg : Str → Option Value} (KX : K.In h) (G : h.Ns mainGlobals mg) {x : Str} {C : Addr} (a : PySem.W.nsIn K mainGlobals x = some (some (.ref C))) (q : PySem.W.excIn K C bmV "ValueError.__new__" = true)
    (k : PySem.W.keepIn K (.ref C) = true) (b : PySem.W.subIn K (.ref C) (.type "BaseException") = some true) (t : PySem.W.typeIn K (.ref C) = some (.type "type")) : Xc K mg x := ⟨C, PySem.W.mg_of KX G a, q, k, b, t⟩
theorem cx_false {P : Program} {w : World} {H : Hp} {s : Shared} {e : Value} {s' : Shared} (h : L2N.CX P w [] H s (fun _ _ _ => False) e s') : False := by
  obtain ⟨_, _, _, _, _, _, _, _, _, _, _, _, z⟩ := h
  exact z.elim
/-! ### steps through a reading -/
section
variable {K : PySem.W.Frag} {mg : Str → Option Value} {σ : L2.St} {H : Hp} {D : Ends} {Q : VK} {R : Bool → Hp → Prop} {A B : Prop}
theorem k_seq {t u : TS} (h : t { D with nx := u D } σ H) : tSeq t u D σ H := h
theorem k_next (h : D.nx σ H) : tNext D σ H := h
theorem k_asg {te : TE} {g : TG} (h : te σ H fun x H1 => g x σ H1 D.nx) : tAsg te g D σ H := h
theorem k_ret {te : TE} (h : te σ H D.rt) : tRet te D σ H := h
theorem k_drop {te : TE} (h : te σ H fun _ H1 => D.nx σ H1) : tDrop te D σ H := h
theorem k_ifS {c : TT} {t u : TS} (h : c σ H fun b H1 => if b = true then t D σ H1 else u D σ H1) : tIfS c t u D σ H := h
theorem k_par {i j : Nat} {ta : TA} (h : ta σ H fun vs H1 => ∃ v w, vs = [v, w] ∧ gName i v σ H1 fun σ1 H2 => gName j w σ1 H2 D.nx) : tPar i j ta D σ H := h
theorem k_par3 {i j l : Nat} {ta : TA} (h : ta σ H fun vs H1 => ∃ v w z, vs = [v, w, z] ∧ gName i v σ H1 fun σ1 H2 => gName j w σ1 H2 fun σ2 H3 => gName l z σ2 H3 D.nx) : tPar3 i j l ta D σ H := h
theorem k_name {i : Nat} {v : V} {S : L2.St → Hp → Prop} (h : S (σ.set i (some v)) H) : gName i v σ H S := h
theorem k_var {i : Nat} {v : V} (e : σ[i]? = some (some v)) (h : Q v H) : tVar i σ H Q := ⟨v, e, h⟩
theorem k_c {v : V} (h : Q v H) : tC v σ H Q := h
theorem k_op {r : R2} {ta tb : TE} (h : ta σ H fun x H1 => tb σ H1 fun y H2 => r x y H2 Q) : tOp r ta tb σ H Q := h
theorem k_un {r : V → Hp → VK → Prop} {ta : TE} (h : ta σ H fun x H1 => r x H1 Q) : tUn r ta σ H Q := h
theorem k_I0 {g : Int → Int → V} {i j : Int} (h : Q (g i j) H) : rI0 g (.int i) (.int j) H Q := ⟨i, j, rfl, rfl, h⟩
theorem k_I {C : Int → Int → Prop} {g : Int → Int → V} {i j : Int} (c : C i j) (h : Q (g i j) H) : rI C g (.int i) (.int j) H Q := ⟨i, j, rfl, rfl, c, h⟩
theorem k_U {g : Int → V} {i : Int} (h : Q (g i) H) : rU g (.int i) H Q := ⟨i, rfl, h⟩
theorem k_eqI {i j : Int} (h : Q (.bl (decide (i = j))) H) : rEq (.int i) (.int j) H Q := ⟨rfl, by
  have e : decide (V.int i = V.int j) = decide (i = j) := by simp
  rw [e]; exact h⟩
theorem k_neI {i j : Int} (h : Q (.bl (!decide (i = j))) H) : rNe (.int i) (.int j) H Q := ⟨rfl, by
  have e : decide (V.int i = V.int j) = decide (i = j) := by simp
  rw [e]; exact h⟩
theorem k_eqB {i j : Bool} (h : Q (.bl (decide (i = j))) H) : rEq (.bl i) (.bl j) H Q := ⟨rfl, by
  have e : decide (V.bl i = V.bl j) = decide (i = j) := by simp
  rw [e]; exact h⟩
theorem k_neB {i j : Bool} (h : Q (.bl (!decide (i = j))) H) : rNe (.bl i) (.bl j) H Q := ⟨rfl, by
  have e : decide (V.bl i = V.bl j) = decide (i = j) := by simp
  rw [e]; exact h⟩
theorem k_isN {x : V} (h : Q (.bl (decide (x = .non))) H) : rIsNon x .non H Q := ⟨rfl, h⟩
theorem k_ntN {x : V} (h : Q (.bl (!decide (x = .non))) H) : rNotNon x .non H Q := ⟨rfl, h⟩
theorem k_test {t : TE} (h : t σ H fun x H' => ∃ k, x = .bl k ∧ R k H') : tTest t σ H R := h
theorem k_tB {t : TE} (h : t σ H fun x H' => ∃ k, x = .bl k ∧ R k H') : tB t σ H R := h
theorem k_bl {b : Bool} {S : Bool → Prop} (h : S b) : ∃ k, V.bl b = V.bl k ∧ S k := ⟨b, rfl, h⟩
theorem k_and {t u : TT} (h : t σ H fun c H1 => if c = true then u σ H1 R else R false H1) : tAnd t u σ H R := h
theorem k_or {t u : TT} (h : t σ H fun c H1 => if c = true then R true H1 else u σ H1 R) : tOr t u σ H R := h
theorem k_not {t : TT} (h : t σ H fun c H1 => R (!c) H1) : tNot t σ H R := h
theorem k_andV {ta tb : TE} (h : ta σ H fun x H1 => ∃ c, x = .bl c ∧ if c = true then tb σ H1 Q else Q (.bl false) H1) : tAndV ta tb σ H Q := h
theorem k_orV {ta tb : TE} (h : ta σ H fun x H1 => ∃ c, x = .bl c ∧ if c = true then Q (.bl true) H1 else tb σ H1 Q) : tOrV ta tb σ H Q := h
theorem k_notV {ta : TE} (h : ta σ H fun x H1 => ∃ c, x = .bl c ∧ Q (.bl (!c)) H1) : tNotV ta σ H Q := h
theorem k_if {t : TT} {ta tb : TE} (h : t σ H fun c H1 => if c = true then ta σ H1 Q else tb σ H1 Q) : tIf t ta tb σ H Q := h
theorem k_chain {r r' : R2} {ta tb tc : TE} (h : ta σ H fun x H1 => tb σ H1 fun y H2 => r x y H2 fun z H3 => ∃ k, z = .bl k ∧ (if k = true then tc σ H3 fun w' H4 => r' y w' H4 Q else Q (.bl false) H3)) : tChain r r' ta tb tc σ H Q := h
theorem k_cb {r : List V → Hp → VK → Prop} {t : TA} (h : t σ H fun vs H1 => r vs H1 Q) : tCB r t σ H Q := h
theorem k_call {sp : Sp} {dvs : List V} {E : XK} {t : TA} (h : t σ H fun vs H1 => sp (vs ++ dvs) H1 Q E) : tCall sp dvs E t σ H Q := h
theorem k_nil {S : List V → Hp → Prop} (h : S [] H) : tNil σ H S := h
theorem k_cons {ta : TE} {tr : TA} {S : List V → Hp → Prop} (h : ta σ H fun x H1 => tr σ H1 fun xs H2 => S (x :: xs) H2) : tCons ta tr σ H S := h
theorem k_tup {t : TA} (h : t σ H fun xs H1 => xs.length ≤ sizeLine ∧ ∀ p, H1 p = none → Q (.ref p) (upd H1 p (.tup xs))) : tTup t σ H Q := h
theorem k_lst {t : TA} (h : t σ H fun xs H1 => xs.length ≤ sizeLine ∧ ∀ p, H1 p = none → Q (.ref p) (upd H1 p (.lst xs))) : tLst t σ H Q := h
theorem k_abs {i : Int} (h : Q (.int (if i < 0 then -i else i)) H) : rAbs [.int i] H Q := ⟨i, rfl, h⟩
theorem k_max2 {i j : Int} (h : Q (.int (if j > i then j else i)) H) : rMax2 [.int i, .int j] H Q := ⟨i, j, rfl, h⟩
theorem k_min2 {i j : Int} (h : Q (.int (if j < i then j else i)) H) : rMin2 [.int i, .int j] H Q := ⟨i, j, rfl, h⟩
theorem k_iteT (h : A) : if true = true then A else B := by rw [if_pos rfl]; exact h
theorem k_iteF (h : B) : if false = true then A else B := by rw [if_neg Bool.false_ne_true]; exact h
theorem k_ite {p : Prop} [Decidable p] (h1 : p → A) (h2 : ¬ p → B) : if decide p = true then A else B := by
  by_cases h : p
  · rw [if_pos (decide_eq_true h)]; exact h1 h
  · rw [if_neg (by rw [decide_eq_false h]; exact Bool.false_ne_true)]; exact h2 h
theorem k_iteN {p : Prop} [Decidable p] (h1 : ¬ p → A) (h2 : p → B) : if (!decide p) = true then A else B := by
  by_cases h : p
  · rw [decide_eq_true h]; exact k_iteF (h2 h)
  · rw [decide_eq_false h]; exact k_iteT (h1 h)
theorem k_ite_t {p : Prop} [Decidable p] (hp : p) (h : A) : if decide p = true then A else B := k_ite (fun _ => h) fun n => absurd hp n
theorem k_ite_f {p : Prop} [Decidable p] (hp : ¬ p) (h : B) : if decide p = true then A else B := k_ite (fun n => absurd n hp) fun _ => h
theorem k_iteB {b : Bool} (h1 : b = true → A) (h2 : b = false → B) : if b = true then A else B := by
  cases b
  · exact k_iteF (h2 rfl)
  · exact k_iteT (h1 rfl)
theorem k_n0 {v : V} {x0 : Option V} {r : L2.St} {S : L2.St → Hp → Prop} (h : S (some v :: r) H) : gName 0 v (x0 :: r) H S := h
theorem k_n1 {v : V} {x0 x1 : Option V} {r : L2.St} {S : L2.St → Hp → Prop} (h : S (x0 :: some v :: r) H) : gName 1 v (x0 :: x1 :: r) H S := h
theorem k_n2 {v : V} {x0 x1 x2 : Option V} {r : L2.St} {S : L2.St → Hp → Prop} (h : S (x0 :: x1 :: some v :: r) H) : gName 2 v (x0 :: x1 :: x2 :: r) H S := h
theorem k_n3 {v : V} {x0 x1 x2 x3 : Option V} {r : L2.St} {S : L2.St → Hp → Prop} (h : S (x0 :: x1 :: x2 :: some v :: r) H) : gName 3 v (x0 :: x1 :: x2 :: x3 :: r) H S := h
theorem k_n4 {v : V} {x0 x1 x2 x3 x4 : Option V} {r : L2.St} {S : L2.St → Hp → Prop} (h : S (x0 :: x1 :: x2 :: x3 :: some v :: r) H) : gName 4 v (x0 :: x1 :: x2 :: x3 :: x4 :: r) H S := h
theorem k_n5 {v : V} {x0 x1 x2 x3 x4 x5 : Option V} {r : L2.St} {S : L2.St → Hp → Prop} (h : S (x0 :: x1 :: x2 :: x3 :: x4 :: some v :: r) H) : gName 5 v (x0 :: x1 :: x2 :: x3 :: x4 :: x5 :: r) H S := h
theorem k_n6 {v : V} {x0 x1 x2 x3 x4 x5 x6 : Option V} {r : L2.St} {S : L2.St → Hp → Prop} (h : S (x0 :: x1 :: x2 :: x3 :: x4 :: x5 :: some v :: r) H) : gName 6 v (x0 :: x1 :: x2 :: x3 :: x4 :: x5 :: x6 :: r) H S := h
theorem k_n7 {v : V} {x0 x1 x2 x3 x4 x5 x6 x7 : Option V} {r : L2.St} {S : L2.St → Hp → Prop} (h : S (x0 :: x1 :: x2 :: x3 :: x4 :: x5 :: x6 :: some v :: r) H) : gName 7 v (x0 :: x1 :: x2 :: x3 :: x4 :: x5 :: x6 :: x7 :: r) H S := h
theorem k_n8 {v : V} {x0 x1 x2 x3 x4 x5 x6 x7 x8 : Option V} {r : L2.St} {S : L2.St → Hp → Prop} (h : S (x0 :: x1 :: x2 :: x3 :: x4 :: x5 :: x6 :: x7 :: some v :: r) H) : gName 8 v (x0 :: x1 :: x2 :: x3 :: x4 :: x5 :: x6 :: x7 :: x8 :: r) H S := h
theorem k_n9 {v : V} {x0 x1 x2 x3 x4 x5 x6 x7 x8 x9 : Option V} {r : L2.St} {S : L2.St → Hp → Prop} (h : S (x0 :: x1 :: x2 :: x3 :: x4 :: x5 :: x6 :: x7 :: x8 :: some v :: r) H) : gName 9 v (x0 :: x1 :: x2 :: x3 :: x4 :: x5 :: x6 :: x7 :: x8 :: x9 :: r) H S := h
theorem k_n10 {v : V} {x0 x1 x2 x3 x4 x5 x6 x7 x8 x9 x10 : Option V} {r : L2.St} {S : L2.St → Hp → Prop} (h : S (x0 :: x1 :: x2 :: x3 :: x4 :: x5 :: x6 :: x7 :: x8 :: x9 :: some v :: r) H) : gName 10 v (x0 :: x1 :: x2 :: x3 :: x4 :: x5 :: x6 :: x7 :: x8 :: x9 :: x10 :: r) H S := h
theorem k_n11 {v : V} {x0 x1 x2 x3 x4 x5 x6 x7 x8 x9 x10 x11 : Option V} {r : L2.St} {S : L2.St → Hp → Prop} (h : S (x0 :: x1 :: x2 :: x3 :: x4 :: x5 :: x6 :: x7 :: x8 :: x9 :: x10 :: some v :: r) H) : gName 11 v (x0 :: x1 :: x2 :: x3 :: x4 :: x5 :: x6 :: x7 :: x8 :: x9 :: x10 :: x11 :: r) H S := h
theorem k_p18 (h : Q (.int 1000000000000000000) H) : rPowI (.int 10) (.int 18) H Q := ⟨10, 18, rfl, rfl, ⟨by decide, by decide, by decide⟩, h⟩
theorem k_p15 (h : Q (.int 1000000000000000) H) : rPowI (.int 10) (.int 15) H Q := ⟨10, 15, rfl, rfl, ⟨by decide, by decide, by decide⟩, h⟩
theorem k_p12 (h : Q (.int 1000000000000) H) : rPowI (.int 10) (.int 12) H Q := ⟨10, 12, rfl, rfl, ⟨by decide, by decide, by decide⟩, h⟩
theorem k_p9 (h : Q (.int 1000000000) H) : rPowI (.int 10) (.int 9) H Q := ⟨10, 9, rfl, rfl, ⟨by decide, by decide, by decide⟩, h⟩
theorem k_p7 (h : Q (.int 10000000) H) : rPowI (.int 10) (.int 7) H Q := ⟨10, 7, rfl, rfl, ⟨by decide, by decide, by decide⟩, h⟩
theorem k_p6 (h : Q (.int 1000000) H) : rPowI (.int 10) (.int 6) H Q := ⟨10, 6, rfl, rfl, ⟨by decide, by decide, by decide⟩, h⟩
theorem k_p5 (h : Q (.int 100000) H) : rPowI (.int 10) (.int 5) H Q := ⟨10, 5, rfl, rfl, ⟨by decide, by decide, by decide⟩, h⟩
theorem k_par2 {v w : V} {S : V → V → Prop} (h : S v w) : ∃ a b, [v, w] = [a, b] ∧ S a b := ⟨v, w, rfl, h⟩
theorem k_par33 {v w z : V} {S : V → V → V → Prop} (h : S v w z) : ∃ a b c, [v, w, z] = [a, b, c] ∧ S a b c := ⟨v, w, z, rfl, h⟩
end

/-! ### heaps -/
theorem same_new {H : Hp} {p : Addr} {o : HO} (h : H p = none) : Same H (upd H p o) := fun b x e => by
  rw [upd_ne (ne_of_none e h)]
  exact e
theorem same_tup {K : PySem.W.Frag} {H H' : Hp} {a : Addr} {xs : List V} (e : Same H H') (h : SqT K H a xs) : SqT K H' a xs := by
  rcases h with (h | ⟨o, h⟩) | h
  · exact .inl (.inl (e _ _ h))
  · exact .inl (.inr ⟨o, e _ _ h⟩)
  · exact .inr h
mutual
theorem same_dp {K : PySem.W.Frag} {H H' : Hp} (e : Same H H') : ∀ {v : V} {d : PyData}, Dp K H v d → Dp K H' v d
  | _, _, .non => .non
  | _, _, .bl b => .bl b
  | _, _, .int i => .int i
  | _, _, .str x => .str x
  | _, _, .lst h a => .lst (e.seq h) (same_dpa e a)
  | _, _, .tup h a => .tup (same_tup e h) (same_dpa e a)
theorem same_dpa {K : PySem.W.Frag} {H H' : Hp} (e : Same H H') : ∀ {vs : List V} {ds : List PyData}, DpAll K H vs ds → DpAll K H' vs ds
  | _, _, .nil => .nil
  | _, _, .cons h a => .cons (same_dp e h) (same_dpa e a)
end
end Fl
namespace Fl
open PySem L2 PySem.Spec PyProof.Rows
theorem cm_l {i j : Int} (h1 : -18446744073709551616 < i) (h2 : i < 18446744073709551616) : CMul i j := .inl ⟨by omega, by omega⟩
theorem cm_r {i j : Int} (h1 : -18446744073709551616 < j) (h2 : j < 18446744073709551616) : CMul i j := .inr ⟨by omega, by omega⟩
theorem cpow {i j : Int} (h1 : 0 ≤ j) (h2 : j ≤ 1000000) (h3 : i.natAbs < 18446744073709551616) : CPow i j := ⟨h1, h2, by omega⟩
theorem un65 {k : Nat} {A : Around} (r : Room k A) : A.units + 65 < cLine := by have := r.un; omega
/-! ### isinstance of data -/
/-- the built-in class of a datum -/
def tyD : PyData → String
  | .none => "NoneType"
  | .bool _ => "bool"
  | .int _ => "int"
  | .str _ => "str"
  | .list _ => "list"
  | .tuple _ => "tuple"
  | .dict _ => "dict"
end Fl
/-! FlC: comprehensions and unpacking, with what is known of the items. -/
namespace Fl
open PySem L2 PySem.Spec PyProof.Rows
section
variable {K : PySem.W.Frag} {σ : L2.St} {H : Hp}
theorem k_gtup {p : Addr} {xs : List V} {n : Nat} {t : TGs} {S : L2.St → Hp → Prop} (h : SqT K H p xs) (hl : xs.length = n) (q : t xs σ H S) : gTup K n t (.ref p) σ H S := ⟨p, xs, rfl, h, hl, q⟩
theorem k_glst {p : Addr} {xs : List V} {n : Nat} {t : TGs} {S : L2.St → Hp → Prop} (h : SqL K H p xs) (hl : xs.length = n) (q : t xs σ H S) : gLst K n t (.ref p) σ H S := ⟨p, xs, rfl, h, hl, q⟩
theorem k_gcons {t : TG} {u : TGs} {v : V} {r : List V} {S : L2.St → Hp → Prop} (q : t v σ H fun σ' H' => u r σ' H' S) : gCons t u (v :: r) σ H S := ⟨v, r, rfl, q⟩
theorem k_gnil {S : L2.St → Hp → Prop} (q : S σ H) : gNil [] σ H S := ⟨rfl, q⟩
theorem tup_of {p : Addr} {xs : List V} (h : H p = some (.tup xs)) : SqT K H p xs := .inl (.inl h)
theorem lst_of {p : Addr} {xs : List V} (h : H p = some (.lst xs)) : SqL K H p xs := .inl (.inl h)
theorem k_ixT {p : Addr} {xs : List V} {i : Int} {v : V} {Q : VK} (h : SqT K H p xs) (e : atI xs i = some v) (q : Q v H) : rIxT K (.ref p) (.int i) H Q := ⟨p, xs, i, v, rfl, rfl, h, e, q⟩
theorem k_ixL {p : Addr} {xs : List V} {i : Int} {v : V} {Q : VK} (h : SqL K H p xs) (e : atI xs i = some v) (q : Q v H) : rIxL K (.ref p) (.int i) H Q := ⟨p, xs, i, v, rfl, rfl, h, e, q⟩
theorem k_lenT {p : Addr} {xs : List V} {Q : VK} (h : SqT K H p xs) (q : Q (.int xs.length) H) : rLenQ K [.ref p] H Q := ⟨p, xs, rfl, .inr h, q⟩
theorem k_lenL {p : Addr} {xs : List V} {Q : VK} (h : SqL K H p xs) (q : Q (.int xs.length) H) : rLenQ K [.ref p] H Q := ⟨p, xs, rfl, .inl h, q⟩
theorem k_all {p : Addr} {bs : List Bool} {Q : VK} (h : SqL K H p (bs.map V.bl)) (q : Q (.bl (bs.all id)) H) : rAll K [.ref p] H Q := ⟨p, bs, rfl, h, q⟩
theorem k_any {p : Addr} {bs : List Bool} {Q : VK} (h : SqL K H p (bs.map V.bl)) (q : Q (.bl (bs.any id)) H) : rAny K [.ref p] H Q := ⟨p, bs, rfl, h, q⟩
theorem small {n : Nat} (h : n ≤ 100000) : n ≤ sizeLine := Nat.le_trans h (by decide)
theorem small_lt {n : Nat} (h : n < 100000) : n < sizeLine := Nat.lt_of_lt_of_le h (by decide)
end
section
variable {K : PySem.W.Frag} {σ : L2.St} {H : Hp} {D : Ends} {R : It → Hp → Prop}
theorem k_lc {wi : TI} {g : TG} {tt : TT} {te : TE} {vs : List Nat} {Q : VK} (h : wi σ H fun J H1 => ∀ D, H1 D = none → ∃ W : Nat → Nat → Hp → Prop, (∃ m, W 0 m (upd H1 D (.lst []))) ∧ ∀ i m H, W i m H →
    (J.stop i H ∧ Q (.ref D) H) ∨ (J.go i H ∧ ∃ Nx : Hp → Prop, (∀ H', Nx H' → ∃ m', m' < m ∧ W (i + 1) m' H') ∧ ∀ x H', J.yld i H x H' → g x (wipe σ vs) H' fun σ2 H2 => wipe σ2 vs = wipe σ vs ∧ tt σ2 H2 fun b H3 =>
      if b = true then te σ2 H3 fun y H4 => ∃ acc, H4 D = some (.lst acc) ∧ acc.length < sizeLine ∧ Nx (upd H4 D (.lst (acc ++ [y]))) else Nx H3)) : tLc wi g tt te vs σ H Q := h
theorem k_for {wi : TI} {g : TG} {tb : TS} (h : wi σ H fun J H1 => ∃ W : Nat → Nat → L2.St → Hp → Prop, (∃ m, W 0 m σ H1) ∧ ∀ i m σ H, W i m σ H →
    (J.stop i H ∧ D.nx σ H) ∨ (J.go i H ∧ ∃ N : L2.St → Hp → Prop, (∀ σ' H', N σ' H' → ∃ m', m' < m ∧ W (i + 1) m' σ' H') ∧ ∀ x H', J.yld i H x H' → g x σ H' fun σ2 H2 => tb { D with nx := N, ct := N, bk := D.nx } σ2 H2)) : tFor wi g tb D σ H := h
theorem k_rng1 {ta : TA} (h : ta σ H fun vs H1 => ∃ j : Int, vs = [.int j] ∧ -(2 ^ 62) ≤ j ∧ j < 2 ^ 62 ∧ R (Itr 0 j.toNat) H1) : iRng1 ta σ H R := h
theorem k_rng2 {ta : TA} (h : ta σ H fun vs H1 => ∃ i j : Int, vs = [.int i, .int j] ∧ (-(2 ^ 62) ≤ i ∧ i < 2 ^ 62 ∧ -(2 ^ 62) ≤ j ∧ j < 2 ^ 62) ∧ R (Itr i (j - i).toNat) H1) : iRng2 ta σ H R := h
theorem k_iList {tl : TE} (h : tl σ H fun x H1 => ∃ a, x = .ref a ∧ (∃ xs, SqL K H1 a xs) ∧ R (Itl K a) H1) : iList K tl σ H R := h
theorem k_iTup {tl : TE} (h : tl σ H fun x H1 => ∃ a, x = .ref a ∧ (∃ xs, SqT K H1 a xs) ∧ R (Itt K a) H1) : iTup K tl σ H R := h
theorem k_bm {T : String} {r : V → List V → Hp → VK → Prop} {to : TE} {t : TA} {Q : VK} (h : to σ H fun x H1 => tyV K T x H1 ∧ t σ H1 fun xs H2 => r x xs H2 Q) : tBM K T r to t σ H Q := h
theorem k_app {p : Addr} {xs : List V} {y : V} {Q : VK} (h : H p = some (.lst xs)) (hl : xs.length < 100000) (q : Q .non (upd H p (.lst (xs ++ [y])))) : rAppend (.ref p) [y] H Q := ⟨p, xs, y, rfl, rfl, h, Nat.lt_of_lt_of_le hl (by decide), q⟩
theorem k_yes {S : Bool → Hp → Prop} (h : S true H) : tYes σ H S := h
theorem ty_lst {p : Addr} {xs : List V} (h : SqL K H p xs) : tyV K "list" (.ref p) H := .inl ⟨rfl, _, h⟩
end
/-! ### heaps: all but lists stay -/
def NL (H H' : Hp) : Prop := ∀ b o, H b = some o → (∀ l, o ≠ .lst l) → H' b = some o
theorem NL.refl (H : Hp) : NL H H := fun _ _ h _ => h
theorem NL.trans {H H1 H2 : Hp} (a : NL H H1) (b : NL H1 H2) : NL H H2 := fun c o h n => b c o (a c o h n) n
theorem nl_same {H H' : Hp} (s : Same H H') : NL H H' := fun b o h _ => s b o h
theorem nl_upd {H : Hp} {D : Addr} {l l' : List V} (h : H D = some (.lst l)) : NL H (upd H D (.lst l')) := fun b o hb n => by
  have : b ≠ D := fun e => by subst e; rw [h] at hb; cases hb; exact n _ rfl
  rw [upd_ne this]
  exact hb
/-- what was there ahead of D stays -/
theorem same_grow {H H' : Hp} {D : Addr} {o : HO} (s : Same H H') (hD : H D = none) : Same H (upd H' D o) := fun b x e => by
  rw [upd_ne (ne_of_none e hD)]
  exact s b x e
section
variable {K : PySem.W.Frag} {σ : L2.St} {H1 : Hp} {D : Addr} {Qd : Hp → Prop} {g : TG} {te : TE} {vs : List Nat}
/-- one turn of a comprehension whose list is to be ys -/
def LcTurn (H1 : Hp) (g : TG) (te : TE) (σ : L2.St) (vs : List Nat) (x y : V) : Prop :=
  ∀ (H' : Hp) (R : VK), Same H1 H' → (∀ H'', Same H' H'' → R y H'') → g x (wipe σ vs) H' fun σ2 H2 => wipe σ2 vs = wipe σ vs ∧ te σ2 H2 R
theorem lc_step {n : Nat} {x y : V} {ys : List V} {Hn : Hp} (hD : H1 D = none) (hz : ys.length < 100000) (hy : ys[n]? = some y) (t : LcTurn H1 g te σ vs x y) (s : Same H1 Hn) (hl : Hn D = some (.lst (ys.take n))) :
    g x (wipe σ vs) Hn fun σ2 H2 => wipe σ2 vs = wipe σ vs ∧ tYes σ2 H2 fun b H3 => if b = true then te σ2 H3 fun y H4 => ∃ acc, H4 D = some (.lst acc) ∧ acc.length < sizeLine ∧ (Same H1 (upd H4 D (.lst (acc ++ [y]))) ∧ (upd H4 D (.lst (acc ++ [y]))) D = some (.lst (ys.take (n + 1)))) else (Same H1 H3 ∧ H3 D = some (.lst (ys.take (n + 1)))) := by
  have hn : n < ys.length := (List.getElem?_eq_some_iff.mp hy).1
  refine t Hn (fun y H4 => ∃ acc, H4 D = some (.lst acc) ∧ acc.length < sizeLine ∧ (Same H1 (upd H4 D (.lst (acc ++ [y]))) ∧ (upd H4 D (.lst (acc ++ [y]))) D = some (.lst (ys.take (n + 1))))) s fun H'' s2 => ?_
  refine ⟨_, s2 _ _ hl, small_lt (by rw [List.length_take]; omega), same_grow (s.trans s2) hD, ?_⟩
  rw [upd_same, List.take_add_one, hy]
  rfl
theorem lcm_tup {a : Addr} {xs ys : List V} (hs : SqT K H1 a xs) (hD : H1 D = none) (hl : ys.length = xs.length) (hz : ys.length < 100000) (t : ∀ (n : Nat) (x y : V), xs[n]? = some x → ys[n]? = some y → LcTurn H1 g te σ vs x y)
    (q : ∀ Hf, Same H1 Hf → Hf D = some (.lst ys) → Qd Hf) :
    ∃ W : Nat → Nat → Hp → Prop, (∃ m, W 0 m (upd H1 D (.lst []))) ∧ ∀ i m H, W i m H →
      ((Itt K a).stop i H ∧ Qd H) ∨ ((Itt K a).go i H ∧ ∃ Nx : Hp → Prop, (∀ H', Nx H' → ∃ m', m' < m ∧ W (i + 1) m' H') ∧ ∀ x H', (Itt K a).yld i H x H' → g x (wipe σ vs) H' fun σ2 H2 => wipe σ2 vs = wipe σ vs ∧ tYes σ2 H2 fun b H3 =>
        if b = true then te σ2 H3 fun y H4 => ∃ acc, H4 D = some (.lst acc) ∧ acc.length < sizeLine ∧ Nx (upd H4 D (.lst (acc ++ [y]))) else Nx H3) :=
  lc_tup (xs := xs) (fun i H => Same H1 H ∧ H D = some (.lst (ys.take i))) ⟨same_new hD, upd_same⟩ (fun i H _ p => same_tup p.1 hs)
    (fun i x H hx p => by
      have hi : i < xs.length := (List.getElem?_eq_some_iff.mp hx).1
      have hy : ys[i]? = some ys[i] := List.getElem?_eq_getElem (by omega)
      exact lc_step hD hz hy (t i x _ hx hy) p.1 p.2)
    fun H p => q H p.1 (by rw [p.2, ← hl, List.take_length])
theorem lcm_list {a : Addr} {xs ys : List V} (hs : SqL K H1 a xs) (hD : H1 D = none) (hl : ys.length = xs.length) (hz : ys.length < 100000) (t : ∀ (n : Nat) (x y : V), xs[n]? = some x → ys[n]? = some y → LcTurn H1 g te σ vs x y)
    (q : ∀ Hf, Same H1 Hf → Hf D = some (.lst ys) → Qd Hf) :
    ∃ W : Nat → Nat → Hp → Prop, (∃ m, W 0 m (upd H1 D (.lst []))) ∧ ∀ i m H, W i m H →
      ((Itl K a).stop i H ∧ Qd H) ∨ ((Itl K a).go i H ∧ ∃ Nx : Hp → Prop, (∀ H', Nx H' → ∃ m', m' < m ∧ W (i + 1) m' H') ∧ ∀ x H', (Itl K a).yld i H x H' → g x (wipe σ vs) H' fun σ2 H2 => wipe σ2 vs = wipe σ vs ∧ tYes σ2 H2 fun b H3 =>
        if b = true then te σ2 H3 fun y H4 => ∃ acc, H4 D = some (.lst acc) ∧ acc.length < sizeLine ∧ Nx (upd H4 D (.lst (acc ++ [y]))) else Nx H3) :=
  lc_list (xs := xs) (fun i H => Same H1 H ∧ H D = some (.lst (ys.take i))) ⟨same_new hD, upd_same⟩ (fun i H _ p => p.1.seq hs)
    (fun i x H hx p => by
      have hi : i < xs.length := (List.getElem?_eq_some_iff.mp hx).1
      have hy : ys[i]? = some ys[i] := List.getElem?_eq_getElem (by omega)
      exact lc_step hD hz hy (t i x _ hx hy) p.1 p.2)
    fun H p => q H p.1 (by rw [p.2, ← hl, List.take_length])
theorem lcm_range {lo : Int} {n : Nat} {ys : List V} (hD : H1 D = none) (hl : ys.length = n) (hz : ys.length < 100000) (t : ∀ (i : Nat) (y : V), i < n → ys[i]? = some y → LcTurn H1 g te σ vs (.int (lo + i)) y)
    (q : ∀ Hf, Same H1 Hf → Hf D = some (.lst ys) → Qd Hf) :
    ∃ W : Nat → Nat → Hp → Prop, (∃ m, W 0 m (upd H1 D (.lst []))) ∧ ∀ i m H, W i m H →
      ((Itr lo n).stop i H ∧ Qd H) ∨ ((Itr lo n).go i H ∧ ∃ Nx : Hp → Prop, (∀ H', Nx H' → ∃ m', m' < m ∧ W (i + 1) m' H') ∧ ∀ x H', (Itr lo n).yld i H x H' → g x (wipe σ vs) H' fun σ2 H2 => wipe σ2 vs = wipe σ vs ∧ tYes σ2 H2 fun b H3 =>
        if b = true then te σ2 H3 fun y H4 => ∃ acc, H4 D = some (.lst acc) ∧ acc.length < sizeLine ∧ Nx (upd H4 D (.lst (acc ++ [y]))) else Nx H3) :=
  lc_range (fun i H => Same H1 H ∧ H D = some (.lst (ys.take i))) ⟨same_new hD, upd_same⟩
    (fun i H hi p => by
      have hy : ys[i]? = some ys[i] := List.getElem?_eq_getElem (by omega)
      exact lc_step hD hz hy (t i _ hi hy) p.1 p.2)
    fun H p => q H p.1 (by rw [p.2, ← hl, List.take_length])
end
/-! ### data -/
theorem dpa_get {K : PySem.W.Frag} {H : Hp} : ∀ {xs : List V} {ds : List PyData} {n : Nat} {x : V}, DpAll K H xs ds → xs[n]? = some x → ∃ d, ds[n]? = some d ∧ Dp K H x d
  | _, _, _, _, .nil, h => by simp at h
  | _, _, 0, _, .cons a _, h => by
    simp at h
    subst h
    exact ⟨_, rfl, a⟩
  | _, _, n + 1, x, .cons _ r, h => by
    obtain ⟨d, e, p⟩ := dpa_get (n := n) (x := x) r (by simpa using h)
    exact ⟨d, by simpa using e, p⟩
theorem dpa_two {K : PySem.W.Frag} {H : Hp} : ∀ {xs : List V} {ds : List PyData}, DpAll K H xs ds → xs.length = 2 → ∃ x y d e, xs = [x, y] ∧ ds = [d, e] ∧ Dp K H x d ∧ Dp K H y e
  | _, _, .nil, h => by cases h
  | _, _, .cons _ .nil, h => by cases h
  | _, _, .cons a (.cons b .nil), _ => ⟨_, _, _, _, rfl, rfl, a, b⟩
  | _, _, .cons _ (.cons _ (.cons _ _)), h => by simp at h
theorem dpa_len {K : PySem.W.Frag} {H : Hp} : ∀ {xs : List V} {ds : List PyData}, DpAll K H xs ds → xs.length = ds.length
  | _, _, .nil => rfl
  | _, _, .cons _ r => by simp [dpa_len r]
end Fl
namespace Fl
open PySem L2 PySem.Spec PyProof.Rows
local macro_rules | `(tactic| walk_at "sc") => `(tactic| first
  | exact cm_l (by omega) (by omega) | exact cm_r (by omega) (by omega)
  | exact wide_div (b := 250) (by omega) (by omega) (by decide) (by decide)
  | omega | exact cpow (by omega) (by omega) (by omega))
local macro_rules | `(tactic| walk_at "st1") => `(tactic| with_reducible first
  | apply k_seq | apply k_next | apply k_asg | apply k_ret | apply k_drop | apply k_ifS | apply k_par | apply k_par2 | apply k_par3 | apply k_par33
  | (refine k_var rfl ?_) | apply k_c | apply k_op | apply k_un | apply k_I0 | apply k_p18 | apply k_p15 | apply k_p12 | apply k_p9 | apply k_p7 | apply k_p6 | apply k_p5
  | (refine k_I ?_ ?_; (focus walk_at "sc")) | apply k_U
  | apply k_eqI | apply k_neI | apply k_eqB | apply k_neB | apply k_isN | apply k_ntN
  | apply k_test | apply k_tB | apply k_bl | apply k_and | apply k_or | apply k_not | apply k_andV | apply k_orV | apply k_notV | apply k_if | apply k_chain
  | apply k_cb | apply k_call | apply k_nil | apply k_cons | apply k_tup | apply k_lst | apply k_abs | apply k_max2 | apply k_min2 | apply k_iteT | apply k_iteF
  | apply k_n0 | apply k_n1 | apply k_n2 | apply k_n3 | apply k_n4 | apply k_n5 | apply k_n6 | apply k_n7 | apply k_n8 | apply k_n9 | apply k_n10 | apply k_n11)
local macro_rules | `(tactic| walk_at "st") => `(tactic| repeat walk_at "st1")
variable {P : Program} {w : World} {K : PySem.W.Frag} {mg : Str → Option Value}

/-! ### isinstance -/
theorem tyx_dp {H : Hp} {v : V} {d : PyData} (h : Dp K H v d) : TyX K H v (.type (tyD d)) := by
  cases h with
  | non => exact .base .non
  | bl b => exact .base (.bl b)
  | int i => exact .base (.int i)
  | str x => exact .base (.str x)
  | lst h _ =>
    rcases h with (h | ⟨o, h⟩) | ⟨o, its, n, h, c, _⟩
    · exact .base (.lst h)
    · exact .base (.frz h)
    · exact .kList h c
  | tup h _ =>
    rcases h with (h | ⟨o, h⟩) | ⟨o, its, n, h, c, _⟩
    · exact .base (.tup h)
    · exact .fTuple h
    · exact .kTuple h c
theorem k_isi {H : Hp} {v : V} {d : PyData} {n : String} {b : Bool} {Q : VK} (h : Dp K H v d) (hb : kitB (tyD d) n = some b) (q : Q (.bl b) H) : rIsi K [v, .ty n] H Q :=
  ⟨v, .ty n, .type (tyD d), .type n, b, rfl, .ty n, tyx_dp h, kit_ty hb, q⟩
def isInt : PyData → Bool
  | .int _ => true
  | .bool _ => true
  | _ => false
def isBool : PyData → Bool
  | .bool _ => true
  | _ => false
def isTup : PyData → Bool
  | .tuple _ => true
  | _ => false
theorem kit_int (d : PyData) : kitB (tyD d) "int" = some (isInt d) := by cases d <;> (dsimp only [tyD, isInt, isBool, isTup]; decide +kernel)
theorem kit_bool (d : PyData) : kitB (tyD d) "bool" = some (isBool d) := by cases d <;> (dsimp only [tyD, isInt, isBool, isTup]; decide +kernel)
theorem kit_tup (d : PyData) : kitB (tyD d) "tuple" = some (isTup d) := by cases d <;> (dsimp only [tyD, isInt, isBool, isTup]; decide +kernel)

/-! ### is_whole and what raises by it -/
/-- an integer from lo to hi -/
def whole (d : PyData) (lo hi : Int) : Bool := match d with
  | .int i => decide (lo ≤ i) && decide (i ≤ hi)
  | _ => false
theorem whole_int {i lo hi : Int} (h1 : lo ≤ i) (h2 : i ≤ hi) : whole (.int i) lo hi = true := by simp [whole, h1, h2]
theorem whole_is {d : PyData} {lo hi : Int} (h : whole d lo hi = true) : ∃ i, d = .int i ∧ lo ≤ i ∧ i ≤ hi := by
  cases d <;> simp [whole] at h
  exact ⟨_, rfl, h.1, h.2⟩
def sp_is_whole (K : PySem.W.Frag) (mg : Str → Option Value) : Sp := fun vs H Q _ => ∃ (v : V) (d : PyData) (lo hi : Int), vs = [v, .int lo, .int hi] ∧ Dp K H v d ∧ Q (.bl (whole d lo hi)) H
theorem len_is_whole : ∀ vs H Q E, sp_is_whole K mg vs H Q E → vs.length = 3 := fun _ _ _ _ ⟨_, _, _, _, e, _⟩ => by subst e; rfl
def t_is_whole (P : PySem.Program) (w : PySem.World) (K : PySem.W.Frag) (mg : PySem.Str → Option PySem.Value) (E : XK) : TS :=
  (tRet (tAndV (tCB (rIsi K) (tCons (tVar 0) (tCons (tC (.ty "int")) tNil))) (tAndV (tNotV (tCB (rIsi K) (tCons (tVar 0) (tCons (tC (.ty "bool")) tNil)))) (tChain rLeI rLeI (tVar 1) (tVar 0) (tVar 2)))))

theorem pure_is_whole : ∀ (vs : List V) (H : Hp) (Q : VK) (E : XK), sp_is_whole K mg vs H Q E → t_is_whole P w K mg E { nx := fun _ H' => Q .non H', rt := Q } (start ["value", "low", "high"] vs) H := by
  rintro vs H Q E ⟨v, d, lo, hi, rfl, hd, q⟩
  show t_is_whole P w K mg E _ [some v, some (.int lo), some (.int hi)] H
  unfold t_is_whole
  walk_at "st"
  refine k_isi hd (kit_int d) ?_
  walk_at "st"
  cases d with
  | none => exact k_iteF q
  | str _ => exact k_iteF q
  | list _ => exact k_iteF q
  | tuple _ => exact k_iteF q
  | dict _ => exact k_iteF q
  | bool b =>
    refine k_iteT ?_
    walk_at "st"
    refine k_isi hd (kit_bool _) ?_
    walk_at "st"
    exact k_iteF q
  | int i =>
    refine k_iteT ?_
    walk_at "st"
    refine k_isi hd (kit_bool _) ?_
    walk_at "st"
    refine k_iteT ?_
    cases hd
    walk_at "st"
    have e : whole (.int i) lo hi = (decide (lo ≤ i) && decide (i ≤ hi)) := rfl
    rw [e] at q
    refine k_iteB (fun h => ?_) fun h => ?_
    · walk_at "st"
      rw [h] at q
      exact q
    · rw [h] at q
      exact q
def sp_need_count (K : PySem.W.Frag) (mg : Str → Option Value) : Sp := fun vs H Q E => ∃ (v : V) (d : PyData) (lo hi : Int), vs = [v, .int lo, .int hi] ∧ Dp K H v d ∧ (whole d lo hi = true → Q .non H) ∧ (whole d lo hi = false → E (cE mg "InvalidCount") none H)
theorem len_need_count : ∀ vs H Q E, sp_need_count K mg vs H Q E → vs.length = 3 := fun _ _ _ _ ⟨_, _, _, _, e, _⟩ => by subst e; rfl
def t_need_count (P : PySem.Program) (w : PySem.World) (K : PySem.W.Frag) (mg : PySem.Str → Option PySem.Value) (E : XK) : TS :=
  (tIfS (tNot (tB (tCall (sp_is_whole K mg) [] E (tCons (tVar 0) (tCons (tVar 1) (tCons (tVar 2) tNil))))))
  (tRaise E (cE mg "InvalidCount"))
  tNext)

theorem pure_need_count : ∀ (vs : List V) (H : Hp) (Q : VK) (E : XK), sp_need_count K mg vs H Q E → t_need_count P w K mg E { nx := fun _ H' => Q .non H', rt := Q } (start ["value", "low", "high"] vs) H := by
  rintro vs H Q E ⟨v, d, lo, hi, rfl, hd, q1, q2⟩
  show t_need_count P w K mg E _ [some v, some (.int lo), some (.int hi)] H
  unfold t_need_count
  walk_at "st"
  refine ⟨v, d, lo, hi, rfl, hd, ?_⟩
  walk_at "st"
  cases e : whole d lo hi
  · exact k_iteT (q2 e)
  · exact k_iteF (q1 e)
def sp_need_rule (K : PySem.W.Frag) (mg : Str → Option Value) : Sp := fun vs H Q E => ∃ (v : V) (d : PyData), vs = [v] ∧ Dp K H v d ∧ (whole d 1 10 = true → Q .non H) ∧ (whole d 1 10 = false → E (cE mg "InvalidRule") none H)
theorem len_need_rule : ∀ vs H Q E, sp_need_rule K mg vs H Q E → vs.length = 1 := fun _ _ _ _ ⟨_, _, e, _⟩ => by subst e; rfl
def t_need_rule (P : PySem.Program) (w : PySem.World) (K : PySem.W.Frag) (mg : PySem.Str → Option PySem.Value) (E : XK) : TS :=
  (tIfS (tNot (tB (tCall (sp_is_whole K mg) [] E (tCons (tVar 0) (tCons (tC (.int 1)) (tCons (tC (.int 10)) tNil))))))
  (tRaise E (cE mg "InvalidRule"))
  tNext)

theorem pure_need_rule : ∀ (vs : List V) (H : Hp) (Q : VK) (E : XK), sp_need_rule K mg vs H Q E → t_need_rule P w K mg E { nx := fun _ H' => Q .non H', rt := Q } (start ["t"] vs) H := by
  rintro vs H Q E ⟨v, d, rfl, hd, q1, q2⟩
  show t_need_rule P w K mg E _ [some v] H
  unfold t_need_rule
  walk_at "st"
  refine ⟨v, d, _, _, rfl, hd, ?_⟩
  walk_at "st"
  cases e : whole d 1 10
  · exact k_iteT (q2 e)
  · exact k_iteF (q1 e)
def sp_need_heap (K : PySem.W.Frag) (mg : Str → Option Value) : Sp := fun vs H Q E => ∃ (v : V) (d : PyData), vs = [v] ∧ Dp K H v d ∧ (whole d 0 1000000000 = true → Q .non H) ∧ (whole d 0 1000000000 = false → E (cE mg "InvalidHeap") none H)
theorem len_need_heap : ∀ vs H Q E, sp_need_heap K mg vs H Q E → vs.length = 1 := fun _ _ _ _ ⟨_, _, e, _⟩ => by subst e; rfl
def t_need_heap (P : PySem.Program) (w : PySem.World) (K : PySem.W.Frag) (mg : PySem.Str → Option PySem.Value) (E : XK) : TS :=
  (tIfS (tNot (tB (tCall (sp_is_whole K mg) [] E (tCons (tVar 0) (tCons (tC (.int 0)) (tCons (tOp rPowI (tC (.int 10)) (tC (.int 9))) tNil))))))
  (tRaise E (cE mg "InvalidHeap"))
  tNext)

theorem pure_need_heap : ∀ (vs : List V) (H : Hp) (Q : VK) (E : XK), sp_need_heap K mg vs H Q E → t_need_heap P w K mg E { nx := fun _ H' => Q .non H', rt := Q } (start ["value"] vs) H := by
  rintro vs H Q E ⟨v, d, rfl, hd, q1, q2⟩
  show t_need_heap P w K mg E _ [some v] H
  unfold t_need_heap
  walk_at "st"
  refine ⟨v, d, _, _, rfl, hd, ?_⟩
  walk_at "st"
  cases e : whole d 0 1000000000
  · exact k_iteT (q2 e)
  · exact k_iteF (q1 e)

/-! ### root_of -/
def sp_root_of (K : PySem.W.Frag) (mg : Str → Option Value) : Sp := fun vs H Q _ => ∃ n : Int, vs = [.int n] ∧ 0 ≤ n ∧ n < 2 ^ 2000 ∧ Q (.int (sq n)) H
theorem len_root_of : ∀ vs H Q E, sp_root_of K mg vs H Q E → vs.length = 1 := fun _ _ _ _ ⟨_, e, _⟩ => by subst e; rfl
def t_root_of (P : PySem.Program) (w : PySem.World) (K : PySem.W.Frag) (mg : PySem.Str → Option PySem.Value) (E : XK) : TS :=
  (tSeq (tIfS (tTest (tOp rLtI (tVar 0) (tC (.int 2))))
  (tRet (tVar 0))
  tNext)
  (tSeq (tAsg (tVar 0) (gName 1))
  (tSeq (tWhile (tTest (tOp rGtI (tOp rMulW (tVar 1) (tVar 1)) (tVar 0)))
  (tAsg (tOp rDivW (tOp rAddI (tVar 1) (tOp rDivW (tVar 0) (tVar 1))) (tC (.int 2))) (gName 1)))
  (tRet (tVar 1)))))

theorem nat_lt_pow {i : Int} {k : Nat} (h0 : 0 ≤ i) (h : i < 2 ^ k) : i.natAbs < 2 ^ k := by
  have e : ((i.natAbs : Nat) : Int) = i := Int.natAbs_of_nonneg h0
  have : ((i.natAbs : Nat) : Int) < ((2 ^ k : Nat) : Int) := by rw [e, Int.natCast_pow]; exact h
  exact Int.ofNat_lt.mp this
theorem pure_root_of : ∀ (vs : List V) (H : Hp) (Q : VK) (E : XK), sp_root_of K mg vs H Q E → t_root_of P w K mg E { nx := fun _ H' => Q .non H', rt := Q } (start ["number", "found"] vs) H := by
  rintro vs H Q E ⟨n, rfl, h0, hn, q⟩
  show t_root_of P w K mg E _ [some (.int n), none] H
  unfold t_root_of
  walk_at "st"
  refine k_ite (fun h => ?_) fun h => ?_
  · walk_at "st"
    have e : sq n = n := by
      rcases Int.lt_or_eq_of_le h0 with z | z
      · have : n = 1 := by omega
        subst this; decide
      · subst z; decide
    rw [e] at q
    exact q
  · walk_at "st"
    refine ⟨fun m σ H' => ∃ f : Int, σ = [some (.int n), some (.int f)] ∧ H' = H ∧ 1 ≤ f ∧ f ≤ n ∧ n < (f + 1) * (f + 1) ∧ m = f.toNat, ⟨_, n, rfl, rfl, by omega, by omega, by
      have : n + 1 ≤ (n + 1) * (n + 1) := by
        have : (n + 1) * 1 ≤ (n + 1) * (n + 1) := Int.mul_le_mul_of_nonneg_left (by omega) (by omega)
        omega
      omega, rfl⟩, ?_⟩
    rintro m σ H' ⟨f, rfl, rfl, f1, f2, f3, rfl⟩
    have fb : f.natAbs < 2 ^ 2000 := nat_lt_pow (by omega) (by omega)
    walk_at "st"
    refine k_I (wide_mul (a := 2000) (b := 2000) fb fb (by decide) (by decide) (by decide)) ?_
    walk_at "st"
    refine k_ite (fun h2 => ?_) fun h2 => ?_
    · refine ⟨_, fun σ' H' z => z, ?_⟩
      walk_at "st"
      refine k_I (wide_div (b := 2000) (by omega) fb (by decide) (by decide)) ?_
      walk_at "st"
      obtain ⟨s1, s2, s3⟩ := root_step f1 f3 h2 (by omega)
      exact ⟨_, by omega, _, rfl, rfl, s1, by omega, s3, rfl⟩
    · walk_at "st"
      rw [sq_uniq (r := f) (by omega) (by omega) f3] at q
      exact q
end Fl
namespace Fl
open PySem L2 PySem.Spec PyProof.Rows
local macro_rules | `(tactic| walk_at "sc") => `(tactic| first
  | exact cm_l (by omega) (by omega) | exact cm_r (by omega) (by omega)
  | exact wide_div (b := 250) (by omega) (by omega) (by decide) (by decide)
  | omega | exact cpow (by omega) (by omega) (by omega))
local macro_rules | `(tactic| walk_at "st1") => `(tactic| with_reducible first
  | apply k_seq | apply k_next | apply k_asg | apply k_ret | apply k_drop | apply k_ifS | apply k_par | apply k_par2 | apply k_par3 | apply k_par33
  | (refine k_var rfl ?_) | apply k_c | apply k_op | apply k_un | apply k_I0 | apply k_p18 | apply k_p15 | apply k_p12 | apply k_p9 | apply k_p7 | apply k_p6 | apply k_p5
  | (refine k_I ?_ ?_; (focus walk_at "sc")) | apply k_U
  | apply k_eqI | apply k_neI | apply k_eqB | apply k_neB | apply k_isN | apply k_ntN
  | apply k_test | apply k_tB | apply k_bl | apply k_and | apply k_or | apply k_not | apply k_andV | apply k_orV | apply k_notV | apply k_if | apply k_chain
  | apply k_cb | apply k_call | apply k_nil | apply k_cons | apply k_tup | apply k_lst | apply k_abs | apply k_max2 | apply k_min2 | apply k_iteT | apply k_iteF
  | apply k_n0 | apply k_n1 | apply k_n2 | apply k_n3 | apply k_n4 | apply k_n5 | apply k_n6 | apply k_n7 | apply k_n8 | apply k_n9 | apply k_n10 | apply k_n11)
local macro_rules | `(tactic| walk_at "st") => `(tactic| repeat walk_at "st1")
variable {P : Program} {w : World} {K : PySem.W.Frag} {mg : Str → Option Value}
theorem tt_small {t : Int} (h1 : 1 ≤ t) (h2 : t ≤ 10) : 1 ≤ t * t ∧ t * t ≤ 100 := by
  have a : 1 * 1 ≤ t * t := Int.mul_le_mul h1 h1 (by decide) (by omega)
  have b : t * t ≤ 10 * 10 := Int.mul_le_mul h2 h2 (by omega) (by decide)
  omega
theorem nn_small {n B : Int} (h1 : 0 ≤ n) (h2 : n ≤ B) : 0 ≤ n * n ∧ n * n ≤ B * B := ⟨Int.mul_nonneg h1 h1, Int.mul_le_mul h2 h2 h1 (by omega)⟩
def sp_less_heap (K : PySem.W.Frag) (mg : Str → Option Value) : Sp := fun vs H Q _ => ∃ t n : Int, vs = [.int t, .int n] ∧ 1 ≤ t ∧ t ≤ 10 ∧ 0 ≤ n ∧ n ≤ 4000000000 ∧ Q (.int (lh t n)) H
theorem len_less_heap : ∀ vs H Q E, sp_less_heap K mg vs H Q E → vs.length = 2 := fun _ _ _ _ ⟨_, _, e, _⟩ => by subst e; rfl
def t_less_heap (P : PySem.Program) (w : PySem.World) (K : PySem.W.Frag) (mg : PySem.Str → Option PySem.Value) (E : XK) : TS :=
  (tRet (tOp rDivW (tOp rAddI (tOp rMulI (tVar 1) (tOp rSubI (tC (.int 2)) (tVar 0))) (tCall (sp_root_of K mg) [] E (tCons (tOp rMulI (tOp rMulI (tVar 1) (tVar 1)) (tOp rAddI (tOp rMulI (tVar 0) (tVar 0)) (tC (.int 4)))) tNil))) (tC (.int 2))))

theorem pure_less_heap : ∀ (vs : List V) (H : Hp) (Q : VK) (E : XK), sp_less_heap K mg vs H Q E → t_less_heap P w K mg E { nx := fun _ H' => Q .non H', rt := Q } (start ["t", "n"] vs) H := by
  rintro vs H Q E ⟨t, n, rfl, t1, t2, n1, n2, q⟩
  show t_less_heap P w K mg E _ [some (.int t), some (.int n)] H
  unfold t_less_heap
  have tt := tt_small t1 t2
  have nn := nn_small n1 n2
  walk_at "st"
  have b0 : 0 ≤ n * n * (t * t + 4) := Int.mul_nonneg nn.1 (by omega)
  have b1 : n * n * (t * t + 4) ≤ 16000000000000000000 * 104 := Int.mul_le_mul (by omega) (by omega) (by omega) (by decide)
  refine ⟨_, rfl, b0, by omega, ?_⟩
  walk_at "st"
  exact q
def sp_lost_position (K : PySem.W.Frag) (mg : Str → Option Value) : Sp := fun vs H Q E => ∃ (v1 v2 : V) (d1 d2 : PyData), vs = [v1, v2] ∧ Dp K H v1 d1 ∧ Dp K H v2 d2 ∧
  (whole d1 1 10 = false → E (cE mg "InvalidRule") none H) ∧ (whole d1 1 10 = true → whole d2 0 1000000000 = false → E (cE mg "InvalidCount") none H) ∧
  (∀ t n, d1 = .int t → d2 = .int n → 1 ≤ t → t ≤ 10 → 0 ≤ n → n ≤ 1000000000 → ∀ p, H p = none → Q (.ref p) (upd H p (.tup [.int (lh t n), .int (gh t n)])))
theorem len_lost_position : ∀ vs H Q E, sp_lost_position K mg vs H Q E → vs.length = 2 := fun _ _ _ _ ⟨_, _, _, _, e, _⟩ => by subst e; rfl
def t_lost_position (P : PySem.Program) (w : PySem.World) (K : PySem.W.Frag) (mg : PySem.Str → Option PySem.Value) (E : XK) : TS :=
  (tSeq (tDrop (tCall (sp_need_rule K mg) [] E (tCons (tVar 0) tNil)))
  (tSeq (tDrop (tCall (sp_need_count K mg) [] E (tCons (tVar 1) (tCons (tC (.int 0)) (tCons (tOp rPowI (tC (.int 10)) (tC (.int 9))) tNil)))))
  (tRet (tTup (tCons (tCall (sp_less_heap K mg) [] E (tCons (tVar 0) (tCons (tVar 1) tNil))) (tCons (tOp rAddI (tCall (sp_less_heap K mg) [] E (tCons (tVar 0) (tCons (tVar 1) tNil))) (tOp rMulI (tVar 0) (tVar 1))) tNil))))))

theorem pure_lost_position : ∀ (vs : List V) (H : Hp) (Q : VK) (E : XK), sp_lost_position K mg vs H Q E → t_lost_position P w K mg E { nx := fun _ H' => Q .non H', rt := Q } (start ["t", "n"] vs) H := by
  rintro vs H Q E ⟨v1, v2, d1, d2, rfl, h1, h2, e1, e2, q⟩
  show t_lost_position P w K mg E _ [some v1, some v2] H
  unfold t_lost_position
  walk_at "st"
  refine ⟨v1, d1, rfl, h1, fun w1 => ?_, fun w1 => e1 w1⟩
  walk_at "st"
  refine ⟨v2, d2, _, _, rfl, h2, fun w2 => ?_, fun w2 => e2 w1 w2⟩
  obtain ⟨t, rfl, t1, t2⟩ := whole_is w1
  obtain ⟨n, rfl, n1, n2⟩ := whole_is w2
  cases h1
  cases h2
  walk_at "st"
  refine ⟨t, n, rfl, t1, t2, n1, by omega, ?_⟩
  walk_at "st"
  refine ⟨t, n, rfl, t1, t2, n1, by omega, ?_⟩
  walk_at "st"
  exact ⟨by show 2 ≤ sizeLine; decide, fun p hp => q t n rfl rfl t1 t2 n1 n2 p hp⟩
def sp_first_from (K : PySem.W.Frag) (mg : Str → Option Value) : Sp := fun vs H Q _ => ∃ t s : Int, vs = [.int t, .int s] ∧ 1 ≤ t ∧ t ≤ 10 ∧ 0 ≤ s ∧ s ≤ 1000000000 ∧ ∀ n, FirstL t s n → Q (.int n) H
theorem len_first_from : ∀ vs H Q E, sp_first_from K mg vs H Q E → vs.length = 2 := fun _ _ _ _ ⟨_, _, e, _⟩ => by subst e; rfl
def t_first_from (P : PySem.Program) (w : PySem.World) (K : PySem.W.Frag) (mg : PySem.Str → Option PySem.Value) (E : XK) : TS :=
  (tSeq (tPar 2 3 (tCons (tC (.int 0)) (tCons (tVar 1) tNil)))
  (tSeq (tWhile (tTest (tOp rLtI (tVar 2) (tVar 3)))
  (tSeq (tAsg (tOp rDivW (tOp rAddI (tVar 2) (tVar 3)) (tC (.int 2))) (gName 4))
  (tIfS (tTest (tOp rLtI (tCall (sp_less_heap K mg) [] E (tCons (tVar 0) (tCons (tVar 4) tNil))) (tVar 1)))
  (tAsg (tOp rAddI (tVar 4) (tC (.int 1))) (gName 2))
  (tAsg (tVar 4) (gName 3)))))
  (tRet (tVar 2))))

theorem pure_first_from : ∀ (vs : List V) (H : Hp) (Q : VK) (E : XK), sp_first_from K mg vs H Q E → t_first_from P w K mg E { nx := fun _ H' => Q .non H', rt := Q } (start ["t", "size", "low", "high", "middle"] vs) H := by
  rintro vs H Q E ⟨t, s, rfl, t1, t2, s1, s2, q⟩
  show t_first_from P w K mg E _ [some (.int t), some (.int s), none, none, none] H
  unfold t_first_from
  walk_at "st"
  refine ⟨fun m σ H' => ∃ (lo hi : Int) (z : Option V), σ = [some (.int t), some (.int s), some (.int lo), some (.int hi), z] ∧ H' = H ∧ 0 ≤ lo ∧ lo ≤ hi ∧ hi ≤ s ∧ s ≤ lh t hi ∧ (∀ m, 0 ≤ m → m < lo → lh t m < s) ∧ m = (hi - lo).toNat,
    ⟨_, 0, s, none, rfl, rfl, by omega, by omega, by omega, lh_ge t1 s1, fun m a b => by omega, rfl⟩, ?_⟩
  rintro m σ H' ⟨lo, hi, z, rfl, rfl, l0, l1, l2, l3, l4, rfl⟩
  walk_at "st"
  refine k_ite (fun h => ?_) fun h => ?_
  · refine ⟨_, fun σ' H' z => z, ?_⟩
    walk_at "st"
    have m1 : lo ≤ (lo + hi) / 2 := by omega
    have m2 : (lo + hi) / 2 < hi := by omega
    generalize (lo + hi) / 2 = mid at *
    refine ⟨t, mid, rfl, t1, t2, by omega, by omega, ?_⟩
    walk_at "st"
    refine k_ite (fun h2 => ?_) fun h2 => ?_
    · walk_at "st"
      refine ⟨_, by omega, mid + 1, hi, _, rfl, rfl, by omega, by omega, l2, l3, fun k a b => ?_, rfl⟩
      have := lh_mono t1 a (show k ≤ mid by omega)
      omega
    · walk_at "st"
      exact ⟨_, by omega, lo, mid, _, rfl, rfl, l0, by omega, by omega, by omega, l4, rfl⟩
  · walk_at "st"
    have e : lo = hi := by omega
    subst e
    exact q lo ⟨l0, l2, l3, l4⟩
def sp_first_with (K : PySem.W.Frag) (mg : Str → Option Value) : Sp := fun vs H Q _ => ∃ t s : Int, vs = [.int t, .int s] ∧ 1 ≤ t ∧ t ≤ 10 ∧ 0 ≤ s ∧ s ≤ 1000000000 ∧ ∀ n, FirstG t s n → Q (.int (lh t n)) H
theorem len_first_with : ∀ vs H Q E, sp_first_with K mg vs H Q E → vs.length = 2 := fun _ _ _ _ ⟨_, _, e, _⟩ => by subst e; rfl
def t_first_with (P : PySem.Program) (w : PySem.World) (K : PySem.W.Frag) (mg : PySem.Str → Option PySem.Value) (E : XK) : TS :=
  (tSeq (tPar 2 3 (tCons (tC (.int 0)) (tCons (tVar 1) tNil)))
  (tSeq (tWhile (tTest (tOp rLtI (tVar 2) (tVar 3)))
  (tSeq (tAsg (tOp rDivW (tOp rAddI (tVar 2) (tVar 3)) (tC (.int 2))) (gName 4))
  (tIfS (tTest (tOp rLtI (tOp rAddI (tCall (sp_less_heap K mg) [] E (tCons (tVar 0) (tCons (tVar 4) tNil))) (tOp rMulI (tVar 0) (tVar 4))) (tVar 1)))
  (tAsg (tOp rAddI (tVar 4) (tC (.int 1))) (gName 2))
  (tAsg (tVar 4) (gName 3)))))
  (tRet (tCall (sp_less_heap K mg) [] E (tCons (tVar 0) (tCons (tVar 2) tNil))))))

theorem pure_first_with : ∀ (vs : List V) (H : Hp) (Q : VK) (E : XK), sp_first_with K mg vs H Q E → t_first_with P w K mg E { nx := fun _ H' => Q .non H', rt := Q } (start ["t", "size", "low", "high", "middle"] vs) H := by
  rintro vs H Q E ⟨t, s, rfl, t1, t2, s1, s2, q⟩
  show t_first_with P w K mg E _ [some (.int t), some (.int s), none, none, none] H
  unfold t_first_with
  walk_at "st"
  refine ⟨fun m σ H' => ∃ (lo hi : Int) (z : Option V), σ = [some (.int t), some (.int s), some (.int lo), some (.int hi), z] ∧ H' = H ∧ 0 ≤ lo ∧ lo ≤ hi ∧ hi ≤ s ∧ s ≤ gh t hi ∧ (∀ m, 0 ≤ m → m < lo → gh t m < s) ∧ m = (hi - lo).toNat,
    ⟨_, 0, s, none, rfl, rfl, by omega, by omega, by omega, by have := lh_ge t1 s1; have := gh_ge t1 s1; omega, fun m a b => by omega, rfl⟩, ?_⟩
  rintro m σ H' ⟨lo, hi, z, rfl, rfl, l0, l1, l2, l3, l4, rfl⟩
  walk_at "st"
  refine k_ite (fun h => ?_) fun h => ?_
  · refine ⟨_, fun σ' H' z => z, ?_⟩
    walk_at "st"
    have m1 : lo ≤ (lo + hi) / 2 := by omega
    have m2 : (lo + hi) / 2 < hi := by omega
    generalize (lo + hi) / 2 = mid at *
    refine ⟨t, mid, rfl, t1, t2, by omega, by omega, ?_⟩
    walk_at "st"
    have eg : lh t mid + t * mid = gh t mid := rfl
    rw [eg]
    refine k_ite (fun h2 => ?_) fun h2 => ?_
    · walk_at "st"
      refine ⟨_, by omega, mid + 1, hi, _, rfl, rfl, by omega, by omega, l2, l3, fun k a b => ?_, rfl⟩
      rcases Int.lt_or_eq_of_le (show k ≤ mid by omega) with y | y
      · have := gh_lt t1 a y
        omega
      · rw [y]; exact h2
    · walk_at "st"
      exact ⟨_, by omega, lo, mid, _, rfl, rfl, l0, by omega, by omega, by omega, l4, rfl⟩
  · walk_at "st"
    have e : lo = hi := by omega
    subst e
    exact ⟨t, lo, rfl, t1, t2, l0, by omega, q lo ⟨l0, l2, l3, l4⟩⟩
def sp_is_lost_pair (K : PySem.W.Frag) (mg : Str → Option Value) : Sp := fun vs H Q _ => ∃ t i j : Int, vs = [.int t, .int i, .int j] ∧ 1 ≤ t ∧ t ≤ 10 ∧ 0 ≤ i ∧ i ≤ j ∧ j ≤ 1000000000 ∧ ∀ b : Bool, (b = true ↔ Lost t i j) → Q (.bl b) H
theorem len_is_lost_pair : ∀ vs H Q E, sp_is_lost_pair K mg vs H Q E → vs.length = 3 := fun _ _ _ _ ⟨_, _, _, e, _⟩ => by subst e; rfl
def t_is_lost_pair (P : PySem.Program) (w : PySem.World) (K : PySem.W.Frag) (mg : PySem.Str → Option PySem.Value) (E : XK) : TS :=
  (tSeq (tAsg (tCall (sp_first_from K mg) [] E (tCons (tVar 0) (tCons (tVar 1) tNil))) (gName 3))
  (tRet (tAndV (tOp rEq (tCall (sp_less_heap K mg) [] E (tCons (tVar 0) (tCons (tVar 3) tNil))) (tVar 1)) (tOp rEq (tVar 2) (tOp rAddI (tVar 1) (tOp rMulI (tVar 0) (tVar 3)))))))

theorem pure_is_lost_pair : ∀ (vs : List V) (H : Hp) (Q : VK) (E : XK), sp_is_lost_pair K mg vs H Q E → t_is_lost_pair P w K mg E { nx := fun _ H' => Q .non H', rt := Q } (start ["t", "less", "more", "n"] vs) H := by
  rintro vs H Q E ⟨t, i, j, rfl, t1, t2, i1, i2, j2, q⟩
  show t_is_lost_pair P w K mg E _ [some (.int t), some (.int i), some (.int j), none] H
  unfold t_is_lost_pair
  walk_at "st"
  refine ⟨t, i, rfl, t1, t2, i1, by omega, fun n hn => ?_⟩
  have hl := lost_iff t1 hn i2
  have n1 := hn.1
  have n2 := hn.2.1
  walk_at "st"
  refine ⟨t, n, rfl, t1, t2, n1, by omega, ?_⟩
  walk_at "st"
  refine k_ite (fun h => ?_) fun h => ?_
  · walk_at "st"
    refine q _ ?_
    rw [hl, decide_eq_true_iff]
    exact ⟨fun z => ⟨h, z⟩, fun z => z.2⟩
  · refine q false ?_
    rw [hl]
    exact ⟨fun z => Bool.noConfusion z, fun z => absurd z.1 h⟩
/-- three heaps' arguments: rule, size, size -/
def spGame (K : PySem.W.Frag) (mg : Str → Option Value) (more : List V) (R : Int → Int → Int → Hp → VK → Prop) : Sp := fun vs H Q E => ∃ (v1 v2 v3 : V) (d1 d2 d3 : PyData), vs = v1 :: v2 :: v3 :: more ∧ Dp K H v1 d1 ∧ Dp K H v2 d2 ∧ Dp K H v3 d3 ∧
  (whole d1 1 10 = false → E (cE mg "InvalidRule") none H) ∧ (whole d1 1 10 = true → whole d2 0 1000000000 = false → E (cE mg "InvalidHeap") none H) ∧ (whole d1 1 10 = true → whole d2 0 1000000000 = true → whole d3 0 1000000000 = false → E (cE mg "InvalidHeap") none H) ∧
  (∀ t i j, d1 = .int t → d2 = .int i → d3 = .int j → 1 ≤ t → t ≤ 10 → 0 ≤ i → i ≤ 1000000000 → 0 ≤ j → j ≤ 1000000000 → R t i j H Q)
theorem spGame_ok {more : List V} {R : Int → Int → Int → Hp → VK → Prop} {t i j : Int} {H : Hp} {Q : VK} {E : XK} (t1 : 1 ≤ t) (t2 : t ≤ 10) (i1 : 0 ≤ i) (i2 : i ≤ 1000000000) (j1 : 0 ≤ j) (j2 : j ≤ 1000000000) (h : R t i j H Q) :
    spGame K mg more R (.int t :: .int i :: .int j :: more) H Q E :=
  ⟨_, _, _, _, _, _, rfl, .int t, .int i, .int j, fun z => absurd (whole_int t1 t2) (by rw [z]; decide), fun _ z => absurd (whole_int i1 i2) (by rw [z]; decide), fun _ _ z => absurd (whole_int j1 j2) (by rw [z]; decide), fun _ _ _ e1 e2 e3 _ _ _ _ _ _ => by cases e1; cases e2; cases e3; exact h⟩
def sp_is_lost (K : PySem.W.Frag) (mg : Str → Option Value) : Sp := spGame K mg [] fun t i j H Q => ∀ b : Bool, (b = true ↔ Lost t i j) → Q (.bl b) H
theorem len_is_lost : ∀ vs H Q E, sp_is_lost K mg vs H Q E → vs.length = 3 := fun _ _ _ _ ⟨_, _, _, _, _, _, e, _⟩ => by subst e; rfl
def t_is_lost (P : PySem.Program) (w : PySem.World) (K : PySem.W.Frag) (mg : PySem.Str → Option PySem.Value) (E : XK) : TS :=
  (tSeq (tDrop (tCall (sp_need_rule K mg) [] E (tCons (tVar 0) tNil)))
  (tSeq (tDrop (tCall (sp_need_heap K mg) [] E (tCons (tVar 1) tNil)))
  (tSeq (tDrop (tCall (sp_need_heap K mg) [] E (tCons (tVar 2) tNil)))
  (tRet (tCall (sp_is_lost_pair K mg) [] E (tCons (tVar 0) (tCons (tCB rMin2 (tCons (tVar 1) (tCons (tVar 2) tNil))) (tCons (tCB rMax2 (tCons (tVar 1) (tCons (tVar 2) tNil))) tNil))))))))

theorem lost_mm {t i j : Int} : Lost t (if j < i then j else i) (if j > i then j else i) ↔ Lost t i j := by
  rcases Int.lt_or_le j i with z | z
  · rw [if_pos z, if_neg (by omega)]
    exact ⟨fun h => h.symm, fun h => h.symm⟩
  · rw [if_neg (by omega)]
    split
    · exact Iff.rfl
    · have : i = j := by omega
      subst this
      exact Iff.rfl
theorem pure_is_lost : ∀ (vs : List V) (H : Hp) (Q : VK) (E : XK), sp_is_lost K mg vs H Q E → t_is_lost P w K mg E { nx := fun _ H' => Q .non H', rt := Q } (start ["t", "one", "other"] vs) H := by
  rintro vs H Q E ⟨v1, v2, v3, d1, d2, d3, rfl, h1, h2, h3, e1, e2, e3, q⟩
  show t_is_lost P w K mg E _ [some v1, some v2, some v3] H
  unfold t_is_lost
  walk_at "st"
  refine ⟨v1, d1, rfl, h1, fun w1 => ?_, fun w1 => e1 w1⟩
  walk_at "st"
  refine ⟨v2, d2, rfl, h2, fun w2 => ?_, fun w2 => e2 w1 w2⟩
  walk_at "st"
  refine ⟨v3, d3, rfl, h3, fun w3 => ?_, fun w3 => e3 w1 w2 w3⟩
  obtain ⟨t, rfl, t1, t2⟩ := whole_is w1
  obtain ⟨i, rfl, i1, i2⟩ := whole_is w2
  obtain ⟨j, rfl, j1, j2⟩ := whole_is w3
  cases h1
  cases h2
  cases h3
  walk_at "st"
  refine ⟨t, _, _, rfl, t1, t2, by split <;> omega, by split <;> split <;> omega, by split <;> omega, fun b hb => ?_⟩
  exact q t i j rfl rfl rfl t1 t2 i1 i2 j1 j2 b (hb.trans lost_mm)
/-- a lost position to which a move leads -/
def sp_answer (K : PySem.W.Frag) (mg : Str → Option Value) : Sp := fun vs H Q _ => ∃ t i j : Int, vs = [.int t, .int i, .int j] ∧ 1 ≤ t ∧ t ≤ 10 ∧ 0 ≤ i ∧ i ≤ j ∧ j ≤ 1000000000 ∧ ¬ Lost t i j ∧
  ∀ k l, Lost t k l → Move t i j k l → 0 ≤ k → 0 ≤ l → ∀ p, H p = none → Q (.ref p) (upd H p (.tup [.int k, .int l]))
theorem len_answer : ∀ vs H Q E, sp_answer K mg vs H Q E → vs.length = 3 := fun _ _ _ _ ⟨_, _, _, e, _⟩ => by subst e; rfl
def t_answer (P : PySem.Program) (w : PySem.World) (K : PySem.W.Frag) (mg : PySem.Str → Option PySem.Value) (E : XK) : TS :=
  (tSeq (tAsg (tCall (sp_first_from K mg) [] E (tCons (tVar 0) (tCons (tVar 1) tNil))) (gName 3))
  (tSeq (tIfS (tTest (tOp rNe (tCall (sp_less_heap K mg) [] E (tCons (tVar 0) (tCons (tVar 3) tNil))) (tVar 1)))
  (tRet (tTup (tCons (tVar 1) (tCons (tCall (sp_first_with K mg) [] E (tCons (tVar 0) (tCons (tVar 1) tNil))) tNil))))
  tNext)
  (tSeq (tIfS (tTest (tOp rGtI (tVar 2) (tOp rAddI (tVar 1) (tOp rMulI (tVar 0) (tVar 3)))))
  (tRet (tTup (tCons (tVar 1) (tCons (tOp rAddI (tVar 1) (tOp rMulI (tVar 0) (tVar 3))) tNil))))
  tNext)
  (tSeq (tAsg (tOp rDivW (tOp rSubI (tVar 2) (tVar 1)) (tVar 0)) (gName 4))
  (tRet (tTup (tCons (tCall (sp_less_heap K mg) [] E (tCons (tVar 0) (tCons (tVar 4) tNil))) (tCons (tOp rAddI (tCall (sp_less_heap K mg) [] E (tCons (tVar 0) (tCons (tVar 4) tNil))) (tOp rMulI (tVar 0) (tVar 4))) tNil))))))))

theorem pure_answer : ∀ (vs : List V) (H : Hp) (Q : VK) (E : XK), sp_answer K mg vs H Q E → t_answer P w K mg E { nx := fun _ H' => Q .non H', rt := Q } (start ["t", "less", "more", "n", "m"] vs) H := by
  rintro vs H Q E ⟨t, i, j, rfl, t1, t2, i1, i2, j2, nl, q⟩
  show t_answer P w K mg E _ [some (.int t), some (.int i), some (.int j), none, none] H
  unfold t_answer
  walk_at "st"
  refine ⟨t, i, rfl, t1, t2, i1, by omega, fun n hn => ?_⟩
  have hl := lost_iff t1 hn i2
  have n1 := hn.1
  have n2 := hn.2.1
  walk_at "st"
  refine ⟨t, n, rfl, t1, t2, n1, by omega, ?_⟩
  walk_at "st"
  refine k_iteN (fun h => ?_) fun h => ?_
  · walk_at "st"
    refine ⟨t, i, rfl, t1, t2, i1, by omega, fun m hm => ?_⟩
    obtain ⟨g1, g2, g3⟩ := firstG_is t1 hn h hm
    walk_at "st"
    have l0 := lh_ge t1 hm.1
    exact ⟨by show 2 ≤ sizeLine; decide, fun p hp => q i (lh t m) ⟨m, hm.1, .inr ⟨g1.symm, rfl⟩⟩ (by unfold Move; omega) i1 (by omega) p hp⟩
  · walk_at "st"
    refine k_ite (fun h2 => ?_) fun h2 => ?_
    · walk_at "st"
      refine ⟨by show 2 ≤ sizeLine; decide, fun p hp => q i (i + t * n) ⟨n, n1, .inl ⟨h.symm, by unfold gh; omega⟩⟩ (by unfold Move; omega) i1 ?_ p hp⟩
      have := Int.mul_nonneg (show 0 ≤ t by omega) n1
      omega
    · have ne : j ≠ i + t * n := fun e => nl (hl.mpr ⟨h, e⟩)
      obtain ⟨m0, m1, m2⟩ := answer3 t1 hn h i2 (by omega)
      walk_at "st"
      have ml : (j - i) / t ≤ 1000000000 := by
        have := lh_ge t1 m0
        omega
      generalize (j - i) / t = m at *
      refine ⟨t, m, rfl, t1, t2, m0, by omega, ?_⟩
      walk_at "st"
      refine ⟨t, m, rfl, t1, t2, m0, by omega, ?_⟩
      walk_at "st"
      have l0 := lh_ge t1 m0
      have l1 := gh_ge t1 m0
      exact ⟨by show 2 ≤ sizeLine; decide, fun p hp => q (lh t m) (gh t m) ⟨m, m0, .inl ⟨rfl, rfl⟩⟩ m2 (by omega) (by omega) p hp⟩
end Fl
namespace Fl
open PySem L2 PySem.Spec PyProof.Rows
local macro_rules | `(tactic| walk_at "sc") => `(tactic| first
  | exact cm_l (by omega) (by omega) | exact cm_r (by omega) (by omega)
  | exact wide_div (b := 250) (by omega) (by omega) (by decide) (by decide)
  | omega | exact cpow (by omega) (by omega) (by omega))
local macro_rules | `(tactic| walk_at "st1") => `(tactic| with_reducible first
  | apply k_seq | apply k_next | apply k_asg | apply k_ret | apply k_drop | apply k_ifS | apply k_par | apply k_par2 | apply k_par3 | apply k_par33
  | (refine k_var rfl ?_) | apply k_c | apply k_op | apply k_un | apply k_I0 | apply k_p18 | apply k_p15 | apply k_p12 | apply k_p9 | apply k_p7 | apply k_p6 | apply k_p5
  | (refine k_I ?_ ?_; (focus walk_at "sc")) | apply k_U
  | apply k_eqI | apply k_neI | apply k_eqB | apply k_neB | apply k_isN | apply k_ntN
  | apply k_test | apply k_tB | apply k_bl | apply k_and | apply k_or | apply k_not | apply k_andV | apply k_orV | apply k_notV | apply k_if | apply k_chain
  | apply k_cb | apply k_call | apply k_nil | apply k_cons | apply k_tup | apply k_lst | apply k_abs | apply k_max2 | apply k_min2 | apply k_iteT | apply k_iteF | apply k_yes | apply k_lc | apply k_for | apply k_rng1 | apply k_rng2 | apply k_iList | apply k_iTup | apply k_bm
  | apply k_n0 | apply k_n1 | apply k_n2 | apply k_n3 | apply k_n4 | apply k_n5 | apply k_n6 | apply k_n7 | apply k_n8 | apply k_n9 | apply k_n10 | apply k_n11)
local macro_rules | `(tactic| walk_at "st") => `(tactic| repeat walk_at "st1")
variable {P : Program} {w : World} {K : PySem.W.Frag} {mg : Str → Option Value}

/-! ### winning_move, is_move -/
def sp_winning_move (K : PySem.W.Frag) (mg : Str → Option Value) : Sp := spGame K mg [] fun t i j H Q => (Lost t i j → Q .non H) ∧
  (¬ Lost t i j → ∀ k l, Lost t k l → Move t i j k l → 0 ≤ k → 0 ≤ l → ∀ H' p, Same H H' → H' p = some (.tup [.int k, .int l]) → Q (.ref p) H')
theorem len_winning_move : ∀ vs H Q E, sp_winning_move K mg vs H Q E → vs.length = 3 := fun _ _ _ _ ⟨_, _, _, _, _, _, e, _⟩ => by subst e; rfl
def t_winning_move (P : PySem.Program) (w : PySem.World) (K : PySem.W.Frag) (mg : PySem.Str → Option PySem.Value) (E : XK) : TS :=
  (tSeq (tDrop (tCall (sp_need_rule K mg) [] E (tCons (tVar 0) tNil)))
  (tSeq (tDrop (tCall (sp_need_heap K mg) [] E (tCons (tVar 1) tNil)))
  (tSeq (tDrop (tCall (sp_need_heap K mg) [] E (tCons (tVar 2) tNil)))
  (tSeq (tPar 3 4 (tCons (tCB rMin2 (tCons (tVar 1) (tCons (tVar 2) tNil))) (tCons (tCB rMax2 (tCons (tVar 1) (tCons (tVar 2) tNil))) tNil)))
  (tSeq (tIfS (tB (tCall (sp_is_lost_pair K mg) [] E (tCons (tVar 0) (tCons (tVar 3) (tCons (tVar 4) tNil)))))
  (tRet (tC .non))
  tNext)
  (tSeq (tAsg (tCall (sp_answer K mg) [] E (tCons (tVar 0) (tCons (tVar 3) (tCons (tVar 4) tNil)))) (gTup K 2 (gCons (gName 5) (gCons (gName 6) gNil))))
  (tRet (tIf (tTest (tOp rLeI (tVar 1) (tVar 2))) (tTup (tCons (tVar 5) (tCons (tVar 6) tNil))) (tTup (tCons (tVar 6) (tCons (tVar 5) tNil)))))))))))

theorem move_mm {t i j k l : Int} (h : Move t (if j < i then j else i) (if j > i then j else i) k l) : (i ≤ j → Move t i j k l) ∧ (¬ i ≤ j → Move t i j l k) := by
  rcases Int.lt_or_le j i with z | z
  · rw [if_pos z, if_neg (by omega)] at h
    exact ⟨fun a => by omega, fun _ => h.symm⟩
  · rw [if_neg (by omega)] at h
    refine ⟨fun a => ?_, fun a => absurd z a⟩
    split at h
    · exact h
    · have : i = j := by omega
      subst this
      exact h
theorem pure_winning_move : ∀ (vs : List V) (H : Hp) (Q : VK) (E : XK), sp_winning_move K mg vs H Q E → t_winning_move P w K mg E { nx := fun _ H' => Q .non H', rt := Q } (start ["t", "one", "other", "less", "more", "first", "last"] vs) H := by
  rintro vs H Q E ⟨v1, v2, v3, d1, d2, d3, rfl, h1, h2, h3, e1, e2, e3, q⟩
  show t_winning_move P w K mg E _ [some v1, some v2, some v3, none, none, none, none] H
  unfold t_winning_move
  walk_at "st"
  refine ⟨v1, d1, rfl, h1, fun w1 => ?_, fun w1 => e1 w1⟩
  walk_at "st"
  refine ⟨v2, d2, rfl, h2, fun w2 => ?_, fun w2 => e2 w1 w2⟩
  walk_at "st"
  refine ⟨v3, d3, rfl, h3, fun w3 => ?_, fun w3 => e3 w1 w2 w3⟩
  obtain ⟨t, rfl, t1, t2⟩ := whole_is w1
  obtain ⟨i, rfl, i1, i2⟩ := whole_is w2
  obtain ⟨j, rfl, j1, j2⟩ := whole_is w3
  cases h1
  cases h2
  cases h3
  obtain ⟨q1, q2⟩ := q t i j rfl rfl rfl t1 t2 i1 i2 j1 j2
  walk_at "st"
  refine ⟨t, _, _, rfl, t1, t2, by split <;> omega, by split <;> split <;> omega, by split <;> omega, fun b hb => ?_⟩
  rw [lost_mm] at hb
  walk_at "st"
  refine k_iteB (fun h => ?_) fun h => ?_
  · walk_at "st"
    exact q1 (hb.mp h)
  · have nl : ¬ Lost t i j := fun z => by rw [hb.mpr z] at h; cases h
    walk_at "st"
    refine ⟨t, _, _, rfl, t1, t2, by split <;> omega, by split <;> split <;> omega, by split <;> omega, fun z => nl (lost_mm.mp z), fun k l lk mv k0 l0 p hp => ?_⟩
    obtain ⟨m1, m2⟩ := move_mm mv
    refine k_gtup (tup_of upd_same) rfl (k_gcons ?_)
    walk_at "st"
    refine k_gcons ?_
    walk_at "st"
    refine k_gnil ?_
    walk_at "st"
    refine k_ite (fun h2 => ?_) fun h2 => ?_
    · walk_at "st"
      exact ⟨by show 2 ≤ sizeLine; decide, fun p2 hp2 => q2 nl k l lk (m1 h2) k0 l0 _ p2 ((same_new hp).trans (same_new hp2)) upd_same⟩
    · walk_at "st"
      exact ⟨by show 2 ≤ sizeLine; decide, fun p2 hp2 => q2 nl l k lk.symm (m2 h2) l0 k0 _ p2 ((same_new hp).trans (same_new hp2)) upd_same⟩
instance {t i j k l : Int} : Decidable (Move t i j k l) := by unfold Move; infer_instance
def moveE (t i j : Int) : PyData → PyData → Bool
  | .int k, .int l => decide (Move t i j k l)
  | _, _ => false
def moveD (t i j : Int) : PyData → Bool
  | .tuple [x, y] => whole x 0 1000000000 && (whole y 0 1000000000 && moveE t i j x y)
  | _ => false
theorem moveD_len {t i j : Int} {ds : List PyData} (h : ¬ (ds.length : Int) = 2) : moveD t i j (.tuple ds) = false := by
  match ds, h with
  | [], _ => rfl
  | [_], _ => rfl
  | [_, _], h => exact absurd rfl h
  | _ :: _ :: _ :: _, _ => rfl
def sp_is_move (K : PySem.W.Frag) (mg : Str → Option Value) : Sp := fun vs H Q E => ∃ (t i j : Int) (v : V) (d : PyData), vs = [.int t, .int i, .int j, v] ∧ 1 ≤ t ∧ t ≤ 10 ∧ 0 ≤ i ∧ i ≤ 1000000000 ∧ 0 ≤ j ∧ j ≤ 1000000000 ∧ Dp K H v d ∧ ∀ H', Same H H' → Q (.bl (moveD t i j d)) H'
theorem len_is_move : ∀ vs H Q E, sp_is_move K mg vs H Q E → vs.length = 4 := fun _ _ _ _ ⟨_, _, _, _, _, e, _⟩ => by subst e; rfl
def t_is_move (P : PySem.Program) (w : PySem.World) (K : PySem.W.Frag) (mg : PySem.Str → Option PySem.Value) (E : XK) : TS :=
  (tSeq (tDrop (tCall (sp_need_rule K mg) [] E (tCons (tVar 0) tNil)))
  (tSeq (tDrop (tCall (sp_need_heap K mg) [] E (tCons (tVar 1) tNil)))
  (tSeq (tDrop (tCall (sp_need_heap K mg) [] E (tCons (tVar 2) tNil)))
  (tSeq (tIfS (tOr (tNot (tB (tCB (rIsi K) (tCons (tVar 3) (tCons (tC (.ty "tuple")) tNil))))) (tOr (tTest (tOp rNe (tCB (rLenQ K) (tCons (tVar 3) tNil)) (tC (.int 2)))) (tNot (tB (tCB (rAll K) (tCons (tLc (iTup K (tVar 3)) (gName 6) tYes (tCall (sp_is_whole K mg) [] E0 (tCons (tVar 6) (tCons (tC (.int 0)) (tCons (tOp rPowI (tC (.int 10)) (tC (.int 9))) tNil)))) [6]) tNil))))))
  (tRet (tC (.bl false)))
  tNext)
  (tSeq (tPar 4 5 (tCons (tOp rSubI (tVar 1) (tOp (rIxT K) (tVar 3) (tC (.int 0)))) (tCons (tOp rSubI (tVar 2) (tOp (rIxT K) (tVar 3) (tC (.int 1)))) tNil)))
  (tSeq (tIfS (tOr (tTest (tOp rLtI (tVar 4) (tC (.int 0)))) (tOr (tTest (tOp rLtI (tVar 5) (tC (.int 0)))) (tTest (tOp rEq (tOp rAddI (tVar 4) (tVar 5)) (tC (.int 0))))))
  (tRet (tC (.bl false)))
  tNext)
  (tRet (tOrV (tOp rEq (tVar 4) (tC (.int 0))) (tOrV (tOp rEq (tVar 5) (tC (.int 0))) (tOp rLtI (tCB rAbs (tCons (tOp rSubI (tVar 4) (tVar 5)) tNil)) (tVar 0)))))))))))

theorem pure_is_move : ∀ (vs : List V) (H : Hp) (Q : VK) (E : XK), sp_is_move K mg vs H Q E → t_is_move P w K mg E { nx := fun _ H' => Q .non H', rt := Q } (start ["t", "one", "other", "value", "first", "last", "size"] vs) H := by
  rintro vs H Q E ⟨t, i, j, v, d, rfl, t1, t2, i1, i2, j1, j2, hd, q⟩
  show t_is_move P w K mg E _ [some (.int t), some (.int i), some (.int j), some v, none, none, none] H
  unfold t_is_move
  walk_at "st"
  refine ⟨_, _, rfl, .int t, fun _ => ?_, fun z => absurd (whole_int t1 t2) (by rw [z]; decide)⟩
  walk_at "st"
  refine ⟨_, _, rfl, .int i, fun _ => ?_, fun z => absurd (whole_int i1 i2) (by rw [z]; decide)⟩
  walk_at "st"
  refine ⟨_, _, rfl, .int j, fun _ => ?_, fun z => absurd (whole_int j1 j2) (by rw [z]; decide)⟩
  walk_at "st"
  refine k_isi hd (kit_tup d) ?_
  walk_at "st"
  cases hd with
  | non => exact k_iteT (k_iteT (q _ (Same.refl _)))
  | bl b => exact k_iteT (k_iteT (q _ (Same.refl _)))
  | int z => exact k_iteT (k_iteT (q _ (Same.refl _)))
  | str x => exact k_iteT (k_iteT (q _ (Same.refl _)))
  | lst hs ha => exact k_iteT (k_iteT (q _ (Same.refl _)))
  | @tup a xs ds hs ha =>
    refine k_iteF ?_
    walk_at "st"
    refine k_lenT hs ?_
    walk_at "st"
    refine k_iteN (fun h => ?_) fun h => ?_
    · refine k_iteT ?_
      rw [dpa_len ha] at h
      rw [moveD_len h] at q
      exact q _ (Same.refl _)
    · walk_at "st"
      refine ⟨a, rfl, ⟨xs, hs⟩, fun D hD => lcm_tup (ys := (ds.map fun d => whole d 0 1000000000).map V.bl) hs hD (by simp [dpa_len ha]) (by have := dpa_len ha; simp; omega) (fun n x y hx hy H' R s r => ?_) fun Hf sf hf => ?_⟩
      · show gName 6 x [_, _, _, _, _, _, _] H' _
        walk_at "st"
        refine ⟨rfl, ?_⟩
        walk_at "st"
        obtain ⟨d, hd, pd⟩ := dpa_get ha hx
        refine ⟨x, d, _, _, rfl, same_dp s pd, ?_⟩
        have ey : y = .bl (whole d 0 1000000000) := by
          simp [List.getElem?_map, hd] at hy
          exact hy.symm
        rw [ey] at r
        exact r H' (Same.refl _)
      · walk_at "st"
        refine k_all (lst_of hf) ?_
        walk_at "st"
        obtain ⟨x, y, d1, d2, rfl, rfl, p1, p2⟩ := dpa_two ha (by omega)
        have em : moveD t i j (.tuple [d1, d2]) = (whole d1 0 1000000000 && (whole d2 0 1000000000 && moveE t i j d1 d2)) := rfl
        have ea : ([d1, d2].map fun d => whole d 0 1000000000).all id = (whole d1 0 1000000000 && whole d2 0 1000000000) := by simp
        rw [ea]
        cases e1 : whole d1 0 1000000000
        · rw [e1] at em
          rw [em] at q
          exact k_iteT (q _ sf)
        cases e2 : whole d2 0 1000000000
        · rw [e1, e2] at em
          rw [em] at q
          exact k_iteT (q _ sf)
        rw [e1, e2] at em
        obtain ⟨k, rfl, k1, k2⟩ := whole_is e1
        obtain ⟨l, rfl, l1, l2⟩ := whole_is e2
        have em : moveD t i j (.tuple [.int k, .int l]) = decide (Move t i j k l) := by rw [em]; rfl
        rw [em] at q
        cases p1
        cases p2
        refine k_iteF ?_
        have hs' := same_tup sf hs
        walk_at "st"
        refine k_ixT hs' rfl ?_
        walk_at "st"
        refine k_ixT hs' rfl ?_
        walk_at "st"
        refine k_ite (fun z => ?_) fun z1 => ?_
        · walk_at "st"
          rw [decide_eq_false (by unfold Move; omega)] at q
          exact q _ sf
        walk_at "st"
        refine k_ite (fun z => ?_) fun z2 => ?_
        · walk_at "st"
          rw [decide_eq_false (by unfold Move; omega)] at q
          exact q _ sf
        walk_at "st"
        refine k_ite (fun z => ?_) fun z3 => ?_
        · walk_at "st"
          rw [decide_eq_false (by unfold Move; omega)] at q
          exact q _ sf
        walk_at "st"
        refine k_ite (fun z => ?_) fun z4 => ?_
        · rw [decide_eq_true (by unfold Move; omega)] at q
          exact q _ sf
        walk_at "st"
        refine k_ite (fun z => ?_) fun z5 => ?_
        · rw [decide_eq_true (by unfold Move; omega)] at q
          exact q _ sf
        walk_at "st"
        have e : decide ((if i - k - (j - l) < 0 then -(i - k - (j - l)) else i - k - (j - l)) < t) = decide (Move t i j k l) := by
          apply decide_eq_decide.mpr
          unfold Move
          split <;> omega
        rw [e]
        exact q _ sf
end Fl
/-! FlL: what the laws draw by. -/
namespace Fl
open PySem L2 PySem.Spec PyProof.Rows
local macro_rules | `(tactic| walk_at "sc") => `(tactic| first
  | exact cm_l (by omega) (by omega) | exact cm_r (by omega) (by omega)
  | exact wide_div (b := 250) (by omega) (by omega) (by decide) (by decide)
  | omega | exact cpow (by omega) (by omega) (by omega))
local macro_rules | `(tactic| walk_at "st1") => `(tactic| with_reducible first
  | apply k_seq | apply k_next | apply k_asg | apply k_ret | apply k_drop | apply k_ifS | apply k_par | apply k_par2 | apply k_par3 | apply k_par33
  | (refine k_var rfl ?_) | apply k_c | apply k_op | apply k_un | apply k_I0 | apply k_p18 | apply k_p15 | apply k_p12 | apply k_p9 | apply k_p7 | apply k_p6 | apply k_p5
  | (refine k_I ?_ ?_; (focus walk_at "sc")) | apply k_U
  | apply k_eqI | apply k_neI | apply k_eqB | apply k_neB | apply k_isN | apply k_ntN
  | apply k_test | apply k_tB | apply k_bl | apply k_and | apply k_or | apply k_not | apply k_andV | apply k_orV | apply k_notV | apply k_if | apply k_chain
  | apply k_cb | apply k_call | apply k_nil | apply k_cons | apply k_tup | apply k_lst | apply k_abs | apply k_max2 | apply k_min2 | apply k_iteT | apply k_iteF | apply k_yes | apply k_lc | apply k_for | apply k_rng1 | apply k_rng2 | apply k_iList | apply k_iTup | apply k_bm
  | apply k_n0 | apply k_n1 | apply k_n2 | apply k_n3 | apply k_n4 | apply k_n5 | apply k_n6 | apply k_n7 | apply k_n8 | apply k_n9 | apply k_n10 | apply k_n11)
local macro_rules | `(tactic| walk_at "st") => `(tactic| repeat walk_at "st1")
variable {P : Program} {w : World} {K : PySem.W.Frag} {mg : Str → Option Value}
/-! ### dice -/
def IsDice (H : Hp) (q : Addr) : Prop := ∃ c k : Int, H q = some (.lst [.int c, .int k])
/-- all but the dice stays -/
def Chg (q : Addr) (H H' : Hp) : Prop := (∀ b o, b ≠ q → H b = some o → H' b = some o) ∧ IsDice H' q
theorem Chg.trans {q : Addr} {H H1 H2 : Hp} (a : Chg q H H1) (b : Chg q H1 H2) : Chg q H H2 := ⟨fun c o n h => b.1 c o n (a.1 c o n h), b.2⟩
theorem Chg.refl {q : Addr} {H : Hp} (h : IsDice H q) : Chg q H H := ⟨fun _ _ _ h => h, h⟩
theorem Same.dice {H H' : Hp} {q : Addr} (s : Same H H') (h : IsDice H q) : IsDice H' q := by
  obtain ⟨c, k, e⟩ := h
  exact ⟨c, k, s _ _ e⟩
theorem Same.chg {H H' : Hp} {q : Addr} (s : Same H H') (h : IsDice H q) : Chg q H H' := ⟨fun b o _ e => s b o e, Same.dice s h⟩
theorem chg_upd {H : Hp} {q : Addr} {c k : Int} : Chg q H (upd H q (.lst [.int c, .int k])) := ⟨fun b o n e => by rw [upd_ne n]; exact e, ⟨c, k, upd_same⟩⟩
theorem dice_ne {H : Hp} {q b : Addr} {o : HO} (h : IsDice H q) (hb : H b = some o) (n : ∀ c k : Int, o ≠ .lst [.int c, .int k]) : b ≠ q := fun e => by
  obtain ⟨c, k, hq⟩ := h
  subst e
  rw [hq] at hb
  exact n c k (Option.some.inj hb).symm
/-- a dice beside another -/
theorem Chg.dice {H H' : Hp} {q r : Addr} (c : Chg q H H') (h : IsDice H r) : IsDice H' r := by
  by_cases e : r = q
  · rw [e]; exact c.2
  · obtain ⟨a, k, hr⟩ := h
    exact ⟨a, k, c.1 _ _ e hr⟩
theorem Chg.tup {H H' : Hp} {q p : Addr} {xs : List V} (c : Chg q H H') (d : IsDice H q) (h : H p = some (.tup xs)) : H' p = some (.tup xs) := c.1 _ _ (dice_ne d h (fun _ _ => by simp)) h

def sp__law_drawn (K : PySem.W.Frag) (mg : Str → Option Value) : Sp := fun vs H Q _ => ∃ c k : Int, vs = [.int c, .int k] ∧ ∀ r, 0 ≤ r → Q (.int r) H
theorem len__law_drawn : ∀ vs H Q E, sp__law_drawn K mg vs H Q E → vs.length = 2 := fun _ _ _ _ ⟨_, _, e, _⟩ => by subst e; rfl
def t__law_drawn (P : PySem.Program) (w : PySem.World) (K : PySem.W.Frag) (mg : PySem.Str → Option PySem.Value) (E : XK) : TS :=
  (tSeq (tAsg (tOp rModI (tOp rAddI (tOp rMulI (tVar 0) (tC (.int 6364136223846793005))) (tOp rMulI (tOp rAddI (tVar 1) (tC (.int 1))) (tC (.int 1442695040888963407)))) (tC (.int 340282366920938463463374607431768211507))) (gName 2))
  (tSeq (tAsg (tOp rModI (tOp rMulW (tVar 2) (tVar 2)) (tC (.int 340282366920938463463374607431768211297))) (gName 2))
  (tSeq (tAsg (tOp rMulW (tOp rMulW (tOp rAddI (tOp rModI (tVar 2) (tC (.int 18446744073709551557))) (tC (.int 1))) (tOp rAddI (tOp rDivW (tVar 2) (tC (.int 18446744073709551557))) (tC (.int 1)))) (tVar 2)) (gName 2))
  (tRet (tOp rModI (tVar 2) (tC (.int 340282366920938463463374607431768211507)))))))

theorem pure__law_drawn : ∀ (vs : List V) (H : Hp) (Q : VK) (E : XK), sp__law_drawn K mg vs H Q E → t__law_drawn P w K mg E { nx := fun _ H' => Q .non H', rt := Q } (start ["cell", "k", "more"] vs) H := by
  rintro vs H Q E ⟨c, k, rfl, q⟩
  show t__law_drawn P w K mg E _ [some (.int c), some (.int k), none] H
  unfold t__law_drawn
  walk_at "st"
  have m1 : 0 ≤ (c * 6364136223846793005 + (k + 1) * 1442695040888963407) % 340282366920938463463374607431768211507 := by omega
  have m2 : (c * 6364136223846793005 + (k + 1) * 1442695040888963407) % 340282366920938463463374607431768211507 < 340282366920938463463374607431768211507 := by omega
  generalize (c * 6364136223846793005 + (k + 1) * 1442695040888963407) % 340282366920938463463374607431768211507 = a at *
  refine k_I (wide_mul (a := 200) (b := 200) (by omega) (by omega) (by decide) (by decide) (by decide)) ?_
  walk_at "st"
  have m3 : 0 ≤ a * a % 340282366920938463463374607431768211297 := by omega
  have m4 : a * a % 340282366920938463463374607431768211297 < 340282366920938463463374607431768211297 := by omega
  generalize a * a % 340282366920938463463374607431768211297 = b at *
  refine k_I (wide_mul (a := 200) (b := 200) (by omega) (by omega) (by decide) (by decide) (by decide)) ?_
  walk_at "st"
  have l1 : 0 ≤ (b % 18446744073709551557 + 1) * (b / 18446744073709551557 + 1) := Int.mul_nonneg (by omega) (by omega)
  have l2 : (b % 18446744073709551557 + 1) * (b / 18446744073709551557 + 1) ≤ 18446744073709551557 * 36893488147419103232 := Int.mul_le_mul (by omega) (by omega) (by omega) (by decide)
  generalize (b % 18446744073709551557 + 1) * (b / 18446744073709551557 + 1) = m at *
  refine k_I (wide_mul (a := 200) (b := 200) (by omega) (by omega) (by decide) (by decide) (by decide)) ?_
  walk_at "st"
  exact q _ (by omega)
def sp__law_roll (K : PySem.W.Frag) (mg : Str → Option Value) : Sp := fun vs H Q _ => ∃ (d : Addr) (m : Int), vs = [.ref d, .int m] ∧ IsDice H d ∧ 1 ≤ m ∧ m ≤ 1000000000000000000 ∧ ∀ H' r, Chg d H H' → 0 ≤ r → r < m → Q (.int r) H'
theorem len__law_roll : ∀ vs H Q E, sp__law_roll K mg vs H Q E → vs.length = 2 := fun _ _ _ _ ⟨_, _, e, _⟩ => by subst e; rfl
def t__law_roll (P : PySem.Program) (w : PySem.World) (K : PySem.W.Frag) (mg : PySem.Str → Option PySem.Value) (E : XK) : TS :=
  (tSeq (tIfS (tTest (tOp rGeI (tOp (rIxL K) (tVar 0) (tC (.int 0))) (tOp rPowI (tC (.int 10)) (tC (.int 18)))))
  (tSeq (tAsg (tOp rModI (tOp (rIxL K) (tVar 0) (tC (.int 0))) (tVar 1)) (gName 2))
  (tSeq (tAsg (tOp rDivW (tOp (rIxL K) (tVar 0) (tC (.int 0))) (tVar 1)) (gSub (tVar 0) (tC (.int 0)) rSetL))
  (tRet (tVar 2))))
  tNext)
  (tSeq (tAsg (tOp rAddI (tOp (rIxL K) (tVar 0) (tC (.int 1))) (tC (.int 1))) (gSub (tVar 0) (tC (.int 1)) rSetL))
  (tRet (tOp rModI (tOp rDivW (tCall (sp__law_drawn K mg) [] E (tCons (tOp (rIxL K) (tVar 0) (tC (.int 0))) (tCons (tOp (rIxL K) (tVar 0) (tC (.int 1))) tNil))) (tC (.int 8))) (tVar 1)))))

theorem pure__law_roll : ∀ (vs : List V) (H : Hp) (Q : VK) (E : XK), sp__law_roll K mg vs H Q E → t__law_roll P w K mg E { nx := fun _ H' => Q .non H', rt := Q } (start ["dice", "many", "told"] vs) H := by
  rintro vs H Q E ⟨d, m, rfl, ⟨c, k, hd⟩, m1, m2, q⟩
  show t__law_roll P w K mg E _ [some (.ref d), some (.int m), none] H
  unfold t__law_roll
  walk_at "st"
  refine k_ixL (lst_of hd) rfl ?_
  walk_at "st"
  refine k_ite (fun h => ?_) fun h => ?_
  · walk_at "st"
    refine k_ixL (lst_of hd) rfl ?_
    walk_at "st"
    refine k_ixL (lst_of hd) rfl ?_
    walk_at "st"
    refine ⟨_, rfl, d, _, 0, 0, rfl, rfl, hd, rfl, ?_⟩
    walk_at "st"
    exact q _ _ chg_upd (Int.emod_nonneg _ (by omega)) (Int.emod_lt_of_pos _ (by omega))
  · walk_at "st"
    refine k_ixL (lst_of hd) rfl ?_
    walk_at "st"
    refine ⟨_, rfl, d, _, 1, 1, rfl, rfl, hd, rfl, ?_⟩
    walk_at "st"
    refine k_ixL (lst_of upd_same) rfl ?_
    walk_at "st"
    refine k_ixL (lst_of upd_same) rfl ?_
    walk_at "st"
    refine ⟨_, _, rfl, fun r hr => ?_⟩
    walk_at "st"
    exact q _ _ chg_upd (Int.emod_nonneg _ (by omega)) (Int.emod_lt_of_pos _ (by omega))
def sp__law_cell (K : PySem.W.Frag) (mg : Str → Option Value) : Sp := fun vs H Q _ => ∃ (a : Addr) (ns : List Int) (k : Int), vs = [.ref a, .int k] ∧ SqL K H a (ns.map V.int) ∧ ns.length ≤ 63 ∧ ∀ H' r, Same H H' → Q (.int r) H'
theorem len__law_cell : ∀ vs H Q E, sp__law_cell K mg vs H Q E → vs.length = 2 := fun _ _ _ _ ⟨_, _, _, e, _⟩ => by subst e; rfl
def t__law_cell (P : PySem.Program) (w : PySem.World) (K : PySem.W.Frag) (mg : PySem.Str → Option PySem.Value) (E : XK) : TS :=
  (tSeq (tIfS (tTest (tOp (rEqD K) (tVar 0) (tLst tNil)))
  (tRet (tOp rMulI (tVar 1) (tC (.int 7919))))
  tNext)
  (tRet (tOp rAddI (tOp (rIxL K) (tVar 0) (tOp rModI (tVar 1) (tCB (rLenQ K) (tCons (tVar 0) tNil)))) (tOp rMulI (tOp rDivW (tVar 1) (tCB (rLenQ K) (tCons (tVar 0) tNil))) (tC (.int 104729))))))

theorem dpa_ints {H : Hp} : ∀ ns : List Int, DpAll K H (ns.map V.int) (ns.map PyData.int)
  | [] => .nil
  | n :: r => .cons (.int n) (dpa_ints r)
theorem lay_ints : ∀ ns : List Int, PyData.canLayAll0 (ns.map PyData.int) = true
  | [] => by unfold PyData.canLayAll0; rfl
  | n :: r => by
    show PyData.canLayAll0 (.int n :: r.map PyData.int) = true
    unfold PyData.canLayAll0
    rw [lay_ints r]
    unfold PyData.canLay0
    rfl
theorem depth_ints : ∀ ns : List Int, PyData.depthAll (ns.map PyData.int) = 0
  | [] => by unfold PyData.depthAll; rfl
  | n :: r => by
    show PyData.depthAll (.int n :: r.map PyData.int) = 0
    unfold PyData.depthAll
    rw [depth_ints r]
    unfold PyData.depth
    rfl
theorem shaped_list {ns : List Int} : SeqAt.shaped (.list (ns.map PyData.int)) = true := by
  unfold SeqAt.shaped PyData.canLay0 PyData.depth
  rw [lay_ints, depth_ints]
  rfl
theorem shaped_tup {ns : List Int} : SeqAt.shaped (.tuple (ns.map PyData.int)) = true := by
  unfold SeqAt.shaped PyData.canLay0 PyData.depth
  rw [lay_ints, depth_ints]
  rfl
theorem eqv_ints : ∀ ns ms : List Int, PyData.eqvAll (ns.map PyData.int) (ms.map PyData.int) = decide (ns = ms)
  | [], [] => by simp [PyData.eqvAll]
  | [], m :: r => by simp [PyData.eqvAll]
  | n :: r, [] => by simp [PyData.eqvAll]
  | n :: r, m :: s => by
    have ih := eqv_ints r s
    simp only [List.map_cons, PyData.eqvAll, PyData.eqv, ih]
    by_cases h : n = m <;> by_cases h2 : r = s <;> simp [h, h2]
theorem pure__law_cell : ∀ (vs : List V) (H : Hp) (Q : VK) (E : XK), sp__law_cell K mg vs H Q E → t__law_cell P w K mg E { nx := fun _ H' => Q .non H', rt := Q } (start ["script", "k"] vs) H := by
  rintro vs H Q E ⟨a, ns, k, rfl, hs, hl, q⟩
  show t__law_cell P w K mg E _ [some (.ref a), some (.int k)] H
  unfold t__law_cell
  walk_at "st"
  refine ⟨by show 0 ≤ sizeLine; decide, fun p hp => ?_⟩
  have s1 : Same H (upd H p (.lst [])) := same_new hp
  refine ⟨_, _, .lst (s1.seq hs) (dpa_ints ns), .lst (lst_of upd_same) (dpa_ints []), shaped_list, shaped_list, ?_⟩
  walk_at "st"
  have e : PyData.eqv (.list (ns.map PyData.int)) (.list (([] : List Int).map PyData.int)) = decide (ns = []) := by
    show PyData.eqvAll _ _ = _
    exact eqv_ints ns []
  rw [e]
  refine k_ite (fun h => ?_) fun h => ?_
  · walk_at "st"
    exact q _ _ s1
  · have h0 : 0 < ns.length := List.length_pos_iff.mpr h
    walk_at "st"
    refine k_lenL (s1.seq hs) ?_
    rw [List.length_map]
    walk_at "st"
    have b1 := Int.emod_nonneg k (show (ns.length : Int) ≠ 0 by omega)
    have b2 := Int.emod_lt_of_pos k (show (0 : Int) < ns.length by omega)
    have b3 : (k % (ns.length : Int)).toNat < ns.length := by omega
    refine k_ixL (v := .int (ns[(k % (ns.length : Int)).toNat])) (s1.seq hs) ?_ ?_
    · unfold atI ixN
      rw [List.length_map, if_pos b1, if_pos b2]
      show (ns.map V.int)[(k % (ns.length : Int)).toNat]? = _
      rw [List.getElem?_map, List.getElem?_eq_getElem b3]
      rfl
    walk_at "st"
    refine k_lenL (s1.seq hs) ?_
    rw [List.length_map]
    walk_at "st"
    exact q _ _ s1
/-- new dice, one or more -/
def sp__law_rounds (K : PySem.W.Frag) (mg : Str → Option Value) : Sp := fun vs H Q _ => ∃ (a : Addr) (ns : List Int) (m : Int), vs = [.ref a, .int m] ∧ SqL K H a (ns.map V.int) ∧ ns.length ≤ 63 ∧ 1 ≤ m ∧ m ≤ 63 ∧
  ∀ H' R (qs : List Addr), Same H H' → H R = none → H' R = some (.lst (qs.map V.ref)) → 1 ≤ qs.length → (∀ q ∈ qs, IsDice H' q) → Q (.ref R) H'
theorem len__law_rounds : ∀ vs H Q E, sp__law_rounds K mg vs H Q E → vs.length = 2 := fun _ _ _ _ ⟨_, _, _, e, _⟩ => by subst e; rfl
def t__law_rounds (P : PySem.Program) (w : PySem.World) (K : PySem.W.Frag) (mg : PySem.Str → Option PySem.Value) (E : XK) : TS :=
  (tRet (tLc (iRng1 (tCons (tCB rMax2 (tCons (tC (.int 1)) (tCons (tCB rMin2 (tCons (tVar 1) (tCons (tCB (rLenQ K) (tCons (tVar 0) tNil)) tNil))) tNil))) tNil)) (gName 2) tYes (tLst (tCons (tCall (sp__law_cell K mg) [] E0 (tCons (tVar 0) (tCons (tVar 2) tNil))) (tCons (tC (.int 0)) tNil))) [2]))

theorem pure__law_rounds : ∀ (vs : List V) (H : Hp) (Q : VK) (E : XK), sp__law_rounds K mg vs H Q E → t__law_rounds P w K mg E { nx := fun _ H' => Q .non H', rt := Q } (start ["script", "most", "k"] vs) H := by
  rintro vs H Q E ⟨a, ns, m, rfl, hs, hl, m1, m2, q⟩
  show t__law_rounds P w K mg E _ [some (.ref a), some (.int m), none] H
  unfold t__law_rounds
  walk_at "st"
  refine k_lenL hs ?_
  rw [List.length_map]
  walk_at "st"
  generalize hn : (if (if (ns.length : Int) < m then (ns.length : Int) else m) > 1 then (if (ns.length : Int) < m then (ns.length : Int) else m) else 1) = n
  have n1 : 1 ≤ n := by rw [← hn]; split <;> split at * <;> omega
  have n2 : n ≤ 63 := by rw [← hn]; split <;> split at * <;> omega
  refine ⟨n, rfl, by omega, by omega, fun D hD => lc_range (fun i H' => ∃ qs : List Addr, H' D = some (.lst (qs.map V.ref)) ∧ qs.length = i ∧ Same H H' ∧ ∀ r ∈ qs, IsDice H' r ∧ r ≠ D)
    ⟨[], upd_same, rfl, same_new hD, fun r hr => by cases hr⟩ ?_ ?_⟩
  · rintro i H' hi ⟨qs, h1, h2, h3, h4⟩
    show gName 2 _ [_, _, _] H' _
    walk_at "st"
    refine ⟨rfl, ?_⟩
    walk_at "st"
    refine ⟨a, ns, _, rfl, h3.seq hs, hl, fun H2 r s2 => ?_⟩
    walk_at "st"
    refine ⟨by show 2 ≤ sizeLine; decide, fun p hp => ?_⟩
    have s3 : Same H2 (upd H2 p (.lst [.int r, .int 0])) := same_new hp
    have hD2 := s3 _ _ (s2 _ _ h1)
    refine ⟨_, hD2, small_lt (by rw [List.length_map]; omega), qs ++ [p], ?_, by simp [h2], same_grow ((h3.trans s2).trans s3) hD, ?_⟩
    · rw [upd_same, List.map_append]
      rfl
    · intro r' hr'
      rcases List.mem_append.mp hr' with z | z
      · obtain ⟨⟨c, k, hc⟩, ne⟩ := h4 r' z
        exact ⟨⟨c, k, by rw [upd_ne ne]; exact s3 _ _ (s2 _ _ hc)⟩, ne⟩
      · have e : r' = p := by simpa using z
        subst e
        have ne : r' ≠ D := fun e => by
          rw [e] at hp
          rw [s2 _ _ h1] at hp
          cases hp
        exact ⟨⟨r, 0, by rw [upd_ne ne, upd_same]⟩, ne⟩
  · rintro H' ⟨qs, h1, h2, h3, h4⟩
    exact q H' D qs h3 hD h1 (by omega) fun r hr => (h4 r hr).1
end Fl
/-! K17: the law of the whole game. -/
namespace Fl
open PySem L2 PySem.Spec PyProof.Rows
local macro_rules | `(tactic| walk_at "sc") => `(tactic| first
  | exact cm_l (by omega) (by omega) | exact cm_r (by omega) (by omega)
  | exact wide_div (b := 250) (by omega) (by omega) (by decide) (by decide)
  | omega | exact cpow (by omega) (by omega) (by omega))
local macro_rules | `(tactic| walk_at "st1") => `(tactic| with_reducible first
  | apply k_seq | apply k_next | apply k_asg | apply k_ret | apply k_drop | apply k_ifS | apply k_par | apply k_par2 | apply k_par3 | apply k_par33
  | (refine k_var rfl ?_) | apply k_c | apply k_op | apply k_un | apply k_I0 | apply k_p18 | apply k_p15 | apply k_p12 | apply k_p9 | apply k_p7 | apply k_p6 | apply k_p5
  | (refine k_I ?_ ?_; (focus walk_at "sc")) | apply k_U
  | apply k_eqI | apply k_neI | apply k_eqB | apply k_neB | apply k_isN | apply k_ntN
  | apply k_test | apply k_tB | apply k_bl | apply k_and | apply k_or | apply k_not | apply k_andV | apply k_orV | apply k_notV | apply k_if | apply k_chain
  | apply k_cb | apply k_call | apply k_nil | apply k_cons | apply k_tup | apply k_lst | apply k_abs | apply k_max2 | apply k_min2 | apply k_iteT | apply k_iteF | apply k_yes | apply k_lc | apply k_for | apply k_rng1 | apply k_rng2 | apply k_iList | apply k_iTup | apply k_bm
  | apply k_n0 | apply k_n1 | apply k_n2 | apply k_n3 | apply k_n4 | apply k_n5 | apply k_n6 | apply k_n7 | apply k_n8 | apply k_n9 | apply k_n10 | apply k_n11)
local macro_rules | `(tactic| walk_at "st") => `(tactic| repeat walk_at "st1")
variable {P : Program} {w : World} {K : PySem.W.Frag} {mg : Str → Option Value}
def sp__law_is_move (K : PySem.W.Frag) (mg : Str → Option Value) : Sp := fun vs H Q _ => ∃ t i j k l : Int, vs = [.int t, .int i, .int j, .int k, .int l] ∧ Q (.bl (decide (Move t i j k l))) H
theorem len__law_is_move : ∀ vs H Q E, sp__law_is_move K mg vs H Q E → vs.length = 5 := fun _ _ _ _ ⟨_, _, _, _, _, e, _⟩ => by subst e; rfl
def t__law_is_move (P : PySem.Program) (w : PySem.World) (K : PySem.W.Frag) (mg : PySem.Str → Option PySem.Value) (E : XK) : TS :=
  (tSeq (tPar 5 6 (tCons (tOp rSubI (tVar 1) (tVar 3)) (tCons (tOp rSubI (tVar 2) (tVar 4)) tNil)))
  (tSeq (tIfS (tOr (tTest (tOp rLtI (tVar 5) (tC (.int 0)))) (tOr (tTest (tOp rLtI (tVar 6) (tC (.int 0)))) (tTest (tOp rEq (tOp rAddI (tVar 5) (tVar 6)) (tC (.int 0))))))
  (tRet (tC (.bl false)))
  tNext)
  (tRet (tOrV (tOp rEq (tVar 5) (tC (.int 0))) (tOrV (tOp rEq (tVar 6) (tC (.int 0))) (tOp rLtI (tCB rAbs (tCons (tOp rSubI (tVar 5) (tVar 6)) tNil)) (tVar 0)))))))

theorem pure__law_is_move : ∀ (vs : List V) (H : Hp) (Q : VK) (E : XK), sp__law_is_move K mg vs H Q E → t__law_is_move P w K mg E { nx := fun _ H' => Q .non H', rt := Q } (start ["t", "one", "other", "first", "last", "less", "fewer"] vs) H := by
  rintro vs H Q E ⟨t, i, j, k, l, rfl, q⟩
  show t__law_is_move P w K mg E _ [some (.int t), some (.int i), some (.int j), some (.int k), some (.int l), none, none] H
  unfold t__law_is_move
  walk_at "st"
  refine k_ite (fun z => ?_) fun z1 => ?_
  · walk_at "st"
    rw [decide_eq_false (by unfold Move; omega)] at q
    exact q
  walk_at "st"
  refine k_ite (fun z => ?_) fun z2 => ?_
  · walk_at "st"
    rw [decide_eq_false (by unfold Move; omega)] at q
    exact q
  walk_at "st"
  refine k_ite (fun z => ?_) fun z3 => ?_
  · walk_at "st"
    rw [decide_eq_false (by unfold Move; omega)] at q
    exact q
  walk_at "st"
  refine k_ite (fun z => ?_) fun z4 => ?_
  · rw [decide_eq_true (by unfold Move; omega)] at q
    exact q
  walk_at "st"
  refine k_ite (fun z => ?_) fun z5 => ?_
  · rw [decide_eq_true (by unfold Move; omega)] at q
    exact q
  walk_at "st"
  have e : decide ((if i - k - (j - l) < 0 then -(i - k - (j - l)) else i - k - (j - l)) < t) = decide (Move t i j k l) := by
    apply decide_eq_decide.mpr
    unfold Move
    split <;> omega
  rw [e]
  exact q
/-! ### lists of pairs -/
inductive Prs (H : Hp) : List V → List (Int × Int) → Prop
  | nil : Prs H [] []
  | cons {a : Addr} {p : Int × Int} {xs : List V} {ps : List (Int × Int)} : H a = some (.tup [.int p.1, .int p.2]) → Prs H xs ps → Prs H (.ref a :: xs) (p :: ps)
theorem Prs.nl {H H' : Hp} (n : NL H H') : ∀ {xs : List V} {ps : List (Int × Int)}, Prs H xs ps → Prs H' xs ps
  | _, _, .nil => .nil
  | _, _, .cons h r => .cons (n _ _ h (fun _ => by simp)) (Prs.nl n r)
theorem Prs.len {H : Hp} : ∀ {xs : List V} {ps : List (Int × Int)}, Prs H xs ps → xs.length = ps.length
  | _, _, .nil => rfl
  | _, _, .cons _ r => by simp [Prs.len r]
theorem Prs.snoc {H : Hp} {a : Addr} {p : Int × Int} (h : H a = some (.tup [.int p.1, .int p.2])) : ∀ {xs : List V} {ps : List (Int × Int)}, Prs H xs ps → Prs H (xs ++ [.ref a]) (ps ++ [p])
  | _, _, .nil => .cons h .nil
  | _, _, .cons k r => .cons k (Prs.snoc h r)
theorem Prs.get {H : Hp} : ∀ {xs : List V} {ps : List (Int × Int)} {n : Nat} {x : V}, Prs H xs ps → xs[n]? = some x → ∃ a p, x = .ref a ∧ ps[n]? = some p ∧ H a = some (.tup [.int p.1, .int p.2])
  | _, _, _, _, .nil, h => by simp at h
  | _, _, 0, _, .cons k _, h => by
    simp at h
    subst h
    exact ⟨_, _, rfl, rfl, k⟩
  | _, _, n + 1, x, .cons _ r, h => by
    obtain ⟨a, p, e, g, k⟩ := Prs.get (n := n) (x := x) r (by simpa using h)
    exact ⟨a, p, e, by simpa using g, k⟩
def pD (p : Int × Int) : PyData := .tuple [.int p.1, .int p.2]
theorem dp_pair {H : Hp} {a : Addr} {i j : Int} (h : H a = some (.tup [.int i, .int j])) : Dp K H (.ref a) (pD (i, j)) := .tup (tup_of h) (.cons (.int _) (.cons (.int _) .nil))
theorem Prs.dpa {H : Hp} : ∀ {xs : List V} {ps : List (Int × Int)}, Prs H xs ps → DpAll K H xs (ps.map pD)
  | _, _, .nil => .nil
  | _, _, .cons h r => .cons (dp_pair h) (Prs.dpa r)
theorem lay_prs : ∀ ps : List (Int × Int), PyData.canLayAll0 (ps.map pD) = true
  | [] => by simp [PyData.canLayAll0]
  | p :: r => by simp [PyData.canLayAll0, PyData.canLay0, pD, lay_prs r]
theorem depth_prs : ∀ ps : List (Int × Int), PyData.depthAll (ps.map pD) ≤ 1
  | [] => by simp [PyData.depthAll]
  | p :: r => by
    have := depth_prs r
    simp [PyData.depthAll, PyData.depth, pD]
    omega
theorem shaped_prs (ps : List (Int × Int)) : SeqAt.shaped (.list (ps.map pD)) = true := by
  have h := depth_prs ps
  unfold SeqAt.shaped PyData.canLay0 PyData.depth
  rw [lay_prs]
  simp
  omega
theorem shaped_pair (p : Int × Int) : SeqAt.shaped (pD p) = true := by
  unfold SeqAt.shaped
  simp [pD, PyData.canLay0, PyData.canLayAll0, PyData.depth, PyData.depthAll]
theorem eqv_pair (p r : Int × Int) : PyData.eqv (pD p) (pD r) = decide (p = r) := by
  obtain ⟨a, b⟩ := p
  obtain ⟨c, d⟩ := r
  simp only [pD, PyData.eqv, PyData.eqvAll]
  by_cases h : a = c <;> by_cases h2 : b = d <;> simp [h, h2]
theorem any_pair (ps : List (Int × Int)) (r : Int × Int) : ((ps.map pD).any fun z => PyData.eqv z (pD r)) = decide (r ∈ ps) := by
  induction ps with
  | nil => simp
  | cons p t ih =>
    simp only [List.map_cons, List.any_cons, ih, eqv_pair]
    by_cases h : p = r <;> by_cases h2 : r ∈ t <;> simp [h, h2] <;> (try (intro e; exact absurd e.symm h)) <;> (try exact fun e => h e.symm)
/-! ### the list of the lost positions so far -/
def Mem (t size tot one : Int) (ps : List (Int × Int)) : Prop := ∀ k l, (k, l) ∈ ps ↔ (0 ≤ k ∧ k ≤ size ∧ 0 ≤ l ∧ l ≤ size ∧ Lost t k l ∧ (k + l < tot ∨ (k + l = tot ∧ k < one)))
theorem due_lost {t size tot one : Int} {ps : List (Int × Int)} (ht : 1 ≤ t) (m : Mem t size tot one ps) (o1 : 0 ≤ one) (h : Lost t one (tot - one)) : (ps.map fun p => decide (Move t one (tot - one) p.1 p.2)).any id = false := by
  rw [List.any_eq_false]
  intro b hb
  obtain ⟨⟨k, l⟩, hp, e⟩ := List.mem_map.mp hb
  have := ((m k l).mp hp)
  rw [← e]
  simp only [id]
  rw [decide_eq_true_iff]
  exact no_move ht h this.2.2.2.2.1
theorem due_not {t size tot one k l : Int} {ps : List (Int × Int)} (m : Mem t size tot one ps) (o2 : one ≤ size) (o3 : tot - one ≤ size) (lk : Lost t k l) (mv : Move t one (tot - one) k l) (k0 : 0 ≤ k) (l0 : 0 ≤ l) :
    (k, l) ∈ ps ∧ (ps.map fun p => decide (Move t one (tot - one) p.1 p.2)).any id = true := by
  have hp : (k, l) ∈ ps := by
    rw [m k l]
    have := mv
    unfold Move at this
    exact ⟨k0, by omega, l0, by omega, lk, by omega⟩
  refine ⟨hp, ?_⟩
  rw [List.any_eq_true]
  exact ⟨true, List.mem_map.mpr ⟨(k, l), hp, decide_eq_true mv⟩, rfl⟩
theorem mem_add {t size tot one : Int} {ps : List (Int × Int)} (m : Mem t size tot one ps) (o1 : 0 ≤ one) (o2 : one ≤ size) (o3 : 0 ≤ tot - one) (o4 : tot - one ≤ size) (h : Lost t one (tot - one)) : Mem t size tot (one + 1) (ps ++ [(one, tot - one)]) := by
  intro k l
  rw [List.mem_append, m k l]
  simp only [List.mem_singleton, Prod.mk.injEq]
  constructor
  · rintro (⟨a, b, c, d, e, f⟩ | ⟨rfl, rfl⟩)
    · exact ⟨a, b, c, d, e, by omega⟩
    · exact ⟨o1, o2, o3, o4, h, by omega⟩
  · rintro ⟨a, b, c, d, e, f⟩
    by_cases z : k = one ∧ l = tot - one
    · exact .inr z
    · exact .inl ⟨a, b, c, d, e, by omega⟩
theorem mem_skip {t size tot one : Int} {ps : List (Int × Int)} (m : Mem t size tot one ps) (h : ¬ Lost t one (tot - one)) : Mem t size tot (one + 1) ps := by
  intro k l
  rw [m k l]
  constructor
  · rintro ⟨a, b, c, d, e, f⟩
    exact ⟨a, b, c, d, e, by omega⟩
  · rintro ⟨a, b, c, d, e, f⟩
    refine ⟨a, b, c, d, e, ?_⟩
    by_cases z : k = one
    · subst z
      rcases f with f | f
      · exact .inl f
      · exact absurd (by rw [show tot - k = l by omega]; exact e) h
    · omega
theorem mem_move {t size tot one one' : Int} {ps : List (Int × Int)} (m : Mem t size tot one ps) (h : ∀ k l : Int, 0 ≤ k → k ≤ size → 0 ≤ l → l ≤ size → k + l = tot → (k < one ↔ k < one')) : Mem t size tot one' ps := by
  intro k l
  rw [m k l]
  constructor
  · rintro ⟨a, b, c, d, e, f⟩
    refine ⟨a, b, c, d, e, ?_⟩
    rcases f with f | ⟨f1, f2⟩
    · exact .inl f
    · exact .inr ⟨f1, (h k l a b c d f1).mp f2⟩
  · rintro ⟨a, b, c, d, e, f⟩
    refine ⟨a, b, c, d, e, ?_⟩
    rcases f with f | ⟨f1, f2⟩
    · exact .inl f
    · exact .inr ⟨f1, (h k l a b c d f1).mpr f2⟩
theorem mem_next {t size tot one : Int} {ps : List (Int × Int)} (m : Mem t size tot one ps) (h : ∀ k l : Int, 0 ≤ k → k ≤ size → 0 ≤ l → l ≤ size → k + l = tot → k < one) : Mem t size (tot + 1) 0 ps := by
  intro k l
  rw [m k l]
  constructor
  · rintro ⟨a, b, c, d, e, f⟩
    exact ⟨a, b, c, d, e, by omega⟩
  · rintro ⟨a, b, c, d, e, f⟩
    refine ⟨a, b, c, d, e, ?_⟩
    rcases Int.lt_or_eq_of_le (show k + l ≤ tot by omega) with z | z
    · exact .inl z
    · exact .inr ⟨z, h k l a b c d z⟩
theorem lost_zero (t : Int) : Lost t 0 0 := ⟨0, by omega, .inl ⟨(lh_zero t).symm, (gh_zero t).symm⟩⟩
/-- the first of the list is (0, 0) -/
def Hd0 (ps : List (Int × Int)) : Prop := ps = [] ∨ ps[0]? = some (0, 0)
theorem hd_add {t size tot one : Int} {ps : List (Int × Int)} (m : Mem t size tot one ps) (o1 : 0 ≤ one) (o2 : one ≤ size) (o3 : 0 ≤ tot - one) (h : Hd0 ps) : Hd0 (ps ++ [(one, tot - one)]) := by
  right
  rcases h with rfl | h
  · have : ¬ ((0 : Int), (0 : Int)) ∈ ([] : List (Int × Int)) := by simp
    rw [m 0 0] at this
    have z : ¬ (0 + 0 < tot ∨ (0 + 0 = tot ∧ 0 < one)) := fun z => this ⟨by omega, by omega, by omega, by omega, lost_zero t, z⟩
    have e1 : one = 0 := by omega
    have e2 : tot = 0 := by omega
    subst e1; subst e2
    rfl
  · rw [List.getElem?_append_left (by have := (List.getElem?_eq_some_iff.mp h).1; exact this)]
    exact h
/-! ### the law -/
def spLaw (K : PySem.W.Frag) : Sp := fun vs H Q _ => ∃ (a : Addr) (ns : List Int), vs = [.ref a] ∧ SqL K H a (ns.map V.int) ∧ ns.length ≤ 63 ∧ ∀ H', Q (.bl true) H'
def sp_law (K : PySem.W.Frag) (mg : Str → Option Value) : Sp := spLaw K
theorem len_law : ∀ vs H Q E, sp_law K mg vs H Q E → vs.length = 1 := fun _ _ _ _ ⟨_, _, e, _⟩ => by subst e; rfl
def t_law (P : PySem.Program) (w : PySem.World) (K : PySem.W.Frag) (mg : PySem.Str → Option PySem.Value) (E : XK) : TS :=
  (tSeq (tFor (iList K (tCall (sp__law_rounds K mg) [] E (tCons (tVar 0) (tCons (tC (.int 2)) tNil)))) (gName 1)
  (tSeq (tAsg (tTup (tCons (tOp rAddI (tC (.int 1)) (tCall (sp__law_roll K mg) [] E (tCons (tVar 1) (tCons (tC (.int 5)) tNil)))) (tCons (tOp rAddI (tC (.int 6)) (tCall (sp__law_roll K mg) [] E (tCons (tVar 1) (tCons (tC (.int 8)) tNil)))) (tCons (tLst tNil) tNil)))) (gTup K 3 (gCons (gName 2) (gCons (gName 3) (gCons (gName 4) gNil)))))
  (tSeq (tFor (iRng1 (tCons (tOp rAddI (tOp rMulI (tC (.int 2)) (tVar 3)) (tC (.int 1))) tNil)) (gName 5)
  (tFor (iRng2 (tCons (tCB rMax2 (tCons (tC (.int 0)) (tCons (tOp rSubI (tVar 5) (tVar 3)) tNil))) (tCons (tOp rAddI (tCB rMin2 (tCons (tVar 3) (tCons (tVar 5) tNil))) (tC (.int 1))) tNil))) (gName 6)
  (tSeq (tAsg (tOp rSubI (tVar 5) (tVar 6)) (gName 7))
  (tSeq (tAsg (tNotV (tCB (rAny K) (tCons (tLc (iList K (tVar 4)) (gTup K 2 (gCons (gName 10) (gCons (gName 11) gNil))) tYes (tCall (sp__law_is_move K mg) [] E0 (tCons (tVar 2) (tCons (tVar 6) (tCons (tVar 7) (tCons (tVar 10) (tCons (tVar 11) tNil)))))) [10, 11]) tNil))) (gName 8))
  (tSeq (tAsg (tCall (sp_winning_move K mg) [] E (tCons (tVar 2) (tCons (tVar 6) (tCons (tVar 7) tNil)))) (gName 9))
  (tSeq (tIfS (tOr (tTest (tOp rNe (tCall (sp_is_lost K mg) [] E (tCons (tVar 2) (tCons (tVar 6) (tCons (tVar 7) tNil)))) (tVar 8))) (tTest (tOp rNe (tOp rIsNon (tVar 9) (tC .non)) (tVar 8))))
  (tRet (tC (.bl false)))
  tNext)
  (tIfS (tB (tVar 8))
  (tDrop (tBM K "list" rAppend (tVar 4) (tCons (tTup (tCons (tVar 6) (tCons (tVar 7) tNil))) tNil)))
  (tIfS (tOr (tTest (tOp (rNotInD K) (tVar 9) (tVar 4))) (tNot (tB (tCall (sp_is_move K mg) [] E (tCons (tVar 2) (tCons (tVar 6) (tCons (tVar 7) (tCons (tVar 9) tNil))))))))
  (tRet (tC (.bl false)))
  tNext))))))))
  (tIfS (tOr (tTest (tOp (rNeD K) (tOp (rIxL K) (tVar 4) (tC (.int 0))) (tTup (tCons (tC (.int 0)) (tCons (tC (.int 0)) tNil))))) (tNot (tB (tCB (rAll K) (tCons (tLc (iList K (tVar 4)) (gTup K 2 (gCons (gName 6) (gCons (gName 7) gNil))) tYes (tOp (rInD K) (tTup (tCons (tVar 7) (tCons (tVar 6) tNil))) (tVar 4)) [6, 7]) tNil)))))
  (tRet (tC (.bl false)))
  tNext))))
  (tRet (tC (.bl true))))

theorem pure_law : ∀ (vs : List V) (H : Hp) (Q : VK) (E : XK), sp_law K mg vs H Q E → t_law P w K mg E { nx := fun _ H' => Q .non H', rt := Q } (start ["script", "dice", "t", "size", "lost", "total", "one", "other", "due", "made", "first", "last"] vs) H := by
  rintro vs H Q E ⟨a, ns, rfl, hs, hl, q⟩
  show t_law P w K mg E _ [some (.ref a), none, none, none, none, none, none, none, none, none, none, none] H
  unfold t_law
  walk_at "st"
  refine ⟨a, ns, 2, rfl, hs, hl, by omega, by omega, fun H1 R qs s1 nR hR lq dq => ?_⟩
  refine ⟨R, rfl, ⟨_, lst_of hR⟩, for_list (xs := qs.map V.ref) (fun i σ H' => ∃ y1 y2 y3 y4 y5 y6 y7 y8 y9 y10 y11, σ = [some (.ref a), y1, y2, y3, y4, y5, y6, y7, y8, y9, y10, y11] ∧ H' R = some (.lst (qs.map V.ref)) ∧ ∀ r ∈ qs, IsDice H' r)
    ⟨none, none, none, none, none, none, none, none, none, none, none, rfl, hR, dq⟩ (fun i σ H' _ h => by obtain ⟨_, _, _, _, _, _, _, _, _, _, _, _, h, _⟩ := h; exact lst_of h) ?_ ?_⟩
  · rintro i x σ H2 hx ⟨y1, y2, y3, y4, y5, y6, y7, y8, y9, y10, y11, rfl, hR2, dq2⟩
    obtain ⟨d, hd, rfl⟩ : ∃ d, d ∈ qs ∧ x = .ref d := by
      rw [List.getElem?_map] at hx
      cases e : qs[i]? with
      | none => rw [e] at hx; cases hx
      | some d => rw [e] at hx; exact ⟨d, List.mem_of_getElem? e, (Option.some.inj hx).symm⟩
    have dd := dq2 d hd
    have nRd : R ≠ d := dice_ne dd hR2 (fun c k e => by
      cases qs with
      | nil => cases hd
      | cons z zs => injection e with e; injection e with e; cases e)
    walk_at "st"
    refine ⟨d, 5, rfl, dd, by omega, by omega, fun H3 r1 c1 r1a r1b => ?_⟩
    walk_at "st"
    refine ⟨d, 8, rfl, c1.2, by omega, by omega, fun H4 r2 c2 r2a r2b => ?_⟩
    have c12 := c1.trans c2
    have hR4 : H4 R = some (.lst (qs.map V.ref)) := c12.1 _ _ nRd hR2
    have dq4 : ∀ r ∈ qs, IsDice H4 r := fun r hr => c12.dice (dq2 r hr)
    obtain ⟨t, ht⟩ : ∃ t, t = 1 + r1 := ⟨_, rfl⟩
    obtain ⟨size, hz⟩ : ∃ z, z = 6 + r2 := ⟨_, rfl⟩
    rw [← ht]
    have t1 : 1 ≤ t := by omega
    have t2 : t ≤ 10 := by omega
    have z1 : 6 ≤ size := by omega
    have z2 : size ≤ 13 := by omega
    walk_at "st"
    rw [← hz]
    clear ht hz c1 c2 c12 r1a r1b r2a r2b
    refine ⟨by show 0 ≤ sizeLine; decide, fun L hL => ?_⟩
    walk_at "st"
    refine ⟨by show 3 ≤ sizeLine; decide, fun p hp => ?_⟩
    refine k_gtup (tup_of upd_same) rfl (k_gcons ?_)
    walk_at "st"
    refine k_gcons ?_
    walk_at "st"
    refine k_gcons ?_
    walk_at "st"
    refine k_gnil ?_
    have npL : L ≠ p := fun e => by rw [← e, upd_same] at hp; cases hp
    have sI : Same H4 (upd (upd H4 L (.lst [])) p (.tup [.int t, .int size, .ref L])) := (same_new hL).trans (same_new hp)
    have hI : (upd (upd H4 L (.lst [])) p (.tup [.int t, .int size, .ref L])) L = some (.lst []) := by rw [upd_ne npL, upd_same]
    generalize (upd (upd H4 L (.lst [])) p (.tup [.int t, .int size, .ref L])) = H5 at sI hI
    walk_at "st"
    refine ⟨_, rfl, by omega, by omega, for_range (fun i σ H' => ∃ y5 y6 y7 y8 y9 y10 y11 xs ps, σ = [some (.ref a), some (.ref d), some (.int t), some (.int size), some (.ref L), y5, y6, y7, y8, y9, y10, y11] ∧ Same H4 H' ∧ H' L = some (.lst xs) ∧ Prs H' xs ps ∧ Mem t size i 0 ps ∧ Hd0 ps ∧ ps.length ≤ 20 * i)
      ⟨y5, y6, y7, y8, y9, y10, y11, [], [], rfl, sI, hI, .nil, fun k l => by simp; intros; omega, .inl rfl, by simp⟩ ?_ ?_⟩
    · rintro tot σ H6 ht ⟨w5, w6, w7, w8, w9, w10, w11, xs, ps, rfl, s6, h6, pr6, m6, hd6, l6⟩
      walk_at "st"
      refine ⟨_, _, rfl, ⟨by split <;> omega, by split <;> omega, by split <;> omega, by split <;> omega⟩, ?_⟩
      generalize hlo : (if 0 + (tot : Int) - size > 0 then 0 + (tot : Int) - size else 0) = lo
      generalize hhi : (if 0 + (tot : Int) < size then 0 + (tot : Int) else size) + 1 = hi
      have lo1 : 0 ≤ lo := by rw [← hlo]; split <;> omega
      have lo2 : (tot : Int) - size ≤ lo := by rw [← hlo]; split <;> omega
      have lo3 : lo = 0 ∨ lo = tot - size := by rw [← hlo]; split <;> omega
      have hi1 : hi ≤ size + 1 := by rw [← hhi]; split <;> omega
      have hi2 : hi ≤ tot + 1 := by rw [← hhi]; split <;> omega
      have hi3 : hi = size + 1 ∨ hi = tot + 1 := by rw [← hhi]; split <;> omega
      clear hlo hhi
      refine for_range (lo := lo) (n := (hi - lo).toNat) (fun i σ H' => ∃ y6 y7 y8 y9 y10 y11 xs ps, σ = [some (.ref a), some (.ref d), some (.int t), some (.int size), some (.ref L), some (.int tot), y6, y7, y8, y9, y10, y11] ∧ Same H4 H' ∧ H' L = some (.lst xs) ∧ Prs H' xs ps ∧ Mem t size tot (lo + i) ps ∧ Hd0 ps ∧ ps.length ≤ 20 * tot + i)
        ⟨w6, w7, w8, w9, w10, w11, xs, ps, by rw [Int.zero_add], s6, h6, pr6, mem_move m6 (fun k l a b c d e => by omega), hd6, by omega⟩ ?_ ?_
      · rintro o σ H7 ho ⟨v6, v7, v8, v9, v10, v11, xs, ps, rfl, s7, h7, pr7, m7, hd7, l7⟩
        generalize hone : lo + (o : Int) = one at *
        walk_at "st"
        have o1 : 0 ≤ one := by omega
        have o2 : one ≤ size := by omega
        have o3 : 0 ≤ (tot : Int) - one := by omega
        have o4 : (tot : Int) - one ≤ size := by omega
        have el : xs.length = ps.length := pr7.len
        refine ⟨L, rfl, ⟨_, lst_of h7⟩, fun D hD => lcm_list (ys := (ps.map fun p => decide (Move t one (tot - one) p.1 p.2)).map V.bl) (lst_of h7) hD (by simp [el]) (by simp; omega) (fun n x y hx hy H' R' s r => ?_) fun Hf sf hf => ?_⟩
        · obtain ⟨b, p, rfl, hp, hb⟩ := pr7.get hx
          have ey : y = .bl (decide (Move t one (tot - one) p.1 p.2)) := by
            simp [List.getElem?_map, hp] at hy
            exact hy.symm
          rw [ey] at r
          show gTup K 2 _ (.ref b) [_, _, _, _, _, _, _, _, _, _, _, _] H' _
          refine k_gtup (tup_of (s _ _ hb)) rfl (k_gcons ?_)
          walk_at "st"
          refine k_gcons ?_
          walk_at "st"
          refine k_gnil ⟨rfl, ?_⟩
          walk_at "st"
          exact ⟨t, one, _, p.1, p.2, rfl, r H' (Same.refl _)⟩
        · walk_at "st"
          refine k_any (lst_of hf) ?_
          walk_at "st"
          have hLf : Hf L = some (.lst xs) := sf _ _ h7
          have prf : Prs Hf xs ps := pr7.nl (nl_same sf)
          by_cases hLo : Lost t one (tot - one)
          · rw [due_lost t1 m7 o1 hLo, Bool.not_false]
            refine spGame_ok t1 t2 o1 (by omega) o3 (by omega) ⟨fun _ => ?_, fun nl => absurd hLo nl⟩
            walk_at "st"
            refine spGame_ok t1 t2 o1 (by omega) o3 (by omega) fun b hb => ?_
            have eb : b = true := hb.mpr hLo
            subst eb
            walk_at "st"
            refine k_iteN (fun h => absurd rfl h) fun _ => ?_
            walk_at "st"
            refine k_iteN (fun h => absurd (by decide) h) fun _ => ?_
            walk_at "st"
            refine ⟨ty_lst (lst_of hLf), ?_⟩
            walk_at "st"
            refine ⟨by show 2 ≤ sizeLine; decide, fun p2 hp2 => ?_⟩
            walk_at "st"
            have sp : Same Hf (upd Hf p2 (.tup [.int one, .int (tot - one)])) := same_new hp2
            refine k_app (sp _ _ hLf) (by omega) ?_
            refine ⟨_, _, _, _, _, _, xs ++ [.ref p2], ps ++ [(one, (tot : Int) - one)], rfl, same_grow ((s7.trans sf).trans sp) hL, upd_same, Prs.snoc ?_ ((prf.nl (nl_same sp)).nl (nl_upd (sp _ _ hLf))), ?_, hd_add m7 o1 o2 o3 hd7, by simp; omega⟩
            · have n2 : p2 ≠ L := fun e => by rw [e, hLf] at hp2; cases hp2
              rw [upd_ne n2, upd_same]
            · have := mem_add m7 o1 o2 o3 o4 hLo
              rw [← hone] at this ⊢
              rw [show lo + ((o + 1 : Nat) : Int) = lo + (o : Int) + 1 by omega]
              exact this
          · refine spGame_ok t1 t2 o1 (by omega) o3 (by omega) ⟨fun z => absurd z hLo, fun nl k l lk mv k0 l0 H8 p8 s8 hp8 => ?_⟩
            obtain ⟨hm, hdue⟩ := due_not m7 o2 o4 lk mv k0 l0
            rw [hdue, Bool.not_true]
            walk_at "st"
            refine spGame_ok t1 t2 o1 (by omega) o3 (by omega) fun b hb => ?_
            have eb : b = false := by cases b with | false => rfl | true => exact absurd (hb.mp rfl) hLo
            subst eb
            walk_at "st"
            refine k_iteN (fun h => absurd rfl h) fun _ => ?_
            walk_at "st"
            refine k_iteN (fun h => absurd (by simp) h) fun _ => ?_
            walk_at "st"
            refine ⟨pD (k, l), ps.map pD, dp_pair hp8, .lst (lst_of (s8 _ _ hLf)) (prf.nl (nl_same s8)).dpa, shaped_pair _, shaped_prs _, ?_⟩
            rw [any_pair, decide_eq_true hm, Bool.not_true]
            walk_at "st"
            refine ⟨t, one, _, _, pD (k, l), rfl, t1, t2, o1, by omega, o3, by omega, dp_pair hp8, fun H9 s9 => ?_⟩
            have em : moveD t one (tot - one) (pD (k, l)) = true := by
              unfold Move at mv
              have w1 := whole_int (lo := 0) (hi := 1000000000) k0 (by omega)
              have w2 := whole_int (lo := 0) (hi := 1000000000) l0 (by omega)
              show (whole (.int k) 0 1000000000 && (whole (.int l) 0 1000000000 && decide (Move t one (tot - one) k l))) = true
              rw [w1, w2, decide_eq_true (show Move t one (tot - one) k l from mv)]
              rfl
            rw [em]
            walk_at "st"
            have s79 := (sf.trans s8).trans s9
            refine ⟨_, _, _, _, _, _, xs, ps, rfl, s7.trans s79, s79 _ _ h7, pr7.nl (nl_same s79), ?_, hd7, by omega⟩
            have := mem_skip m7 hLo
            rw [← hone] at this
            rw [show lo + ((o + 1 : Nat) : Int) = lo + (o : Int) + 1 by omega]
            exact this
      · rintro σ H7 ⟨v6, v7, v8, v9, v10, v11, xs, ps, rfl, s7, h7, pr7, m7, hd7, l7⟩
        exact ⟨_, v6, v7, v8, v9, v10, v11, xs, ps, rfl, s7, h7, pr7, by
          have := mem_next m7 (fun k l a b c d e => by omega)
          exact this, hd7, by omega⟩
    · rintro σ H6 ⟨w5, w6, w7, w8, w9, w10, w11, xs, ps, rfl, s6, h6, pr6, m6, hd6, l6⟩
      have h00 : ((0 : Int), (0 : Int)) ∈ ps := (m6 0 0).mpr ⟨by omega, by omega, by omega, by omega, lost_zero t, by omega⟩
      have e0 : ps[0]? = some (0, 0) := by
        rcases hd6 with rfl | h
        · cases h00
        · exact h
      have el : xs.length = ps.length := pr6.len
      have l0 : 0 < xs.length := by rw [el]; exact (List.getElem?_eq_some_iff.mp e0).1
      obtain ⟨b0, p0, eb, ep, hb0⟩ := pr6.get (n := 0) (List.getElem?_eq_getElem l0)
      rw [e0] at ep
      cases ep
      walk_at "st"
      refine k_ixL (v := .ref b0) (lst_of h6) ?_ ?_
      · unfold atI ixN
        rw [if_pos (by omega), if_pos (by omega)]
        show xs[0]? = _
        rw [List.getElem?_eq_getElem l0, eb]
      walk_at "st"
      refine ⟨by show 2 ≤ sizeLine; decide, fun p2 hp2 => ?_⟩
      have sp : Same H6 (upd H6 p2 (.tup [.int 0, .int 0])) := same_new hp2
      refine ⟨pD (0, 0), pD (0, 0), dp_pair (sp _ _ hb0), dp_pair upd_same, shaped_pair _, shaped_pair _, ?_⟩
      rw [eqv_pair, decide_eq_true rfl, Bool.not_true]
      walk_at "st"
      have h6' := sp _ _ h6
      have pr6' := pr6.nl (nl_same sp)
      generalize (upd H6 p2 (.tup [.int 0, .int 0])) = H7 at sp h6' pr6'
      refine ⟨L, rfl, ⟨_, lst_of h6'⟩, fun D hD => lcm_list (ys := (ps.map fun p => decide ((p.2, p.1) ∈ ps)).map V.bl) (lst_of h6') hD (by simp [el]) (by simp; omega) (fun n x y hx hy H' R' s r => ?_) fun Hf sf hf => ?_⟩
      · obtain ⟨b, p, rfl, hp, hb⟩ := pr6'.get hx
        have ey : y = .bl (decide ((p.2, p.1) ∈ ps)) := by
          simp [List.getElem?_map, hp] at hy
          rw [← hy]
        rw [ey] at r
        show gTup K 2 _ (.ref b) [_, _, _, _, _, _, _, _, _, _, _, _] H' _
        refine k_gtup (tup_of (s _ _ hb)) rfl (k_gcons ?_)
        walk_at "st"
        refine k_gcons ?_
        walk_at "st"
        refine k_gnil ⟨rfl, ?_⟩
        walk_at "st"
        refine ⟨by show 2 ≤ sizeLine; decide, fun p3 hp3 => ?_⟩
        walk_at "st"
        have s3 : Same H' (upd H' p3 (.tup [.int p.2, .int p.1])) := same_new hp3
        refine ⟨pD (p.2, p.1), ps.map pD, dp_pair upd_same, .lst (lst_of (s3 _ _ (s _ _ h6'))) ((pr6'.nl (nl_same s)).nl (nl_same s3)).dpa, shaped_pair _, shaped_prs _, ?_⟩
        rw [any_pair]
        exact r _ s3
      · walk_at "st"
        refine k_all (lst_of hf) ?_
        have ea : (ps.map fun p => decide ((p.2, p.1) ∈ ps)).all id = true := by
          rw [List.all_eq_true]
          intro b hb
          obtain ⟨⟨k, l⟩, hp, e⟩ := List.mem_map.mp hb
          rw [← e]
          have h := (m6 k l).mp hp
          exact decide_eq_true ((m6 l k).mpr ⟨h.2.2.1, h.2.2.2.1, h.1, h.2.1, h.2.2.2.2.1.symm, by omega⟩)
        rw [ea]
        walk_at "st"
        have s8 := (s6.trans sp).trans sf
        exact ⟨_, _, _, _, _, _, _, _, _, _, _, rfl, s8 _ _ hR4, fun r hr => Same.dice s8 (dq4 r hr)⟩
  · rintro σ H2 ⟨y1, y2, y3, y4, y5, y6, y7, y8, y9, y10, y11, rfl, _⟩
    walk_at "st"
    exact q _
end Fl
namespace Fl
open PySem L2 PySem.Spec PyProof.Rows
def topS (i : Nat) : Stmt := PySem.Challenge.pw_floorrows_k17_whole_game.main.body.getD i (.Pass ⟨0, 0, 0, 0⟩)
abbrev s_is_whole : Stmt := topS 5
abbrev s_root_of : Stmt := topS 6
abbrev s_need_rule : Stmt := topS 8
abbrev s_need_heap : Stmt := topS 9
abbrev s_less_heap : Stmt := topS 10
abbrev s_first_from : Stmt := topS 11
abbrev s_is_lost_pair : Stmt := topS 12
abbrev s_is_lost : Stmt := topS 13
abbrev s_answer : Stmt := topS 14
abbrev s_first_with : Stmt := topS 15
abbrev s_winning_move : Stmt := topS 16
abbrev s_is_move : Stmt := topS 17
abbrev s__law_cell : Stmt := topS 19
abbrev s__law_drawn : Stmt := topS 20
abbrev s__law_roll : Stmt := topS 21
abbrev s__law_rounds : Stmt := topS 22
abbrev s__law_is_move : Stmt := topS 23
abbrev s_law : Stmt := topS 24

theorem sc_is_whole : FnScope ["value", "low", "high"] ["value", "low", "high"] (defScope s_is_whole) := ⟨rfl, rfl, rfl, by decide +kernel, rfl, by decide +kernel, by decide +kernel⟩
theorem ok_is_whole {P : Program} {w : World} {K : PySem.W.Frag} {mg : Str → Option Value} {base : Heap} {f : Addr} {fd : FuncData} (B : Bt mg)
    (F : Fun K "is_whole" "is_whole" s_is_whole f fd) (g : mg "is_whole" = some (.ref f)) : Cal P w K mg base 1 "is_whole" ["value", "low", "high"] (sp_is_whole K mg) :=
  cal_of F g sc_is_whole (fun _ _ _ _ _ _ us hl => match us, hl with | [_, _, _], _ => rfl) len_is_whole (t_is_whole P w K mg)
    (fun cdv A outer s H E hr => by
      unfold t_is_whole
      exact (pss_one (ps_ret (pe_and (pe_callB call_isi (by rfl) B.isinstance (by decide +kernel) (pa_cons (pv 0) (pa_cons (pe_bltn (v := .ty "int") rfl B.int (by decide +kernel) rfl) pa_nil))) (pe_and (pe_not (pe_callB call_isi (by rfl) B.isinstance (by decide +kernel) (pa_cons (pv 0) (pa_cons (pe_bltn (v := .ty "bool") rfl B.bool (by decide +kernel) rfl) pa_nil)))) (pe_one (pe_chain op_le op_le (pv 1) (pv 0) (pv 2)))))))) pure_is_whole

theorem sc_root_of : FnScope ["number", "found"] ["number"] (defScope s_root_of) := ⟨rfl, rfl, rfl, by decide +kernel, rfl, by decide +kernel, by decide +kernel⟩
theorem ok_root_of {P : Program} {w : World} {K : PySem.W.Frag} {mg : Str → Option Value} {base : Heap} {f : Addr} {fd : FuncData} (B : Bt mg)
    (F : Fun K "root_of" "root_of" s_root_of f fd) (g : mg "root_of" = some (.ref f)) : Cal P w K mg base 1 "root_of" ["number"] (sp_root_of K mg) :=
  cal_of F g sc_root_of (fun _ _ _ _ _ _ us hl => match us, hl with | [_], _ => rfl) len_root_of (t_root_of P w K mg)
    (fun cdv A outer s H E hr => by
      unfold t_root_of
      exact (pss_cons (ps_if (pt_cmpR op_lt (pv 0) pe_int (nomark _))
        (pss_one (ps_ret (pv 0)))
        pss_nil)
        (pss_cons (ps_set (i := 1) sc_root_of.nd rfl (Or.inl rfl) (pv 0))
        (pss_cons (ps_while (passes_of rfl) (pt_cmpR op_gt (pe_op op_mulW (pv 1) (pv 1)) (pv 0) (nomark _))
        (pss_one (ps_set (i := 1) sc_root_of.nd rfl (Or.inl rfl) (pe_op op_fdivW (pe_op op_add (pv 1) (pe_op op_fdivW (pv 0) (pv 1))) pe_int))))
        (pss_one (ps_ret (pv 1))))))) pure_root_of

theorem sc_need_rule : FnScope ["t"] ["t"] (defScope s_need_rule) := ⟨rfl, rfl, rfl, by decide +kernel, rfl, by decide +kernel, by decide +kernel⟩
theorem ok_need_rule {P : Program} {w : World} {K : PySem.W.Frag} {mg : Str → Option Value} {base : Heap} {f : Addr} {fd : FuncData} (B : Bt mg) (X_InvalidRule : Xc K mg "InvalidRule") (C_is_whole : Cal P w K mg base 1 "is_whole" ["value", "low", "high"] (sp_is_whole K mg))
    (F : Fun K "need_rule" "need_rule" s_need_rule f fd) (g : mg "need_rule" = some (.ref f)) : Cal P w K mg base 2 "need_rule" ["t"] (sp_need_rule K mg) :=
  cal_of F g sc_need_rule (fun _ _ _ _ _ _ us hl => match us, hl with | [_], _ => rfl) len_need_rule (t_need_rule P w K mg)
    (fun cdv A outer s H E hr => by
      unfold t_need_rule
      exact (pss_one (ps_if (pt_not (pt_val (pe_cl C_is_whole (hr.mono (by decide)) pasE (pa_cons (pv 0) (pa_cons pe_int (pa_cons pe_int pa_nil))))))
        (pss_one (ps_rs rfl (L2N.takes_of rfl rfl rfl rfl) X_InvalidRule))
        pss_nil))) pure_need_rule

theorem sc_need_heap : FnScope ["value"] ["value"] (defScope s_need_heap) := ⟨rfl, rfl, rfl, by decide +kernel, rfl, by decide +kernel, by decide +kernel⟩
theorem ok_need_heap {P : Program} {w : World} {K : PySem.W.Frag} {mg : Str → Option Value} {base : Heap} {f : Addr} {fd : FuncData} (B : Bt mg) (X_InvalidHeap : Xc K mg "InvalidHeap") (C_is_whole : Cal P w K mg base 1 "is_whole" ["value", "low", "high"] (sp_is_whole K mg))
    (F : Fun K "need_heap" "need_heap" s_need_heap f fd) (g : mg "need_heap" = some (.ref f)) : Cal P w K mg base 2 "need_heap" ["value"] (sp_need_heap K mg) :=
  cal_of F g sc_need_heap (fun _ _ _ _ _ _ us hl => match us, hl with | [_], _ => rfl) len_need_heap (t_need_heap P w K mg)
    (fun cdv A outer s H E hr => by
      unfold t_need_heap
      exact (pss_one (ps_if (pt_not (pt_val (pe_cl C_is_whole (hr.mono (by decide)) pasE (pa_cons (pv 0) (pa_cons pe_int (pa_cons (pe_op op_pow pe_int pe_int) pa_nil))))))
        (pss_one (ps_rs rfl (L2N.takes_of rfl rfl rfl rfl) X_InvalidHeap))
        pss_nil))) pure_need_heap

theorem sc_less_heap : FnScope ["t", "n"] ["t", "n"] (defScope s_less_heap) := ⟨rfl, rfl, rfl, by decide +kernel, rfl, by decide +kernel, by decide +kernel⟩
theorem ok_less_heap {P : Program} {w : World} {K : PySem.W.Frag} {mg : Str → Option Value} {base : Heap} {f : Addr} {fd : FuncData} (B : Bt mg) (C_root_of : Cal P w K mg base 1 "root_of" ["number"] (sp_root_of K mg))
    (F : Fun K "less_heap" "less_heap" s_less_heap f fd) (g : mg "less_heap" = some (.ref f)) : Cal P w K mg base 2 "less_heap" ["t", "n"] (sp_less_heap K mg) :=
  cal_of F g sc_less_heap (fun _ _ _ _ _ _ us hl => match us, hl with | [_, _], _ => rfl) len_less_heap (t_less_heap P w K mg)
    (fun cdv A outer s H E hr => by
      unfold t_less_heap
      exact (pss_one (ps_ret (pe_op op_fdivW (pe_op op_add (pe_op op_mul (pv 1) (pe_op op_sub pe_int (pv 0))) (pe_cl C_root_of (hr.mono (by decide)) pasE (pa_cons (pe_op op_mul (pe_op op_mul (pv 1) (pv 1)) (pe_op op_add (pe_op op_mul (pv 0) (pv 0)) pe_int)) pa_nil))) pe_int)))) pure_less_heap

theorem sc_first_from : FnScope ["t", "size", "low", "high", "middle"] ["t", "size"] (defScope s_first_from) := ⟨rfl, rfl, rfl, by decide +kernel, rfl, by decide +kernel, by decide +kernel⟩
theorem ok_first_from {P : Program} {w : World} {K : PySem.W.Frag} {mg : Str → Option Value} {base : Heap} {f : Addr} {fd : FuncData} (B : Bt mg) (C_less_heap : Cal P w K mg base 2 "less_heap" ["t", "n"] (sp_less_heap K mg))
    (F : Fun K "first_from" "first_from" s_first_from f fd) (g : mg "first_from" = some (.ref f)) : Cal P w K mg base 3 "first_from" ["t", "size"] (sp_first_from K mg) :=
  cal_of F g sc_first_from (fun _ _ _ _ _ _ us hl => match us, hl with | [_, _], _ => rfl) len_first_from (t_first_from P w K mg)
    (fun cdv A outer s H E hr => by
      unfold t_first_from
      exact (pss_cons (ps_par (i := 2) (j := 3) rfl sc_first_from.nd rfl rfl (by decide) rfl rfl (pa_cons pe_int (pa_cons (pv 1) pa_nil)) (by rfl))
        (pss_cons (ps_while (passes_of rfl) (pt_cmpR op_lt (pv 2) (pv 3) (nomark _))
        (pss_cons (ps_set (i := 4) sc_first_from.nd rfl (Or.inl rfl) (pe_op op_fdivW (pe_op op_add (pv 2) (pv 3)) pe_int))
        (pss_one (ps_if (pt_cmpR op_lt (pe_cl C_less_heap (hr.mono (by decide)) pasE (pa_cons (pv 0) (pa_cons (pv 4) pa_nil))) (pv 1) (nomark _))
        (pss_one (ps_set (i := 2) sc_first_from.nd rfl (Or.inl rfl) (pe_op op_add (pv 4) pe_int)))
        (pss_one (ps_set (i := 3) sc_first_from.nd rfl (Or.inl rfl) (pv 4)))))))
        (pss_one (ps_ret (pv 2)))))) pure_first_from

theorem sc_is_lost_pair : FnScope ["t", "less", "more", "n"] ["t", "less", "more"] (defScope s_is_lost_pair) := ⟨rfl, rfl, rfl, by decide +kernel, rfl, by decide +kernel, by decide +kernel⟩
theorem ok_is_lost_pair {P : Program} {w : World} {K : PySem.W.Frag} {mg : Str → Option Value} {base : Heap} {f : Addr} {fd : FuncData} (B : Bt mg) (C_first_from : Cal P w K mg base 3 "first_from" ["t", "size"] (sp_first_from K mg)) (C_less_heap : Cal P w K mg base 2 "less_heap" ["t", "n"] (sp_less_heap K mg))
    (F : Fun K "is_lost_pair" "is_lost_pair" s_is_lost_pair f fd) (g : mg "is_lost_pair" = some (.ref f)) : Cal P w K mg base 4 "is_lost_pair" ["t", "less", "more"] (sp_is_lost_pair K mg) :=
  cal_of F g sc_is_lost_pair (fun _ _ _ _ _ _ us hl => match us, hl with | [_, _, _], _ => rfl) len_is_lost_pair (t_is_lost_pair P w K mg)
    (fun cdv A outer s H E hr => by
      unfold t_is_lost_pair
      exact (pss_cons (ps_set (i := 3) sc_is_lost_pair.nd rfl (Or.inl rfl) (pe_cl C_first_from (hr.mono (by decide)) pasE (pa_cons (pv 0) (pa_cons (pv 1) pa_nil))))
        (pss_one (ps_ret (pe_and (pe_cmpR op_eq (pe_cl C_less_heap (hr.mono (by decide)) pasE (pa_cons (pv 0) (pa_cons (pv 3) pa_nil))) (pv 1) (nomark _)) (pe_one (pe_cmpR op_eq (pv 2) (pe_op op_add (pv 1) (pe_op op_mul (pv 0) (pv 3))) (nomark _)))))))) pure_is_lost_pair

theorem sc_is_lost : FnScope ["t", "one", "other"] ["t", "one", "other"] (defScope s_is_lost) := ⟨rfl, rfl, rfl, by decide +kernel, rfl, by decide +kernel, by decide +kernel⟩
theorem ok_is_lost {P : Program} {w : World} {K : PySem.W.Frag} {mg : Str → Option Value} {base : Heap} {f : Addr} {fd : FuncData} (B : Bt mg) (C_is_lost_pair : Cal P w K mg base 4 "is_lost_pair" ["t", "less", "more"] (sp_is_lost_pair K mg)) (C_need_heap : Cal P w K mg base 2 "need_heap" ["value"] (sp_need_heap K mg)) (C_need_rule : Cal P w K mg base 2 "need_rule" ["t"] (sp_need_rule K mg))
    (F : Fun K "is_lost" "is_lost" s_is_lost f fd) (g : mg "is_lost" = some (.ref f)) : Cal P w K mg base 5 "is_lost" ["t", "one", "other"] (sp_is_lost K mg) :=
  cal_of F g sc_is_lost (fun _ _ _ _ _ _ us hl => match us, hl with | [_, _, _], _ => rfl) len_is_lost (t_is_lost P w K mg)
    (fun cdv A outer s H E hr => by
      unfold t_is_lost
      exact (pss_cons (ps_expr (pe_cl C_need_rule (hr.mono (by decide)) pasE (pa_cons (pv 0) pa_nil)))
        (pss_cons (ps_expr (pe_cl C_need_heap (hr.mono (by decide)) pasE (pa_cons (pv 1) pa_nil)))
        (pss_cons (ps_expr (pe_cl C_need_heap (hr.mono (by decide)) pasE (pa_cons (pv 2) pa_nil)))
        (pss_one (ps_ret (pe_cl C_is_lost_pair (hr.mono (by decide)) pasE (pa_cons (pv 0) (pa_cons (pe_callB (call_min2 rfl) (by rfl) B.min (by decide +kernel) (pa_cons (pv 1) (pa_cons (pv 2) pa_nil))) (pa_cons (pe_callB (call_max2 rfl) (by rfl) B.max (by decide +kernel) (pa_cons (pv 1) (pa_cons (pv 2) pa_nil))) pa_nil)))))))))) pure_is_lost

theorem sc_first_with : FnScope ["t", "size", "low", "high", "middle"] ["t", "size"] (defScope s_first_with) := ⟨rfl, rfl, rfl, by decide +kernel, rfl, by decide +kernel, by decide +kernel⟩
theorem ok_first_with {P : Program} {w : World} {K : PySem.W.Frag} {mg : Str → Option Value} {base : Heap} {f : Addr} {fd : FuncData} (B : Bt mg) (C_less_heap : Cal P w K mg base 2 "less_heap" ["t", "n"] (sp_less_heap K mg))
    (F : Fun K "first_with" "first_with" s_first_with f fd) (g : mg "first_with" = some (.ref f)) : Cal P w K mg base 3 "first_with" ["t", "size"] (sp_first_with K mg) :=
  cal_of F g sc_first_with (fun _ _ _ _ _ _ us hl => match us, hl with | [_, _], _ => rfl) len_first_with (t_first_with P w K mg)
    (fun cdv A outer s H E hr => by
      unfold t_first_with
      exact (pss_cons (ps_par (i := 2) (j := 3) rfl sc_first_with.nd rfl rfl (by decide) rfl rfl (pa_cons pe_int (pa_cons (pv 1) pa_nil)) (by rfl))
        (pss_cons (ps_while (passes_of rfl) (pt_cmpR op_lt (pv 2) (pv 3) (nomark _))
        (pss_cons (ps_set (i := 4) sc_first_with.nd rfl (Or.inl rfl) (pe_op op_fdivW (pe_op op_add (pv 2) (pv 3)) pe_int))
        (pss_one (ps_if (pt_cmpR op_lt (pe_op op_add (pe_cl C_less_heap (hr.mono (by decide)) pasE (pa_cons (pv 0) (pa_cons (pv 4) pa_nil))) (pe_op op_mul (pv 0) (pv 4))) (pv 1) (nomark _))
        (pss_one (ps_set (i := 2) sc_first_with.nd rfl (Or.inl rfl) (pe_op op_add (pv 4) pe_int)))
        (pss_one (ps_set (i := 3) sc_first_with.nd rfl (Or.inl rfl) (pv 4)))))))
        (pss_one (ps_ret (pe_cl C_less_heap (hr.mono (by decide)) pasE (pa_cons (pv 0) (pa_cons (pv 2) pa_nil)))))))) pure_first_with

theorem sc_answer : FnScope ["t", "less", "more", "n", "m"] ["t", "less", "more"] (defScope s_answer) := ⟨rfl, rfl, rfl, by decide +kernel, rfl, by decide +kernel, by decide +kernel⟩
theorem ok_answer {P : Program} {w : World} {K : PySem.W.Frag} {mg : Str → Option Value} {base : Heap} {f : Addr} {fd : FuncData} (B : Bt mg) (C_first_from : Cal P w K mg base 3 "first_from" ["t", "size"] (sp_first_from K mg)) (C_first_with : Cal P w K mg base 3 "first_with" ["t", "size"] (sp_first_with K mg)) (C_less_heap : Cal P w K mg base 2 "less_heap" ["t", "n"] (sp_less_heap K mg))
    (F : Fun K "answer" "answer" s_answer f fd) (g : mg "answer" = some (.ref f)) : Cal P w K mg base 4 "answer" ["t", "less", "more"] (sp_answer K mg) :=
  cal_of F g sc_answer (fun _ _ _ _ _ _ us hl => match us, hl with | [_, _, _], _ => rfl) len_answer (t_answer P w K mg)
    (fun cdv A outer s H E hr => by
      unfold t_answer
      exact (pss_cons (ps_set (i := 3) sc_answer.nd rfl (Or.inl rfl) (pe_cl C_first_from (hr.mono (by decide)) pasE (pa_cons (pv 0) (pa_cons (pv 1) pa_nil))))
        (pss_cons (ps_if (pt_cmpR op_ne (pe_cl C_less_heap (hr.mono (by decide)) pasE (pa_cons (pv 0) (pa_cons (pv 3) pa_nil))) (pv 1) (nomark _))
        (pss_one (ps_ret (pe_tup (pa_cons (pv 1) (pa_cons (pe_cl C_first_with (hr.mono (by decide)) pasE (pa_cons (pv 0) (pa_cons (pv 1) pa_nil))) pa_nil)))))
        pss_nil)
        (pss_cons (ps_if (pt_cmpR op_gt (pv 2) (pe_op op_add (pv 1) (pe_op op_mul (pv 0) (pv 3))) (nomark _))
        (pss_one (ps_ret (pe_tup (pa_cons (pv 1) (pa_cons (pe_op op_add (pv 1) (pe_op op_mul (pv 0) (pv 3))) pa_nil)))))
        pss_nil)
        (pss_cons (ps_set (i := 4) sc_answer.nd rfl (Or.inl rfl) (pe_op op_fdivW (pe_op op_sub (pv 2) (pv 1)) (pv 0)))
        (pss_one (ps_ret (pe_tup (pa_cons (pe_cl C_less_heap (hr.mono (by decide)) pasE (pa_cons (pv 0) (pa_cons (pv 4) pa_nil))) (pa_cons (pe_op op_add (pe_cl C_less_heap (hr.mono (by decide)) pasE (pa_cons (pv 0) (pa_cons (pv 4) pa_nil))) (pe_op op_mul (pv 0) (pv 4))) pa_nil)))))))))) pure_answer

theorem sc_winning_move : FnScope ["t", "one", "other", "less", "more", "first", "last"] ["t", "one", "other"] (defScope s_winning_move) := ⟨rfl, rfl, rfl, by decide +kernel, rfl, by decide +kernel, by decide +kernel⟩
theorem ok_winning_move {P : Program} {w : World} {K : PySem.W.Frag} {mg : Str → Option Value} {base : Heap} {f : Addr} {fd : FuncData} (B : Bt mg) (C_answer : Cal P w K mg base 4 "answer" ["t", "less", "more"] (sp_answer K mg)) (C_is_lost_pair : Cal P w K mg base 4 "is_lost_pair" ["t", "less", "more"] (sp_is_lost_pair K mg)) (C_need_heap : Cal P w K mg base 2 "need_heap" ["value"] (sp_need_heap K mg)) (C_need_rule : Cal P w K mg base 2 "need_rule" ["t"] (sp_need_rule K mg))
    (F : Fun K "winning_move" "winning_move" s_winning_move f fd) (g : mg "winning_move" = some (.ref f)) : Cal P w K mg base 5 "winning_move" ["t", "one", "other"] (sp_winning_move K mg) :=
  cal_of F g sc_winning_move (fun _ _ _ _ _ _ us hl => match us, hl with | [_, _, _], _ => rfl) len_winning_move (t_winning_move P w K mg)
    (fun cdv A outer s H E hr => by
      unfold t_winning_move
      exact (pss_cons (ps_expr (pe_cl C_need_rule (hr.mono (by decide)) pasE (pa_cons (pv 0) pa_nil)))
        (pss_cons (ps_expr (pe_cl C_need_heap (hr.mono (by decide)) pasE (pa_cons (pv 1) pa_nil)))
        (pss_cons (ps_expr (pe_cl C_need_heap (hr.mono (by decide)) pasE (pa_cons (pv 2) pa_nil)))
        (pss_cons (ps_par (i := 3) (j := 4) rfl sc_winning_move.nd rfl rfl (by decide) rfl rfl (pa_cons (pe_callB (call_min2 rfl) (by rfl) B.min (by decide +kernel) (pa_cons (pv 1) (pa_cons (pv 2) pa_nil))) (pa_cons (pe_callB (call_max2 rfl) (by rfl) B.max (by decide +kernel) (pa_cons (pv 1) (pa_cons (pv 2) pa_nil))) pa_nil)) (by rfl))
        (pss_cons (ps_if (pt_val (pe_cl C_is_lost_pair (hr.mono (by decide)) pasE (pa_cons (pv 0) (pa_cons (pv 3) (pa_cons (pv 4) pa_nil)))))
        (pss_one (ps_ret pe_non))
        pss_nil)
        (pss_cons (ps_asg (pe_cl C_answer (hr.mono (by decide)) pasE (pa_cons (pv 0) (pa_cons (pv 3) (pa_cons (pv 4) pa_nil)))) (pg_tup rfl (pgs_cons (pg_name (i := 5) sc_winning_move.nd rfl (Or.inl rfl)) (pgs_cons (pg_name (i := 6) sc_winning_move.nd rfl (Or.inl rfl)) pgs_nil))))
        (pss_one (ps_ret (pe_ifExp (pt_cmpR op_le (pv 1) (pv 2) (nomark _)) (pe_tup (pa_cons (pv 5) (pa_cons (pv 6) pa_nil))) (pe_tup (pa_cons (pv 6) (pa_cons (pv 5) pa_nil))))))))))))) pure_winning_move

theorem sc_is_move : FnScope ["t", "one", "other", "value", "first", "last", "size"] ["t", "one", "other", "value"] (defScope s_is_move) := ⟨rfl, rfl, rfl, by decide +kernel, rfl, by decide +kernel, by decide +kernel⟩
theorem ok_is_move {P : Program} {w : World} {K : PySem.W.Frag} {mg : Str → Option Value} {base : Heap} {f : Addr} {fd : FuncData} (B : Bt mg) (C_is_whole : Cal P w K mg base 1 "is_whole" ["value", "low", "high"] (sp_is_whole K mg)) (C_need_heap : Cal P w K mg base 2 "need_heap" ["value"] (sp_need_heap K mg)) (C_need_rule : Cal P w K mg base 2 "need_rule" ["t"] (sp_need_rule K mg))
    (F : Fun K "is_move" "is_move" s_is_move f fd) (g : mg "is_move" = some (.ref f)) : Cal P w K mg base 3 "is_move" ["t", "one", "other", "value"] (sp_is_move K mg) :=
  cal_of F g sc_is_move (fun _ _ _ _ _ _ us hl => match us, hl with | [_, _, _, _], _ => rfl) len_is_move (t_is_move P w K mg)
    (fun cdv A outer s H E hr => by
      unfold t_is_move
      exact (pss_cons (ps_expr (pe_cl C_need_rule (hr.mono (by decide)) pasE (pa_cons (pv 0) pa_nil)))
        (pss_cons (ps_expr (pe_cl C_need_heap (hr.mono (by decide)) pasE (pa_cons (pv 1) pa_nil)))
        (pss_cons (ps_expr (pe_cl C_need_heap (hr.mono (by decide)) pasE (pa_cons (pv 2) pa_nil)))
        (pss_cons (ps_if (PW.pt (pw_or (pt_not (pt_val (pe_callB call_isi (by rfl) B.isinstance (by decide +kernel) (pa_cons (pv 3) (pa_cons (pe_bltn (v := .ty "tuple") rfl B.tuple (by decide +kernel) rfl) pa_nil))))) (pw_or (pt_cmpR op_ne (pe_callB call_len_seq (by rfl) B.len (by decide +kernel) (pa_cons (pv 3) pa_nil)) pe_int (nomark _)) (pw_or1 (pt_not (pt_val (pe_callB (cr_all rfl) (by rfl) B.all (by decide +kernel) (pa_cons (pe_lc (own := [("size", 6)]) (g := (gName 6)) (tt := tYes) (te := (tCall (sp_is_whole K mg) [] E0 (tCons (tVar 6) (tCons (tC (.int 0)) (tCons (tOp rPowI (tC (.int 10)) (tC (.int 9))) tNil))))) (hc := rfl) (hN := sc_is_move.nd) (hi := (pi_tup (pv 3))) (ok := blkOk_by (N := ["t", "one", "other", "value", "first", "last", "size"]) (sc := (defScope s_is_move)) (by decide +kernel)) (hg := fun _ _ _ _ _ => (pg_name (i := 6) sc_is_move.nd rfl (Or.inl rfl))) (ht := fun _ _ _ _ _ => pts_nil) (he := fun _ _ _ _ _ => (pe_cl C_is_whole (hr.mono (by decide)) pas0 (pa_cons (pv 6) (pa_cons pe_int (pa_cons (pe_op op_pow pe_int pe_int) pa_nil)))))) pa_nil))))))))
        (pss_one (ps_ret pe_bl))
        pss_nil)
        (pss_cons (ps_par (i := 4) (j := 5) rfl sc_is_move.nd rfl rfl (by decide) rfl rfl (pa_cons (pe_op op_sub (pv 1) (pe_ix ix_tup (pv 3) pe_int (fun _ _ => rfl))) (pa_cons (pe_op op_sub (pv 2) (pe_ix ix_tup (pv 3) pe_int (fun _ _ => rfl))) pa_nil)) (by rfl))
        (pss_cons (ps_if (PW.pt (pw_or (pt_cmpR op_lt (pv 4) pe_int (nomark _)) (pw_or (pt_cmpR op_lt (pv 5) pe_int (nomark _)) (pw_or1 (pt_cmpR op_eq (pe_op op_add (pv 4) (pv 5)) pe_int (nomark _))))))
        (pss_one (ps_ret pe_bl))
        pss_nil)
        (pss_one (ps_ret (pe_or (pe_cmpR op_eq (pv 4) pe_int (nomark _)) (pe_or (pe_cmpR op_eq (pv 5) pe_int (nomark _)) (pe_one (pe_cmpR op_lt (pe_callB call_abs (by rfl) B.abs (by decide +kernel) (pa_cons (pe_op op_sub (pv 4) (pv 5)) pa_nil)) (pv 0) (nomark _)))))))))))))) pure_is_move

theorem sc__law_cell : FnScope ["script", "k"] ["script", "k"] (defScope s__law_cell) := ⟨rfl, rfl, rfl, by decide +kernel, rfl, by decide +kernel, by decide +kernel⟩
theorem ok__law_cell {P : Program} {w : World} {K : PySem.W.Frag} {mg : Str → Option Value} {base : Heap} {f : Addr} {fd : FuncData} (B : Bt mg)
    (F : Fun K "_law_cell" "_law_cell" s__law_cell f fd) (g : mg "_law_cell" = some (.ref f)) : Cal P w K mg base 1 "_law_cell" ["script", "k"] (sp__law_cell K mg) :=
  cal_of F g sc__law_cell (fun _ _ _ _ _ _ us hl => match us, hl with | [_, _], _ => rfl) len__law_cell (t__law_cell P w K mg)
    (fun cdv A outer s H E hr => by
      unfold t__law_cell
      exact (pss_cons (ps_if (pt_cmpR (op_eqD hr.units) (pv 0) (pe_lst pa_nil) (nomark _))
        (pss_one (ps_ret (pe_op op_mul (pv 1) pe_int)))
        pss_nil)
        (pss_one (ps_ret (pe_op op_add (pe_ix ix_list (pv 0) (pe_op op_mod (pv 1) (pe_callB call_len_seq (by rfl) B.len (by decide +kernel) (pa_cons (pv 0) pa_nil))) (fun _ _ => rfl)) (pe_op op_mul (pe_op op_fdivW (pv 1) (pe_callB call_len_seq (by rfl) B.len (by decide +kernel) (pa_cons (pv 0) pa_nil))) pe_int)))))) pure__law_cell

theorem sc__law_drawn : FnScope ["cell", "k", "more"] ["cell", "k"] (defScope s__law_drawn) := ⟨rfl, rfl, rfl, by decide +kernel, rfl, by decide +kernel, by decide +kernel⟩
theorem ok__law_drawn {P : Program} {w : World} {K : PySem.W.Frag} {mg : Str → Option Value} {base : Heap} {f : Addr} {fd : FuncData} (B : Bt mg)
    (F : Fun K "_law_drawn" "_law_drawn" s__law_drawn f fd) (g : mg "_law_drawn" = some (.ref f)) : Cal P w K mg base 1 "_law_drawn" ["cell", "k"] (sp__law_drawn K mg) :=
  cal_of F g sc__law_drawn (fun _ _ _ _ _ _ us hl => match us, hl with | [_, _], _ => rfl) len__law_drawn (t__law_drawn P w K mg)
    (fun cdv A outer s H E hr => by
      unfold t__law_drawn
      exact (pss_cons (ps_set (i := 2) sc__law_drawn.nd rfl (Or.inl rfl) (pe_op op_mod (pe_op op_add (pe_op op_mul (pv 0) pe_int) (pe_op op_mul (pe_op op_add (pv 1) pe_int) pe_int)) pe_int))
        (pss_cons (ps_set (i := 2) sc__law_drawn.nd rfl (Or.inl rfl) (pe_op op_mod (pe_op op_mulW (pv 2) (pv 2)) pe_int))
        (pss_cons (ps_set (i := 2) sc__law_drawn.nd rfl (Or.inl rfl) (pe_op op_mulW (pe_op op_mulW (pe_op op_add (pe_op op_mod (pv 2) pe_int) pe_int) (pe_op op_add (pe_op op_fdivW (pv 2) pe_int) pe_int)) (pv 2)))
        (pss_one (ps_ret (pe_op op_mod (pv 2) pe_int))))))) pure__law_drawn

theorem sc__law_roll : FnScope ["dice", "many", "told"] ["dice", "many"] (defScope s__law_roll) := ⟨rfl, rfl, rfl, by decide +kernel, rfl, by decide +kernel, by decide +kernel⟩
theorem ok__law_roll {P : Program} {w : World} {K : PySem.W.Frag} {mg : Str → Option Value} {base : Heap} {f : Addr} {fd : FuncData} (B : Bt mg) (C__law_drawn : Cal P w K mg base 1 "_law_drawn" ["cell", "k"] (sp__law_drawn K mg))
    (F : Fun K "_law_roll" "_law_roll" s__law_roll f fd) (g : mg "_law_roll" = some (.ref f)) : Cal P w K mg base 2 "_law_roll" ["dice", "many"] (sp__law_roll K mg) :=
  cal_of F g sc__law_roll (fun _ _ _ _ _ _ us hl => match us, hl with | [_, _], _ => rfl) len__law_roll (t__law_roll P w K mg)
    (fun cdv A outer s H E hr => by
      unfold t__law_roll
      exact (pss_cons (ps_if (pt_cmpR op_ge (pe_ix ix_list (pv 0) pe_int (fun _ _ => rfl)) (pe_op op_pow pe_int pe_int) (nomark _))
        (pss_cons (ps_set (i := 2) sc__law_roll.nd rfl (Or.inl rfl) (pe_op op_mod (pe_ix ix_list (pv 0) pe_int (fun _ _ => rfl)) (pv 1)))
        (pss_cons (ps_asg (pe_op op_fdivW (pe_ix ix_list (pv 0) pe_int (fun _ _ => rfl)) (pv 1)) (pg_sub (pv 0) pe_int set_list))
        (pss_one (ps_ret (pv 2)))))
        pss_nil)
        (pss_cons (ps_asg (pe_op op_add (pe_ix ix_list (pv 0) pe_int (fun _ _ => rfl)) pe_int) (pg_sub (pv 0) pe_int set_list))
        (pss_one (ps_ret (pe_op op_mod (pe_op op_fdivW (pe_cl C__law_drawn (hr.mono (by decide)) pasE (pa_cons (pe_ix ix_list (pv 0) pe_int (fun _ _ => rfl)) (pa_cons (pe_ix ix_list (pv 0) pe_int (fun _ _ => rfl)) pa_nil))) pe_int) (pv 1))))))) pure__law_roll

theorem sc__law_rounds : FnScope ["script", "most", "k"] ["script", "most"] (defScope s__law_rounds) := ⟨rfl, rfl, rfl, by decide +kernel, rfl, by decide +kernel, by decide +kernel⟩
theorem ok__law_rounds {P : Program} {w : World} {K : PySem.W.Frag} {mg : Str → Option Value} {base : Heap} {f : Addr} {fd : FuncData} (B : Bt mg) (C__law_cell : Cal P w K mg base 1 "_law_cell" ["script", "k"] (sp__law_cell K mg))
    (F : Fun K "_law_rounds" "_law_rounds" s__law_rounds f fd) (g : mg "_law_rounds" = some (.ref f)) : Cal P w K mg base 2 "_law_rounds" ["script", "most"] (sp__law_rounds K mg) :=
  cal_of F g sc__law_rounds (fun _ _ _ _ _ _ us hl => match us, hl with | [_, _], _ => rfl) len__law_rounds (t__law_rounds P w K mg)
    (fun cdv A outer s H E hr => by
      unfold t__law_rounds
      exact (pss_one (ps_ret (pe_lc (own := [("k", 2)]) (g := (gName 2)) (tt := tYes) (te := (tLst (tCons (tCall (sp__law_cell K mg) [] E0 (tCons (tVar 0) (tCons (tVar 2) tNil))) (tCons (tC (.int 0)) tNil)))) (hc := rfl) (hN := sc__law_rounds.nd) (hi := (pi_range1 (by rfl) B.range (pa_cons (pe_callB (call_max2 rfl) (by rfl) B.max (by decide +kernel) (pa_cons pe_int (pa_cons (pe_callB (call_min2 rfl) (by rfl) B.min (by decide +kernel) (pa_cons (pv 1) (pa_cons (pe_callB call_len_seq (by rfl) B.len (by decide +kernel) (pa_cons (pv 0) pa_nil)) pa_nil))) pa_nil))) pa_nil))) (ok := blkOk_by (N := ["script", "most", "k"]) (sc := (defScope s__law_rounds)) (by decide +kernel)) (hg := fun _ _ _ _ _ => (pg_name (i := 2) sc__law_rounds.nd rfl (Or.inl rfl))) (ht := fun _ _ _ _ _ => pts_nil) (he := fun _ _ _ _ _ => (pe_lst (pa_cons (pe_cl C__law_cell (hr.mono (by decide)) pas0 (pa_cons (pv 0) (pa_cons (pv 2) pa_nil))) (pa_cons pe_int pa_nil)))))))) pure__law_rounds

theorem sc__law_is_move : FnScope ["t", "one", "other", "first", "last", "less", "fewer"] ["t", "one", "other", "first", "last"] (defScope s__law_is_move) := ⟨rfl, rfl, rfl, by decide +kernel, rfl, by decide +kernel, by decide +kernel⟩
theorem ok__law_is_move {P : Program} {w : World} {K : PySem.W.Frag} {mg : Str → Option Value} {base : Heap} {f : Addr} {fd : FuncData} (B : Bt mg)
    (F : Fun K "_law_is_move" "_law_is_move" s__law_is_move f fd) (g : mg "_law_is_move" = some (.ref f)) : Cal P w K mg base 1 "_law_is_move" ["t", "one", "other", "first", "last"] (sp__law_is_move K mg) :=
  cal_of F g sc__law_is_move (fun _ _ _ _ _ _ us hl => match us, hl with | [_, _, _, _, _], _ => rfl) len__law_is_move (t__law_is_move P w K mg)
    (fun cdv A outer s H E hr => by
      unfold t__law_is_move
      exact (pss_cons (ps_par (i := 5) (j := 6) rfl sc__law_is_move.nd rfl rfl (by decide) rfl rfl (pa_cons (pe_op op_sub (pv 1) (pv 3)) (pa_cons (pe_op op_sub (pv 2) (pv 4)) pa_nil)) (by rfl))
        (pss_cons (ps_if (PW.pt (pw_or (pt_cmpR op_lt (pv 5) pe_int (nomark _)) (pw_or (pt_cmpR op_lt (pv 6) pe_int (nomark _)) (pw_or1 (pt_cmpR op_eq (pe_op op_add (pv 5) (pv 6)) pe_int (nomark _))))))
        (pss_one (ps_ret pe_bl))
        pss_nil)
        (pss_one (ps_ret (pe_or (pe_cmpR op_eq (pv 5) pe_int (nomark _)) (pe_or (pe_cmpR op_eq (pv 6) pe_int (nomark _)) (pe_one (pe_cmpR op_lt (pe_callB call_abs (by rfl) B.abs (by decide +kernel) (pa_cons (pe_op op_sub (pv 5) (pv 6)) pa_nil)) (pv 0) (nomark _)))))))))) pure__law_is_move

theorem sc_law : FnScope ["script", "dice", "t", "size", "lost", "total", "one", "other", "due", "made", "first", "last"] ["script"] (defScope s_law) := ⟨rfl, rfl, rfl, by decide +kernel, rfl, by decide +kernel, by decide +kernel⟩
theorem okf_law {P : Program} {w : World} {K : PySem.W.Frag} {mg : Str → Option Value} {base : Heap} {f : Addr} {fd : FuncData} (B : Bt mg) (C__law_is_move : Cal P w K mg base 1 "_law_is_move" ["t", "one", "other", "first", "last"] (sp__law_is_move K mg)) (C__law_roll : Cal P w K mg base 2 "_law_roll" ["dice", "many"] (sp__law_roll K mg)) (C__law_rounds : Cal P w K mg base 2 "_law_rounds" ["script", "most"] (sp__law_rounds K mg)) (C_is_lost : Cal P w K mg base 5 "is_lost" ["t", "one", "other"] (sp_is_lost K mg)) (C_is_move : Cal P w K mg base 3 "is_move" ["t", "one", "other", "value"] (sp_is_move K mg)) (C_winning_move : Cal P w K mg base 5 "winning_move" ["t", "one", "other"] (sp_winning_move K mg))
    (F : Fun K "law" "law" s_law f fd) : FnOk P w K mg base (L2N.CX P w) 6 f fd ["script"] (spLaw K) :=
  fnok_of F sc_law (len_law (mg := mg)) (t_law P w K mg)
    (fun cdv A outer s H E hr => by
      unfold t_law
      exact (pss_cons (ps_for (passes_of rfl) rfl (pi_list (pe_cl C__law_rounds (hr.mono (by decide)) pasE (pa_cons (pv 0) (pa_cons pe_int pa_nil)))) (pg_name (i := 1) sc_law.nd rfl (Or.inl rfl))
        (pss_cons (ps_asg (pe_tup (pa_cons (pe_op op_add pe_int (pe_cl C__law_roll (hr.mono (by decide)) pasE (pa_cons (pv 1) (pa_cons pe_int pa_nil)))) (pa_cons (pe_op op_add pe_int (pe_cl C__law_roll (hr.mono (by decide)) pasE (pa_cons (pv 1) (pa_cons pe_int pa_nil)))) (pa_cons (pe_lst pa_nil) pa_nil)))) (pg_tup rfl (pgs_cons (pg_name (i := 2) sc_law.nd rfl (Or.inr rfl)) (pgs_cons (pg_name (i := 3) sc_law.nd rfl (Or.inl rfl)) (pgs_cons (pg_name (i := 4) sc_law.nd rfl (Or.inr rfl)) pgs_nil)))))
        (pss_cons (ps_for (passes_of rfl) rfl (pi_range1 (by rfl) B.range (pa_cons (pe_op op_add (pe_op op_mul pe_int (pv 3)) pe_int) pa_nil)) (pg_name (i := 5) sc_law.nd rfl (Or.inl rfl))
        (pss_one (ps_for (passes_of rfl) rfl (pi_range2 (by rfl) B.range (pa_cons (pe_callB (call_max2 rfl) (by rfl) B.max (by decide +kernel) (pa_cons pe_int (pa_cons (pe_op op_sub (pv 5) (pv 3)) pa_nil))) (pa_cons (pe_op op_add (pe_callB (call_min2 rfl) (by rfl) B.min (by decide +kernel) (pa_cons (pv 3) (pa_cons (pv 5) pa_nil))) pe_int) pa_nil))) (pg_name (i := 6) sc_law.nd rfl (Or.inr rfl))
        (pss_cons (ps_set (i := 7) sc_law.nd rfl (Or.inr rfl) (pe_op op_sub (pv 5) (pv 6)))
        (pss_cons (ps_set (i := 8) sc_law.nd rfl (Or.inl rfl) (pe_not (pe_callB (cr_any rfl) (by rfl) B.any (by decide +kernel) (pa_cons (pe_lc (own := [("first", 10), ("last", 11)]) (g := (gTup K 2 (gCons (gName 10) (gCons (gName 11) gNil)))) (tt := tYes) (te := (tCall (sp__law_is_move K mg) [] E0 (tCons (tVar 2) (tCons (tVar 6) (tCons (tVar 7) (tCons (tVar 10) (tCons (tVar 11) tNil))))))) (hc := rfl) (hN := sc_law.nd) (hi := (pi_list (pv 4))) (ok := blkOk_by (N := ["script", "dice", "t", "size", "lost", "total", "one", "other", "due", "made", "first", "last"]) (sc := (defScope s_law)) (by decide +kernel)) (hg := fun _ _ _ _ _ => (pg_tup rfl (pgs_cons (pg_name (i := 10) sc_law.nd rfl (Or.inl rfl)) (pgs_cons (pg_name (i := 11) sc_law.nd rfl (Or.inl rfl)) pgs_nil)))) (ht := fun _ _ _ _ _ => pts_nil) (he := fun _ _ _ _ _ => (pe_cl C__law_is_move (hr.mono (by decide)) pas0 (pa_cons (pv 2) (pa_cons (pv 6) (pa_cons (pv 7) (pa_cons (pv 10) (pa_cons (pv 11) pa_nil)))))))) pa_nil))))
        (pss_cons (ps_set (i := 9) sc_law.nd rfl (Or.inl rfl) (pe_cl C_winning_move (hr.mono (by decide)) pasE (pa_cons (pv 2) (pa_cons (pv 6) (pa_cons (pv 7) pa_nil)))))
        (pss_cons (ps_if (PW.pt (pw_or (pt_cmpR op_ne (pe_cl C_is_lost (hr.mono (by decide)) pasE (pa_cons (pv 2) (pa_cons (pv 6) (pa_cons (pv 7) pa_nil)))) (pv 8) (nomark _)) (pw_or1 (pt_cmpR op_ne (pe_cmpR op_isN (pv 9) pe_non (nomark _)) (pv 8) (nomark _)))))
        (pss_one (ps_ret pe_bl))
        pss_nil)
        (pss_one (ps_if (pt_val (pv 8))
        (pss_one (ps_expr (pe_bm PySem.F.plainAttrs_list PySem.F.slot_list_append PySem.F.type_list_append mt_append (pv 4) (pa_cons (pe_tup (pa_cons (pv 6) (pa_cons (pv 7) pa_nil))) pa_nil))))
        (pss_one (ps_if (PW.pt (pw_or (pt_cmpR (op_notInD (un65 hr)) (pv 9) (pv 4) (by rfl)) (pw_or1 (pt_not (pt_val (pe_cl C_is_move (hr.mono (by decide)) pasE (pa_cons (pv 2) (pa_cons (pv 6) (pa_cons (pv 7) (pa_cons (pv 9) pa_nil))))))))))
        (pss_one (ps_ret pe_bl))
        pss_nil)))))))))))
        (pss_one (ps_if (PW.pt (pw_or (pt_cmpR (op_neD hr.units) (pe_ix ix_list (pv 4) pe_int (fun _ _ => rfl)) (pe_tup (pa_cons pe_int (pa_cons pe_int pa_nil))) (nomark _)) (pw_or1 (pt_not (pt_val (pe_callB (cr_all rfl) (by rfl) B.all (by decide +kernel) (pa_cons (pe_lc (own := [("one", 6), ("other", 7)]) (g := (gTup K 2 (gCons (gName 6) (gCons (gName 7) gNil)))) (tt := tYes) (te := (tOp (rInD K) (tTup (tCons (tVar 7) (tCons (tVar 6) tNil))) (tVar 4))) (hc := rfl) (hN := sc_law.nd) (hi := (pi_list (pv 4))) (ok := blkOk_by (N := ["script", "dice", "t", "size", "lost", "total", "one", "other", "due", "made", "first", "last"]) (sc := (defScope s_law)) (by decide +kernel)) (hg := fun _ _ _ _ _ => (pg_tup rfl (pgs_cons (pg_name (i := 6) sc_law.nd rfl (Or.inl rfl)) (pgs_cons (pg_name (i := 7) sc_law.nd rfl (Or.inl rfl)) pgs_nil)))) (ht := fun _ _ _ _ _ => pts_nil) (he := fun _ _ _ _ _ => (pe_cmpR (op_inD (un65 hr)) (pe_tup (pa_cons (pv 7) (pa_cons (pv 6) pa_nil))) (pv 4) (by rfl)))) pa_nil)))))))
        (pss_one (ps_ret pe_bl))
        pss_nil)))))
        (pss_one (ps_ret pe_bl)))) pure_law

theorem all_mk {P : Program} {w : World} {K : PySem.W.Frag} {h : Heap} {mg : Str → Option Value} {fa : Addr} (KX : K.In h) (G : h.Ns mainGlobals mg) (hfa : mg "law" = some (.ref fa)) (B : Bt mg)
    (X_InvalidRule : Xc K mg "InvalidRule")
    (X_InvalidHeap : Xc K mg "InvalidHeap")
    (F_is_whole : Fx K "is_whole" s_is_whole)
    (F_root_of : Fx K "root_of" s_root_of)
    (F_need_rule : Fx K "need_rule" s_need_rule)
    (F_need_heap : Fx K "need_heap" s_need_heap)
    (F_less_heap : Fx K "less_heap" s_less_heap)
    (F_first_from : Fx K "first_from" s_first_from)
    (F_is_lost_pair : Fx K "is_lost_pair" s_is_lost_pair)
    (F_is_lost : Fx K "is_lost" s_is_lost)
    (F_first_with : Fx K "first_with" s_first_with)
    (F_answer : Fx K "answer" s_answer)
    (F_winning_move : Fx K "winning_move" s_winning_move)
    (F_is_move : Fx K "is_move" s_is_move)
    (F__law_cell : Fx K "_law_cell" s__law_cell)
    (F__law_drawn : Fx K "_law_drawn" s__law_drawn)
    (F__law_roll : Fx K "_law_roll" s__law_roll)
    (F__law_rounds : Fx K "_law_rounds" s__law_rounds)
    (F__law_is_move : Fx K "_law_is_move" s__law_is_move)
    (F_law : Fx K "law" s_law)
    : ∃ fd : FuncData, (∀ (s : Shared) (v : Value), BindsTo s fd ⟨[v], []⟩ [("script", v)]) ∧ ∀ base : Heap, K.In base → base.Ns mainGlobals mg → FnOk P w K mg base (L2N.CX P w) 6 fa fd ["script"] (spLaw K) := by
  obtain ⟨f_is_whole, fd_is_whole, a_is_whole, F_is_whole⟩ := F_is_whole.ex
  obtain ⟨f_root_of, fd_root_of, a_root_of, F_root_of⟩ := F_root_of.ex
  obtain ⟨f_need_rule, fd_need_rule, a_need_rule, F_need_rule⟩ := F_need_rule.ex
  obtain ⟨f_need_heap, fd_need_heap, a_need_heap, F_need_heap⟩ := F_need_heap.ex
  obtain ⟨f_less_heap, fd_less_heap, a_less_heap, F_less_heap⟩ := F_less_heap.ex
  obtain ⟨f_first_from, fd_first_from, a_first_from, F_first_from⟩ := F_first_from.ex
  obtain ⟨f_is_lost_pair, fd_is_lost_pair, a_is_lost_pair, F_is_lost_pair⟩ := F_is_lost_pair.ex
  obtain ⟨f_is_lost, fd_is_lost, a_is_lost, F_is_lost⟩ := F_is_lost.ex
  obtain ⟨f_first_with, fd_first_with, a_first_with, F_first_with⟩ := F_first_with.ex
  obtain ⟨f_answer, fd_answer, a_answer, F_answer⟩ := F_answer.ex
  obtain ⟨f_winning_move, fd_winning_move, a_winning_move, F_winning_move⟩ := F_winning_move.ex
  obtain ⟨f_is_move, fd_is_move, a_is_move, F_is_move⟩ := F_is_move.ex
  obtain ⟨f__law_cell, fd__law_cell, a__law_cell, F__law_cell⟩ := F__law_cell.ex
  obtain ⟨f__law_drawn, fd__law_drawn, a__law_drawn, F__law_drawn⟩ := F__law_drawn.ex
  obtain ⟨f__law_roll, fd__law_roll, a__law_roll, F__law_roll⟩ := F__law_roll.ex
  obtain ⟨f__law_rounds, fd__law_rounds, a__law_rounds, F__law_rounds⟩ := F__law_rounds.ex
  obtain ⟨f__law_is_move, fd__law_is_move, a__law_is_move, F__law_is_move⟩ := F__law_is_move.ex
  obtain ⟨f_law, fd_law, a_law, F_law⟩ := F_law.ex
  have e := hfa.symm.trans (PySem.W.mg_of KX G a_law)
  cases e
  refine ⟨fd_law, fun s v => ?_, fun base _ _ => ?_⟩
  · obtain ⟨oc, od, kV, doc, pm, an, cdv, ct, osl, e, lk, hcd⟩ := F_law.ex
    subst e
    exact .of_eq rfl
  have C_is_whole := ok_is_whole (P := P) (w := w) (base := base) B F_is_whole (PySem.W.mg_of KX G a_is_whole)
  have C_root_of := ok_root_of (P := P) (w := w) (base := base) B F_root_of (PySem.W.mg_of KX G a_root_of)
  have C_need_rule := ok_need_rule (P := P) (w := w) (base := base) B X_InvalidRule C_is_whole F_need_rule (PySem.W.mg_of KX G a_need_rule)
  have C_need_heap := ok_need_heap (P := P) (w := w) (base := base) B X_InvalidHeap C_is_whole F_need_heap (PySem.W.mg_of KX G a_need_heap)
  have C_less_heap := ok_less_heap (P := P) (w := w) (base := base) B C_root_of F_less_heap (PySem.W.mg_of KX G a_less_heap)
  have C_first_from := ok_first_from (P := P) (w := w) (base := base) B C_less_heap F_first_from (PySem.W.mg_of KX G a_first_from)
  have C_is_lost_pair := ok_is_lost_pair (P := P) (w := w) (base := base) B C_first_from C_less_heap F_is_lost_pair (PySem.W.mg_of KX G a_is_lost_pair)
  have C_is_lost := ok_is_lost (P := P) (w := w) (base := base) B C_is_lost_pair C_need_heap C_need_rule F_is_lost (PySem.W.mg_of KX G a_is_lost)
  have C_first_with := ok_first_with (P := P) (w := w) (base := base) B C_less_heap F_first_with (PySem.W.mg_of KX G a_first_with)
  have C_answer := ok_answer (P := P) (w := w) (base := base) B C_first_from C_first_with C_less_heap F_answer (PySem.W.mg_of KX G a_answer)
  have C_winning_move := ok_winning_move (P := P) (w := w) (base := base) B C_answer C_is_lost_pair C_need_heap C_need_rule F_winning_move (PySem.W.mg_of KX G a_winning_move)
  have C_is_move := ok_is_move (P := P) (w := w) (base := base) B C_is_whole C_need_heap C_need_rule F_is_move (PySem.W.mg_of KX G a_is_move)
  have C__law_cell := ok__law_cell (P := P) (w := w) (base := base) B F__law_cell (PySem.W.mg_of KX G a__law_cell)
  have C__law_drawn := ok__law_drawn (P := P) (w := w) (base := base) B F__law_drawn (PySem.W.mg_of KX G a__law_drawn)
  have C__law_roll := ok__law_roll (P := P) (w := w) (base := base) B C__law_drawn F__law_roll (PySem.W.mg_of KX G a__law_roll)
  have C__law_rounds := ok__law_rounds (P := P) (w := w) (base := base) B C__law_cell F__law_rounds (PySem.W.mg_of KX G a__law_rounds)
  have C__law_is_move := ok__law_is_move (P := P) (w := w) (base := base) B F__law_is_move (PySem.W.mg_of KX G a__law_is_move)
  exact okf_law (P := P) (w := w) (base := base) B C__law_is_move C__law_roll C__law_rounds C_is_lost C_is_move C_winning_move F_law
end Fl
open PySem PySem.W PyProof.Rows
set_option maxRecDepth 100000 in
set_option maxHeartbeats 0 in
theorem PySem.Challenge.cw_floorrows_k17_whole_game_holds : PySem.Challenge.rw_floorrows_k17_whole_game.Holds := by
  w_on; o_law; k_head; (case hw => w_witness2)
  k_fill
  refine L2.walk_of (l := PySem.Challenge.rw_floorrows_k17_whole_game) (n := 63) (k := 6) (x := "script") (CX := fun w => L2N.CX (PySem.Challenge.rw_floorrows_k17_whole_game).prog w) (sp := fun w => Fl.spLaw _) rfl (by decide) rfl ⟨rfl, by decide, by decide⟩ (fun w h Y => PySem.W.kIn_of Y) ?F (fun _ _ a ns hl _ hS => ⟨a, ns, rfl, hS, hl, fun _ => rfl⟩) (fun w H s e s' h => Fl.cx_false h)
  case F =>
    intro w mg fa h KX G hmg
    refine' Fl.all_mk KX G hmg ⟨PySem.W.mg_none_of KX G ?b_len, PySem.W.mg_none_of KX G ?b_abs, PySem.W.mg_none_of KX G ?b_isinstance, PySem.W.mg_none_of KX G ?b_int, PySem.W.mg_none_of KX G ?b_bool, PySem.W.mg_none_of KX G ?b_tuple, PySem.W.mg_none_of KX G ?b_str, PySem.W.mg_none_of KX G ?b_list, PySem.W.mg_none_of KX G ?b_set, PySem.W.mg_none_of KX G ?b_all, PySem.W.mg_none_of KX G ?b_any, PySem.W.mg_none_of KX G ?b_range, PySem.W.mg_none_of KX G ?b_max, PySem.W.mg_none_of KX G ?b_min, PySem.W.mg_none_of KX G ?b_sum, PySem.W.mg_none_of KX G ?b_sorted, PySem.W.mg_none_of KX G ?b_enumerate, PySem.W.mg_none_of KX G ?b_reversed, PySem.W.mg_none_of KX G ?b_ValueError⟩ (Fl.xc_mk KX G ?xa_InvalidRule ?xq_InvalidRule ?xk_InvalidRule ?xb_InvalidRule ?xt_InvalidRule) (Fl.xc_mk KX G ?xa_InvalidHeap ?xq_InvalidHeap ?xk_InvalidHeap ?xb_InvalidHeap ?xt_InvalidHeap) (Fl.fx_mk ?a_is_whole ?l_is_whole ?c_is_whole ?k_is_whole) (Fl.fx_mk ?a_root_of ?l_root_of ?c_root_of ?k_root_of) (Fl.fx_mk ?a_need_rule ?l_need_rule ?c_need_rule ?k_need_rule) (Fl.fx_mk ?a_need_heap ?l_need_heap ?c_need_heap ?k_need_heap) (Fl.fx_mk ?a_less_heap ?l_less_heap ?c_less_heap ?k_less_heap) (Fl.fx_mk ?a_first_from ?l_first_from ?c_first_from ?k_first_from) (Fl.fx_mk ?a_is_lost_pair ?l_is_lost_pair ?c_is_lost_pair ?k_is_lost_pair) (Fl.fx_mk ?a_is_lost ?l_is_lost ?c_is_lost ?k_is_lost) (Fl.fx_mk ?a_first_with ?l_first_with ?c_first_with ?k_first_with) (Fl.fx_mk ?a_answer ?l_answer ?c_answer ?k_answer) (Fl.fx_mk ?a_winning_move ?l_winning_move ?c_winning_move ?k_winning_move) (Fl.fx_mk ?a_is_move ?l_is_move ?c_is_move ?k_is_move) (Fl.fx_mk ?a__law_cell ?l__law_cell ?c__law_cell ?k__law_cell) (Fl.fx_mk ?a__law_drawn ?l__law_drawn ?c__law_drawn ?k__law_drawn) (Fl.fx_mk ?a__law_roll ?l__law_roll ?c__law_roll ?k__law_roll) (Fl.fx_mk ?a__law_rounds ?l__law_rounds ?c__law_rounds ?k__law_rounds) (Fl.fx_mk ?a__law_is_move ?l__law_is_move ?c__law_is_move ?k__law_is_move) (Fl.fx_mk ?a_law ?l_law ?c_law ?k_law)
    (case b_len => k_is); (case b_abs => k_is); (case b_isinstance => k_is); (case b_int => k_is); (case b_bool => k_is); (case b_tuple => k_is); (case b_str => k_is); (case b_list => k_is); (case b_set => k_is); (case b_all => k_is); (case b_any => k_is); (case b_range => k_is); (case b_max => k_is); (case b_min => k_is); (case b_sum => k_is); (case b_sorted => k_is); (case b_enumerate => k_is); (case b_reversed => k_is); (case b_ValueError => k_is)
    (case xa_InvalidRule => k_is); (case xq_InvalidRule => k_exc); (case xk_InvalidRule => k_is); (case xb_InvalidRule => k_is); (case xt_InvalidRule => k_is)
    (case xa_InvalidHeap => k_is); (case xq_InvalidHeap => k_exc); (case xk_InvalidHeap => k_is); (case xb_InvalidHeap => k_is); (case xt_InvalidHeap => k_is)
    (case a_is_whole => k_is); (case l_is_whole => k_is); (case c_is_whole => k_is); (case k_is_whole => k_is)
    (case a_root_of => k_is); (case l_root_of => k_is); (case c_root_of => k_is); (case k_root_of => k_is)
    (case a_need_rule => k_is); (case l_need_rule => k_is); (case c_need_rule => k_is); (case k_need_rule => k_is)
    (case a_need_heap => k_is); (case l_need_heap => k_is); (case c_need_heap => k_is); (case k_need_heap => k_is)
    (case a_less_heap => k_is); (case l_less_heap => k_is); (case c_less_heap => k_is); (case k_less_heap => k_is)
    (case a_first_from => k_is); (case l_first_from => k_is); (case c_first_from => k_is); (case k_first_from => k_is)
    (case a_is_lost_pair => k_is); (case l_is_lost_pair => k_is); (case c_is_lost_pair => k_is); (case k_is_lost_pair => k_is)
    (case a_is_lost => k_is); (case l_is_lost => k_is); (case c_is_lost => k_is); (case k_is_lost => k_is)
    (case a_first_with => k_is); (case l_first_with => k_is); (case c_first_with => k_is); (case k_first_with => k_is)
    (case a_answer => k_is); (case l_answer => k_is); (case c_answer => k_is); (case k_answer => k_is)
    (case a_winning_move => k_is); (case l_winning_move => k_is); (case c_winning_move => k_is); (case k_winning_move => k_is)
    (case a_is_move => k_is); (case l_is_move => k_is); (case c_is_move => k_is); (case k_is_move => k_is)
    (case a__law_cell => k_is); (case l__law_cell => k_is); (case c__law_cell => k_is); (case k__law_cell => k_is)
    (case a__law_drawn => k_is); (case l__law_drawn => k_is); (case c__law_drawn => k_is); (case k__law_drawn => k_is)
    (case a__law_roll => k_is); (case l__law_roll => k_is); (case c__law_roll => k_is); (case k__law_roll => k_is)
    (case a__law_rounds => k_is); (case l__law_rounds => k_is); (case c__law_rounds => k_is); (case k__law_rounds => k_is)
    (case a__law_is_move => k_is); (case l__law_is_move => k_is); (case c__law_is_move => k_is); (case k__law_is_move => k_is)
    (case a_law => k_is); (case l_law => k_is); (case c_law => k_is); (case k_law => k_is)

