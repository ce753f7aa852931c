import PyProof.Rows.All
import Wide.All
import OpenK.AllK
import Wide.FinOn
import PyProof.EqAt
import PyProof.EqKinds
import PyProof.TupleCall
import HandS.ForMost
import HandS.ForExc
import HandS.ExcCtx
import HandS.IsInst
import HandS.Wide
import HandS.Style
import HandS.TupAny
import HandS.HotCalls
import HandS.ExcIs
import HandS.Lambda
import HandS.Deep
import HandS.EndTab
import KE.KNestM
import KE.KTupSum
import HandS.GenYield
import PyProof.EnumMake
import PyProof.Draws
import HandS.Walk
import HandS.Text
import HandS.ReplaceLit
import HandS.ReplaceList
import HandS.Steps
import HandS.Comp
import PySem.Challenge.RW_floorrows_k20_whole_texts
set_option Elab.async false
set_option linter.all false
set_option maxRecDepth 100000
set_option maxHeartbeats 4000000
/-! Ma0: whole roots. -/
namespace Fl
/-- the greatest natural number whose square is not above n -/
def isq : Nat → Nat
  | 0 => 0
  | n + 1 => if (isq n + 1) * (isq n + 1) ≤ n + 1 then isq n + 1 else isq n
theorem isq_spec : ∀ n : Nat, isq n * isq n ≤ n ∧ n < (isq n + 1) * (isq n + 1)
  | 0 => by decide
  | n + 1 => by
    have ih := isq_spec n
    unfold isq
    split
    · constructor
      · assumption
      · grind
    · grind
theorem isq_uniq {n r : Nat} (h1 : r * r ≤ n) (h2 : n < (r + 1) * (r + 1)) : isq n = r := by
  have ih := isq_spec n
  have a : ¬ r < isq n := fun h => by
    have : (r + 1) * (r + 1) ≤ isq n * isq n := Nat.mul_le_mul h h
    omega
  have b : ¬ isq n < r := fun h => by
    have : (isq n + 1) * (isq n + 1) ≤ r * r := Nat.mul_le_mul h h
    omega
  omega
/-- the same of integers from 0 on -/
def sq (n : Int) : Int := (isq n.toNat : Int)
theorem sq_nonneg (n : Int) : 0 ≤ sq n := Int.natCast_nonneg _
theorem sq_spec {n : Int} (h : 0 ≤ n) : sq n * sq n ≤ n ∧ n < (sq n + 1) * (sq n + 1) := by
  have s := isq_spec n.toNat
  unfold sq
  have e : ((n.toNat : Nat) : Int) = n := Int.toNat_of_nonneg h
  constructor
  · have : ((isq n.toNat * isq n.toNat : Nat) : Int) ≤ ((n.toNat : Nat) : Int) := Int.ofNat_le.mpr s.1
    rw [Int.natCast_mul] at this
    omega
  · have : ((n.toNat : Nat) : Int) < (((isq n.toNat + 1) * (isq n.toNat + 1) : Nat) : Int) := Int.ofNat_lt.mpr s.2
    rw [Int.natCast_mul, Int.natCast_add] at this
    rw [e] at this
    exact this
theorem sq_uniq {n r : Int} (h0 : 0 ≤ r) (h1 : r * r ≤ n) (h2 : n < (r + 1) * (r + 1)) : sq n = r := by
  have hn : 0 ≤ n := Int.le_trans (Int.mul_nonneg h0 h0) h1
  have s := sq_spec hn
  have p := sq_nonneg n
  have a : ¬ r < sq n := fun h => by
    have : (r + 1) * (r + 1) ≤ sq n * sq n := Int.mul_le_mul h h (by omega) p
    omega
  have b : ¬ sq n < r := fun h => by
    have : (sq n + 1) * (sq n + 1) ≤ r * r := Int.mul_le_mul h h (by omega) h0
    omega
  omega
/-- a step of the search for a root -/
theorem root_step {n f : Int} (h1 : 1 ≤ f) (h2 : n < (f + 1) * (f + 1)) (h3 : n < f * f) (hn : 1 ≤ n) : 1 ≤ (f + n / f) / 2 ∧ (f + n / f) / 2 < f ∧ n < ((f + n / f) / 2 + 1) * ((f + n / f) / 2 + 1) := by
  have hf : 0 < f := by omega
  have e1 : n / f * f ≤ n := Int.ediv_mul_le n (by omega)
  have e2 : n < (n / f + 1) * f := Int.lt_ediv_add_one_mul_self n hf
  generalize hq : n / f = q at *
  have hq0 : 0 ≤ q := by rw [← hq]; exact Int.ediv_nonneg (by omega) (by omega)
  have hqf : q < f := by
    rw [← hq]
    exact Int.ediv_lt_of_lt_mul hf h3
  generalize hm : (f + q) / 2 = m
  have m1 : 2 * m ≤ f + q := by omega
  have m2 : f + q ≤ 2 * m + 1 := by omega
  refine ⟨by
    have : 2 ≤ f + q := by
      have : f ≠ 1 ∨ q ≠ 0 := by
        rcases Decidable.em (f = 1) with z | z
        · subst z; omega
        · exact .inl z
      omega
    omega, by omega, ?_⟩
  have k1 : (f + q + 1) * (f + q + 1) ≤ (2 * (m + 1)) * (2 * (m + 1)) := Int.mul_le_mul (by omega) (by omega) (by omega) (by omega)
  have k2 : 4 * ((q + 1) * f) ≤ (f + q + 1) * (f + q + 1) := by
    have : 0 ≤ (f - q - 1) * (f - q - 1) := by
      rcases Int.le_total 0 (f - q - 1) with z | z
      · exact Int.mul_nonneg z z
      · exact Int.mul_nonneg_of_nonpos_of_nonpos z z
    grind
  have k3 : (2 * (m + 1)) * (2 * (m + 1)) = 4 * ((m + 1) * (m + 1)) := by grind
  omega
end Fl
/-! Ma1: signs of u + v r, r the positive root of d, d no square. -/
namespace Fl
/-- u + v r > 0 -/
def Pst (d u v : Int) : Prop := (0 < u ∧ 0 ≤ v) ∨ (0 ≤ u ∧ 0 < v) ∨ (u < 0 ∧ 0 < v ∧ u * u < v * v * d) ∨ (0 < u ∧ v < 0 ∧ v * v * d < u * u)
instance (d u v : Int) : Decidable (Pst d u v) := by unfold Pst; infer_instance
/-- d lies between two neighbouring squares -/
def Nsq (d : Int) : Prop := ∃ s : Int, 0 < s ∧ s * s < d ∧ d < (s + 1) * (s + 1)
theorem Nsq.pos {d : Int} (h : Nsq d) : 0 < d := by
  obtain ⟨s, h0, h1, _⟩ := h
  have : 0 < s * s := Int.mul_pos h0 h0
  omega
theorem lt_of_sq {x y : Int} (hy : 0 ≤ y) (h : x * x < y * y) : x < y := by
  rcases Int.lt_or_le x y with z | z
  · exact z
  · have : y * y ≤ x * x := Int.mul_le_mul z z hy (by omega)
    omega
theorem le_of_sq {x y : Int} (hy : 0 ≤ y) (h : x * x ≤ y * y) : x ≤ y := by
  rcases Int.lt_or_le y x with z | z
  · have : y * y < x * x := by
      have h1 : y * y ≤ y * x := Int.mul_le_mul_of_nonneg_left (by omega) hy
      have h2 : y * x < x * x := Int.mul_lt_mul_of_pos_right z (by omega)
      omega
    omega
  · exact z
theorem sq_lt {x y : Int} (hx : 0 ≤ x) (h : x < y) : x * x < y * y := by
  have h1 : x * x ≤ x * y := Int.mul_le_mul_of_nonneg_left (by omega) hx
  have h2 : x * y < y * y := Int.mul_lt_mul_of_pos_right h (by omega)
  omega
theorem sq_pos' {x : Int} (h : x ≠ 0) : 0 < x * x := by
  rcases Int.lt_or_gt_of_ne h with z | z
  · exact Int.mul_pos_of_neg_of_neg z z
  · exact Int.mul_pos z z
theorem sq_nn (x : Int) : 0 ≤ x * x := by
  rcases Int.le_total 0 x with z | z
  · exact Int.mul_nonneg z z
  · exact Int.mul_nonneg_of_nonpos_of_nonpos z z
/-- no fraction's square is d -/
theorem irr {d : Int} (h : Nsq d) : ∀ (n : Nat) (u v : Int), 0 ≤ u → 0 ≤ v → v.toNat ≤ n → u * u = v * v * d → v = 0
  | 0, u, v, hu, hv, hn, e => by omega
  | n + 1, u, v, hu, hv, hn, e => by
    obtain ⟨s, h0, h1, h2⟩ := h
    rcases Int.lt_or_le 0 v with vp | vz
    · exfalso
      have vv : 0 < v * v := Int.mul_pos vp vp
      have a1 : s * v < u := by
        refine lt_of_sq hu ?_
        have : (s * s) * (v * v) < d * (v * v) := Int.mul_lt_mul_of_pos_right h1 vv
        grind
      have a2 : u < (s + 1) * v := by
        refine lt_of_sq (Int.mul_nonneg (by omega) (by omega)) ?_
        have : d * (v * v) < ((s + 1) * (s + 1)) * (v * v) := Int.mul_lt_mul_of_pos_right h2 vv
        grind
      have e2 : (d * v - s * u) * (d * v - s * u) = (u - s * v) * (u - s * v) * d := by grind
      have k : 0 ≤ d * v - s * u := by
        -- s u ≤ d v since (s u)^2 = s^2 d v^2 ≤ d^2 v^2
        have : s * u ≤ d * v := by
          refine le_of_sq (Int.mul_nonneg (by have := h1; have : 0 < s * s := Int.mul_pos h0 h0; omega) hv) ?_
          have q : (s * s) * (u * u) ≤ d * (u * u) := Int.mul_le_mul_of_nonneg_right (by omega) (sq_nn u)
          grind
        omega
      have := irr ⟨s, h0, h1, h2⟩ n (d * v - s * u) (u - s * v) k (by omega) (by
        have : (s + 1) * v = s * v + v := by grind
        omega) e2
      omega
    · omega
theorem irr' {d u v : Int} (h : Nsq d) (e : u * u = v * v * d) : u = 0 ∧ v = 0 := by
  have e' : (if 0 ≤ u then u else -u) * (if 0 ≤ u then u else -u) = (if 0 ≤ v then v else -v) * (if 0 ≤ v then v else -v) * d := by
    have a : (if 0 ≤ u then u else -u) * (if 0 ≤ u then u else -u) = u * u := by split <;> grind
    have b : (if 0 ≤ v then v else -v) * (if 0 ≤ v then v else -v) = v * v := by split <;> grind
    rw [a, b, e]
  have z := irr h (if 0 ≤ v then v else -v).toNat _ _ (by split <;> omega) (by split <;> omega) (Nat.le_refl _) e'
  have hv : v = 0 := by split at z <;> omega
  subst hv
  have : u * u = 0 := by rw [e]; simp
  exact ⟨by rcases Int.mul_eq_zero.mp this with q | q <;> exact q, rfl⟩
section
variable {d u v u' v' : Int}
theorem Pst.neg (h : Pst d u v) : ¬ Pst d (-u) (-v) := by
  unfold Pst at *
  have e1 : -u * -u = u * u := by grind
  have e2 : -v * -v * d = v * v * d := by grind
  rw [e1, e2]
  omega
theorem pos_tri (hd : Nsq d) (u v : Int) : Pst d u v ∨ Pst d (-u) (-v) ∨ (u = 0 ∧ v = 0) := by
  have e1 : -u * -u = u * u := by grind
  have e2 : -v * -v * d = v * v * d := by grind
  unfold Pst
  rw [e1, e2]
  rcases Int.lt_trichotomy (u * u) (v * v * d) with z | z | z
  · omega
  · have := irr' hd z
    omega
  · omega
theorem mul_lt_of {x y X Y : Int} (hx : 0 ≤ x) (hy : 0 ≤ y) (hX : 0 ≤ X) (hY : 0 ≤ Y) (h1 : x * x ≤ X * X * d) (h2 : y * y ≤ Y * Y * d) (hd : 0 < d) : x * y ≤ X * Y * d := by
  refine le_of_sq (Int.mul_nonneg (Int.mul_nonneg hX hY) (by omega)) ?_
  have : (x * x) * (y * y) ≤ (X * X * d) * (Y * Y * d) := Int.mul_le_mul h1 h2 (sq_nn y) (by have := sq_nn x; omega)
  grind
theorem mul_gt_of {x y X Y : Int} (hx : 0 ≤ x) (hy : 0 ≤ y) (hX : 0 ≤ X) (hY : 0 ≤ Y) (h1 : X * X * d ≤ x * x) (h2 : Y * Y * d ≤ y * y) (hd : 0 < d) : X * Y * d ≤ x * y := by
  refine le_of_sq (Int.mul_nonneg hx hy) ?_
  have q : 0 ≤ Y * Y * d := Int.mul_nonneg (sq_nn Y) (by omega)
  have : (X * X * d) * (Y * Y * d) ≤ (x * x) * (y * y) := Int.mul_le_mul h1 h2 q (sq_nn x)
  grind
/-- x ≤ X r, y < Y r: x + y < (X + Y) r -/
theorem add_lt_of {x y X Y : Int} (hx : 0 ≤ x) (hy : 0 ≤ y) (hX : 0 ≤ X) (hY : 0 ≤ Y) (h1 : x * x ≤ X * X * d) (h2 : y * y < Y * Y * d) (hd : 0 < d) : (x + y) * (x + y) < (X + Y) * (X + Y) * d := by
  have := mul_lt_of hx hy hX hY h1 (by omega) hd
  grind
theorem add_gt_of {x y X Y : Int} (hx : 0 ≤ x) (hy : 0 ≤ y) (hX : 0 ≤ X) (hY : 0 ≤ Y) (h1 : X * X * d ≤ x * x) (h2 : Y * Y * d < y * y) (hd : 0 < d) : (X + Y) * (X + Y) * d < (x + y) * (x + y) := by
  have := mul_gt_of hx hy hX hY h1 (by omega) hd
  grind
theorem mono_d {X Y : Int} (hX : 0 ≤ X) (h : X ≤ Y) (hd : 0 < d) : X * X * d ≤ Y * Y * d := Int.mul_le_mul_of_nonneg_right (Int.mul_le_mul h h hX (by omega)) (by omega)
theorem mono_s {X Y : Int} (hX : 0 ≤ X) (h : X ≤ Y) : X * X ≤ Y * Y := Int.mul_le_mul h h hX (by omega)
/-- v > 0: -u < v r -/
theorem pos_up (hd : 0 < d) (hv : 0 < v) (hu : u < 0) : Pst d u v ↔ (-u) * (-u) < v * v * d := by
  have e1 : -u * -u = u * u := by grind
  unfold Pst
  rw [e1]
  omega
theorem pos_dn (hd : 0 < d) (hv : v < 0) (hu : 0 < u) : Pst d u v ↔ (-v) * (-v) * d < u * u := by
  have e1 : -v * -v = v * v := by grind
  unfold Pst
  rw [e1]
  omega
theorem pos_pp (hu : 0 ≤ u) (hv : 0 ≤ v) (h : 0 < u ∨ 0 < v) : Pst d u v := by unfold Pst; omega
theorem pos_nn (hu : u ≤ 0) (hv : v ≤ 0) : ¬ Pst d u v := by unfold Pst; omega
theorem pos_add_mixed (hd : 0 < d) (hu : u < 0) (hv : 0 < v) (h : (-u) * (-u) < v * v * d) (hu' : 0 < u') (hv' : v' < 0) (h' : (-v') * (-v') * d < u' * u') : Pst d (u + u') (v + v') := by
  rcases Int.lt_trichotomy (u + u') 0 with z | z | z
  · rcases Int.lt_or_le 0 (v + v') with y | y
    · rw [pos_up hd y z]
      rcases Int.lt_or_le ((-(u + u')) * (-(u + u'))) ((v + v') * (v + v') * d) with k | k
      · exact k
      · exfalso
        have := add_gt_of (x := -(u + u')) (X := v + v') (y := u') (Y := -v') (by omega) (by omega) (by omega) (by omega) k h' hd
        have e1 : -(u + u') + u' = -u := by omega
        have e2 : v + v' + -v' = v := by omega
        rw [e1, e2] at this
        omega
    · exfalso
      have a := mono_d (X := v) (Y := -v') (by omega) (by omega) hd
      have b := mono_s (X := u') (Y := -u) (by omega) (by omega)
      omega
  · rcases Int.lt_or_le 0 (v + v') with y | y
    · exact pos_pp (by omega) (by omega) (by omega)
    · exfalso
      have a := mono_d (X := v) (Y := -v') (by omega) (by omega) hd
      have e1 : u' = -u := by omega
      rw [e1] at h'
      omega
  · rcases Int.lt_or_le (v + v') 0 with y | y
    · rw [pos_dn hd y z]
      rcases Int.lt_or_le ((-(v + v')) * (-(v + v')) * d) ((u + u') * (u + u')) with k | k
      · exact k
      · exfalso
        have := add_lt_of (x := u + u') (X := -(v + v')) (y := -u) (Y := v) (by omega) (by omega) (by omega) (by omega) k h hd
        have e1 : u + u' + -u = u' := by omega
        have e2 : -(v + v') + v = -v' := by omega
        rw [e1, e2] at this
        omega
    · exact pos_pp (by omega) (by omega) (by omega)
theorem pos_add_up (hd : 0 < d) (hu : u < 0) (hv : 0 < v) (h : (-u) * (-u) < v * v * d) (hu' : 0 ≤ u') (hv' : 0 ≤ v') : Pst d (u + u') (v + v') := by
  rcases Int.lt_or_le (u + u') 0 with z | z
  · rw [pos_up hd (by omega) z]
    have a := mono_s (X := -(u + u')) (Y := -u) (by omega) (by omega)
    have b := mono_d (X := v) (Y := v + v') (by omega) (by omega) hd
    omega
  · exact pos_pp z (by omega) (by omega)
theorem pos_add_dn (hd : 0 < d) (hu : 0 < u) (hv : v < 0) (h : (-v) * (-v) * d < u * u) (hu' : 0 ≤ u') (hv' : 0 ≤ v') : Pst d (u + u') (v + v') := by
  rcases Int.lt_or_le (v + v') 0 with z | z
  · rw [pos_dn hd z (by omega)]
    have a := mono_d (X := -(v + v')) (Y := -v) (by omega) (by omega) hd
    have b := mono_s (X := u) (Y := u + u') (by omega) (by omega)
    omega
  · exact pos_pp (by omega) z (by omega)
/-- the four ways -/
theorem Pst.ways (h : Pst d u v) : (0 ≤ u ∧ 0 ≤ v ∧ (0 < u ∨ 0 < v)) ∨ (u < 0 ∧ 0 < v ∧ (-u) * (-u) < v * v * d) ∨ (0 < u ∧ v < 0 ∧ (-v) * (-v) * d < u * u) := by
  have e1 : -u * -u = u * u := by grind
  have e2 : -v * -v = v * v := by grind
  rw [e1, e2]
  unfold Pst at h
  omega
theorem Pst.add (hd : 0 < d) (h : Pst d u v) (h' : Pst d u' v') : Pst d (u + u') (v + v') := by
  rcases h.ways with ⟨a, b, c⟩ | ⟨a, b, c⟩ | ⟨a, b, c⟩
  · rcases h'.ways with ⟨a', b', c'⟩ | ⟨a', b', c'⟩ | ⟨a', b', c'⟩
    · exact pos_pp (by omega) (by omega) (by omega)
    · rw [Int.add_comm u, Int.add_comm v]; exact pos_add_up hd a' b' c' a b
    · rw [Int.add_comm u, Int.add_comm v]; exact pos_add_dn hd a' b' c' a b
  · rcases h'.ways with ⟨a', b', c'⟩ | ⟨a', b', c'⟩ | ⟨a', b', c'⟩
    · exact pos_add_up hd a b c a' b'
    · rw [pos_up hd (by omega) (by omega)]
      have := add_lt_of (x := -u) (X := v) (y := -u') (Y := v') (by omega) (by omega) (by omega) (by omega) (by omega) c' hd
      have e1 : -u + -u' = -(u + u') := by omega
      rw [e1] at this
      exact this
    · exact pos_add_mixed hd a b c a' b' c'
  · rcases h'.ways with ⟨a', b', c'⟩ | ⟨a', b', c'⟩ | ⟨a', b', c'⟩
    · exact pos_add_dn hd a b c a' b'
    · rw [Int.add_comm u, Int.add_comm v]; exact pos_add_mixed hd a' b' c' a b c
    · rw [pos_dn hd (by omega) (by omega)]
      have := add_gt_of (x := u) (X := -v) (y := u') (Y := -v') (by omega) (by omega) (by omega) (by omega) (by omega) c' hd
      have e1 : -v + -v' = -(v + v') := by omega
      rw [e1] at this
      exact this
theorem Pst.nat_mul (hd : 0 < d) (h : Pst d u v) : ∀ k : Nat, Pst d (((k : Int) + 1) * u) (((k : Int) + 1) * v)
  | 0 => by simpa using h
  | k + 1 => by
    have := Pst.add hd (Pst.nat_mul hd h k) h
    have e1 : (((k + 1 : Nat) : Int) + 1) * u = ((k : Int) + 1) * u + u := by grind
    have e2 : (((k + 1 : Nat) : Int) + 1) * v = ((k : Int) + 1) * v + v := by grind
    rw [e1, e2]
    exact this
theorem Pst.mul_int (hd : 0 < d) (h : Pst d u v) {k : Int} (hk : 0 < k) : Pst d (k * u) (k * v) := by
  have := Pst.nat_mul hd h (k - 1).toNat
  have e : (((k - 1).toNat : Nat) : Int) + 1 = k := by omega
  rw [e] at this
  exact this
theorem pos_mul_int (hd : Nsq d) {k : Int} (hk : 0 < k) : Pst d (k * u) (k * v) ↔ Pst d u v := by
  refine ⟨fun h => ?_, fun h => h.mul_int hd.pos hk⟩
  rcases pos_tri hd u v with z | z | ⟨z1, z2⟩
  · exact z
  · exact absurd (by
      have := z.mul_int hd.pos hk
      rw [Int.mul_neg, Int.mul_neg] at this
      exact this) h.neg
  · subst z1; subst z2
    simp only [Int.mul_zero] at h
    exact absurd h (pos_nn (by omega) (by omega))
/-- times r -/
theorem Pst.root (hd : 0 < d) (h : Pst d u v) : Pst d (v * d) u := by
  rcases h.ways with ⟨a, b, c⟩ | ⟨a, b, c⟩ | ⟨a, b, c⟩
  · rcases c with c | c
    · exact pos_pp (Int.mul_nonneg b (by omega)) a (.inr c)
    · exact pos_pp (Int.mul_nonneg b (by omega)) a (.inl (Int.mul_pos c hd))
  · rw [pos_dn hd a (Int.mul_pos b hd)]
    have : (-u) * (-u) * d < (v * v * d) * d := Int.mul_lt_mul_of_pos_right c hd
    grind
  · rw [pos_up hd a (by have : 0 < -v * d := Int.mul_pos (by omega) hd; grind)]
    have : (-v) * (-v) * d * d < u * u * d := Int.mul_lt_mul_of_pos_right c hd
    grind
theorem Pst.mul_pp (hd : 0 < d) (h : Pst d u v) (a : 0 ≤ u') (b : 0 ≤ v') (c : 0 < u' ∨ 0 < v') : Pst d (u * u' + v * v' * d) (u * v' + v * u') := by
  rcases Int.lt_or_le 0 u' with hu | hu
  · have h1 := h.mul_int hd hu
    rcases Int.lt_or_le 0 v' with hv | hv
    · have h2 := (h.root hd).mul_int hd hv
      have := h1.add hd h2
      have e1 : u' * u + v' * (v * d) = u * u' + v * v' * d := by grind
      have e2 : u' * v + v' * u = u * v' + v * u' := by grind
      rw [e1, e2] at this
      exact this
    · have e : v' = 0 := by omega
      subst e
      have e1 : u * u' + v * 0 * d = u' * u := by grind
      have e2 : u * 0 + v * u' = u' * v := by grind
      rw [e1, e2]
      exact h1
  · have e : u' = 0 := by omega
    subst e
    have h2 := (h.root hd).mul_int hd (show 0 < v' by omega)
    have e1 : u * 0 + v * v' * d = v' * (v * d) := by grind
    have e2 : u * v' + v * 0 = v' * u := by grind
    rw [e1, e2]
    exact h2
theorem Pst.mul (hd : Nsq d) (h : Pst d u v) (h' : Pst d u' v') : Pst d (u * u' + v * v' * d) (u * v' + v * u') := by
  have dp := hd.pos
  rcases h'.ways with ⟨a, b, c⟩ | ⟨a, b, c⟩ | ⟨a, b, c⟩
  · exact h.mul_pp dp a b c
  · -- times (-u' + v' r): a number N = v'^2 d - u'^2 > 0
    rcases pos_tri hd (u * u' + v * v' * d) (u * v' + v * u') with z | z | ⟨z1, z2⟩
    · exact z
    · exfalso
      have k := z.mul_pp dp (u' := -u') (v' := v') (by omega) (by omega) (by omega)
      have N : 0 < v' * v' * d - u' * u' := by grind
      have q := h.mul_int dp N
      refine q.neg ?_
      have e1 : -(u * u' + v * v' * d) * -u' + -(u * v' + v * u') * v' * d = -((v' * v' * d - u' * u') * u) := by grind
      have e2 : -(u * u' + v * v' * d) * v' + -(u * v' + v * u') * -u' = -((v' * v' * d - u' * u') * v) := by grind
      rw [e1, e2] at k
      exact k
    · exfalso
      have N : 0 < v' * v' * d - u' * u' := by grind
      have e1 : (v' * v' * d - u' * u') * u = (u * u' + v * v' * d) * -u' + (u * v' + v * u') * v' * d := by grind
      have e2 : (v' * v' * d - u' * u') * v = (u * u' + v * v' * d) * v' + (u * v' + v * u') * -u' := by grind
      rw [z1, z2] at e1 e2
      have q := h.mul_int dp N
      rw [e1, e2] at q
      simp only [Int.zero_mul, Int.add_zero] at q
      exact absurd q (pos_nn (by omega) (by omega))
  · rcases pos_tri hd (u * u' + v * v' * d) (u * v' + v * u') with z | z | ⟨z1, z2⟩
    · exact z
    · exfalso
      have k := z.mul_pp dp (u' := u') (v' := -v') (by omega) (by omega) (by omega)
      have N : 0 < u' * u' - v' * v' * d := by grind
      have q := h.mul_int dp N
      refine q.neg ?_
      have e1 : -(u * u' + v * v' * d) * u' + -(u * v' + v * u') * -v' * d = -((u' * u' - v' * v' * d) * u) := by grind
      have e2 : -(u * u' + v * v' * d) * -v' + -(u * v' + v * u') * u' = -((u' * u' - v' * v' * d) * v) := by grind
      rw [e1, e2] at k
      exact k
    · exfalso
      have N : 0 < u' * u' - v' * v' * d := by grind
      have e1 : (u' * u' - v' * v' * d) * u = (u * u' + v * v' * d) * u' + (u * v' + v * u') * -v' * d := by grind
      have e2 : (u' * u' - v' * v' * d) * v = (u * u' + v * v' * d) * -v' + (u * v' + v * u') * u' := by grind
      rw [z1, z2] at e1 e2
      have q := h.mul_int dp N
      rw [e1, e2] at q
      simp only [Int.zero_mul, Int.add_zero] at q
      exact absurd q (pos_nn (by omega) (by omega))
/-- times a positive number the sign stays -/
theorem pos_mul_iff (hd : Nsq d) (h' : Pst d u' v') : Pst d (u * u' + v * v' * d) (u * v' + v * u') ↔ Pst d u v := by
  refine ⟨fun h => ?_, fun h => h.mul hd h'⟩
  rcases pos_tri hd u v with z | z | ⟨z1, z2⟩
  · exact z
  · have := z.mul hd h'
    refine absurd ?_ h.neg
    have e1 : -u * u' + -v * v' * d = -(u * u' + v * v' * d) := by grind
    have e2 : -u * v' + -v * u' = -(u * v' + v * u') := by grind
    rw [e1, e2] at this
    exact this
  · subst z1; subst z2
    simp only [Int.zero_mul, Int.add_zero] at h
    exact absurd h (pos_nn (by omega) (by omega))
end
end Fl
/-! Ma2: an irrational number x as the signs of p x + q; whole parts. -/
namespace Fl
/-- P p q: p x + q > 0 -/
structure Cut (P : Int → Int → Prop) : Prop where
  add : ∀ {p q p' q' : Int}, P p q → P p' q' → P (p + p') (q + q')
  neg : ∀ {p q : Int}, P p q → ¬ P (-p) (-q)
  tri : ∀ (p q : Int), P p q ∨ P (-p) (-q) ∨ (p = 0 ∧ q = 0)
  one : P 0 1
section
variable {P : Int → Int → Prop}
theorem Cut.zero (C : Cut P) : ¬ P 0 0 := fun h => C.neg h h
theorem Cut.natw (C : Cut P) : ∀ n : Nat, P 0 ((n : Int) + 1)
  | 0 => C.one
  | n + 1 => by
    have := C.add (C.natw n) C.one
    simpa using this
theorem Cut.whole (C : Cut P) {q : Int} (h : 0 < q) : P 0 q := by
  have := C.natw (q - 1).toNat
  have e : (((q - 1).toNat : Nat) : Int) + 1 = q := by omega
  rwa [e] at this
theorem Cut.whole_iff (C : Cut P) {q : Int} : P 0 q ↔ 0 < q := by
  refine ⟨fun h => ?_, C.whole⟩
  rcases Int.lt_trichotomy q 0 with z | z | z
  · exact absurd (by have := C.whole (show 0 < -q by omega); simpa using this) (C.neg h)
  · subst z; exact absurd h C.zero
  · exact z
theorem Cut.up (C : Cut P) {p q q' : Int} (h : P p q) (hq : q ≤ q') : P p q' := by
  rcases Int.lt_or_eq_of_le hq with z | z
  · have := C.add h (C.whole (show 0 < q' - q by omega))
    have e : q + (q' - q) = q' := by omega
    rw [e, Int.add_zero] at this
    exact this
  · rwa [← z]
theorem Cut.nat_mul (C : Cut P) {p q : Int} (h : P p q) : ∀ k : Nat, P (((k : Int) + 1) * p) (((k : Int) + 1) * q)
  | 0 => by simpa using h
  | k + 1 => by
    have := C.add (C.nat_mul h k) h
    have e1 : (((k + 1 : Nat) : Int) + 1) * p = ((k : Int) + 1) * p + p := by grind
    have e2 : (((k + 1 : Nat) : Int) + 1) * q = ((k : Int) + 1) * q + q := by grind
    rw [e1, e2]
    exact this
theorem Cut.mul (C : Cut P) {p q k : Int} (h : P p q) (hk : 0 < k) : P (k * p) (k * q) := by
  have := C.nat_mul h (k - 1).toNat
  have e : (((k - 1).toNat : Nat) : Int) + 1 = k := by omega
  rwa [e] at this
theorem Cut.of_not (C : Cut P) {p q : Int} (h : ¬ P p q) (hn : p ≠ 0 ∨ q ≠ 0) : P (-p) (-q) := by
  rcases C.tri p q with z | z | z
  · exact absurd z h
  · exact z
  · omega
theorem Cut.div (C : Cut P) {p q k : Int} (h : P (k * p) (k * q)) (hk : 0 < k) : P p q := by
  rcases C.tri p q with z | z | ⟨z1, z2⟩
  · exact z
  · have := C.mul z hk
    rw [Int.mul_neg, Int.mul_neg] at this
    exact absurd this (C.neg h)
  · subst z1; subst z2
    simp only [Int.mul_zero] at h
    exact absurd h C.zero
/-- k is the whole part of n x -/
structure IsFl (P : Int → Int → Prop) (n k : Int) : Prop where
  lo : P n (-k)
  hi : P (-n) (k + 1)
theorem IsFl.uniq (C : Cut P) {n k k' : Int} (h : IsFl P n k) (h' : IsFl P n k') : k = k' := by
  have a := C.whole_iff.mp (by have := C.add h.lo h'.hi; rwa [show n + -n = 0 by omega] at this)
  have b := C.whole_iff.mp (by have := C.add h'.lo h.hi; rwa [show n + -n = 0 by omega] at this)
  omega
end
/-! ### the numbers (a + b r)/c -/
structure Rt where
  a : Int
  b : Int
  d : Int
  c : Int
deriving DecidableEq
/-- p x + q > 0 -/
def Rt.P (x : Rt) (p q : Int) : Prop := Pst x.d (p * x.a + q * x.c) (p * x.b)
instance (x : Rt) (p q : Int) : Decidable (x.P p q) := by unfold Rt.P; infer_instance
structure Rt.Ok (x : Rt) : Prop where
  d : Nsq x.d
  b : x.b ≠ 0
  c : 0 < x.c
theorem Rt.Ok.cut {x : Rt} (o : x.Ok) : Cut x.P where
  add := fun {p q p' q'} h h' => by
    unfold Rt.P at *
    have := h.add o.d.pos h'
    have e1 : p * x.a + q * x.c + (p' * x.a + q' * x.c) = (p + p') * x.a + (q + q') * x.c := by grind
    have e2 : p * x.b + p' * x.b = (p + p') * x.b := by grind
    rwa [e1, e2] at this
  neg := fun {p q} h h' => by
    unfold Rt.P at *
    refine h.neg ?_
    have e1 : -p * x.a + -q * x.c = -(p * x.a + q * x.c) := by grind
    have e2 : -p * x.b = -(p * x.b) := by grind
    rwa [e1, e2] at h'
  tri := fun p q => by
    unfold Rt.P
    have e1 : -p * x.a + -q * x.c = -(p * x.a + q * x.c) := by grind
    have e2 : -p * x.b = -(p * x.b) := by grind
    rw [e1, e2]
    rcases pos_tri o.d (p * x.a + q * x.c) (p * x.b) with z | z | ⟨z1, z2⟩
    · exact .inl z
    · exact .inr (.inl z)
    · rcases Int.mul_eq_zero.mp z2 with y | y
      · subst y
        rw [Int.zero_mul, Int.zero_add] at z1
        rcases Int.mul_eq_zero.mp z1 with t | t
        · exact .inr (.inr ⟨rfl, t⟩)
        · exact absurd t (by have := o.c; omega)
      · exact absurd y o.b
  one := by
    unfold Rt.P
    have := o.c
    exact pos_pp (by omega) (by omega) (by omega)
/-- the whole part of s r, as the program has it -/
def rtE (s own : Int) : Int := if s > 0 then own else -own - 1
/-- e < s r < e + 1 -/
theorem rtE_lo {d s : Int} (hd : Nsq d) (hs : s ≠ 0) : Pst d (-(rtE s (sq (s * s * d)))) s := by
  have dp := hd.pos
  have h0 : 0 ≤ s * s * d := Int.mul_nonneg (sq_nn s) (by omega)
  have sp := sq_spec h0
  have nn := sq_nonneg (s * s * d)
  generalize sq (s * s * d) = r at *
  unfold rtE
  split
  · rcases Int.lt_or_le 0 r with z | z
    · rw [pos_up dp (by omega) (by omega)]
      have : r * r ≠ s * s * d := fun e => by have := irr' hd e; omega
      have e : - -r * - -r = r * r := by grind
      rw [e]
      omega
    · exact pos_pp (by omega) (by omega) (by omega)
  · have e : -(-r - 1) = r + 1 := by omega
    rw [e, pos_dn dp (by omega) (by omega)]
    have e2 : -s * -s * d = s * s * d := by grind
    rw [e2]
    exact sp.2
theorem rtE_hi {d s : Int} (hd : Nsq d) (hs : s ≠ 0) : Pst d (rtE s (sq (s * s * d)) + 1) (-s) := by
  have dp := hd.pos
  have h0 : 0 ≤ s * s * d := Int.mul_nonneg (sq_nn s) (by omega)
  have sp := sq_spec h0
  have nn := sq_nonneg (s * s * d)
  generalize sq (s * s * d) = r at *
  unfold rtE
  split
  · rw [pos_dn dp (by omega) (by omega)]
    have e2 : - -s * - -s * d = s * s * d := by grind
    rw [e2]
    exact sp.2
  · have e : -r - 1 + 1 = -r := by omega
    rw [e]
    rcases Int.lt_or_le 0 r with z | z
    · rw [pos_up dp (by omega) (by omega)]
      have : r * r ≠ s * s * d := fun e => by have := irr' hd e; omega
      have e : - -r * - -r = r * r := by grind
      have e2 : -s * -s * d = s * s * d := by grind
      rw [e, e2]
      omega
    · exact pos_pp (by omega) (by omega) (by omega)
/-- the whole part of n x, n not 0, as the program reckons it -/
def Rt.fn (x : Rt) (n : Int) : Int := (n * x.a + rtE (n * x.b) (sq (n * n * x.b * x.b * x.d))) / x.c
/-- the same, 0 for 0 -/
def Rt.fl (x : Rt) (n : Int) : Int := if n = 0 then 0 else x.fn n
theorem add_int {d u v k : Int} (hd : 0 < d) (h : Pst d u v) (hk : 0 ≤ k) : Pst d (u + k) v := by
  rcases Int.lt_or_eq_of_le hk with z | z
  · have := h.add hd (pos_pp (u := k) (v := 0) (by omega) (by omega) (by omega))
    simpa using this
  · subst z; simpa using h
theorem Rt.Ok.fn {x : Rt} (o : x.Ok) {n : Int} (hn : n ≠ 0) : IsFl x.P n (x.fn n) := by
  have dp := o.d.pos
  have hc := o.c
  have hs : n * x.b ≠ 0 := fun e => (Int.mul_eq_zero.mp e).elim (fun z => hn z) fun z => o.b z
  have e0 : n * n * x.b * x.b * x.d = (n * x.b) * (n * x.b) * x.d := by grind
  have lo := rtE_lo o.d hs
  have hi := rtE_hi o.d hs
  have q1 : x.fn n * x.c ≤ n * x.a + rtE (n * x.b) (sq ((n * x.b) * (n * x.b) * x.d)) := by
    unfold Rt.fn
    rw [e0]
    exact Int.ediv_mul_le _ (by omega)
  have q2 : n * x.a + rtE (n * x.b) (sq ((n * x.b) * (n * x.b) * x.d)) < (x.fn n + 1) * x.c := by
    unfold Rt.fn
    rw [e0]
    exact Int.lt_ediv_add_one_mul_self _ hc
  generalize rtE (n * x.b) (sq ((n * x.b) * (n * x.b) * x.d)) = e at *
  generalize x.fn n = f at *
  constructor
  · unfold Rt.P
    have := add_int dp lo (k := n * x.a + e - f * x.c) (by omega)
    have e1 : -e + (n * x.a + e - f * x.c) = n * x.a + -f * x.c := by grind
    rwa [e1] at this
  · unfold Rt.P
    have := add_int dp hi (k := (f + 1) * x.c - (n * x.a + e) - 1) (by omega)
    have e1 : e + 1 + ((f + 1) * x.c - (n * x.a + e) - 1) = -n * x.a + (f + 1) * x.c := by grind
    have e2 : -(n * x.b) = -n * x.b := by grind
    rwa [e1, e2] at this
theorem Rt.Ok.fl {x : Rt} (o : x.Ok) {n : Int} (hn : n ≠ 0) : IsFl x.P n (x.fl n) := by
  unfold Rt.fl
  rw [if_neg hn]
  exact o.fn hn
end Fl
/-! Ma3: the game of two heaps. -/
namespace Fl
def xt (t : Int) : Rt := ⟨2 - t, 1, t * t + 4, 2⟩
theorem xt_ok {t : Int} (h : 1 ≤ t) : (xt t).Ok := by
  refine ⟨?_, by show (1 : Int) ≠ 0; decide, by show (0 : Int) < 2; decide⟩
  show Nsq (t * t + 4)
  rcases Int.lt_or_eq_of_le h with z | z
  · exact ⟨t, by omega, by omega, by grind⟩
  · subst z; exact ⟨2, by decide, by decide, by decide⟩
/-- the lesser heap of the lost position n -/
def lh (t n : Int) : Int := (n * (2 - t) + sq (n * n * (t * t + 4))) / 2
theorem sq_zero : sq 0 = 0 := by decide
theorem lh_fl {t n : Int} (hn : 0 ≤ n) : lh t n = (xt t).fl n := by
  unfold Rt.fl lh
  split
  · rename_i e; subst e; simp [sq_zero]
  · unfold Rt.fn xt rtE
    have e1 : n * n * 1 * 1 * (t * t + 4) = n * n * (t * t + 4) := by grind
    simp only [Int.mul_one]
    rw [if_pos (by omega)]
theorem lh_zero (t : Int) : lh t 0 = 0 := by unfold lh; simp [sq_zero]
section
variable {t : Int}
theorem xt_gt (ht : 1 ≤ t) : (xt t).P 1 (-1) := by
  show Pst (t * t + 4) (1 * (2 - t) + -1 * 2) (1 * 1)
  have e : 1 * (2 - t) + -1 * 2 = -t := by omega
  rw [e, pos_up (by have := sq_nn t; omega) (by omega) (by omega)]
  grind
theorem xt_lt (ht : 1 ≤ t) : (xt t).P (-1) 2 := by
  show Pst (t * t + 4) (-1 * (2 - t) + 2 * 2) (-1 * 1)
  have e : -1 * (2 - t) + 2 * 2 = 2 + t := by omega
  rw [e, pos_dn (by have := sq_nn t; omega) (by omega) (by omega)]
  grind
theorem xt_pos (ht : 1 ≤ t) {p : Int} : (xt t).P p 0 ↔ 0 < p := by
  have C := (xt_ok ht).cut
  have one : (xt t).P 1 0 := by have := C.add (xt_gt ht) C.one; simpa using this
  refine ⟨fun h => ?_, fun h => by have := C.mul one h; simpa using this⟩
  rcases Int.lt_trichotomy p 0 with z | z | z
  · exact absurd (by have := C.mul one (show 0 < -p by omega); simpa using this) (C.neg h)
  · subst z; exact absurd h C.zero
  · exact z
/-- m (x + t) > k just if (k - m) x < k -/
theorem xt_dual (ht : 1 ≤ t) (m k : Int) : (xt t).P m (t * m - k) ↔ (xt t).P (m - k) k := by
  have o := xt_ok ht
  have hp : Pst (t * t + 4) (-t) 1 := by
    rw [pos_up (by have := sq_nn t; omega) (by omega) (by omega)]
    grind
  have od : Nsq (t * t + 4) := o.d
  have h := pos_mul_iff (u := m * (2 - t) + (t * m - k) * 2) (v := m * 1) od hp
  show Pst (t * t + 4) (m * (2 - t) + (t * m - k) * 2) (m * 1) ↔ Pst (t * t + 4) ((m - k) * (2 - t) + k * 2) ((m - k) * 1)
  rw [← h]
  have e1 : (m * (2 - t) + (t * m - k) * 2) * -t + m * 1 * 1 * (t * t + 4) = 2 * ((m - k) * (2 - t) + k * 2) := by grind
  have e2 : (m * (2 - t) + (t * m - k) * 2) * 1 + m * 1 * -t = 2 * ((m - k) * 1) := by grind
  rw [e1, e2]
  exact pos_mul_int od (by decide)
theorem lh_is (ht : 1 ≤ t) {n : Int} (hn : 0 < n) : IsFl (xt t).P n (lh t n) := by
  rw [lh_fl (by omega)]
  exact (xt_ok ht).fl (by omega)
theorem lh_step (ht : 1 ≤ t) {n : Int} (hn : 0 ≤ n) : lh t n + 1 ≤ lh t (n + 1) ∧ lh t (n + 1) ≤ lh t n + 2 := by
  have C := (xt_ok ht).cut
  have h1 := lh_is ht (show 0 < n + 1 by omega)
  rcases Int.lt_or_eq_of_le hn with z | z
  · have h0 := lh_is ht z
    have a := C.whole_iff.mp (by
      have := C.add (C.add h0.lo (xt_gt ht)) h1.hi
      rwa [show n + 1 + -(n + 1) = 0 by omega] at this)
    have b := C.whole_iff.mp (by
      have := C.add (C.add h0.hi (xt_lt ht)) h1.lo
      rwa [show -n + -1 + (n + 1) = 0 by omega] at this)
    omega
  · subst z
    have a := C.whole_iff.mp (by
      have := C.add (xt_gt ht) h1.hi
      rwa [show 1 + -(0 + 1) = (0 : Int) by omega] at this)
    have b := C.whole_iff.mp (by
      have := C.add (xt_lt ht) h1.lo
      rwa [show -1 + (0 + 1) = (0 : Int) by omega] at this)
    rw [lh_zero]
    omega
theorem lh_mono_nat (ht : 1 ≤ t) {n : Int} (hn : 0 ≤ n) : ∀ k : Nat, lh t n + k ≤ lh t (n + k)
  | 0 => by simp
  | k + 1 => by
    have := lh_mono_nat ht hn k
    have s := (lh_step ht (show 0 ≤ n + k by omega)).1
    have e : n + (k : Int) + 1 = n + ((k + 1 : Nat) : Int) := by omega
    rw [e] at s
    omega
theorem lh_mono (ht : 1 ≤ t) {n m : Int} (hn : 0 ≤ n) (h : n ≤ m) : lh t n + (m - n) ≤ lh t m := by
  have := lh_mono_nat ht hn (m - n).toNat
  have e : n + (((m - n).toNat : Nat) : Int) = m := by omega
  rw [e] at this
  omega
theorem lh_ge (ht : 1 ≤ t) {n : Int} (hn : 0 ≤ n) : n ≤ lh t n := by
  have := lh_mono ht (n := 0) (by omega) hn
  rw [lh_zero] at this
  omega
theorem lh_lt (ht : 1 ≤ t) {n m : Int} (hn : 0 ≤ n) (h : n < m) : lh t n < lh t m := by
  have := lh_mono ht hn (show n ≤ m by omega)
  omega
theorem lh_inj (ht : 1 ≤ t) {n m : Int} (hn : 0 ≤ n) (hm : 0 ≤ m) (h : lh t n = lh t m) : n = m := by
  rcases Int.lt_trichotomy n m with z | z | z
  · have := lh_lt ht hn z; omega
  · exact z
  · have := lh_lt ht hm z; omega
theorem lh_up_nat (ht : 1 ≤ t) : ∀ k : Nat, lh t k ≤ 2 * k
  | 0 => by show lh t 0 ≤ _; rw [lh_zero]; omega
  | k + 1 => by
    have := lh_up_nat ht k
    have s := (lh_step ht (show 0 ≤ (k : Int) by omega)).2
    have e : (k : Int) + 1 = ((k + 1 : Nat) : Int) := by omega
    rw [e] at s
    omega
theorem lh_up (ht : 1 ≤ t) {n : Int} (hn : 0 ≤ n) : lh t n ≤ 2 * n := by
  have := lh_up_nat ht n.toNat
  have e : ((n.toNat : Nat) : Int) = n := by omega
  rwa [e] at this
/-- the greater heap -/
def gh (t n : Int) : Int := lh t n + t * n
theorem gh_lt (ht : 1 ≤ t) {n m : Int} (hn : 0 ≤ n) (h : n < m) : gh t n < gh t m := by
  have := lh_lt ht hn h
  have : t * n ≤ t * m := Int.mul_le_mul_of_nonneg_left (by omega) (by omega)
  unfold gh
  omega
theorem gh_inj (ht : 1 ≤ t) {n m : Int} (hn : 0 ≤ n) (hm : 0 ≤ m) (h : gh t n = gh t m) : n = m := by
  rcases Int.lt_trichotomy n m with z | z | z
  · have := gh_lt ht hn z; omega
  · exact z
  · have := gh_lt ht hm z; omega
theorem gh_ge (ht : 1 ≤ t) {n : Int} (hn : 0 ≤ n) : lh t n + n ≤ gh t n := by
  have : 1 * n ≤ t * n := Int.mul_le_mul_of_nonneg_right ht hn
  unfold gh
  omega
/-- an integer between two neighbours is a greater heap -/
theorem gh_fill (ht : 1 ≤ t) {n k : Int} (hn : 0 < n) (hk : 0 < k) (h1 : lh t (n - 1) < k) (h2 : k < lh t n) : 0 < k - (n - 1) ∧ gh t (k - (n - 1)) = k := by
  have C := (xt_ok ht).cut
  have g : n - 1 < k := by have := lh_ge ht (show 0 ≤ n - 1 by omega); omega
  refine ⟨by omega, ?_⟩
  have hm : 0 < k - (n - 1) := by omega
  have a : (xt t).P (-(n - 1)) k := by
    rcases Int.lt_or_eq_of_le (show 0 ≤ n - 1 by omega) with z | z
    · exact C.up (lh_is ht z).hi (by omega)
    · rw [← z]; exact C.whole hk
  have b : (xt t).P n (-(k + 1)) := C.up (lh_is ht hn).lo (by omega)
  generalize hme : k - (n - 1) = m at *
  have p1 : (xt t).P m (t * m - k) := by
    rw [xt_dual ht, show m - k = -(n - 1) by omega]
    exact a
  have p2 : (xt t).P (-m) (k - t * m + 1) := by
    have : ¬ (xt t).P m (t * m - (k + 1)) := fun q => by
      rw [xt_dual ht, show m - (k + 1) = -n by omega] at q
      exact C.neg b (by simpa using q)
    have := C.of_not this (.inl (by omega))
    rwa [show -(t * m - (k + 1)) = k - t * m + 1 by omega] at this
  have : IsFl (xt t).P m (k - t * m) := ⟨by rwa [show -(k - t * m) = t * m - k by omega], p2⟩
  have := this.uniq C (lh_is ht hm)
  unfold gh
  omega
theorem lh_gh (ht : 1 ≤ t) {n m : Int} (hn : 0 < n) (hm : 0 < m) : lh t n ≠ gh t m := fun e => by
  have C := (xt_ok ht).cut
  have hA := lh_is ht hn
  have hB := lh_is ht hm
  generalize hk : lh t n = k at *
  have eB : lh t m = k - t * m := by unfold gh at e; omega
  rw [eB] at hB
  have kp : 0 < k := by have := lh_ge ht (show 0 ≤ n by omega); omega
  have p1 : (xt t).P (m - k) k := by
    rw [← xt_dual ht]
    have := hB.lo
    rwa [show -(k - t * m) = t * m - k by omega] at this
  have p2 : (xt t).P (k + 1 - m) (-(k + 1)) := by
    have : ¬ (xt t).P (m - (k + 1)) (k + 1) := fun q => by
      rw [← xt_dual ht] at q
      refine C.neg hB.hi ?_
      rwa [show -(k - t * m + 1) = t * m - (k + 1) by omega, Int.neg_neg]
    have := C.of_not this (.inr (by omega))
    rwa [show -(m - (k + 1)) = k + 1 - m by omega] at this
  have a := (xt_pos ht).mp (by have := C.add p1 hA.lo; rwa [show k + -k = 0 by omega] at this)
  have b := (xt_pos ht).mp (by have := C.add p2 hA.hi; rwa [show -(k + 1) + (k + 1) = 0 by omega] at this)
  omega
/-! ### the game -/
/-- a lost position -/
def Lost (t i j : Int) : Prop := ∃ n : Int, 0 ≤ n ∧ ((i = lh t n ∧ j = gh t n) ∨ (i = gh t n ∧ j = lh t n))
/-- a move from (i, j) to (k, l) -/
def Move (t i j k l : Int) : Prop := k ≤ i ∧ l ≤ j ∧ (i ≠ k ∨ j ≠ l) ∧ (i = k ∨ j = l ∨ ((i - k) - (j - l) < t ∧ (j - l) - (i - k) < t))
theorem Lost.symm {i j : Int} (h : Lost t i j) : Lost t j i := by
  obtain ⟨n, hn, h | h⟩ := h
  · exact ⟨n, hn, .inr ⟨h.2, h.1⟩⟩
  · exact ⟨n, hn, .inl ⟨h.2, h.1⟩⟩
theorem Move.symm {i j k l : Int} (h : Move t i j k l) : Move t j i l k := by unfold Move at *; omega
theorem gh_zero (t : Int) : gh t 0 = 0 := by unfold gh; rw [lh_zero]; omega
theorem lost_le {n : Int} (ht : 1 ≤ t) (hn : 0 ≤ n) : lh t n ≤ gh t n := by have := gh_ge ht hn; omega
theorem no_move_aux (ht : 1 ≤ t) {n m : Int} (hn : 0 ≤ n) (hm : 0 ≤ m) : ¬ Move t (lh t n) (gh t n) (lh t m) (gh t m) := fun ⟨h1, h2, h3, h4⟩ => by
  rcases Int.lt_trichotomy n m with z | z | z
  · have := lh_lt ht hn z; omega
  · subst z; omega
  · have a := lh_lt ht hm z
    have b := gh_lt ht hm z
    have c : t * (m + 1) ≤ t * n := Int.mul_le_mul_of_nonneg_left (by omega) (by omega)
    have e : t * (m + 1) = t * m + t := by grind
    unfold gh at h4 b
    omega
theorem no_move_aux2 (ht : 1 ≤ t) {n m : Int} (hn : 0 ≤ n) (hm : 0 ≤ m) : ¬ Move t (lh t n) (gh t n) (gh t m) (lh t m) := fun ⟨h1, h2, h3, h4⟩ => by
  rcases Int.lt_or_eq_of_le hn with zn | zn
  · rcases Int.lt_or_eq_of_le hm with zm | zm
    · have a := lh_gh ht zn zm
      have b := lh_gh ht zm zn
      have c : t * 1 ≤ t * n := Int.mul_le_mul_of_nonneg_left (by omega) (by omega)
      have e : t * 1 ≤ t * m := Int.mul_le_mul_of_nonneg_left (by omega) (by omega)
      unfold gh at h4 a b
      omega
    · subst zm
      rw [gh_zero, lh_zero] at h4
      have a := lh_ge ht hn
      have b := gh_ge ht hn
      have c : t * 1 ≤ t * n := Int.mul_le_mul_of_nonneg_left (by omega) (by omega)
      unfold gh at h4 b
      omega
  · subst zn
    rw [gh_zero, lh_zero] at *
    have a := lh_ge ht hm
    have b := gh_ge ht hm
    have : m = 0 := by omega
    subst this
    rw [gh_zero, lh_zero] at *
    omega
/-- no move leads from a lost position to a lost one -/
theorem no_move (ht : 1 ≤ t) {i j k l : Int} (h : Lost t i j) (h' : Lost t k l) : ¬ Move t i j k l := by
  obtain ⟨n, hn, ⟨rfl, rfl⟩ | ⟨rfl, rfl⟩⟩ := h
  · obtain ⟨m, hm, ⟨rfl, rfl⟩ | ⟨rfl, rfl⟩⟩ := h'
    · exact no_move_aux ht hn hm
    · exact no_move_aux2 ht hn hm
  · obtain ⟨m, hm, ⟨rfl, rfl⟩ | ⟨rfl, rfl⟩⟩ := h'
    · exact fun z => no_move_aux2 ht hn hm z.symm
    · exact fun z => no_move_aux ht hn hm z.symm
/-! ### what the program finds -/
/-- n is the first whose lesser heap is at least s -/
def FirstL (t s n : Int) : Prop := 0 ≤ n ∧ n ≤ s ∧ s ≤ lh t n ∧ ∀ m, 0 ≤ m → m < n → lh t m < s
def FirstG (t s n : Int) : Prop := 0 ≤ n ∧ n ≤ s ∧ s ≤ gh t n ∧ ∀ m, 0 ≤ m → m < n → gh t m < s
theorem firstL_uniq {s n m : Int} (h : FirstL t s n) (h' : FirstL t s m) : n = m := by
  obtain ⟨a, _, b, c⟩ := h
  obtain ⟨a', _, b', c'⟩ := h'
  rcases Int.lt_trichotomy n m with z | z | z
  · have := c' n a z; omega
  · exact z
  · have := c m a' z; omega
/-- the lost pairs, the lesser heap first -/
theorem lost_iff (ht : 1 ≤ t) {less more n : Int} (h : FirstL t less n) (hl : less ≤ more) : Lost t less more ↔ lh t n = less ∧ more = less + t * n := by
  constructor
  · rintro ⟨m, hm, ⟨rfl, rfl⟩ | ⟨rfl, rfl⟩⟩
    · have e : m = n := by
        obtain ⟨a, _, b, c⟩ := h
        rcases Int.lt_trichotomy n m with z | z | z
        · have := lh_lt ht a z; omega
        · exact z.symm
        · have := c m hm z; omega
      subst e
      exact ⟨rfl, rfl⟩
    · have g := gh_ge ht hm
      have : m = 0 := by omega
      subst this
      rw [gh_zero] at *
      obtain ⟨a, b, _, _⟩ := h
      have : n = 0 := by omega
      subst this
      rw [lh_zero]
      omega
  · rintro ⟨e1, e2⟩
    exact ⟨n, h.1, .inl ⟨e1.symm, by unfold gh; omega⟩⟩
/-- less is no lesser heap: it is the greater heap of the first one -/
theorem firstG_is (ht : 1 ≤ t) {less n m : Int} (h : FirstL t less n) (hne : lh t n ≠ less) (hg : FirstG t less m) : gh t m = less ∧ 0 < m ∧ lh t m < less := by
  obtain ⟨a, b, c, e⟩ := h
  have n0 : 0 < n := by
    rcases Int.lt_or_eq_of_le a with z | z
    · exact z
    · subst z; rw [lh_zero] at *; omega
  have f := gh_fill ht n0 (show 0 < less by have := lh_ge ht (show 0 ≤ n - 1 by omega); have := e (n - 1) (by omega) (by omega); omega) (e (n - 1) (by omega) (by omega)) (by omega)
  generalize less - (n - 1) = k at f
  obtain ⟨a', _, c', e'⟩ := hg
  have em : m = k := by
    rcases Int.lt_trichotomy m k with z | z | z
    · have := gh_lt ht a' z; omega
    · exact z
    · have := e' k (by omega) z; omega
  subst em
  have := gh_ge ht (show 0 ≤ m by omega)
  omega
/-- from (less, more), not lost, less a lesser heap, more too small: the pair m by the rest -/
theorem answer3 (ht : 1 ≤ t) {less more n : Int} (h : FirstL t less n) (e : lh t n = less) (hl : less ≤ more) (h2 : more < less + t * n) :
    0 ≤ (more - less) / t ∧ lh t ((more - less) / t) < less ∧ Move t less more (lh t ((more - less) / t)) (gh t ((more - less) / t)) := by
  have q1 : (more - less) / t * t ≤ more - less := Int.ediv_mul_le _ (by omega)
  have q2 : more - less < ((more - less) / t + 1) * t := Int.lt_ediv_add_one_mul_self _ (by omega)
  have q0 : 0 ≤ (more - less) / t := Int.ediv_nonneg (by omega) (by omega)
  generalize (more - less) / t = m at *
  have mn : m < n := by
    rcases Int.lt_or_le m n with z | z
    · exact z
    · have : t * n ≤ t * m := Int.mul_le_mul_of_nonneg_left z (by omega)
      have e : t * m = m * t := by grind
      omega
  have := lh_lt ht q0 mn
  have e2 : (m + 1) * t = m * t + t := by grind
  have e3 : t * m = m * t := by grind
  refine ⟨q0, by omega, ?_⟩
  unfold Move gh
  omega
end
end Fl
/-! Ma4: numbers in lowest terms. -/
namespace Fl
def g3 (a b c : Int) : Int := (Int.gcd (Int.gcd a b) c : Nat)
theorem g3_pos {a b c : Int} (h : b ≠ 0) : 0 < g3 a b c := by
  unfold g3
  have h1 : 0 < Int.gcd a b := Int.gcd_pos_of_ne_zero_right _ h
  have : 0 < Int.gcd (Int.gcd a b) c := Int.gcd_pos_of_ne_zero_left _ (by omega)
  omega
theorem g3_a (a b c : Int) : g3 a b c ∣ a := Int.dvd_trans (Int.gcd_dvd_left _ _) (Int.gcd_dvd_left _ _)
theorem g3_b (a b c : Int) : g3 a b c ∣ b := Int.dvd_trans (Int.gcd_dvd_left _ _) (Int.gcd_dvd_right _ _)
theorem g3_c (a b c : Int) : g3 a b c ∣ c := Int.gcd_dvd_right _ _
/-- divided by what is common -/
def Rt.low (x : Rt) : Rt := ⟨x.a / g3 x.a x.b x.c, x.b / g3 x.a x.b x.c, x.d, x.c / g3 x.a x.b x.c⟩
section
variable {x : Rt}
theorem Rt.low_a : x.a = g3 x.a x.b x.c * x.low.a := (Int.mul_ediv_cancel' (g3_a _ _ _)).symm
theorem Rt.low_b : x.b = g3 x.a x.b x.c * x.low.b := (Int.mul_ediv_cancel' (g3_b _ _ _)).symm
theorem Rt.low_c : x.c = g3 x.a x.b x.c * x.low.c := (Int.mul_ediv_cancel' (g3_c _ _ _)).symm
theorem Rt.low_gcd (h : x.b ≠ 0) : Int.gcd (Int.gcd x.low.a x.low.b) x.low.c = 1 := by
  have hp := g3_pos (a := x.a) (c := x.c) h
  have e : g3 x.a x.b x.c = g3 x.a x.b x.c * (Int.gcd (Int.gcd x.low.a x.low.b) x.low.c : Nat) := by
    have e1 : Int.gcd x.a x.b = (g3 x.a x.b x.c).natAbs * Int.gcd x.low.a x.low.b := by
      rw [← Int.gcd_mul_left, ← Rt.low_a, ← Rt.low_b]
    have e2 : (Int.gcd x.a x.b : Int) = g3 x.a x.b x.c * (Int.gcd x.low.a x.low.b : Nat) := by
      rw [e1, Int.natCast_mul, Int.natAbs_of_nonneg (by omega)]
    have e3 : Int.gcd (Int.gcd x.a x.b : Int) x.c = (g3 x.a x.b x.c).natAbs * Int.gcd (Int.gcd x.low.a x.low.b : Nat) x.low.c := by
      rw [← Int.gcd_mul_left, ← e2, ← Rt.low_c]
    have e4 : g3 x.a x.b x.c = (Int.gcd (Int.gcd x.a x.b : Int) x.c : Nat) := rfl
    rw [e3, Int.natCast_mul, Int.natAbs_of_nonneg (by omega)] at e4
    exact e4
  have : g3 x.a x.b x.c * 1 = g3 x.a x.b x.c * (Int.gcd (Int.gcd x.low.a x.low.b) x.low.c : Nat) := by rw [Int.mul_one]; exact e
  have := Int.eq_of_mul_eq_mul_left (by omega) this
  omega
theorem div_le_abs {a g : Int} (hg : 0 < g) (hd : g ∣ a) : (a / g).natAbs ≤ a.natAbs := by
  obtain ⟨k, e⟩ := hd
  rw [e, Int.mul_ediv_cancel_left _ (by omega), Int.natAbs_mul]
  have : 1 ≤ g.natAbs := by omega
  exact Nat.le_mul_of_pos_left _ (by omega)
theorem Rt.low_abs (h : x.b ≠ 0) : x.low.a.natAbs ≤ x.a.natAbs ∧ x.low.b.natAbs ≤ x.b.natAbs ∧ x.low.c.natAbs ≤ x.c.natAbs :=
  ⟨div_le_abs (g3_pos h) (g3_a _ _ _), div_le_abs (g3_pos h) (g3_b _ _ _), div_le_abs (g3_pos h) (g3_c _ _ _)⟩
theorem Rt.low_b0 (h : x.b ≠ 0) : x.low.b ≠ 0 := fun e => by
  have := Rt.low_b (x := x)
  rw [e, Int.mul_zero] at this
  exact h this
theorem Rt.low_c0 (h : x.b ≠ 0) (hc : 0 < x.c) : 0 < x.low.c := by
  have e := Rt.low_c (x := x)
  have hp := g3_pos (a := x.a) (c := x.c) h
  rcases Int.lt_or_le 0 x.low.c with z | z
  · exact z
  · have : g3 x.a x.b x.c * x.low.c ≤ 0 := Int.mul_nonpos_of_nonneg_of_nonpos (by omega) z
    omega
theorem Rt.low_ok (o : x.Ok) : x.low.Ok := ⟨o.d, Rt.low_b0 o.b, Rt.low_c0 o.b o.c⟩
theorem Rt.low_P (o : x.Ok) (p q : Int) : x.low.P p q ↔ x.P p q := by
  unfold Rt.P
  have hp := g3_pos (a := x.a) (c := x.c) o.b
  have e1 : p * x.a + q * x.c = g3 x.a x.b x.c * (p * x.low.a + q * x.low.c) := by
    have h1 := Rt.low_a (x := x)
    have h3 := Rt.low_c (x := x)
    rw [Int.mul_add, Int.mul_left_comm, ← h1, Int.mul_left_comm _ q, ← h3]
  have e2 : p * x.b = g3 x.a x.b x.c * (p * x.low.b) := by
    have h2 := Rt.low_b (x := x)
    rw [Int.mul_left_comm, ← h2]
  rw [e1, e2]
  exact (pos_mul_int o.d hp).symm
end
end Fl
/-! Ma5: bounds and rules of whole parts. -/
namespace Fl
theorem sq_le_of {m r : Int} (hm : 0 ≤ m) (hr : 0 ≤ r) (h : m ≤ r * r) : sq m ≤ r := by
  have s := (sq_spec hm).1
  exact le_of_sq hr (Int.le_trans s h)
theorem div_abs {y c : Int} (hc : 1 ≤ c) : (y / c).natAbs ≤ y.natAbs := by
  have h1 : y / c * c ≤ y := Int.ediv_mul_le y (by omega)
  have h2 : y < (y / c + 1) * c := Int.lt_ediv_add_one_mul_self y (by omega)
  generalize y / c = q at *
  rcases Int.lt_or_le q 0 with z | z
  · have : (q + 1) * c ≤ (q + 1) * 1 := Int.mul_le_mul_of_nonpos_left (by omega) hc
    omega
  · have : q * 1 ≤ q * c := Int.mul_le_mul_of_nonneg_left hc z
    omega
theorem Rt.fn_abs {x : Rt} (hc : 1 ≤ x.c) (hd : 1 ≤ x.d) (n : Int) : (x.fn n).natAbs ≤ n.natAbs * (x.a.natAbs + x.b.natAbs * x.d.natAbs) + 1 := by
  have e0 : n * n * x.b * x.b * x.d = (n * x.b) * (n * x.b) * x.d := by grind
  have m0 : 0 ≤ (n * x.b) * (n * x.b) * x.d := Int.mul_nonneg (sq_nn _) (by omega)
  have s0 := sq_nonneg ((n * x.b) * (n * x.b) * x.d)
  have s1 : sq ((n * x.b) * (n * x.b) * x.d) ≤ (((n * x.b).natAbs * x.d.natAbs : Nat) : Int) := by
    refine sq_le_of m0 (Int.natCast_nonneg _) ?_
    have e1 : (((n * x.b).natAbs * x.d.natAbs : Nat) : Int) * (((n * x.b).natAbs * x.d.natAbs : Nat) : Int) = (n * x.b) * (n * x.b) * (x.d * x.d) := by
      rw [Int.natCast_mul, Int.natAbs_of_nonneg (show 0 ≤ x.d by omega)]
      have : (((n * x.b).natAbs : Nat) : Int) * (((n * x.b).natAbs : Nat) : Int) = (n * x.b) * (n * x.b) := Int.natAbs_mul_self
      grind
    rw [e1]
    refine Int.mul_le_mul_of_nonneg_left ?_ (sq_nn _)
    have : x.d * 1 ≤ x.d * x.d := Int.mul_le_mul_of_nonneg_left hd (by omega)
    omega
  unfold Rt.fn
  refine Nat.le_trans (div_abs hc) ?_
  rw [e0]
  generalize sq ((n * x.b) * (n * x.b) * x.d) = r at *
  have h1 : (rtE (n * x.b) r).natAbs ≤ (n * x.b).natAbs * x.d.natAbs + 1 := by unfold rtE; split <;> omega
  have h2 : (n * x.a).natAbs = n.natAbs * x.a.natAbs := Int.natAbs_mul _ _
  have h3 : (n * x.b).natAbs = n.natAbs * x.b.natAbs := Int.natAbs_mul _ _
  have h4 : n.natAbs * (x.a.natAbs + x.b.natAbs * x.d.natAbs) = n.natAbs * x.a.natAbs + n.natAbs * x.b.natAbs * x.d.natAbs := by rw [Nat.mul_add, Nat.mul_assoc]
  rw [h4]
  rw [h3] at h1
  omega
theorem Rt.fl_abs {x : Rt} (hc : 1 ≤ x.c) (hd : 1 ≤ x.d) (n : Int) : (x.fl n).natAbs ≤ n.natAbs * (x.a.natAbs + x.b.natAbs * x.d.natAbs) + 1 := by
  unfold Rt.fl
  split
  · simp
  · exact Rt.fn_abs hc hd n
section
variable {P : Int → Int → Prop}
/-- the whole part of the negative -/
theorem IsFl.neg {n k : Int} (h : IsFl P n k) : IsFl P (-n) (-k - 1) := ⟨by
  have := h.hi
  rwa [show k + 1 = -(-k - 1) by omega] at this, by
  have := h.lo
  rw [show (- -n) = n by omega, show -k - 1 + 1 = -k by omega]
  exact this⟩
theorem IsFl.cut_iff (C : Cut P) {n k : Int} (h : IsFl P n k) {m : Int} : P n (-m) ↔ m ≤ k := by
  constructor
  · intro hm
    have := C.whole_iff.mp (by have := C.add hm h.hi; rwa [show n + -n = 0 by omega] at this)
    omega
  · intro hm
    exact C.up h.lo (by omega)
end
/-- the number with the opposite value -/
def Rt.neg (x : Rt) : Rt := ⟨-x.a, -x.b, x.d, x.c⟩
theorem Rt.neg_P (x : Rt) (p q : Int) : x.neg.P p q ↔ x.P (-p) q := by
  unfold Rt.P Rt.neg
  have e1 : p * -x.a + q * x.c = -p * x.a + q * x.c := by grind
  have e2 : p * -x.b = -p * x.b := by grind
  simp only [e1, e2]
theorem Rt.neg_ok {x : Rt} (o : x.Ok) : x.neg.Ok := ⟨o.d, fun e => o.b (by have : -x.b = 0 := e; omega), o.c⟩
theorem Rt.neg_fl {x : Rt} (o : x.Ok) {n : Int} (hn : n ≠ 0) : x.neg.fl n = -x.fl n - 1 := by
  have h1 := (Rt.neg_ok o).fl hn
  have h2 := (o.fl hn).neg
  have h3 : IsFl x.neg.P n (-x.fl n - 1) := ⟨(Rt.neg_P _ _ _).mpr h2.lo, (Rt.neg_P _ _ _).mpr h2.hi⟩
  exact IsFl.uniq (Rt.neg_ok o).cut h1 h3
theorem Rt.fl_one (x : Rt) : x.fl 1 = x.fn 1 := by unfold Rt.fl; rw [if_neg (by decide)]
end Fl
/-! Ma6: lowest terms with a sign, inverses. -/
namespace Fl
/-- the same with the signs of all parts changed -/
def Rt.flip (x : Rt) : Rt := ⟨-x.a, -x.b, x.d, -x.c⟩
/-- lowest terms, the last part positive -/
def Rt.red (x : Rt) : Rt := if x.c < 0 then x.flip.low else x.low
theorem Rt.red_d (x : Rt) : x.red.d = x.d := by unfold Rt.red; split <;> rfl
theorem g3_flip (x : Rt) : g3 x.flip.a x.flip.b x.flip.c = g3 x.a x.b x.c := by
  unfold g3 Rt.flip
  simp [Int.gcd_neg, Int.neg_gcd]
/-- what is divided by -/
def Rt.gs (x : Rt) : Int := if x.c < 0 then -g3 x.a x.b x.c else g3 x.a x.b x.c
theorem Rt.red_gs {x : Rt} (b0 : x.b ≠ 0) (c0 : x.c ≠ 0) : x.gs ≠ 0 ∧ x.a = x.gs * x.red.a ∧ x.b = x.gs * x.red.b ∧ x.c = x.gs * x.red.c ∧ 0 < x.red.c ∧ Int.gcd (Int.gcd x.red.a x.red.b) x.red.c = 1 := by
  unfold Rt.red Rt.gs
  split
  · rename_i h
    rw [← g3_flip]
    have b1 : x.flip.b ≠ 0 := by show -x.b ≠ 0; omega
    have gp := g3_pos (a := x.flip.a) (c := x.flip.c) b1
    refine ⟨by omega, ?_, ?_, ?_, Rt.low_c0 b1 (by show 0 < -x.c; omega), Rt.low_gcd b1⟩
    · have := Rt.low_a (x := x.flip)
      rw [Int.neg_mul, ← this]
      show x.a = - -x.a
      omega
    · have := Rt.low_b (x := x.flip)
      rw [Int.neg_mul, ← this]
      show x.b = - -x.b
      omega
    · have := Rt.low_c (x := x.flip)
      rw [Int.neg_mul, ← this]
      show x.c = - -x.c
      omega
  · rename_i h
    have gp := g3_pos (a := x.a) (c := x.c) b0
    exact ⟨by omega, Rt.low_a, Rt.low_b, Rt.low_c, Rt.low_c0 b0 (by omega), Rt.low_gcd b0⟩
theorem Rt.red_by {x : Rt} (b0 : x.b ≠ 0) (c0 : x.c ≠ 0) : ∃ g : Int, g ≠ 0 ∧ x.a = g * x.red.a ∧ x.b = g * x.red.b ∧ x.c = g * x.red.c ∧ 0 < x.red.c ∧ Int.gcd (Int.gcd x.red.a x.red.b) x.red.c = 1 := ⟨_, Rt.red_gs b0 c0⟩
theorem Rt.gs_abs {x : Rt} (b0 : x.b ≠ 0) (c0 : x.c ≠ 0) : x.gs.natAbs ≤ x.c.natAbs := by
  obtain ⟨_, _, _, h, h2, _⟩ := Rt.red_gs b0 c0
  have : x.c.natAbs = x.gs.natAbs * x.red.c.natAbs := by rw [← Int.natAbs_mul, ← h]
  rw [this]
  exact Nat.le_mul_of_pos_right _ (by omega)
theorem Rt.red_ok {x : Rt} (hd : Nsq x.d) (b0 : x.b ≠ 0) (c0 : x.c ≠ 0) : x.red.Ok := by
  obtain ⟨g, g0, ea, eb, ec, h1, h2⟩ := Rt.red_by b0 c0
  exact ⟨by rw [Rt.red_d]; exact hd, fun e => b0 (by rw [eb, e, Int.mul_zero]), h1⟩
theorem Rt.red_abs {x : Rt} (b0 : x.b ≠ 0) (c0 : x.c ≠ 0) : x.red.a.natAbs ≤ x.a.natAbs ∧ x.red.b.natAbs ≤ x.b.natAbs ∧ x.red.c.natAbs ≤ x.c.natAbs := by
  obtain ⟨g, g0, ea, eb, ec, h1, h2⟩ := Rt.red_by b0 c0
  have k : ∀ u v : Int, u = g * v → v.natAbs ≤ u.natAbs := fun u v e => by
    rw [e, Int.natAbs_mul]
    exact Nat.le_mul_of_pos_left _ (by omega)
  exact ⟨k _ _ ea, k _ _ eb, k _ _ ec⟩
/-- signs by a number with parts in proportion -/
theorem pst_scale {d u v g : Int} (hd : Nsq d) (hg : g ≠ 0) : (0 < g → (Pst d (g * u) (g * v) ↔ Pst d u v)) ∧ (g < 0 → (Pst d (g * u) (g * v) ↔ Pst d (-u) (-v))) := by
  refine ⟨fun h => pos_mul_int hd h, fun h => ?_⟩
  have e1 : g * u = -g * -u := by grind
  have e2 : g * v = -g * -v := by grind
  rw [e1, e2]
  exact pos_mul_int hd (by omega)
/-- p x + q = (u + v r)/c -/
theorem Rt.red_P {x : Rt} (hd : Nsq x.d) (b0 : x.b ≠ 0) (c0 : x.c ≠ 0) (p q : Int) : x.red.P p q ↔ (0 < x.c ∧ Pst x.d (p * x.a + q * x.c) (p * x.b)) ∨ (x.c < 0 ∧ Pst x.d (-(p * x.a + q * x.c)) (-(p * x.b))) := by
  unfold Rt.red
  split
  · rename_i h
    have b1 : x.flip.b ≠ 0 := by show -x.b ≠ 0; omega
    have ok : x.flip.Ok := ⟨hd, b1, by show 0 < -x.c; omega⟩
    rw [Rt.low_P ok]
    unfold Rt.P Rt.flip
    have e1 : p * -x.a + q * -x.c = -(p * x.a + q * x.c) := by grind
    have e2 : p * -x.b = -(p * x.b) := by grind
    simp only [e1, e2]
    exact ⟨fun z => .inr ⟨h, z⟩, fun z => z.elim (fun z => by omega) fun z => z.2⟩
  · rename_i h
    have ok : x.Ok := ⟨hd, b0, by omega⟩
    rw [Rt.low_P ok]
    unfold Rt.P
    exact ⟨fun z => .inl ⟨by omega, z⟩, fun z => z.elim (fun z => z.2) fun z => by omega⟩
/-! ### inverses -/
def Rt.invN (x : Rt) : Rt := ⟨x.c * x.a, -x.c * x.b, x.d, x.a * x.a - x.d * x.b * x.b⟩
def Rt.inv (x : Rt) : Rt := x.invN.red
section
variable {x : Rt} (o : x.Ok)
include o
theorem Rt.inv_b0 : x.invN.b ≠ 0 := fun e => by
  have : -x.c * x.b = 0 := e
  have c := o.c
  have b := o.b
  rcases Int.mul_eq_zero.mp this with h | h <;> omega
theorem Rt.inv_c0 : x.invN.c ≠ 0 := fun e => by
  have : x.a * x.a - x.d * x.b * x.b = 0 := e
  have e2 : x.a * x.a = x.b * x.b * x.d := by grind
  exact o.b (irr' o.d e2).2
theorem Rt.inv_ok : x.inv.Ok := Rt.red_ok o.d (Rt.inv_b0 o) (Rt.inv_c0 o)
theorem Rt.inv_eqs : x.inv.d = x.d ∧ 0 < x.inv.c ∧ Int.gcd (Int.gcd x.inv.a x.inv.b) x.inv.c = 1 ∧ x.a * x.inv.a + x.d * x.b * x.inv.b = x.c * x.inv.c ∧ x.a * x.inv.b + x.b * x.inv.a = 0 := by
  obtain ⟨g, g0, ea, eb, ec, h1, h2⟩ := Rt.red_by (Rt.inv_b0 o) (Rt.inv_c0 o)
  refine ⟨Rt.red_d _, h1, h2, ?_, ?_⟩
  · have ea' : x.c * x.a = g * x.inv.a := ea
    have eb' : -x.c * x.b = g * x.inv.b := eb
    have ec' : x.a * x.a - x.d * x.b * x.b = g * x.inv.c := ec
    have : g * (x.a * x.inv.a + x.d * x.b * x.inv.b) = g * (x.c * x.inv.c) := by grind
    exact Int.eq_of_mul_eq_mul_left g0 this
  · have ea' : x.c * x.a = g * x.inv.a := ea
    have eb' : -x.c * x.b = g * x.inv.b := eb
    have : g * (x.a * x.inv.b + x.b * x.inv.a) = g * 0 := by grind
    exact Int.eq_of_mul_eq_mul_left g0 this
end
/-- the sign of a product, here of (u + v r)(u' + v' r) by a negative -/
theorem pst_mul_neg {d u v u' v' : Int} (hd : Nsq d) (h' : Pst d (-u') (-v')) : Pst d (u * u' + v * v' * d) (u * v' + v * u') ↔ Pst d (-u) (-v) := by
  have := pos_mul_iff (u := -u) (v := -v) hd h'
  have e1 : -u * -u' + -v * -v' * d = u * u' + v * v' * d := by grind
  have e2 : -u * -v' + -v * -u' = u * v' + v * u' := by grind
  rwa [e1, e2] at this
/-- p/x + q > 0 for a positive x -/
theorem Rt.inv_P {x : Rt} (o : x.Ok) (hx : x.P 1 0) (p q : Int) : x.inv.P p q ↔ x.P q p := by
  have hd := o.d
  have c0 := o.c
  have hx' : Pst x.d x.a x.b := by
    unfold Rt.P at hx
    simpa using hx
  have key : ∀ u v : Int, Pst x.d (x.a * u + x.b * v * x.d) (x.a * v + x.b * u) ↔ Pst x.d u v := fun u v => by
    have := pos_mul_iff (u := u) (v := v) hd hx'
    have e1 : u * x.a + v * x.b * x.d = x.a * u + x.b * v * x.d := by grind
    have e2 : u * x.b + v * x.a = x.a * v + x.b * u := by grind
    rwa [e1, e2] at this
  unfold Rt.inv
  rw [Rt.red_P (x := x.invN) hd (Rt.inv_b0 o) (Rt.inv_c0 o)]
  unfold Rt.P
  show (0 < x.a * x.a - x.d * x.b * x.b ∧ Pst x.d (p * (x.c * x.a) + q * (x.a * x.a - x.d * x.b * x.b)) (p * (-x.c * x.b))) ∨ (x.a * x.a - x.d * x.b * x.b < 0 ∧ Pst x.d (-(p * (x.c * x.a) + q * (x.a * x.a - x.d * x.b * x.b))) (-(p * (-x.c * x.b)))) ↔ Pst x.d (q * x.a + p * x.c) (q * x.b)
  have n0 := Rt.inv_c0 o
  have n0' : x.a * x.a - x.d * x.b * x.b ≠ 0 := n0
  rw [← key (p * (x.c * x.a) + q * (x.a * x.a - x.d * x.b * x.b)) (p * (-x.c * x.b)), ← key (-(p * (x.c * x.a) + q * (x.a * x.a - x.d * x.b * x.b))) (-(p * (-x.c * x.b)))]
  generalize hN : x.a * x.a - x.d * x.b * x.b = N at *
  have e1 : x.a * (p * (x.c * x.a) + q * N) + x.b * (p * (-x.c * x.b)) * x.d = N * (q * x.a + p * x.c) := by rw [← hN]; grind
  have e2 : x.a * (p * (-x.c * x.b)) + x.b * (p * (x.c * x.a) + q * N) = N * (q * x.b) := by grind
  have e3 : x.a * (-(p * (x.c * x.a) + q * N)) + x.b * (-(p * (-x.c * x.b))) * x.d = -N * (q * x.a + p * x.c) := by rw [← hN]; grind
  have e4 : x.a * (-(p * (-x.c * x.b))) + x.b * (-(p * (x.c * x.a) + q * N)) = -N * (q * x.b) := by grind
  rw [e1, e2, e3, e4]
  rcases Int.lt_or_gt_of_ne n0' with z | z
  · constructor
    · rintro (⟨h, _⟩ | ⟨_, h⟩)
      · omega
      · exact (pos_mul_int hd (show 0 < -N by omega)).mp h
    · exact fun h => .inr ⟨z, (pos_mul_int hd (show 0 < -N by omega)).mpr h⟩
  · constructor
    · rintro (⟨_, h⟩ | ⟨h, _⟩)
      · exact (pos_mul_int hd z).mp h
      · omega
    · exact fun h => .inl ⟨z, (pos_mul_int hd z).mpr h⟩
/-- equal values, equal numbers -/
theorem low_dvd {a b c k m n : Int} (h1 : Int.gcd (Int.gcd a b) c = 1) (e1 : k * c = a * n) (e2 : m * c = b * n) : c ∣ n := by
  have d1 : c ∣ n * a := ⟨k, by grind⟩
  have d2 : c ∣ n * b := ⟨m, by grind⟩
  have d3 : c ∣ n * (Int.gcd a b : Nat) := by
    have : c ∣ ((Int.gcd (n * a) (n * b) : Nat) : Int) := Int.dvd_coe_gcd d1 d2
    rw [Int.gcd_mul_left] at this
    rcases Int.le_total 0 n with z | z
    · rwa [Int.natCast_mul, Int.natAbs_of_nonneg z] at this
    · rw [Int.natCast_mul, Int.ofNat_natAbs_of_nonpos z, Int.neg_mul] at this
      exact Int.dvd_neg.mp this
  have d4 := Int.dvd_mul_gcd_iff_dvd_mul.mpr d3
  rw [Int.gcd_comm, h1] at d4
  simpa using d4
theorem low_eq {x y : Rt} (hd : x.d = y.d) (cx : 0 < x.c) (cy : 0 < y.c) (gx : Int.gcd (Int.gcd x.a x.b) x.c = 1) (gy : Int.gcd (Int.gcd y.a y.b) y.c = 1) (e1 : y.a * x.c = x.a * y.c) (e2 : y.b * x.c = x.b * y.c) : x = y := by
  have d1 : x.c ∣ y.c := low_dvd gx e1 e2
  have d2 : y.c ∣ x.c := low_dvd gy e1.symm e2.symm
  have ec : x.c = y.c := Int.le_antisymm (Int.le_of_dvd cy d1) (Int.le_of_dvd cx d2)
  rw [← ec] at e1 e2
  have ea := Int.eq_of_mul_eq_mul_right (by omega) e1
  have eb := Int.eq_of_mul_eq_mul_right (by omega) e2
  obtain ⟨a, b, d, c⟩ := x
  obtain ⟨a', b', d', c'⟩ := y
  simp at *
  omega
end Fl
/-! Ma7: rows of a number above 1. -/
namespace Fl
section
variable {x : Rt}
/-- a number above 1: its whole parts grow -/
theorem fl_zero (x : Rt) : x.fl 0 = 0 := by unfold Rt.fl; rw [if_pos rfl]
theorem fl_iff (o : x.Ok) {n m : Int} (hn : n ≠ 0) : x.P n (-m) ↔ m ≤ x.fl n := (o.fl hn).cut_iff o.cut
theorem fl_lt (o : x.Ok) {n m : Int} (hn : n ≠ 0) : x.P (-n) m ↔ x.fl n < m := by
  have h := fl_iff o (n := n) (m := m) hn
  have C := o.cut
  constructor
  · intro z
    rcases Int.lt_or_le (x.fl n) m with y | y
    · exact y
    · have := C.neg z
      rw [Int.neg_neg] at this
      exact absurd (h.mpr y) this
  · intro z
    have : ¬ x.P n (-m) := fun y => by have := h.mp y; omega
    have := C.of_not this (.inl hn)
    rwa [Int.neg_neg] at this
theorem fl_uniq (o : x.Ok) {n k : Int} (hn : n ≠ 0) (h1 : x.P n (-k)) (h2 : x.P (-n) (k + 1)) : x.fl n = k := IsFl.uniq o.cut (o.fl hn) ⟨h1, h2⟩
/-- sums of whole parts -/
theorem fl_add (o : x.Ok) {m n : Int} (hm : m ≠ 0) (hn : n ≠ 0) (hs : m + n ≠ 0) : x.fl m + x.fl n ≤ x.fl (m + n) ∧ x.fl (m + n) ≤ x.fl m + x.fl n + 1 := by
  have C := o.cut
  have a := o.fl hm
  have b := o.fl hn
  refine ⟨(fl_iff o hs).mp ?_, ?_⟩
  · have := C.add a.lo b.lo
    rwa [show -x.fl m + -x.fl n = -(x.fl m + x.fl n) by omega] at this
  · have := C.add a.hi b.hi
    rw [show -m + -n = -(m + n) by omega, show x.fl m + 1 + (x.fl n + 1) = x.fl m + x.fl n + 2 by omega] at this
    have := (fl_lt o hs).mp this
    omega
theorem fl_step (o : x.Ok) {n : Int} (hn : 0 ≤ n) : x.fl n + x.fl 1 ≤ x.fl (n + 1) ∧ x.fl (n + 1) ≤ x.fl n + x.fl 1 + 1 := by
  rcases Int.lt_or_eq_of_le hn with z | z
  · exact fl_add o (by omega) (by decide) (by omega)
  · subst z
    rw [fl_zero, show (0 : Int) + 1 = 1 from rfl]
    omega
theorem gt_iff (o : x.Ok) : x.P 1 (-1) ↔ 1 ≤ x.fl 1 := fl_iff o (by decide)
theorem fl_inc (o : x.Ok) (g : 1 ≤ x.fl 1) {n : Int} (hn : 0 ≤ n) : x.fl n < x.fl (n + 1) := by
  have := (fl_step o hn).1
  omega
theorem fl_mono_nat (o : x.Ok) (g : 1 ≤ x.fl 1) {n : Int} (hn : 0 ≤ n) : ∀ k : Nat, x.fl n + k ≤ x.fl (n + k)
  | 0 => by simp
  | k + 1 => by
    have := fl_mono_nat o g hn k
    have h := fl_inc o g (n := n + k) (by omega)
    rw [show n + ((k + 1 : Nat) : Int) = n + k + 1 by omega]
    omega
theorem fl_mono (o : x.Ok) (g : 1 ≤ x.fl 1) {m n : Int} (hm : 0 ≤ m) (h : m ≤ n) : x.fl m + (n - m) ≤ x.fl n := by
  have := fl_mono_nat o g hm (n - m).toNat
  rwa [show (((n - m).toNat : Nat) : Int) = n - m by omega, show m + (n - m) = n by omega] at this
theorem fl_ge (o : x.Ok) (g : 1 ≤ x.fl 1) {n : Int} (hn : 0 ≤ n) : n ≤ x.fl n := by
  have := fl_mono o g (m := 0) (by omega) hn
  rw [fl_zero] at this
  omega
theorem fl_lt_iff (o : x.Ok) (g : 1 ≤ x.fl 1) {m n : Int} (hm : 0 ≤ m) (hn : 0 ≤ n) : x.fl m < x.fl n ↔ m < n := by
  constructor
  · intro h
    rcases Int.lt_or_le m n with z | z
    · exact z
    · have := fl_mono o g hn z
      omega
  · intro h
    have := fl_mono o g hm (show m ≤ n by omega)
    omega
theorem fl_inj (o : x.Ok) (g : 1 ≤ x.fl 1) {m n : Int} (hm : 0 ≤ m) (hn : 0 ≤ n) (h : x.fl m = x.fl n) : m = n := by
  have a := fl_lt_iff o g hm hn
  have b := fl_lt_iff o g hn hm
  omega
theorem pos_of_gt (o : x.Ok) (g : 1 ≤ x.fl 1) : x.P 1 0 := by
  have := o.cut.up ((gt_iff o).mpr g) (show (-1 : Int) ≤ 0 by decide)
  exact this
/-- the number of entries up to t -/
def Rt.cnt (x : Rt) (t : Int) : Int := x.inv.fl (t + 1)
theorem cnt_iff (o : x.Ok) (g : 1 ≤ x.fl 1) {t m : Int} (ht : 0 ≤ t) (hm : 1 ≤ m) : m ≤ x.cnt t ↔ x.fl m ≤ t := by
  unfold Rt.cnt
  rw [← fl_iff (Rt.inv_ok o) (by omega), Rt.inv_P o (pos_of_gt o g), fl_lt o (by omega)]
  omega
theorem cnt_nonneg (o : x.Ok) (g : 1 ≤ x.fl 1) {t : Int} (ht : 0 ≤ t) : 0 ≤ x.cnt t := by
  rcases Int.lt_or_le (x.cnt t) 0 with z | z
  · have h := (fl_iff (Rt.inv_ok o) (n := t + 1) (m := 0) (by omega))
    have e : x.inv.fl (t + 1) = x.cnt t := rfl
    rw [e, Rt.inv_P o (pos_of_gt o g)] at h
    have : x.P (-0) (t + 1) := by rw [Int.neg_zero]; exact o.cut.whole (by omega)
    have := h.mp this
    omega
  · exact z
theorem cnt_eq (o : x.Ok) (g : 1 ≤ x.fl 1) {t n : Int} (hn : 0 ≤ n) (h1 : x.fl n ≤ t) (h2 : t < x.fl (n + 1)) : x.cnt t = n := by
  have t0 : 0 ≤ t := by have := fl_ge o g hn; omega
  have c0 := cnt_nonneg o g t0
  have a := cnt_iff o g t0 (m := n + 1) (by omega)
  rcases Int.lt_or_eq_of_le hn with z | z
  · have b := cnt_iff o g t0 (m := n) (by omega)
    omega
  · omega
theorem cnt_spec (o : x.Ok) (g : 1 ≤ x.fl 1) {t : Int} (ht : 0 ≤ t) : x.fl (x.cnt t) ≤ t ∧ t < x.fl (x.cnt t + 1) := by
  have c0 := cnt_nonneg o g ht
  have a := cnt_iff o g ht (m := x.cnt t + 1) (by omega)
  refine ⟨?_, by omega⟩
  rcases Int.lt_or_eq_of_le c0 with z | z
  · exact (cnt_iff o g ht (m := x.cnt t) (by omega)).mp (by omega)
  · rw [← z, fl_zero]; omega
theorem cnt_le (o : x.Ok) (g : 1 ≤ x.fl 1) {t : Int} (ht : 0 ≤ t) : x.cnt t ≤ t := by
  have := (cnt_spec o g ht).1
  have := fl_ge o g (cnt_nonneg o g ht)
  omega
/-- t is the entry n -/
def Rt.At (x : Rt) (t n : Int) : Prop := 1 ≤ n ∧ x.fl n = t
instance (x : Rt) (t n : Int) : Decidable (x.At t n) := by unfold Rt.At; infer_instance
/-- t is an entry -/
def Rt.In (x : Rt) (t : Int) : Prop := 0 < x.cnt t ∧ x.fl (x.cnt t) = t
instance (x : Rt) (t : Int) : Decidable (x.In t) := by unfold Rt.In; infer_instance
theorem at_cnt (o : x.Ok) (g : 1 ≤ x.fl 1) {t n : Int} (h : x.At t n) : x.cnt t = n := by
  have := fl_inc o g (n := n) (by have := h.1; omega)
  exact cnt_eq o g (by have := h.1; omega) (by have := h.2; omega) (by have := h.2; omega)
theorem in_iff (o : x.Ok) (g : 1 ≤ x.fl 1) {t : Int} : x.In t ↔ ∃ n, x.At t n := by
  constructor
  · intro h
    exact ⟨_, h.1, h.2⟩
  · rintro ⟨n, h⟩
    have e := at_cnt o g h
    unfold Rt.In
    rw [e]
    exact ⟨by have := h.1; omega, h.2⟩
/-- the first entry is the whole part, and the row begins there -/
theorem not_in {t n : Int} (o : x.Ok) (g : 1 ≤ x.fl 1) (hn : 0 ≤ n) (h1 : x.fl n < t) (h2 : t < x.fl (n + 1)) : ¬ x.In t := fun h => by
  have e := cnt_eq o g hn (by omega) h2
  have := h.2
  rw [e] at this
  omega
end
end Fl
/-! Fl0: the base of all the laws' proofs: short names of readings, the call of a def by its promise, steps through readings. -/
namespace Fl
open PySem L2 PySem.Spec PyProof.Rows

/-! ### readings by short names -/
abbrev rAddI : R2 := rI0 fun i j => .int (i + j)
abbrev rSubI : R2 := rI0 fun i j => .int (i - j)
abbrev rMulI : R2 := rI CMul fun i j => .int (i * j)
abbrev rMulW : R2 := rI CMulW fun i j => .int (i * j)
abbrev rDivW : R2 := rI CDivW fun i j => .int (i / j)
abbrev rDivN : R2 := rI CDivN fun i j => .int (i.fdiv j)
abbrev rModI : R2 := rI (fun _ j => 0 < j) fun i j => .int (i % j)
abbrev rPowI : R2 := rI CPow fun i j => .int (i ^ j.toNat)
abbrev rNegI : V → Hp → VK → Prop := rU fun i => .int (-i)
abbrev rLtI : R2 := rI0 fun i j => .bl (decide (i < j))
abbrev rLeI : R2 := rI0 fun i j => .bl (decide (i ≤ j))
abbrev rGtI : R2 := rI0 fun i j => .bl (decide (j < i))
abbrev rGeI : R2 := rI0 fun i j => .bl (decide (j ≤ i))
abbrev rIsNon : R2 := fun x y H Q => y = .non ∧ Q (.bl (decide (x = .non))) H
abbrev rNotNon : R2 := fun x y H Q => y = .non ∧ Q (.bl (!decide (x = .non))) H
abbrev rLenQ (K : PySem.W.Frag) : List V → Hp → VK → Prop := fun xs H Q => ∃ p ys, xs = [.ref p] ∧ (SqL K H p ys ∨ SqT K H p ys) ∧ Q (.int ys.length) H
abbrev rAbs : List V → Hp → VK → Prop := fun xs H Q => ∃ i, xs = [.int i] ∧ Q (.int (if i < 0 then -i else i)) H
abbrev rMax2 : List V → Hp → VK → Prop := fun xs H Q => ∃ i j, xs = [.int i, .int j] ∧ Q (.int (if j > i then j else i)) H
abbrev rMin2 : List V → Hp → VK → Prop := fun xs H Q => ∃ i j, xs = [.int i, .int j] ∧ Q (.int (if j < i then j else i)) H
abbrev tTruth (K : PySem.W.Frag) (ta : TE) : TT := fun σ H Q => ta σ H fun x H' => ∃ k, TruV K x H' k ∧ Q k H'

/-! ### the class that a name of the module holds -/
def cV (mg : Str → Option Value) (x : Str) : V := match mg x with
  | some (.ref C) => .ref C
  | _ => .non
def cE (mg : Str → Option Value) (x : Str) : Value := match mg x with
  | some (.ref C) => .ref C
  | _ => .none
/-- raise X('..') -/
def tRaise (E : XK) (c : Value) : TS := fun _ _ H => E c none H

/-! ### what the top has left -/
/-- the built-in names that the text uses are still the built-ins -/
structure Bt (mg : Str → Option Value) : Prop where
  len : mg "len" = none
  abs : mg "abs" = none
  isinstance : mg "isinstance" = none
  int : mg "int" = none
  bool : mg "bool" = none
  tuple : mg "tuple" = none
  str : mg "str" = none
  list : mg "list" = none
  set : mg "set" = none
  all : mg "all" = none
  any : mg "any" = none
  range : mg "range" = none
  max : mg "max" = none
  min : mg "min" = none
  sum : mg "sum" = none
  sorted : mg "sorted" = none
  enumerate : mg "enumerate" = none
  reversed : mg "reversed" = none
  ValueError : mg "ValueError" = none

abbrev bmV : List Value := [.type "ValueError", .type "Exception", .type "BaseException", .type "object"]
/-- an exception class of the program's own -/
structure Xc (K : PySem.W.Frag) (mg : Str → Option Value) (x : Str) : Prop where
  ex : ∃ C : Addr, mg x = some (.ref C) ∧ PySem.W.excIn K C bmV "ValueError.__new__" = true ∧ PySem.W.keepIn K (.ref C) = true ∧ PySem.W.subIn K (.ref C) (.type "BaseException") = some true ∧ PySem.W.typeIn K (.ref C) = some (.type "type")

/-! ### a def by its promise -/
structure Cal (P : Program) (w : World) (K : PySem.W.Frag) (mg : Str → Option Value) (base : Heap) (k : Nat) (x : Str) (ps : List Str) (sp : Sp) : Prop where
  ex : ∃ (f : Addr) (fd : FuncData), FnOk P w K mg base (L2N.CX P w) k f fd ps sp ∧ mg x = some (.ref f) ∧ PySem.W.keepIn K (.ref f) = true ∧ Binds K fd ps []

section
variable {P : Program} {w : World} {K : PySem.W.Frag} {mg : Str → Option Value} {base : Heap}
/-- from a def's text and its body to its promise -/
theorem fnok_of {x : Str} {st : Stmt} {f : Addr} {fd : FuncData} {N ps : List Str} {k : Nat} {sp : Sp} (F : Fun K x x st f fd) (S : FnScope N ps (defScope st))
    (len : ∀ vs H Q E, sp vs H Q E → vs.length = ps.length) (t : XK → TS)
    (hd : ∀ (cdv : Value) (A : Around) (outer : List Env) (s : Shared) (H : Hp) (E : XK), Room k (A.deeper (envOfC x (defScope st) s.heap.objs.size f cdv)) → PSs (cxOf (L2N.CX P w) P w K mg base N x (defScope st) f cdv A outer s H E) (defBody st) (t E))
    (hq : ∀ (vs : List V) (H : Hp) (Q : VK) (E : XK), sp vs H Q E → t E { nx := fun _ H' => Q .non H', rt := Q } (start N vs) H) : FnOk P w K mg base (L2N.CX P w) (k + 1) f fd ps sp := by
  obtain ⟨oc, od, kV, doc, pm, an, cdv, ct, osl, e, lk, hcd⟩ := F.ex
  subst e
  exact fn_of lk hcd S len fun A outer s H vs Q E hr hsp => ⟨t E, hd cdv A outer s H E hr, hq vs H Q E hsp⟩
theorem cal_of {x : Str} {st : Stmt} {f : Addr} {fd : FuncData} {N ps : List Str} {k : Nat} {sp : Sp} (F : Fun K x x st f fd) (g : mg x = some (.ref f)) (S : FnScope N ps (defScope st))
    (hb : ∀ (kV doc pm : Value) (an : Option Addr) (cdv ct : Value) (us : List Value), us.length = ps.length → bindArgs (PySem.W.fnOf x x (defArgs st) (defBody st) (defScope st) .none kV doc pm an cdv ct) ⟨us, []⟩ = pure (ps.zip us))
    (len : ∀ vs H Q E, sp vs H Q E → vs.length = ps.length) (t : XK → TS)
    (hd : ∀ (cdv : Value) (A : Around) (outer : List Env) (s : Shared) (H : Hp) (E : XK), Room k (A.deeper (envOfC x (defScope st) s.heap.objs.size f cdv)) → PSs (cxOf (L2N.CX P w) P w K mg base N x (defScope st) f cdv A outer s H E) (defBody st) (t E))
    (hq : ∀ (vs : List V) (H : Hp) (Q : VK) (E : XK), sp vs H Q E → t E { nx := fun _ H' => Q .non H', rt := Q } (start N vs) H) : Cal P w K mg base (k + 1) x ps sp :=
  ⟨⟨f, fd, fnok_of F S len t hd hq, g, F.kp, F.binds (ps := ps) hb⟩⟩
/-- what a callee lets out is let out -/
theorem pasE {N : List Str} {q : Str} {sc : Scope} {f : Addr} {cd : Value} {A : Around} {outer : List Env} {s : Shared} {H : Hp} {E : XK} :
    Passes (L2N.CX P w) (cxOf (L2N.CX P w) P w K mg base N q sc f cd A outer s H E) E := L2N.passes_call (L2N.takes_of rfl rfl rfl rfl) fun _ _ _ _ h => h
end
section
variable {X : Cx}
theorem pas0 : Passes (L2N.CX X.prog X.w) X E0 := fun _ _ _ _ _ _ _ h => by
  obtain ⟨_, _, _, _, _, _, _, _, _, _, _, _, z⟩ := h
  exact z.elim
theorem pe_cl {k : Nat} {x : Str} {ps : List Str} {sp : Sp} {E : XK} {e : PySem.Expr} {es : List PySem.Expr} {t : TA} {p pos : Pos} (C : Cal X.prog X.w X.K X.mg X.base k x ps sp) (hr : Room k X.A) (hx : Passes (L2N.CX X.prog X.w) X E) (ha : PA X (e :: es) t) (hg : Gl X x := by rfl)
    (hdb : (x == ("__debug__" : Str)) = false := by decide) (he : starEach (e :: es) X.env = (false, eval e X.env) :: starEach es X.env := by rfl) (hpl : (backTo pos (starEach es X.env)).any (·.1) = false := by rfl) :
    PE X (.Call (.Name x p) (e :: es) [] pos) (tCall sp [] E t) := by
  obtain ⟨f, fd, F, g, kp, b⟩ := C.ex
  exact pe_call F hr hg g kp b .nil hx ha hdb he hpl
theorem ps_rs {E : XK} {x m : Str} {j : Nat} {p p2 pos pos2 : Pos} (hc : X.calm = true) (tk : L2N.Takes X (fun cls d _ H => E cls d H)) (C : Xc X.K X.mg x) (hg : Gl X x := by rfl) (hdb : (x == ("__debug__" : Str)) = false := by decide) :
    PS X (.Raise (some (.Call (.Name x p) [.Constant (.str m) j p2] [] pos)) none pos2) (tRaise E (cE X.mg x)) := by
  obtain ⟨C, g, q, kp, b, t⟩ := C.ex
  have e : cE X.mg x = .ref C := by unfold cE; rw [g]
  have h := L2N.ps_raise (pos := pos2) hc tk (L2N.pmk_own (m := m) (j := j) (p := p) (p2 := p2) (pos := pos) PySem.F.excBase_ValueError q g kp (raises_own b t) hg hdb)
  rw [e]
  exact h
end

/-! ### what the head tells -/
structure Fx (K : PySem.W.Frag) (x : Str) (st : Stmt) : Prop where
  ex : ∃ (f : Addr) (fd : FuncData), PySem.W.nsIn K mainGlobals x = some (some (.ref f)) ∧ Fun K x x st f fd
theorem fx_mk {K : PySem.W.Frag} {x : Str} {st : Stmt} {f : Addr} {oc : Value} {od an : Option Addr} {osl : Array (Option Value)} {kV doc pm cdv ct : Value} (a : PySem.W.nsIn K mainGlobals x = some (some (.ref f)))
    (l : K.lookup f = some ⟨oc, od, .func (PySem.W.fnOf x x (defArgs st) (defBody st) (defScope st) .none kV doc pm an cdv ct), osl⟩) (c : PySem.W.codeIn K cdv x = true) (k : PySem.W.keepIn K (.ref f) = true) : Fx K x st := ⟨f, _, a, fun_mk l c k⟩
theorem xc_mk {K : PySem.W.Frag} {h : Heap} {mg : Str → Option Value} (KX : K.In h) (G : h.Ns mainGlobals mg) {x : Str} {C : Addr} (a : PySem.W.nsIn K mainGlobals x = some (some (.ref C))) (q : PySem.W.excIn K C bmV "ValueError.__new__" = true)
    (k : PySem.W.keepIn K (.ref C) = true) (b : PySem.W.subIn K (.ref C) (.type "BaseException") = some true) (t : PySem.W.typeIn K (.ref C) = some (.type "type")) : Xc K mg x := ⟨C, PySem.W.mg_of KX G a, q, k, b, t⟩
theorem cx_false {P : Program} {w : World} {H : Hp} {s : Shared} {e : Value} {s' : Shared} (h : L2N.CX P w [] H s (fun _ _ _ => False) e s') : False := by
  obtain ⟨_, _, _, _, _, _, _, _, _, _, _, _, z⟩ := h
  exact z.elim
/-! ### steps through a reading -/
section
variable {K : PySem.W.Frag} {mg : Str → Option Value} {σ : L2.St} {H : Hp} {D : Ends} {Q : VK} {R : Bool → Hp → Prop} {A B : Prop}
theorem k_seq {t u : TS} (h : t { D with nx := u D } σ H) : tSeq t u D σ H := h
theorem k_next (h : D.nx σ H) : tNext D σ H := h
theorem k_asg {te : TE} {g : TG} (h : te σ H fun x H1 => g x σ H1 D.nx) : tAsg te g D σ H := h
theorem k_ret {te : TE} (h : te σ H D.rt) : tRet te D σ H := h
theorem k_drop {te : TE} (h : te σ H fun _ H1 => D.nx σ H1) : tDrop te D σ H := h
theorem k_ifS {c : TT} {t u : TS} (h : c σ H fun b H1 => if b = true then t D σ H1 else u D σ H1) : tIfS c t u D σ H := h
theorem k_par {i j : Nat} {ta : TA} (h : ta σ H fun vs H1 => ∃ v w, vs = [v, w] ∧ gName i v σ H1 fun σ1 H2 => gName j w σ1 H2 D.nx) : tPar i j ta D σ H := h
theorem k_par3 {i j l : Nat} {ta : TA} (h : ta σ H fun vs H1 => ∃ v w z, vs = [v, w, z] ∧ gName i v σ H1 fun σ1 H2 => gName j w σ1 H2 fun σ2 H3 => gName l z σ2 H3 D.nx) : tPar3 i j l ta D σ H := h
theorem k_name {i : Nat} {v : V} {S : L2.St → Hp → Prop} (h : S (σ.set i (some v)) H) : gName i v σ H S := h
theorem k_var {i : Nat} {v : V} (e : σ[i]? = some (some v)) (h : Q v H) : tVar i σ H Q := ⟨v, e, h⟩
theorem k_c {v : V} (h : Q v H) : tC v σ H Q := h
theorem k_op {r : R2} {ta tb : TE} (h : ta σ H fun x H1 => tb σ H1 fun y H2 => r x y H2 Q) : tOp r ta tb σ H Q := h
theorem k_un {r : V → Hp → VK → Prop} {ta : TE} (h : ta σ H fun x H1 => r x H1 Q) : tUn r ta σ H Q := h
theorem k_I0 {g : Int → Int → V} {i j : Int} (h : Q (g i j) H) : rI0 g (.int i) (.int j) H Q := ⟨i, j, rfl, rfl, h⟩
theorem k_I {C : Int → Int → Prop} {g : Int → Int → V} {i j : Int} (c : C i j) (h : Q (g i j) H) : rI C g (.int i) (.int j) H Q := ⟨i, j, rfl, rfl, c, h⟩
theorem k_U {g : Int → V} {i : Int} (h : Q (g i) H) : rU g (.int i) H Q := ⟨i, rfl, h⟩
theorem k_eqI {i j : Int} (h : Q (.bl (decide (i = j))) H) : rEq (.int i) (.int j) H Q := ⟨rfl, by
  have e : decide (V.int i = V.int j) = decide (i = j) := by simp
  rw [e]; exact h⟩
theorem k_neI {i j : Int} (h : Q (.bl (!decide (i = j))) H) : rNe (.int i) (.int j) H Q := ⟨rfl, by
  have e : decide (V.int i = V.int j) = decide (i = j) := by simp
  rw [e]; exact h⟩
theorem k_eqB {i j : Bool} (h : Q (.bl (decide (i = j))) H) : rEq (.bl i) (.bl j) H Q := ⟨rfl, by
  have e : decide (V.bl i = V.bl j) = decide (i = j) := by simp
  rw [e]; exact h⟩
theorem k_neB {i j : Bool} (h : Q (.bl (!decide (i = j))) H) : rNe (.bl i) (.bl j) H Q := ⟨rfl, by
  have e : decide (V.bl i = V.bl j) = decide (i = j) := by simp
  rw [e]; exact h⟩
theorem k_isN {x : V} (h : Q (.bl (decide (x = .non))) H) : rIsNon x .non H Q := ⟨rfl, h⟩
theorem k_ntN {x : V} (h : Q (.bl (!decide (x = .non))) H) : rNotNon x .non H Q := ⟨rfl, h⟩
theorem k_test {t : TE} (h : t σ H fun x H' => ∃ k, x = .bl k ∧ R k H') : tTest t σ H R := h
theorem k_tB {t : TE} (h : t σ H fun x H' => ∃ k, x = .bl k ∧ R k H') : tB t σ H R := h
theorem k_bl {b : Bool} {S : Bool → Prop} (h : S b) : ∃ k, V.bl b = V.bl k ∧ S k := ⟨b, rfl, h⟩
theorem k_and {t u : TT} (h : t σ H fun c H1 => if c = true then u σ H1 R else R false H1) : tAnd t u σ H R := h
theorem k_or {t u : TT} (h : t σ H fun c H1 => if c = true then R true H1 else u σ H1 R) : tOr t u σ H R := h
theorem k_not {t : TT} (h : t σ H fun c H1 => R (!c) H1) : tNot t σ H R := h
theorem k_andV {ta tb : TE} (h : ta σ H fun x H1 => ∃ c, x = .bl c ∧ if c = true then tb σ H1 Q else Q (.bl false) H1) : tAndV ta tb σ H Q := h
theorem k_orV {ta tb : TE} (h : ta σ H fun x H1 => ∃ c, x = .bl c ∧ if c = true then Q (.bl true) H1 else tb σ H1 Q) : tOrV ta tb σ H Q := h
theorem k_notV {ta : TE} (h : ta σ H fun x H1 => ∃ c, x = .bl c ∧ Q (.bl (!c)) H1) : tNotV ta σ H Q := h
theorem k_if {t : TT} {ta tb : TE} (h : t σ H fun c H1 => if c = true then ta σ H1 Q else tb σ H1 Q) : tIf t ta tb σ H Q := h
theorem k_chain {r r' : R2} {ta tb tc : TE} (h : ta σ H fun x H1 => tb σ H1 fun y H2 => r x y H2 fun z H3 => ∃ k, z = .bl k ∧ (if k = true then tc σ H3 fun w' H4 => r' y w' H4 Q else Q (.bl false) H3)) : tChain r r' ta tb tc σ H Q := h
theorem k_cb {r : List V → Hp → VK → Prop} {t : TA} (h : t σ H fun vs H1 => r vs H1 Q) : tCB r t σ H Q := h
theorem k_call {sp : Sp} {dvs : List V} {E : XK} {t : TA} (h : t σ H fun vs H1 => sp (vs ++ dvs) H1 Q E) : tCall sp dvs E t σ H Q := h
theorem k_nil {S : List V → Hp → Prop} (h : S [] H) : tNil σ H S := h
theorem k_cons {ta : TE} {tr : TA} {S : List V → Hp → Prop} (h : ta σ H fun x H1 => tr σ H1 fun xs H2 => S (x :: xs) H2) : tCons ta tr σ H S := h
theorem k_tup {t : TA} (h : t σ H fun xs H1 => xs.length ≤ sizeLine ∧ ∀ p, H1 p = none → Q (.ref p) (upd H1 p (.tup xs))) : tTup t σ H Q := h
theorem k_lst {t : TA} (h : t σ H fun xs H1 => xs.length ≤ sizeLine ∧ ∀ p, H1 p = none → Q (.ref p) (upd H1 p (.lst xs))) : tLst t σ H Q := h
theorem k_abs {i : Int} (h : Q (.int (if i < 0 then -i else i)) H) : rAbs [.int i] H Q := ⟨i, rfl, h⟩
theorem k_max2 {i j : Int} (h : Q (.int (if j > i then j else i)) H) : rMax2 [.int i, .int j] H Q := ⟨i, j, rfl, h⟩
theorem k_min2 {i j : Int} (h : Q (.int (if j < i then j else i)) H) : rMin2 [.int i, .int j] H Q := ⟨i, j, rfl, h⟩
theorem k_iteT (h : A) : if true = true then A else B := by rw [if_pos rfl]; exact h
theorem k_gsub {to ti : TE} {r : TSet} {v : V} {S : L2.St → Hp → Prop} (h : to σ H fun x H1 => ti σ H1 fun y H2 => r x y v H2 fun H3 => S σ H3) : gSub to ti r v σ H S := h
theorem k_iteNT (h : B) : if (!true) = true then A else B := by rw [if_neg (by decide)]; exact h
theorem k_iteNF (h : A) : if (!false) = true then A else B := by rw [if_pos (by decide)]; exact h
theorem k_iteF (h : B) : if false = true then A else B := by rw [if_neg Bool.false_ne_true]; exact h
theorem k_ite {p : Prop} [Decidable p] (h1 : p → A) (h2 : ¬ p → B) : if decide p = true then A else B := by
  by_cases h : p
  · rw [if_pos (decide_eq_true h)]; exact h1 h
  · rw [if_neg (by rw [decide_eq_false h]; exact Bool.false_ne_true)]; exact h2 h
theorem k_iteN {p : Prop} [Decidable p] (h1 : ¬ p → A) (h2 : p → B) : if (!decide p) = true then A else B := by
  by_cases h : p
  · rw [decide_eq_true h]; exact k_iteF (h2 h)
  · rw [decide_eq_false h]; exact k_iteT (h1 h)
theorem k_ite_t {p : Prop} [Decidable p] (hp : p) (h : A) : if decide p = true then A else B := k_ite (fun _ => h) fun n => absurd hp n
theorem k_ite_f {p : Prop} [Decidable p] (hp : ¬ p) (h : B) : if decide p = true then A else B := k_ite (fun n => absurd n hp) fun _ => h
theorem k_iteB {b : Bool} (h1 : b = true → A) (h2 : b = false → B) : if b = true then A else B := by
  cases b
  · exact k_iteF (h2 rfl)
  · exact k_iteT (h1 rfl)
theorem k_n0 {v : V} {x0 : Option V} {r : L2.St} {S : L2.St → Hp → Prop} (h : S (some v :: r) H) : gName 0 v (x0 :: r) H S := h
theorem k_n1 {v : V} {x0 x1 : Option V} {r : L2.St} {S : L2.St → Hp → Prop} (h : S (x0 :: some v :: r) H) : gName 1 v (x0 :: x1 :: r) H S := h
theorem k_n2 {v : V} {x0 x1 x2 : Option V} {r : L2.St} {S : L2.St → Hp → Prop} (h : S (x0 :: x1 :: some v :: r) H) : gName 2 v (x0 :: x1 :: x2 :: r) H S := h
theorem k_n3 {v : V} {x0 x1 x2 x3 : Option V} {r : L2.St} {S : L2.St → Hp → Prop} (h : S (x0 :: x1 :: x2 :: some v :: r) H) : gName 3 v (x0 :: x1 :: x2 :: x3 :: r) H S := h
theorem k_n4 {v : V} {x0 x1 x2 x3 x4 : Option V} {r : L2.St} {S : L2.St → Hp → Prop} (h : S (x0 :: x1 :: x2 :: x3 :: some v :: r) H) : gName 4 v (x0 :: x1 :: x2 :: x3 :: x4 :: r) H S := h
theorem k_n5 {v : V} {x0 x1 x2 x3 x4 x5 : Option V} {r : L2.St} {S : L2.St → Hp → Prop} (h : S (x0 :: x1 :: x2 :: x3 :: x4 :: some v :: r) H) : gName 5 v (x0 :: x1 :: x2 :: x3 :: x4 :: x5 :: r) H S := h
theorem k_n6 {v : V} {x0 x1 x2 x3 x4 x5 x6 : Option V} {r : L2.St} {S : L2.St → Hp → Prop} (h : S (x0 :: x1 :: x2 :: x3 :: x4 :: x5 :: some v :: r) H) : gName 6 v (x0 :: x1 :: x2 :: x3 :: x4 :: x5 :: x6 :: r) H S := h
theorem k_n7 {v : V} {x0 x1 x2 x3 x4 x5 x6 x7 : Option V} {r : L2.St} {S : L2.St → Hp → Prop} (h : S (x0 :: x1 :: x2 :: x3 :: x4 :: x5 :: x6 :: some v :: r) H) : gName 7 v (x0 :: x1 :: x2 :: x3 :: x4 :: x5 :: x6 :: x7 :: r) H S := h
theorem k_n8 {v : V} {x0 x1 x2 x3 x4 x5 x6 x7 x8 : Option V} {r : L2.St} {S : L2.St → Hp → Prop} (h : S (x0 :: x1 :: x2 :: x3 :: x4 :: x5 :: x6 :: x7 :: some v :: r) H) : gName 8 v (x0 :: x1 :: x2 :: x3 :: x4 :: x5 :: x6 :: x7 :: x8 :: r) H S := h
theorem k_n9 {v : V} {x0 x1 x2 x3 x4 x5 x6 x7 x8 x9 : Option V} {r : L2.St} {S : L2.St → Hp → Prop} (h : S (x0 :: x1 :: x2 :: x3 :: x4 :: x5 :: x6 :: x7 :: x8 :: some v :: r) H) : gName 9 v (x0 :: x1 :: x2 :: x3 :: x4 :: x5 :: x6 :: x7 :: x8 :: x9 :: r) H S := h
theorem k_n10 {v : V} {x0 x1 x2 x3 x4 x5 x6 x7 x8 x9 x10 : Option V} {r : L2.St} {S : L2.St → Hp → Prop} (h : S (x0 :: x1 :: x2 :: x3 :: x4 :: x5 :: x6 :: x7 :: x8 :: x9 :: some v :: r) H) : gName 10 v (x0 :: x1 :: x2 :: x3 :: x4 :: x5 :: x6 :: x7 :: x8 :: x9 :: x10 :: r) H S := h
theorem k_n11 {v : V} {x0 x1 x2 x3 x4 x5 x6 x7 x8 x9 x10 x11 : Option V} {r : L2.St} {S : L2.St → Hp → Prop} (h : S (x0 :: x1 :: x2 :: x3 :: x4 :: x5 :: x6 :: x7 :: x8 :: x9 :: x10 :: some v :: r) H) : gName 11 v (x0 :: x1 :: x2 :: x3 :: x4 :: x5 :: x6 :: x7 :: x8 :: x9 :: x10 :: x11 :: r) H S := h
theorem k_p18 (h : Q (.int 1000000000000000000) H) : rPowI (.int 10) (.int 18) H Q := ⟨10, 18, rfl, rfl, ⟨by decide, by decide, by decide⟩, h⟩
theorem k_p15 (h : Q (.int 1000000000000000) H) : rPowI (.int 10) (.int 15) H Q := ⟨10, 15, rfl, rfl, ⟨by decide, by decide, by decide⟩, h⟩
theorem k_p12 (h : Q (.int 1000000000000) H) : rPowI (.int 10) (.int 12) H Q := ⟨10, 12, rfl, rfl, ⟨by decide, by decide, by decide⟩, h⟩
theorem k_p9 (h : Q (.int 1000000000) H) : rPowI (.int 10) (.int 9) H Q := ⟨10, 9, rfl, rfl, ⟨by decide, by decide, by decide⟩, h⟩
theorem k_p7 (h : Q (.int 10000000) H) : rPowI (.int 10) (.int 7) H Q := ⟨10, 7, rfl, rfl, ⟨by decide, by decide, by decide⟩, h⟩
theorem k_p6 (h : Q (.int 1000000) H) : rPowI (.int 10) (.int 6) H Q := ⟨10, 6, rfl, rfl, ⟨by decide, by decide, by decide⟩, h⟩
theorem k_p5 (h : Q (.int 100000) H) : rPowI (.int 10) (.int 5) H Q := ⟨10, 5, rfl, rfl, ⟨by decide, by decide, by decide⟩, h⟩
theorem k_par2 {v w : V} {S : V → V → Prop} (h : S v w) : ∃ a b, [v, w] = [a, b] ∧ S a b := ⟨v, w, rfl, h⟩
theorem k_par33 {v w z : V} {S : V → V → V → Prop} (h : S v w z) : ∃ a b c, [v, w, z] = [a, b, c] ∧ S a b c := ⟨v, w, z, rfl, h⟩
end

/-! ### heaps -/
theorem same_new {H : Hp} {p : Addr} {o : HO} (h : H p = none) : Same H (upd H p o) := fun b x e => by
  rw [upd_ne (ne_of_none e h)]
  exact e
theorem same_tup {K : PySem.W.Frag} {H H' : Hp} {a : Addr} {xs : List V} (e : Same H H') (h : SqT K H a xs) : SqT K H' a xs := by
  rcases h with (h | ⟨o, h⟩) | h
  · exact .inl (.inl (e _ _ h))
  · exact .inl (.inr ⟨o, e _ _ h⟩)
  · exact .inr h
mutual
theorem same_dp {K : PySem.W.Frag} {H H' : Hp} (e : Same H H') : ∀ {v : V} {d : PyData}, Dp K H v d → Dp K H' v d
  | _, _, .non => .non
  | _, _, .bl b => .bl b
  | _, _, .int i => .int i
  | _, _, .str x => .str x
  | _, _, .lst h a => .lst (e.seq h) (same_dpa e a)
  | _, _, .tup h a => .tup (same_tup e h) (same_dpa e a)
theorem same_dpa {K : PySem.W.Frag} {H H' : Hp} (e : Same H H') : ∀ {vs : List V} {ds : List PyData}, DpAll K H vs ds → DpAll K H' vs ds
  | _, _, .nil => .nil
  | _, _, .cons h a => .cons (same_dp e h) (same_dpa e a)
end
end Fl
namespace Fl
open PySem L2 PySem.Spec PyProof.Rows
theorem cm_l {i j : Int} (h1 : -18446744073709551616 < i) (h2 : i < 18446744073709551616) : CMul i j := .inl ⟨by omega, by omega⟩
theorem cm_r {i j : Int} (h1 : -18446744073709551616 < j) (h2 : j < 18446744073709551616) : CMul i j := .inr ⟨by omega, by omega⟩
theorem cpow {i j : Int} (h1 : 0 ≤ j) (h2 : j ≤ 1000000) (h3 : i.natAbs < 18446744073709551616) : CPow i j := ⟨h1, h2, by omega⟩
theorem un65 {k : Nat} {A : Around} (r : Room k A) : A.units + 65 < cLine := by have := r.un; omega
/-! ### isinstance of data -/
/-- the built-in class of a datum -/
def tyD : PyData → String
  | .none => "NoneType"
  | .bool _ => "bool"
  | .int _ => "int"
  | .str _ => "str"
  | .list _ => "list"
  | .tuple _ => "tuple"
  | .dict _ => "dict"
end Fl
/-! FlC: comprehensions and unpacking, with what is known of the items. -/
namespace Fl
open PySem L2 PySem.Spec PyProof.Rows
section
variable {K : PySem.W.Frag} {σ : L2.St} {H : Hp}
theorem k_gtup {p : Addr} {xs : List V} {n : Nat} {t : TGs} {S : L2.St → Hp → Prop} (h : SqT K H p xs) (hl : xs.length = n) (q : t xs σ H S) : gTup K n t (.ref p) σ H S := ⟨p, xs, rfl, h, hl, q⟩
theorem k_glst {p : Addr} {xs : List V} {n : Nat} {t : TGs} {S : L2.St → Hp → Prop} (h : SqL K H p xs) (hl : xs.length = n) (q : t xs σ H S) : gLst K n t (.ref p) σ H S := ⟨p, xs, rfl, h, hl, q⟩
theorem k_gcons {t : TG} {u : TGs} {v : V} {r : List V} {S : L2.St → Hp → Prop} (q : t v σ H fun σ' H' => u r σ' H' S) : gCons t u (v :: r) σ H S := ⟨v, r, rfl, q⟩
theorem k_gnil {S : L2.St → Hp → Prop} (q : S σ H) : gNil [] σ H S := ⟨rfl, q⟩
theorem tup_of {p : Addr} {xs : List V} (h : H p = some (.tup xs)) : SqT K H p xs := .inl (.inl h)
theorem lst_of {p : Addr} {xs : List V} (h : H p = some (.lst xs)) : SqL K H p xs := .inl (.inl h)
theorem k_ixT {p : Addr} {xs : List V} {i : Int} {v : V} {Q : VK} (h : SqT K H p xs) (e : atI xs i = some v) (q : Q v H) : rIxT K (.ref p) (.int i) H Q := ⟨p, xs, i, v, rfl, rfl, h, e, q⟩
theorem k_ixL {p : Addr} {xs : List V} {i : Int} {v : V} {Q : VK} (h : SqL K H p xs) (e : atI xs i = some v) (q : Q v H) : rIxL K (.ref p) (.int i) H Q := ⟨p, xs, i, v, rfl, rfl, h, e, q⟩
theorem k_pos {A B p : Prop} [Decidable p] (hp : p) (h : A) : if decide p = true then A else B := by rw [decide_eq_true hp]; exact k_iteT h
theorem k_neg {A B p : Prop} [Decidable p] (hp : ¬ p) (h : B) : if decide p = true then A else B := by rw [decide_eq_false hp]; exact k_iteF h
theorem k_npos {A B p : Prop} [Decidable p] (hp : p) (h : B) : if (!decide p) = true then A else B := by rw [decide_eq_true hp]; exact k_iteF h
theorem k_nneg {A B p : Prop} [Decidable p] (hp : ¬ p) (h : A) : if (!decide p) = true then A else B := by rw [decide_eq_false hp]; exact k_iteT h
theorem k_lenT {p : Addr} {xs : List V} {Q : VK} (h : SqT K H p xs) (q : Q (.int xs.length) H) : rLenQ K [.ref p] H Q := ⟨p, xs, rfl, .inr h, q⟩
theorem k_lenL {p : Addr} {xs : List V} {Q : VK} (h : SqL K H p xs) (q : Q (.int xs.length) H) : rLenQ K [.ref p] H Q := ⟨p, xs, rfl, .inl h, q⟩
theorem k_all {p : Addr} {bs : List Bool} {Q : VK} (h : SqL K H p (bs.map V.bl)) (q : Q (.bl (bs.all id)) H) : rAll K [.ref p] H Q := ⟨p, bs, rfl, h, q⟩
theorem k_any {p : Addr} {bs : List Bool} {Q : VK} (h : SqL K H p (bs.map V.bl)) (q : Q (.bl (bs.any id)) H) : rAny K [.ref p] H Q := ⟨p, bs, rfl, h, q⟩
theorem small {n : Nat} (h : n ≤ 100000) : n ≤ sizeLine := Nat.le_trans h (by decide)
theorem small_lt {n : Nat} (h : n < 100000) : n < sizeLine := Nat.lt_of_lt_of_le h (by decide)
end
section
variable {K : PySem.W.Frag} {σ : L2.St} {H : Hp} {D : Ends} {R : It → Hp → Prop}
theorem k_lc {wi : TI} {g : TG} {tt : TT} {te : TE} {vs : List Nat} {Q : VK} (h : wi σ H fun J H1 => ∀ D, H1 D = none → ∃ W : Nat → Nat → Hp → Prop, (∃ m, W 0 m (upd H1 D (.lst []))) ∧ ∀ i m H, W i m H →
    (J.stop i H ∧ Q (.ref D) H) ∨ (J.go i H ∧ ∃ Nx : Hp → Prop, (∀ H', Nx H' → ∃ m', m' < m ∧ W (i + 1) m' H') ∧ ∀ x H', J.yld i H x H' → g x (wipe σ vs) H' fun σ2 H2 => wipe σ2 vs = wipe σ vs ∧ tt σ2 H2 fun b H3 =>
      if b = true then te σ2 H3 fun y H4 => ∃ acc, H4 D = some (.lst acc) ∧ acc.length < sizeLine ∧ Nx (upd H4 D (.lst (acc ++ [y]))) else Nx H3)) : tLc wi g tt te vs σ H Q := h
theorem k_for {wi : TI} {g : TG} {tb : TS} (h : wi σ H fun J H1 => ∃ W : Nat → Nat → L2.St → Hp → Prop, (∃ m, W 0 m σ H1) ∧ ∀ i m σ H, W i m σ H →
    (J.stop i H ∧ D.nx σ H) ∨ (J.go i H ∧ ∃ N : L2.St → Hp → Prop, (∀ σ' H', N σ' H' → ∃ m', m' < m ∧ W (i + 1) m' σ' H') ∧ ∀ x H', J.yld i H x H' → g x σ H' fun σ2 H2 => tb { D with nx := N, ct := N, bk := D.nx } σ2 H2)) : tFor wi g tb D σ H := h
theorem k_rng1 {ta : TA} (h : ta σ H fun vs H1 => ∃ j : Int, vs = [.int j] ∧ -(2 ^ 62) ≤ j ∧ j < 2 ^ 62 ∧ R (Itr 0 j.toNat) H1) : iRng1 ta σ H R := h
theorem k_rng2 {ta : TA} (h : ta σ H fun vs H1 => ∃ i j : Int, vs = [.int i, .int j] ∧ (-(2 ^ 62) ≤ i ∧ i < 2 ^ 62 ∧ -(2 ^ 62) ≤ j ∧ j < 2 ^ 62) ∧ R (Itr i (j - i).toNat) H1) : iRng2 ta σ H R := h
theorem k_iList {tl : TE} (h : tl σ H fun x H1 => ∃ a, x = .ref a ∧ (∃ xs, SqL K H1 a xs) ∧ R (Itl K a) H1) : iList K tl σ H R := h
theorem k_iTup {tl : TE} (h : tl σ H fun x H1 => ∃ a, x = .ref a ∧ (∃ xs, SqT K H1 a xs) ∧ R (Itt K a) H1) : iTup K tl σ H R := h
theorem k_bm {T : String} {r : V → List V → Hp → VK → Prop} {to : TE} {t : TA} {Q : VK} (h : to σ H fun x H1 => tyV K T x H1 ∧ t σ H1 fun xs H2 => r x xs H2 Q) : tBM K T r to t σ H Q := h
theorem k_app {p : Addr} {xs : List V} {y : V} {Q : VK} (h : H p = some (.lst xs)) (hl : xs.length < 100000) (q : Q .non (upd H p (.lst (xs ++ [y])))) : rAppend (.ref p) [y] H Q := ⟨p, xs, y, rfl, rfl, h, Nat.lt_of_lt_of_le hl (by decide), q⟩
theorem k_yes {S : Bool → Hp → Prop} (h : S true H) : tYes σ H S := h
theorem ty_lst {p : Addr} {xs : List V} (h : SqL K H p xs) : tyV K "list" (.ref p) H := .inl ⟨rfl, _, h⟩
end
/-! ### heaps: all but lists stay -/
def NL (H H' : Hp) : Prop := ∀ b o, H b = some o → (∀ l, o ≠ .lst l) → H' b = some o
theorem NL.refl (H : Hp) : NL H H := fun _ _ h _ => h
theorem NL.trans {H H1 H2 : Hp} (a : NL H H1) (b : NL H1 H2) : NL H H2 := fun c o h n => b c o (a c o h n) n
theorem nl_same {H H' : Hp} (s : Same H H') : NL H H' := fun b o h _ => s b o h
theorem nl_upd {H : Hp} {D : Addr} {l l' : List V} (h : H D = some (.lst l)) : NL H (upd H D (.lst l')) := fun b o hb n => by
  have : b ≠ D := fun e => by subst e; rw [h] at hb; cases hb; exact n _ rfl
  rw [upd_ne this]
  exact hb
/-- what was there ahead of D stays -/
theorem same_grow {H H' : Hp} {D : Addr} {o : HO} (s : Same H H') (hD : H D = none) : Same H (upd H' D o) := fun b x e => by
  rw [upd_ne (ne_of_none e hD)]
  exact s b x e
section
variable {K : PySem.W.Frag} {σ : L2.St} {H1 : Hp} {D : Addr} {Qd : Hp → Prop} {g : TG} {te : TE} {vs : List Nat}
/-- one turn of a comprehension whose list is to be ys -/
def LcTurn (H1 : Hp) (g : TG) (te : TE) (σ : L2.St) (vs : List Nat) (x y : V) : Prop :=
  ∀ (H' : Hp) (R : VK), Same H1 H' → (∀ H'', Same H' H'' → R y H'') → g x (wipe σ vs) H' fun σ2 H2 => wipe σ2 vs = wipe σ vs ∧ te σ2 H2 R
theorem lc_step {n : Nat} {x y : V} {ys : List V} {Hn : Hp} (hD : H1 D = none) (hz : ys.length < 100000) (hy : ys[n]? = some y) (t : LcTurn H1 g te σ vs x y) (s : Same H1 Hn) (hl : Hn D = some (.lst (ys.take n))) :
    g x (wipe σ vs) Hn fun σ2 H2 => wipe σ2 vs = wipe σ vs ∧ tYes σ2 H2 fun b H3 => if b = true then te σ2 H3 fun y H4 => ∃ acc, H4 D = some (.lst acc) ∧ acc.length < sizeLine ∧ (Same H1 (upd H4 D (.lst (acc ++ [y]))) ∧ (upd H4 D (.lst (acc ++ [y]))) D = some (.lst (ys.take (n + 1)))) else (Same H1 H3 ∧ H3 D = some (.lst (ys.take (n + 1)))) := by
  have hn : n < ys.length := (List.getElem?_eq_some_iff.mp hy).1
  refine t Hn (fun y H4 => ∃ acc, H4 D = some (.lst acc) ∧ acc.length < sizeLine ∧ (Same H1 (upd H4 D (.lst (acc ++ [y]))) ∧ (upd H4 D (.lst (acc ++ [y]))) D = some (.lst (ys.take (n + 1))))) s fun H'' s2 => ?_
  refine ⟨_, s2 _ _ hl, small_lt (by rw [List.length_take]; omega), same_grow (s.trans s2) hD, ?_⟩
  rw [upd_same, List.take_add_one, hy]
  rfl
theorem lcm_tup {a : Addr} {xs ys : List V} (hs : SqT K H1 a xs) (hD : H1 D = none) (hl : ys.length = xs.length) (hz : ys.length < 100000) (t : ∀ (n : Nat) (x y : V), xs[n]? = some x → ys[n]? = some y → LcTurn H1 g te σ vs x y)
    (q : ∀ Hf, Same H1 Hf → Hf D = some (.lst ys) → Qd Hf) :
    ∃ W : Nat → Nat → Hp → Prop, (∃ m, W 0 m (upd H1 D (.lst []))) ∧ ∀ i m H, W i m H →
      ((Itt K a).stop i H ∧ Qd H) ∨ ((Itt K a).go i H ∧ ∃ Nx : Hp → Prop, (∀ H', Nx H' → ∃ m', m' < m ∧ W (i + 1) m' H') ∧ ∀ x H', (Itt K a).yld i H x H' → g x (wipe σ vs) H' fun σ2 H2 => wipe σ2 vs = wipe σ vs ∧ tYes σ2 H2 fun b H3 =>
        if b = true then te σ2 H3 fun y H4 => ∃ acc, H4 D = some (.lst acc) ∧ acc.length < sizeLine ∧ Nx (upd H4 D (.lst (acc ++ [y]))) else Nx H3) :=
  lc_tup (xs := xs) (fun i H => Same H1 H ∧ H D = some (.lst (ys.take i))) ⟨same_new hD, upd_same⟩ (fun i H _ p => same_tup p.1 hs)
    (fun i x H hx p => by
      have hi : i < xs.length := (List.getElem?_eq_some_iff.mp hx).1
      have hy : ys[i]? = some ys[i] := List.getElem?_eq_getElem (by omega)
      exact lc_step hD hz hy (t i x _ hx hy) p.1 p.2)
    fun H p => q H p.1 (by rw [p.2, ← hl, List.take_length])
theorem lcm_list {a : Addr} {xs ys : List V} (hs : SqL K H1 a xs) (hD : H1 D = none) (hl : ys.length = xs.length) (hz : ys.length < 100000) (t : ∀ (n : Nat) (x y : V), xs[n]? = some x → ys[n]? = some y → LcTurn H1 g te σ vs x y)
    (q : ∀ Hf, Same H1 Hf → Hf D = some (.lst ys) → Qd Hf) :
    ∃ W : Nat → Nat → Hp → Prop, (∃ m, W 0 m (upd H1 D (.lst []))) ∧ ∀ i m H, W i m H →
      ((Itl K a).stop i H ∧ Qd H) ∨ ((Itl K a).go i H ∧ ∃ Nx : Hp → Prop, (∀ H', Nx H' → ∃ m', m' < m ∧ W (i + 1) m' H') ∧ ∀ x H', (Itl K a).yld i H x H' → g x (wipe σ vs) H' fun σ2 H2 => wipe σ2 vs = wipe σ vs ∧ tYes σ2 H2 fun b H3 =>
        if b = true then te σ2 H3 fun y H4 => ∃ acc, H4 D = some (.lst acc) ∧ acc.length < sizeLine ∧ Nx (upd H4 D (.lst (acc ++ [y]))) else Nx H3) :=
  lc_list (xs := xs) (fun i H => Same H1 H ∧ H D = some (.lst (ys.take i))) ⟨same_new hD, upd_same⟩ (fun i H _ p => p.1.seq hs)
    (fun i x H hx p => by
      have hi : i < xs.length := (List.getElem?_eq_some_iff.mp hx).1
      have hy : ys[i]? = some ys[i] := List.getElem?_eq_getElem (by omega)
      exact lc_step hD hz hy (t i x _ hx hy) p.1 p.2)
    fun H p => q H p.1 (by rw [p.2, ← hl, List.take_length])
theorem lcm_range {lo : Int} {n : Nat} {ys : List V} (hD : H1 D = none) (hl : ys.length = n) (hz : ys.length < 100000) (t : ∀ (i : Nat) (y : V), i < n → ys[i]? = some y → LcTurn H1 g te σ vs (.int (lo + i)) y)
    (q : ∀ Hf, Same H1 Hf → Hf D = some (.lst ys) → Qd Hf) :
    ∃ W : Nat → Nat → Hp → Prop, (∃ m, W 0 m (upd H1 D (.lst []))) ∧ ∀ i m H, W i m H →
      ((Itr lo n).stop i H ∧ Qd H) ∨ ((Itr lo n).go i H ∧ ∃ Nx : Hp → Prop, (∀ H', Nx H' → ∃ m', m' < m ∧ W (i + 1) m' H') ∧ ∀ x H', (Itr lo n).yld i H x H' → g x (wipe σ vs) H' fun σ2 H2 => wipe σ2 vs = wipe σ vs ∧ tYes σ2 H2 fun b H3 =>
        if b = true then te σ2 H3 fun y H4 => ∃ acc, H4 D = some (.lst acc) ∧ acc.length < sizeLine ∧ Nx (upd H4 D (.lst (acc ++ [y]))) else Nx H3) :=
  lc_range (fun i H => Same H1 H ∧ H D = some (.lst (ys.take i))) ⟨same_new hD, upd_same⟩
    (fun i H hi p => by
      have hy : ys[i]? = some ys[i] := List.getElem?_eq_getElem (by omega)
      exact lc_step hD hz hy (t i _ hi hy) p.1 p.2)
    fun H p => q H p.1 (by rw [p.2, ← hl, List.take_length])
end
/-! ### data -/
theorem dpa_get {K : PySem.W.Frag} {H : Hp} : ∀ {xs : List V} {ds : List PyData} {n : Nat} {x : V}, DpAll K H xs ds → xs[n]? = some x → ∃ d, ds[n]? = some d ∧ Dp K H x d
  | _, _, _, _, .nil, h => by simp at h
  | _, _, 0, _, .cons a _, h => by
    simp at h
    subst h
    exact ⟨_, rfl, a⟩
  | _, _, n + 1, x, .cons _ r, h => by
    obtain ⟨d, e, p⟩ := dpa_get (n := n) (x := x) r (by simpa using h)
    exact ⟨d, by simpa using e, p⟩
theorem dpa_two {K : PySem.W.Frag} {H : Hp} : ∀ {xs : List V} {ds : List PyData}, DpAll K H xs ds → xs.length = 2 → ∃ x y d e, xs = [x, y] ∧ ds = [d, e] ∧ Dp K H x d ∧ Dp K H y e
  | _, _, .nil, h => by cases h
  | _, _, .cons _ .nil, h => by cases h
  | _, _, .cons a (.cons b .nil), _ => ⟨_, _, _, _, rfl, rfl, a, b⟩
  | _, _, .cons _ (.cons _ (.cons _ _)), h => by simp at h
theorem dpa_len {K : PySem.W.Frag} {H : Hp} : ∀ {xs : List V} {ds : List PyData}, DpAll K H xs ds → xs.length = ds.length
  | _, _, .nil => rfl
  | _, _, .cons _ r => by simp [dpa_len r]
theorem k_n12 {H : Hp} {v : V} {x0 x1 x2 x3 x4 x5 x6 x7 x8 x9 x10 x11 x12 : Option V} {r : L2.St} {S : L2.St → Hp → Prop} (h : S (x0 :: x1 :: x2 :: x3 :: x4 :: x5 :: x6 :: x7 :: x8 :: x9 :: x10 :: x11 :: some v :: r) H) : gName 12 v (x0 :: x1 :: x2 :: x3 :: x4 :: x5 :: x6 :: x7 :: x8 :: x9 :: x10 :: x11 :: x12 :: r) H S := h
theorem k_n13 {H : Hp} {v : V} {x0 x1 x2 x3 x4 x5 x6 x7 x8 x9 x10 x11 x12 x13 : Option V} {r : L2.St} {S : L2.St → Hp → Prop} (h : S (x0 :: x1 :: x2 :: x3 :: x4 :: x5 :: x6 :: x7 :: x8 :: x9 :: x10 :: x11 :: x12 :: some v :: r) H) : gName 13 v (x0 :: x1 :: x2 :: x3 :: x4 :: x5 :: x6 :: x7 :: x8 :: x9 :: x10 :: x11 :: x12 :: x13 :: r) H S := h
theorem k_n14 {H : Hp} {v : V} {x0 x1 x2 x3 x4 x5 x6 x7 x8 x9 x10 x11 x12 x13 x14 : Option V} {r : L2.St} {S : L2.St → Hp → Prop} (h : S (x0 :: x1 :: x2 :: x3 :: x4 :: x5 :: x6 :: x7 :: x8 :: x9 :: x10 :: x11 :: x12 :: x13 :: some v :: r) H) : gName 14 v (x0 :: x1 :: x2 :: x3 :: x4 :: x5 :: x6 :: x7 :: x8 :: x9 :: x10 :: x11 :: x12 :: x13 :: x14 :: r) H S := h
theorem k_n15 {H : Hp} {v : V} {x0 x1 x2 x3 x4 x5 x6 x7 x8 x9 x10 x11 x12 x13 x14 x15 : Option V} {r : L2.St} {S : L2.St → Hp → Prop} (h : S (x0 :: x1 :: x2 :: x3 :: x4 :: x5 :: x6 :: x7 :: x8 :: x9 :: x10 :: x11 :: x12 :: x13 :: x14 :: some v :: r) H) : gName 15 v (x0 :: x1 :: x2 :: x3 :: x4 :: x5 :: x6 :: x7 :: x8 :: x9 :: x10 :: x11 :: x12 :: x13 :: x14 :: x15 :: r) H S := h
theorem k_n16 {H : Hp} {v : V} {x0 x1 x2 x3 x4 x5 x6 x7 x8 x9 x10 x11 x12 x13 x14 x15 x16 : Option V} {r : L2.St} {S : L2.St → Hp → Prop} (h : S (x0 :: x1 :: x2 :: x3 :: x4 :: x5 :: x6 :: x7 :: x8 :: x9 :: x10 :: x11 :: x12 :: x13 :: x14 :: x15 :: some v :: r) H) : gName 16 v (x0 :: x1 :: x2 :: x3 :: x4 :: x5 :: x6 :: x7 :: x8 :: x9 :: x10 :: x11 :: x12 :: x13 :: x14 :: x15 :: x16 :: r) H S := h
theorem k_n17 {H : Hp} {v : V} {x0 x1 x2 x3 x4 x5 x6 x7 x8 x9 x10 x11 x12 x13 x14 x15 x16 x17 : Option V} {r : L2.St} {S : L2.St → Hp → Prop} (h : S (x0 :: x1 :: x2 :: x3 :: x4 :: x5 :: x6 :: x7 :: x8 :: x9 :: x10 :: x11 :: x12 :: x13 :: x14 :: x15 :: x16 :: some v :: r) H) : gName 17 v (x0 :: x1 :: x2 :: x3 :: x4 :: x5 :: x6 :: x7 :: x8 :: x9 :: x10 :: x11 :: x12 :: x13 :: x14 :: x15 :: x16 :: x17 :: r) H S := h
theorem k_n18 {H : Hp} {v : V} {x0 x1 x2 x3 x4 x5 x6 x7 x8 x9 x10 x11 x12 x13 x14 x15 x16 x17 x18 : Option V} {r : L2.St} {S : L2.St → Hp → Prop} (h : S (x0 :: x1 :: x2 :: x3 :: x4 :: x5 :: x6 :: x7 :: x8 :: x9 :: x10 :: x11 :: x12 :: x13 :: x14 :: x15 :: x16 :: x17 :: some v :: r) H) : gName 18 v (x0 :: x1 :: x2 :: x3 :: x4 :: x5 :: x6 :: x7 :: x8 :: x9 :: x10 :: x11 :: x12 :: x13 :: x14 :: x15 :: x16 :: x17 :: x18 :: r) H S := h
theorem k_n19 {H : Hp} {v : V} {x0 x1 x2 x3 x4 x5 x6 x7 x8 x9 x10 x11 x12 x13 x14 x15 x16 x17 x18 x19 : Option V} {r : L2.St} {S : L2.St → Hp → Prop} (h : S (x0 :: x1 :: x2 :: x3 :: x4 :: x5 :: x6 :: x7 :: x8 :: x9 :: x10 :: x11 :: x12 :: x13 :: x14 :: x15 :: x16 :: x17 :: x18 :: some v :: r) H) : gName 19 v (x0 :: x1 :: x2 :: x3 :: x4 :: x5 :: x6 :: x7 :: x8 :: x9 :: x10 :: x11 :: x12 :: x13 :: x14 :: x15 :: x16 :: x17 :: x18 :: x19 :: r) H S := h
theorem k_n20 {H : Hp} {v : V} {x0 x1 x2 x3 x4 x5 x6 x7 x8 x9 x10 x11 x12 x13 x14 x15 x16 x17 x18 x19 x20 : Option V} {r : L2.St} {S : L2.St → Hp → Prop} (h : S (x0 :: x1 :: x2 :: x3 :: x4 :: x5 :: x6 :: x7 :: x8 :: x9 :: x10 :: x11 :: x12 :: x13 :: x14 :: x15 :: x16 :: x17 :: x18 :: x19 :: some v :: r) H) : gName 20 v (x0 :: x1 :: x2 :: x3 :: x4 :: x5 :: x6 :: x7 :: x8 :: x9 :: x10 :: x11 :: x12 :: x13 :: x14 :: x15 :: x16 :: x17 :: x18 :: x19 :: x20 :: r) H S := h
theorem new_same {H H' : Hp} {p : Addr} {o : HO} (h : upd H p o = H') (n : H p = none) : Same H H' := h ▸ same_new n
theorem new_at {H H' : Hp} {p : Addr} {o : HO} (h : upd H p o = H') : H' p = some o := h ▸ upd_same
end Fl
namespace Fl
open PySem L2 PySem.Spec PyProof.Rows
local macro_rules | `(tactic| walk_at "sc") => `(tactic| first
  | exact cm_l (by omega) (by omega) | exact cm_r (by omega) (by omega)
  | exact wide_div (b := 250) (by omega) (by omega) (by decide) (by decide)
  | omega | exact cpow (by omega) (by omega) (by omega))
local macro_rules | `(tactic| walk_at "st1") => `(tactic| with_reducible first
  | apply k_seq | apply k_next | apply k_asg | apply k_ret | apply k_drop | apply k_ifS | apply k_par | apply k_par2 | apply k_par3 | apply k_par33
  | (refine k_var rfl ?_) | apply k_c | apply k_op | apply k_un | apply k_I0 | apply k_p18 | apply k_p15 | apply k_p12 | apply k_p9 | apply k_p7 | apply k_p6 | apply k_p5
  | (refine k_I ?_ ?_; (focus walk_at "sc")) | apply k_U
  | apply k_eqI | apply k_neI | apply k_eqB | apply k_neB | apply k_isN | apply k_ntN
  | apply k_test | apply k_tB | apply k_bl | apply k_and | apply k_or | apply k_not | apply k_andV | apply k_orV | apply k_notV | apply k_if | apply k_chain
  | apply k_cb | apply k_call | apply k_nil | apply k_cons | apply k_tup | apply k_lst | apply k_abs | apply k_max2 | apply k_min2 | apply k_iteT | apply k_iteF | apply k_iteNT | apply k_iteNF | apply k_gsub
  | apply k_n0 | apply k_n1 | apply k_n2 | apply k_n3 | apply k_n4 | apply k_n5 | apply k_n6 | apply k_n7 | apply k_n8 | apply k_n9 | apply k_n10 | apply k_n11)
local macro_rules | `(tactic| walk_at "st") => `(tactic| repeat walk_at "st1")
variable {P : Program} {w : World} {K : PySem.W.Frag} {mg : Str → Option Value}

/-! ### isinstance -/
theorem tyx_dp {H : Hp} {v : V} {d : PyData} (h : Dp K H v d) : TyX K H v (.type (tyD d)) := by
  cases h with
  | non => exact .base .non
  | bl b => exact .base (.bl b)
  | int i => exact .base (.int i)
  | str x => exact .base (.str x)
  | lst h _ =>
    rcases h with (h | ⟨o, h⟩) | ⟨o, its, n, h, c, _⟩
    · exact .base (.lst h)
    · exact .base (.frz h)
    · exact .kList h c
  | tup h _ =>
    rcases h with (h | ⟨o, h⟩) | ⟨o, its, n, h, c, _⟩
    · exact .base (.tup h)
    · exact .fTuple h
    · exact .kTuple h c
theorem k_isi {H : Hp} {v : V} {d : PyData} {n : String} {b : Bool} {Q : VK} (h : Dp K H v d) (hb : kitB (tyD d) n = some b) (q : Q (.bl b) H) : rIsi K [v, .ty n] H Q :=
  ⟨v, .ty n, .type (tyD d), .type n, b, rfl, .ty n, tyx_dp h, kit_ty hb, q⟩
def isInt : PyData → Bool
  | .int _ => true
  | .bool _ => true
  | _ => false
def isBool : PyData → Bool
  | .bool _ => true
  | _ => false
def isTup : PyData → Bool
  | .tuple _ => true
  | _ => false
theorem kit_int (d : PyData) : kitB (tyD d) "int" = some (isInt d) := by cases d <;> (dsimp only [tyD, isInt, isBool, isTup]; decide +kernel)
theorem kit_bool (d : PyData) : kitB (tyD d) "bool" = some (isBool d) := by cases d <;> (dsimp only [tyD, isInt, isBool, isTup]; decide +kernel)
theorem kit_tup (d : PyData) : kitB (tyD d) "tuple" = some (isTup d) := by cases d <;> (dsimp only [tyD, isInt, isBool, isTup]; decide +kernel)

/-! ### is_whole and what raises by it -/
/-- an integer from lo to hi -/
def whole (d : PyData) (lo hi : Int) : Bool := match d with
  | .int i => decide (lo ≤ i) && decide (i ≤ hi)
  | _ => false
theorem whole_int {i lo hi : Int} (h1 : lo ≤ i) (h2 : i ≤ hi) : whole (.int i) lo hi = true := by simp [whole, h1, h2]
theorem whole_is {d : PyData} {lo hi : Int} (h : whole d lo hi = true) : ∃ i, d = .int i ∧ lo ≤ i ∧ i ≤ hi := by
  cases d <;> simp [whole] at h
  exact ⟨_, rfl, h.1, h.2⟩
def sp_is_whole (K : PySem.W.Frag) (mg : Str → Option Value) : Sp := fun vs H Q _ => ∃ (v : V) (d : PyData) (lo hi : Int), vs = [v, .int lo, .int hi] ∧ Dp K H v d ∧ Q (.bl (whole d lo hi)) H
theorem len_is_whole : ∀ vs H Q E, sp_is_whole K mg vs H Q E → vs.length = 3 := fun _ _ _ _ ⟨_, _, _, _, e, _⟩ => by subst e; rfl
def t_is_whole (P : PySem.Program) (w : PySem.World) (K : PySem.W.Frag) (mg : PySem.Str → Option PySem.Value) (E : XK) : TS :=
  (tRet (tAndV (tCB (rIsi K) (tCons (tVar 0) (tCons (tC (.ty "int")) tNil))) (tAndV (tNotV (tCB (rIsi K) (tCons (tVar 0) (tCons (tC (.ty "bool")) tNil)))) (tChain rLeI rLeI (tVar 1) (tVar 0) (tVar 2)))))

theorem pure_is_whole : ∀ (vs : List V) (H : Hp) (Q : VK) (E : XK), sp_is_whole K mg vs H Q E → t_is_whole P w K mg E { nx := fun _ H' => Q .non H', rt := Q } (start ["value", "low", "high"] vs) H := by
  rintro vs H Q E ⟨v, d, lo, hi, rfl, hd, q⟩
  show t_is_whole P w K mg E _ [some v, some (.int lo), some (.int hi)] H
  unfold t_is_whole
  walk_at "st"
  refine k_isi hd (kit_int d) ?_
  walk_at "st"
  cases d with
  | none => exact k_iteF q
  | str _ => exact k_iteF q
  | list _ => exact k_iteF q
  | tuple _ => exact k_iteF q
  | dict _ => exact k_iteF q
  | bool b =>
    refine k_iteT ?_
    walk_at "st"
    refine k_isi hd (kit_bool _) ?_
    walk_at "st"
    exact k_iteF q
  | int i =>
    refine k_iteT ?_
    walk_at "st"
    refine k_isi hd (kit_bool _) ?_
    walk_at "st"
    refine k_iteT ?_
    cases hd
    walk_at "st"
    have e : whole (.int i) lo hi = (decide (lo ≤ i) && decide (i ≤ hi)) := rfl
    rw [e] at q
    refine k_iteB (fun h => ?_) fun h => ?_
    · walk_at "st"
      rw [h] at q
      exact q
    · rw [h] at q
      exact q
def sp_need_count (K : PySem.W.Frag) (mg : Str → Option Value) : Sp := fun vs H Q E => ∃ (v : V) (d : PyData) (lo hi : Int), vs = [v, .int lo, .int hi] ∧ Dp K H v d ∧ (whole d lo hi = true → Q .non H) ∧ (whole d lo hi = false → E (cE mg "InvalidCount") none H)
theorem len_need_count : ∀ vs H Q E, sp_need_count K mg vs H Q E → vs.length = 3 := fun _ _ _ _ ⟨_, _, _, _, e, _⟩ => by subst e; rfl
def t_need_count (P : PySem.Program) (w : PySem.World) (K : PySem.W.Frag) (mg : PySem.Str → Option PySem.Value) (E : XK) : TS :=
  (tIfS (tNot (tB (tCall (sp_is_whole K mg) [] E (tCons (tVar 0) (tCons (tVar 1) (tCons (tVar 2) tNil))))))
  (tRaise E (cE mg "InvalidCount"))
  tNext)

theorem pure_need_count : ∀ (vs : List V) (H : Hp) (Q : VK) (E : XK), sp_need_count K mg vs H Q E → t_need_count P w K mg E { nx := fun _ H' => Q .non H', rt := Q } (start ["value", "low", "high"] vs) H := by
  rintro vs H Q E ⟨v, d, lo, hi, rfl, hd, q1, q2⟩
  show t_need_count P w K mg E _ [some v, some (.int lo), some (.int hi)] H
  unfold t_need_count
  walk_at "st"
  refine ⟨v, d, lo, hi, rfl, hd, ?_⟩
  walk_at "st"
  cases e : whole d lo hi
  · exact k_iteT (q2 e)
  · exact k_iteF (q1 e)
def sp_need_rule (K : PySem.W.Frag) (mg : Str → Option Value) : Sp := fun vs H Q E => ∃ (v : V) (d : PyData), vs = [v] ∧ Dp K H v d ∧ (whole d 1 10 = true → Q .non H) ∧ (whole d 1 10 = false → E (cE mg "InvalidRule") none H)
theorem len_need_rule : ∀ vs H Q E, sp_need_rule K mg vs H Q E → vs.length = 1 := fun _ _ _ _ ⟨_, _, e, _⟩ => by subst e; rfl
def t_need_rule (P : PySem.Program) (w : PySem.World) (K : PySem.W.Frag) (mg : PySem.Str → Option PySem.Value) (E : XK) : TS :=
  (tIfS (tNot (tB (tCall (sp_is_whole K mg) [] E (tCons (tVar 0) (tCons (tC (.int 1)) (tCons (tC (.int 10)) tNil))))))
  (tRaise E (cE mg "InvalidRule"))
  tNext)

theorem pure_need_rule : ∀ (vs : List V) (H : Hp) (Q : VK) (E : XK), sp_need_rule K mg vs H Q E → t_need_rule P w K mg E { nx := fun _ H' => Q .non H', rt := Q } (start ["t"] vs) H := by
  rintro vs H Q E ⟨v, d, rfl, hd, q1, q2⟩
  show t_need_rule P w K mg E _ [some v] H
  unfold t_need_rule
  walk_at "st"
  refine ⟨v, d, _, _, rfl, hd, ?_⟩
  walk_at "st"
  cases e : whole d 1 10
  · exact k_iteT (q2 e)
  · exact k_iteF (q1 e)
def sp_need_heap (K : PySem.W.Frag) (mg : Str → Option Value) : Sp := fun vs H Q E => ∃ (v : V) (d : PyData), vs = [v] ∧ Dp K H v d ∧ (whole d 0 1000000000 = true → Q .non H) ∧ (whole d 0 1000000000 = false → E (cE mg "InvalidHeap") none H)
theorem len_need_heap : ∀ vs H Q E, sp_need_heap K mg vs H Q E → vs.length = 1 := fun _ _ _ _ ⟨_, _, e, _⟩ => by subst e; rfl
def t_need_heap (P : PySem.Program) (w : PySem.World) (K : PySem.W.Frag) (mg : PySem.Str → Option PySem.Value) (E : XK) : TS :=
  (tIfS (tNot (tB (tCall (sp_is_whole K mg) [] E (tCons (tVar 0) (tCons (tC (.int 0)) (tCons (tOp rPowI (tC (.int 10)) (tC (.int 9))) tNil))))))
  (tRaise E (cE mg "InvalidHeap"))
  tNext)

theorem pure_need_heap : ∀ (vs : List V) (H : Hp) (Q : VK) (E : XK), sp_need_heap K mg vs H Q E → t_need_heap P w K mg E { nx := fun _ H' => Q .non H', rt := Q } (start ["value"] vs) H := by
  rintro vs H Q E ⟨v, d, rfl, hd, q1, q2⟩
  show t_need_heap P w K mg E _ [some v] H
  unfold t_need_heap
  walk_at "st"
  refine ⟨v, d, _, _, rfl, hd, ?_⟩
  walk_at "st"
  cases e : whole d 0 1000000000
  · exact k_iteT (q2 e)
  · exact k_iteF (q1 e)

/-! ### root_of -/
def sp_root_of (K : PySem.W.Frag) (mg : Str → Option Value) : Sp := fun vs H Q _ => ∃ n : Int, vs = [.int n] ∧ 0 ≤ n ∧ n < 2 ^ 2000 ∧ Q (.int (sq n)) H
theorem len_root_of : ∀ vs H Q E, sp_root_of K mg vs H Q E → vs.length = 1 := fun _ _ _ _ ⟨_, e, _⟩ => by subst e; rfl
def t_root_of (P : PySem.Program) (w : PySem.World) (K : PySem.W.Frag) (mg : PySem.Str → Option PySem.Value) (E : XK) : TS :=
  (tSeq (tIfS (tTest (tOp rLtI (tVar 0) (tC (.int 2))))
  (tRet (tVar 0))
  tNext)
  (tSeq (tAsg (tVar 0) (gName 1))
  (tSeq (tWhile (tTest (tOp rGtI (tOp rMulW (tVar 1) (tVar 1)) (tVar 0)))
  (tAsg (tOp rDivW (tOp rAddI (tVar 1) (tOp rDivW (tVar 0) (tVar 1))) (tC (.int 2))) (gName 1)))
  (tRet (tVar 1)))))

theorem nat_lt_pow {i : Int} {k : Nat} (h0 : 0 ≤ i) (h : i < 2 ^ k) : i.natAbs < 2 ^ k := by
  have e : ((i.natAbs : Nat) : Int) = i := Int.natAbs_of_nonneg h0
  have : ((i.natAbs : Nat) : Int) < ((2 ^ k : Nat) : Int) := by rw [e, Int.natCast_pow]; exact h
  exact Int.ofNat_lt.mp this
theorem pure_root_of : ∀ (vs : List V) (H : Hp) (Q : VK) (E : XK), sp_root_of K mg vs H Q E → t_root_of P w K mg E { nx := fun _ H' => Q .non H', rt := Q } (start ["number", "found"] vs) H := by
  rintro vs H Q E ⟨n, rfl, h0, hn, q⟩
  show t_root_of P w K mg E _ [some (.int n), none] H
  unfold t_root_of
  walk_at "st"
  refine k_ite (fun h => ?_) fun h => ?_
  · walk_at "st"
    have e : sq n = n := by
      rcases Int.lt_or_eq_of_le h0 with z | z
      · have : n = 1 := by omega
        subst this; decide
      · subst z; decide
    rw [e] at q
    exact q
  · walk_at "st"
    refine ⟨fun m σ H' => ∃ f : Int, σ = [some (.int n), some (.int f)] ∧ H' = H ∧ 1 ≤ f ∧ f ≤ n ∧ n < (f + 1) * (f + 1) ∧ m = f.toNat, ⟨_, n, rfl, rfl, by omega, by omega, by
      have : n + 1 ≤ (n + 1) * (n + 1) := by
        have : (n + 1) * 1 ≤ (n + 1) * (n + 1) := Int.mul_le_mul_of_nonneg_left (by omega) (by omega)
        omega
      omega, rfl⟩, ?_⟩
    rintro m σ H' ⟨f, rfl, rfl, f1, f2, f3, rfl⟩
    have fb : f.natAbs < 2 ^ 2000 := nat_lt_pow (by omega) (by omega)
    walk_at "st"
    refine k_I (wide_mul (a := 2000) (b := 2000) fb fb (by decide) (by decide) (by decide)) ?_
    walk_at "st"
    refine k_ite (fun h2 => ?_) fun h2 => ?_
    · refine ⟨_, fun σ' H' z => z, ?_⟩
      walk_at "st"
      refine k_I (wide_div (b := 2000) (by omega) fb (by decide) (by decide)) ?_
      walk_at "st"
      obtain ⟨s1, s2, s3⟩ := root_step f1 f3 h2 (by omega)
      exact ⟨_, by omega, _, rfl, rfl, s1, by omega, s3, rfl⟩
    · walk_at "st"
      rw [sq_uniq (r := f) (by omega) (by omega) f3] at q
      exact q
end Fl
/-! FlL: what the laws draw by. -/
namespace Fl
open PySem L2 PySem.Spec PyProof.Rows
local macro_rules | `(tactic| walk_at "sc") => `(tactic| first
  | exact cm_l (by omega) (by omega) | exact cm_r (by omega) (by omega)
  | exact wide_div (b := 250) (by omega) (by omega) (by decide) (by decide)
  | omega | exact cpow (by omega) (by omega) (by omega))
local macro_rules | `(tactic| walk_at "st1") => `(tactic| with_reducible first
  | apply k_seq | apply k_next | apply k_asg | apply k_ret | apply k_drop | apply k_ifS | apply k_par | apply k_par2 | apply k_par3 | apply k_par33
  | (refine k_var rfl ?_) | apply k_c | apply k_op | apply k_un | apply k_I0 | apply k_p18 | apply k_p15 | apply k_p12 | apply k_p9 | apply k_p7 | apply k_p6 | apply k_p5
  | (refine k_I ?_ ?_; (focus walk_at "sc")) | apply k_U
  | apply k_eqI | apply k_neI | apply k_eqB | apply k_neB | apply k_isN | apply k_ntN
  | apply k_test | apply k_tB | apply k_bl | apply k_and | apply k_or | apply k_not | apply k_andV | apply k_orV | apply k_notV | apply k_if | apply k_chain
  | apply k_cb | apply k_call | apply k_nil | apply k_cons | apply k_tup | apply k_lst | apply k_abs | apply k_max2 | apply k_min2 | apply k_iteT | apply k_iteF | apply k_iteNT | apply k_iteNF | apply k_gsub | apply k_yes | apply k_lc | apply k_for | apply k_rng1 | apply k_rng2 | apply k_iList | apply k_iTup | apply k_bm
  | apply k_n0 | apply k_n1 | apply k_n2 | apply k_n3 | apply k_n4 | apply k_n5 | apply k_n6 | apply k_n7 | apply k_n8 | apply k_n9 | apply k_n10 | apply k_n11)
local macro_rules | `(tactic| walk_at "st") => `(tactic| repeat walk_at "st1")
variable {P : Program} {w : World} {K : PySem.W.Frag} {mg : Str → Option Value}
/-! ### dice -/
def IsDice (H : Hp) (q : Addr) : Prop := ∃ c k : Int, H q = some (.lst [.int c, .int k])
/-- all but the dice stays -/
def Chg (q : Addr) (H H' : Hp) : Prop := (∀ b o, b ≠ q → H b = some o → H' b = some o) ∧ IsDice H' q
theorem Chg.trans {q : Addr} {H H1 H2 : Hp} (a : Chg q H H1) (b : Chg q H1 H2) : Chg q H H2 := ⟨fun c o n h => b.1 c o n (a.1 c o n h), b.2⟩
theorem Chg.refl {q : Addr} {H : Hp} (h : IsDice H q) : Chg q H H := ⟨fun _ _ _ h => h, h⟩
theorem Same.dice {H H' : Hp} {q : Addr} (s : Same H H') (h : IsDice H q) : IsDice H' q := by
  obtain ⟨c, k, e⟩ := h
  exact ⟨c, k, s _ _ e⟩
theorem Same.chg {H H' : Hp} {q : Addr} (s : Same H H') (h : IsDice H q) : Chg q H H' := ⟨fun b o _ e => s b o e, Same.dice s h⟩
theorem chg_upd {H : Hp} {q : Addr} {c k : Int} : Chg q H (upd H q (.lst [.int c, .int k])) := ⟨fun b o n e => by rw [upd_ne n]; exact e, ⟨c, k, upd_same⟩⟩
theorem dice_ne {H : Hp} {q b : Addr} {o : HO} (h : IsDice H q) (hb : H b = some o) (n : ∀ c k : Int, o ≠ .lst [.int c, .int k]) : b ≠ q := fun e => by
  obtain ⟨c, k, hq⟩ := h
  subst e
  rw [hq] at hb
  exact n c k (Option.some.inj hb).symm
/-- a dice beside another -/
theorem Chg.dice {H H' : Hp} {q r : Addr} (c : Chg q H H') (h : IsDice H r) : IsDice H' r := by
  by_cases e : r = q
  · rw [e]; exact c.2
  · obtain ⟨a, k, hr⟩ := h
    exact ⟨a, k, c.1 _ _ e hr⟩
theorem Chg.tup {H H' : Hp} {q p : Addr} {xs : List V} (c : Chg q H H') (d : IsDice H q) (h : H p = some (.tup xs)) : H' p = some (.tup xs) := c.1 _ _ (dice_ne d h (fun _ _ => by simp)) h

def sp__law_drawn (K : PySem.W.Frag) (mg : Str → Option Value) : Sp := fun vs H Q _ => ∃ c k : Int, vs = [.int c, .int k] ∧ ∀ r, 0 ≤ r → Q (.int r) H
theorem len__law_drawn : ∀ vs H Q E, sp__law_drawn K mg vs H Q E → vs.length = 2 := fun _ _ _ _ ⟨_, _, e, _⟩ => by subst e; rfl
def t__law_drawn (P : PySem.Program) (w : PySem.World) (K : PySem.W.Frag) (mg : PySem.Str → Option PySem.Value) (E : XK) : TS :=
  (tSeq (tAsg (tOp rModI (tOp rAddI (tOp rMulI (tVar 0) (tC (.int 6364136223846793005))) (tOp rMulI (tOp rAddI (tVar 1) (tC (.int 1))) (tC (.int 1442695040888963407)))) (tC (.int 340282366920938463463374607431768211507))) (gName 2))
  (tSeq (tAsg (tOp rModI (tOp rMulW (tVar 2) (tVar 2)) (tC (.int 340282366920938463463374607431768211297))) (gName 2))
  (tSeq (tAsg (tOp rMulW (tOp rMulW (tOp rAddI (tOp rModI (tVar 2) (tC (.int 18446744073709551557))) (tC (.int 1))) (tOp rAddI (tOp rDivW (tVar 2) (tC (.int 18446744073709551557))) (tC (.int 1)))) (tVar 2)) (gName 2))
  (tRet (tOp rModI (tVar 2) (tC (.int 340282366920938463463374607431768211507)))))))

theorem pure__law_drawn : ∀ (vs : List V) (H : Hp) (Q : VK) (E : XK), sp__law_drawn K mg vs H Q E → t__law_drawn P w K mg E { nx := fun _ H' => Q .non H', rt := Q } (start ["cell", "k", "more"] vs) H := by
  rintro vs H Q E ⟨c, k, rfl, q⟩
  show t__law_drawn P w K mg E _ [some (.int c), some (.int k), none] H
  unfold t__law_drawn
  walk_at "st"
  have m1 : 0 ≤ (c * 6364136223846793005 + (k + 1) * 1442695040888963407) % 340282366920938463463374607431768211507 := by omega
  have m2 : (c * 6364136223846793005 + (k + 1) * 1442695040888963407) % 340282366920938463463374607431768211507 < 340282366920938463463374607431768211507 := by omega
  generalize (c * 6364136223846793005 + (k + 1) * 1442695040888963407) % 340282366920938463463374607431768211507 = a at *
  refine k_I (wide_mul (a := 200) (b := 200) (by omega) (by omega) (by decide) (by decide) (by decide)) ?_
  walk_at "st"
  have m3 : 0 ≤ a * a % 340282366920938463463374607431768211297 := by omega
  have m4 : a * a % 340282366920938463463374607431768211297 < 340282366920938463463374607431768211297 := by omega
  generalize a * a % 340282366920938463463374607431768211297 = b at *
  refine k_I (wide_mul (a := 200) (b := 200) (by omega) (by omega) (by decide) (by decide) (by decide)) ?_
  walk_at "st"
  have l1 : 0 ≤ (b % 18446744073709551557 + 1) * (b / 18446744073709551557 + 1) := Int.mul_nonneg (by omega) (by omega)
  have l2 : (b % 18446744073709551557 + 1) * (b / 18446744073709551557 + 1) ≤ 18446744073709551557 * 36893488147419103232 := Int.mul_le_mul (by omega) (by omega) (by omega) (by decide)
  generalize (b % 18446744073709551557 + 1) * (b / 18446744073709551557 + 1) = m at *
  refine k_I (wide_mul (a := 200) (b := 200) (by omega) (by omega) (by decide) (by decide) (by decide)) ?_
  walk_at "st"
  exact q _ (by omega)
def sp__law_roll (K : PySem.W.Frag) (mg : Str → Option Value) : Sp := fun vs H Q _ => ∃ (d : Addr) (m : Int), vs = [.ref d, .int m] ∧ IsDice H d ∧ 1 ≤ m ∧ m ≤ 1000000000000000000 ∧ ∀ H' r, Chg d H H' → 0 ≤ r → r < m → Q (.int r) H'
theorem len__law_roll : ∀ vs H Q E, sp__law_roll K mg vs H Q E → vs.length = 2 := fun _ _ _ _ ⟨_, _, e, _⟩ => by subst e; rfl
def t__law_roll (P : PySem.Program) (w : PySem.World) (K : PySem.W.Frag) (mg : PySem.Str → Option PySem.Value) (E : XK) : TS :=
  (tSeq (tIfS (tTest (tOp rGeI (tOp (rIxL K) (tVar 0) (tC (.int 0))) (tOp rPowI (tC (.int 10)) (tC (.int 18)))))
  (tSeq (tAsg (tOp rModI (tOp (rIxL K) (tVar 0) (tC (.int 0))) (tVar 1)) (gName 2))
  (tSeq (tAsg (tOp rDivW (tOp (rIxL K) (tVar 0) (tC (.int 0))) (tVar 1)) (gSub (tVar 0) (tC (.int 0)) rSetL))
  (tRet (tVar 2))))
  tNext)
  (tSeq (tAsg (tOp rAddI (tOp (rIxL K) (tVar 0) (tC (.int 1))) (tC (.int 1))) (gSub (tVar 0) (tC (.int 1)) rSetL))
  (tRet (tOp rModI (tOp rDivW (tCall (sp__law_drawn K mg) [] E (tCons (tOp (rIxL K) (tVar 0) (tC (.int 0))) (tCons (tOp (rIxL K) (tVar 0) (tC (.int 1))) tNil))) (tC (.int 8))) (tVar 1)))))

theorem pure__law_roll : ∀ (vs : List V) (H : Hp) (Q : VK) (E : XK), sp__law_roll K mg vs H Q E → t__law_roll P w K mg E { nx := fun _ H' => Q .non H', rt := Q } (start ["dice", "many", "told"] vs) H := by
  rintro vs H Q E ⟨d, m, rfl, ⟨c, k, hd⟩, m1, m2, q⟩
  show t__law_roll P w K mg E _ [some (.ref d), some (.int m), none] H
  unfold t__law_roll
  walk_at "st"
  refine k_ixL (lst_of hd) rfl ?_
  walk_at "st"
  refine k_ite (fun h => ?_) fun h => ?_
  · walk_at "st"
    refine k_ixL (lst_of hd) rfl ?_
    walk_at "st"
    refine k_ixL (lst_of hd) rfl ?_
    walk_at "st"
    refine ⟨d, _, 0, 0, rfl, rfl, hd, rfl, ?_⟩
    walk_at "st"
    exact q _ _ chg_upd (Int.emod_nonneg _ (by omega)) (Int.emod_lt_of_pos _ (by omega))
  · walk_at "st"
    refine k_ixL (lst_of hd) rfl ?_
    walk_at "st"
    refine ⟨d, _, 1, 1, rfl, rfl, hd, rfl, ?_⟩
    walk_at "st"
    refine k_ixL (lst_of upd_same) rfl ?_
    walk_at "st"
    refine k_ixL (lst_of upd_same) rfl ?_
    walk_at "st"
    refine ⟨_, _, rfl, fun r hr => ?_⟩
    walk_at "st"
    exact q _ _ chg_upd (Int.emod_nonneg _ (by omega)) (Int.emod_lt_of_pos _ (by omega))
def sp__law_cell (K : PySem.W.Frag) (mg : Str → Option Value) : Sp := fun vs H Q _ => ∃ (a : Addr) (ns : List Int) (k : Int), vs = [.ref a, .int k] ∧ SqL K H a (ns.map V.int) ∧ ns.length ≤ 63 ∧ ∀ H' r, Same H H' → Q (.int r) H'
theorem len__law_cell : ∀ vs H Q E, sp__law_cell K mg vs H Q E → vs.length = 2 := fun _ _ _ _ ⟨_, _, _, e, _⟩ => by subst e; rfl
def t__law_cell (P : PySem.Program) (w : PySem.World) (K : PySem.W.Frag) (mg : PySem.Str → Option PySem.Value) (E : XK) : TS :=
  (tSeq (tIfS (tTest (tOp (rEqD K) (tVar 0) (tLst tNil)))
  (tRet (tOp rMulI (tVar 1) (tC (.int 7919))))
  tNext)
  (tRet (tOp rAddI (tOp (rIxL K) (tVar 0) (tOp rModI (tVar 1) (tCB (rLenQ K) (tCons (tVar 0) tNil)))) (tOp rMulI (tOp rDivW (tVar 1) (tCB (rLenQ K) (tCons (tVar 0) tNil))) (tC (.int 104729))))))

theorem dpa_ints {H : Hp} : ∀ ns : List Int, DpAll K H (ns.map V.int) (ns.map PyData.int)
  | [] => .nil
  | n :: r => .cons (.int n) (dpa_ints r)
theorem lay_ints : ∀ ns : List Int, PyData.canLayAll0 (ns.map PyData.int) = true
  | [] => by unfold PyData.canLayAll0; rfl
  | n :: r => by
    show PyData.canLayAll0 (.int n :: r.map PyData.int) = true
    unfold PyData.canLayAll0
    rw [lay_ints r]
    unfold PyData.canLay0
    rfl
theorem depth_ints : ∀ ns : List Int, PyData.depthAll (ns.map PyData.int) = 0
  | [] => by unfold PyData.depthAll; rfl
  | n :: r => by
    show PyData.depthAll (.int n :: r.map PyData.int) = 0
    unfold PyData.depthAll
    rw [depth_ints r]
    unfold PyData.depth
    rfl
theorem shaped_list {ns : List Int} : SeqAt.shaped (.list (ns.map PyData.int)) = true := by
  unfold SeqAt.shaped PyData.canLay0 PyData.depth
  rw [lay_ints, depth_ints]
  rfl
theorem shaped_tup {ns : List Int} : SeqAt.shaped (.tuple (ns.map PyData.int)) = true := by
  unfold SeqAt.shaped PyData.canLay0 PyData.depth
  rw [lay_ints, depth_ints]
  rfl
theorem eqv_ints : ∀ ns ms : List Int, PyData.eqvAll (ns.map PyData.int) (ms.map PyData.int) = decide (ns = ms)
  | [], [] => by simp [PyData.eqvAll]
  | [], m :: r => by simp [PyData.eqvAll]
  | n :: r, [] => by simp [PyData.eqvAll]
  | n :: r, m :: s => by
    have ih := eqv_ints r s
    simp only [List.map_cons, PyData.eqvAll, PyData.eqv, ih]
    by_cases h : n = m <;> by_cases h2 : r = s <;> simp [h, h2]
theorem pure__law_cell : ∀ (vs : List V) (H : Hp) (Q : VK) (E : XK), sp__law_cell K mg vs H Q E → t__law_cell P w K mg E { nx := fun _ H' => Q .non H', rt := Q } (start ["script", "k"] vs) H := by
  rintro vs H Q E ⟨a, ns, k, rfl, hs, hl, q⟩
  show t__law_cell P w K mg E _ [some (.ref a), some (.int k)] H
  unfold t__law_cell
  walk_at "st"
  refine ⟨by show 0 ≤ sizeLine; decide, fun p hp => ?_⟩
  have s1 : Same H (upd H p (.lst [])) := same_new hp
  refine ⟨_, _, .lst (s1.seq hs) (dpa_ints ns), .lst (lst_of upd_same) (dpa_ints []), shaped_list, shaped_list, ?_⟩
  walk_at "st"
  have e : PyData.eqv (.list (ns.map PyData.int)) (.list (([] : List Int).map PyData.int)) = decide (ns = []) := by
    show PyData.eqvAll _ _ = _
    exact eqv_ints ns []
  rw [e]
  refine k_ite (fun h => ?_) fun h => ?_
  · walk_at "st"
    exact q _ _ s1
  · have h0 : 0 < ns.length := List.length_pos_iff.mpr h
    walk_at "st"
    refine k_lenL (s1.seq hs) ?_
    rw [List.length_map]
    walk_at "st"
    have b1 := Int.emod_nonneg k (show (ns.length : Int) ≠ 0 by omega)
    have b2 := Int.emod_lt_of_pos k (show (0 : Int) < ns.length by omega)
    have b3 : (k % (ns.length : Int)).toNat < ns.length := by omega
    refine k_ixL (v := .int (ns[(k % (ns.length : Int)).toNat])) (s1.seq hs) ?_ ?_
    · unfold atI ixN
      rw [List.length_map, if_pos b1, if_pos b2]
      show (ns.map V.int)[(k % (ns.length : Int)).toNat]? = _
      rw [List.getElem?_map, List.getElem?_eq_getElem b3]
      rfl
    walk_at "st"
    refine k_lenL (s1.seq hs) ?_
    rw [List.length_map]
    walk_at "st"
    exact q _ _ s1
/-- new dice, one or more -/
def sp__law_rounds (K : PySem.W.Frag) (mg : Str → Option Value) : Sp := fun vs H Q _ => ∃ (a : Addr) (ns : List Int) (m : Int), vs = [.ref a, .int m] ∧ SqL K H a (ns.map V.int) ∧ ns.length ≤ 63 ∧ 1 ≤ m ∧ m ≤ 63 ∧
  ∀ H' R (qs : List Addr), Same H H' → H R = none → H' R = some (.lst (qs.map V.ref)) → 1 ≤ qs.length → (∀ q ∈ qs, IsDice H' q) → Q (.ref R) H'
theorem len__law_rounds : ∀ vs H Q E, sp__law_rounds K mg vs H Q E → vs.length = 2 := fun _ _ _ _ ⟨_, _, _, e, _⟩ => by subst e; rfl
def t__law_rounds (P : PySem.Program) (w : PySem.World) (K : PySem.W.Frag) (mg : PySem.Str → Option PySem.Value) (E : XK) : TS :=
  (tRet (tLc (iRng1 (tCons (tCB rMax2 (tCons (tC (.int 1)) (tCons (tCB rMin2 (tCons (tVar 1) (tCons (tCB (rLenQ K) (tCons (tVar 0) tNil)) tNil))) tNil))) tNil)) (gName 2) tYes (tLst (tCons (tCall (sp__law_cell K mg) [] E0 (tCons (tVar 0) (tCons (tVar 2) tNil))) (tCons (tC (.int 0)) tNil))) [2]))

theorem pure__law_rounds : ∀ (vs : List V) (H : Hp) (Q : VK) (E : XK), sp__law_rounds K mg vs H Q E → t__law_rounds P w K mg E { nx := fun _ H' => Q .non H', rt := Q } (start ["script", "most", "k"] vs) H := by
  rintro vs H Q E ⟨a, ns, m, rfl, hs, hl, m1, m2, q⟩
  show t__law_rounds P w K mg E _ [some (.ref a), some (.int m), none] H
  unfold t__law_rounds
  walk_at "st"
  refine k_lenL hs ?_
  rw [List.length_map]
  walk_at "st"
  generalize hn : (if (if (ns.length : Int) < m then (ns.length : Int) else m) > 1 then (if (ns.length : Int) < m then (ns.length : Int) else m) else 1) = n
  have n1 : 1 ≤ n := by rw [← hn]; split <;> split at * <;> omega
  have n2 : n ≤ 63 := by rw [← hn]; split <;> split at * <;> omega
  refine ⟨n, rfl, by omega, by omega, fun D hD => lc_range (fun i H' => ∃ qs : List Addr, H' D = some (.lst (qs.map V.ref)) ∧ qs.length = i ∧ Same H H' ∧ ∀ r ∈ qs, IsDice H' r ∧ r ≠ D)
    ⟨[], upd_same, rfl, same_new hD, fun r hr => by cases hr⟩ ?_ ?_⟩
  · rintro i H' hi ⟨qs, h1, h2, h3, h4⟩
    show gName 2 _ [_, _, _] H' _
    walk_at "st"
    refine ⟨rfl, ?_⟩
    walk_at "st"
    refine ⟨a, ns, _, rfl, h3.seq hs, hl, fun H2 r s2 => ?_⟩
    walk_at "st"
    refine ⟨by show 2 ≤ sizeLine; decide, fun p hp => ?_⟩
    have s3 : Same H2 (upd H2 p (.lst [.int r, .int 0])) := same_new hp
    have hD2 := s3 _ _ (s2 _ _ h1)
    refine ⟨_, hD2, small_lt (by rw [List.length_map]; omega), qs ++ [p], ?_, by simp [h2], same_grow ((h3.trans s2).trans s3) hD, ?_⟩
    · rw [upd_same, List.map_append]
      rfl
    · intro r' hr'
      rcases List.mem_append.mp hr' with z | z
      · obtain ⟨⟨c, k, hc⟩, ne⟩ := h4 r' z
        exact ⟨⟨c, k, by rw [upd_ne ne]; exact s3 _ _ (s2 _ _ hc)⟩, ne⟩
      · have e : r' = p := by simpa using z
        subst e
        have ne : r' ≠ D := fun e => by
          rw [e] at hp
          rw [s2 _ _ h1] at hp
          cases hp
        exact ⟨⟨r, 0, by rw [upd_ne ne, upd_same]⟩, ne⟩
  · rintro H' ⟨qs, h1, h2, h3, h4⟩
    exact q H' D qs h3 hD h1 (by omega) fun r hr => (h4 r hr).1
end Fl
/-! FlP: pairs and lists of pairs. -/
namespace Fl
open PySem L2 PySem.Spec PyProof.Rows
variable {P : Program} {w : World} {K : PySem.W.Frag} {mg : Str → Option Value}
/-! ### lists of pairs -/
inductive Prs (H : Hp) : List V → List (Int × Int) → Prop
  | nil : Prs H [] []
  | cons {a : Addr} {p : Int × Int} {xs : List V} {ps : List (Int × Int)} : H a = some (.tup [.int p.1, .int p.2]) → Prs H xs ps → Prs H (.ref a :: xs) (p :: ps)
theorem Prs.nl {H H' : Hp} (n : NL H H') : ∀ {xs : List V} {ps : List (Int × Int)}, Prs H xs ps → Prs H' xs ps
  | _, _, .nil => .nil
  | _, _, .cons h r => .cons (n _ _ h (fun _ => by simp)) (Prs.nl n r)
theorem Prs.len {H : Hp} : ∀ {xs : List V} {ps : List (Int × Int)}, Prs H xs ps → xs.length = ps.length
  | _, _, .nil => rfl
  | _, _, .cons _ r => by simp [Prs.len r]
theorem Prs.snoc {H : Hp} {a : Addr} {p : Int × Int} (h : H a = some (.tup [.int p.1, .int p.2])) : ∀ {xs : List V} {ps : List (Int × Int)}, Prs H xs ps → Prs H (xs ++ [.ref a]) (ps ++ [p])
  | _, _, .nil => .cons h .nil
  | _, _, .cons k r => .cons k (Prs.snoc h r)
theorem Prs.get {H : Hp} : ∀ {xs : List V} {ps : List (Int × Int)} {n : Nat} {x : V}, Prs H xs ps → xs[n]? = some x → ∃ a p, x = .ref a ∧ ps[n]? = some p ∧ H a = some (.tup [.int p.1, .int p.2])
  | _, _, _, _, .nil, h => by simp at h
  | _, _, 0, _, .cons k _, h => by
    simp at h
    subst h
    exact ⟨_, _, rfl, rfl, k⟩
  | _, _, n + 1, x, .cons _ r, h => by
    obtain ⟨a, p, e, g, k⟩ := Prs.get (n := n) (x := x) r (by simpa using h)
    exact ⟨a, p, e, by simpa using g, k⟩
def pD (p : Int × Int) : PyData := .tuple [.int p.1, .int p.2]
theorem dp_pair {H : Hp} {a : Addr} {i j : Int} (h : H a = some (.tup [.int i, .int j])) : Dp K H (.ref a) (pD (i, j)) := .tup (tup_of h) (.cons (.int _) (.cons (.int _) .nil))
theorem Prs.dpa {H : Hp} : ∀ {xs : List V} {ps : List (Int × Int)}, Prs H xs ps → DpAll K H xs (ps.map pD)
  | _, _, .nil => .nil
  | _, _, .cons h r => .cons (dp_pair h) (Prs.dpa r)
theorem lay_prs : ∀ ps : List (Int × Int), PyData.canLayAll0 (ps.map pD) = true
  | [] => by simp [PyData.canLayAll0]
  | p :: r => by simp [PyData.canLayAll0, PyData.canLay0, pD, lay_prs r]
theorem depth_prs : ∀ ps : List (Int × Int), PyData.depthAll (ps.map pD) ≤ 1
  | [] => by simp [PyData.depthAll]
  | p :: r => by
    have := depth_prs r
    simp [PyData.depthAll, PyData.depth, pD]
    omega
theorem shaped_prs (ps : List (Int × Int)) : SeqAt.shaped (.list (ps.map pD)) = true := by
  have h := depth_prs ps
  unfold SeqAt.shaped PyData.canLay0 PyData.depth
  rw [lay_prs]
  simp
  omega
theorem shaped_pair (p : Int × Int) : SeqAt.shaped (pD p) = true := by
  unfold SeqAt.shaped
  simp [pD, PyData.canLay0, PyData.canLayAll0, PyData.depth, PyData.depthAll]
theorem eqv_pair (p r : Int × Int) : PyData.eqv (pD p) (pD r) = decide (p = r) := by
  obtain ⟨a, b⟩ := p
  obtain ⟨c, d⟩ := r
  simp only [pD, PyData.eqv, PyData.eqvAll]
  by_cases h : a = c <;> by_cases h2 : b = d <;> simp [h, h2]
theorem any_pair (ps : List (Int × Int)) (r : Int × Int) : ((ps.map pD).any fun z => PyData.eqv z (pD r)) = decide (r ∈ ps) := by
  induction ps with
  | nil => simp
  | cons p t ih =>
    simp only [List.map_cons, List.any_cons, ih, eqv_pair]
    by_cases h : p = r <;> by_cases h2 : r ∈ t <;> simp [h, h2] <;> (try (intro e; exact absurd e.symm h)) <;> (try exact fun e => h e.symm)
end Fl
/-! FlN: the numbers (a + b r)/c. -/
namespace Fl
open PySem L2 PySem.Spec PyProof.Rows
local macro_rules | `(tactic| walk_at "sc") => `(tactic| first
  | exact cm_l (by omega) (by omega) | exact cm_r (by omega) (by omega)
  | exact wide_div (b := 250) (by omega) (by omega) (by decide) (by decide)
  | omega | exact cpow (by omega) (by omega) (by omega))
local macro_rules | `(tactic| walk_at "st1") => `(tactic| with_reducible first
  | apply k_seq | apply k_next | apply k_asg | apply k_ret | apply k_drop | apply k_ifS | apply k_par | apply k_par2 | apply k_par3 | apply k_par33
  | (refine k_var rfl ?_) | apply k_c | apply k_op | apply k_un | apply k_I0 | apply k_p18 | apply k_p15 | apply k_p12 | apply k_p9 | apply k_p7 | apply k_p6 | apply k_p5
  | (refine k_I ?_ ?_; (focus walk_at "sc")) | apply k_U
  | apply k_eqI | apply k_neI | apply k_eqB | apply k_neB | apply k_isN | apply k_ntN
  | apply k_test | apply k_tB | apply k_bl | apply k_and | apply k_or | apply k_not | apply k_andV | apply k_orV | apply k_notV | apply k_if | apply k_chain
  | apply k_cb | apply k_call | apply k_nil | apply k_cons | apply k_tup | apply k_lst | apply k_abs | apply k_max2 | apply k_min2 | apply k_iteT | apply k_iteF | apply k_iteNT | apply k_iteNF | apply k_gsub | apply k_yes | apply k_lc | apply k_for | apply k_rng1 | apply k_rng2 | apply k_iList | apply k_iTup | apply k_bm
  | apply k_gcons | apply k_gnil | apply k_n0 | apply k_n1 | apply k_n2 | apply k_n3 | apply k_n4 | apply k_n5 | apply k_n6 | apply k_n7 | apply k_n8 | apply k_n9 | apply k_n10 | apply k_n11 | apply k_n12 | apply k_n13 | apply k_n14 | apply k_n15 | apply k_n16 | apply k_n17 | apply k_n18 | apply k_n19 | apply k_n20)
local macro_rules | `(tactic| walk_at "st") => `(tactic| repeat walk_at "st1")
local macro_rules | `(tactic| walk_at "nw") => `(tactic| (refine ⟨Nat.le_of_ble_eq_true rfl, fun p np => ?_⟩; generalize hH : upd _ p _ = H'; have s := new_same hH np; have e := new_at hH; clear hH))
variable {P : Program} {w : World} {K : PySem.W.Frag} {mg : Str → Option Value}
theorem k_truI {te : TE} {σ : L2.St} {H : Hp} {R : Bool → Hp → Prop} (h : te σ H fun x H1 => ∃ k, TruV K x H1 k ∧ R k H1) : tTruth K te σ H R := h
theorem tru_int {H : Hp} {i : Int} {S : Bool → Prop} (h : S (i != 0)) : ∃ k, TruV K (.int i) H k ∧ S k := ⟨_, rfl, h⟩
/-! ### divisor -/
theorem gcd_step {m n : Nat} : Nat.gcd n (m % n) = Nat.gcd m n := by rw [Nat.gcd_comm n, ← Nat.gcd_rec, Nat.gcd_comm]
theorem if_abs (a : Int) : (if a < 0 then -a else a) = (a.natAbs : Int) := by split <;> omega
def sp_divisor (K : PySem.W.Frag) (mg : Str → Option Value) : Sp := fun vs H Q _ => ∃ a b : Int, vs = [.int a, .int b] ∧ Q (.int (Int.gcd a b)) H
theorem len_divisor : ∀ vs H Q E, sp_divisor K mg vs H Q E → vs.length = 2 := fun _ _ _ _ ⟨_, _, e, _⟩ => by subst e; rfl
def t_divisor (P : PySem.Program) (w : PySem.World) (K : PySem.W.Frag) (mg : PySem.Str → Option PySem.Value) (E : XK) : TS :=
  (tSeq (tPar 0 1 (tCons (tCB rAbs (tCons (tVar 0) tNil)) (tCons (tCB rAbs (tCons (tVar 1) tNil)) tNil)))
  (tSeq (tWhile (tTruth K (tVar 1))
  (tPar 0 1 (tCons (tVar 1) (tCons (tOp rModI (tVar 0) (tVar 1)) tNil))))
  (tRet (tVar 0))))

theorem pure_divisor : ∀ (vs : List V) (H : Hp) (Q : VK) (E : XK), sp_divisor K mg vs H Q E → t_divisor P w K mg E { nx := fun _ H' => Q .non H', rt := Q } (start ["one", "other"] vs) H := by
  rintro vs H Q E ⟨a, b, rfl, q⟩
  show t_divisor P w K mg E _ [some (.int a), some (.int b)] H
  unfold t_divisor
  walk_at "st"
  rw [if_abs, if_abs]
  refine ⟨fun k σ H' => ∃ m n : Nat, σ = [some (.int m), some (.int n)] ∧ H' = H ∧ Nat.gcd m n = Int.gcd a b ∧ k = n, ⟨_, _, _, rfl, rfl, rfl, rfl⟩, ?_⟩
  rintro k σ H' ⟨m, n, rfl, rfl, hg, ek⟩
  rw [ek]
  clear ek
  apply k_truI
  walk_at "st"
  refine tru_int ?_
  by_cases h0 : n = 0
  · subst h0
    refine k_iteF ?_
    walk_at "st"
    rw [Nat.gcd_zero_right] at hg
    rw [hg]
    exact q
  · have e : ((n : Int) != 0) = true := by simp [h0]
    rw [e]
    refine k_iteT ?_
    refine ⟨_, fun σ' H' z => z, ?_⟩
    walk_at "st"
    exact ⟨_, Nat.mod_lt m (by omega), n, m % n, by rw [Int.natCast_emod], rfl, by rw [gcd_step, hg], rfl⟩
/-! ### is_free, is_root_number -/
def Free (d : Int) : Prop := ¬ d % 4 = 0 ∧ ¬ d % 9 = 0 ∧ ¬ d % 25 = 0
instance (d : Int) : Decidable (Free d) := by unfold Free; infer_instance
def sp_is_free (K : PySem.W.Frag) (mg : Str → Option Value) : Sp := fun vs H Q _ => ∃ d : Int, vs = [.int d] ∧ ∀ H', Same H H' → Q (.bl (decide (Free d))) H'
theorem len_is_free : ∀ vs H Q E, sp_is_free K mg vs H Q E → vs.length = 1 := fun _ _ _ _ ⟨_, e, _⟩ => by subst e; rfl
def t_is_free (P : PySem.Program) (w : PySem.World) (K : PySem.W.Frag) (mg : PySem.Str → Option PySem.Value) (E : XK) : TS :=
  (tRet (tCB (rAll K) (tCons (tLc (iTup K (tTup (tCons (tC (.int 2)) (tCons (tC (.int 3)) (tCons (tC (.int 5)) tNil))))) (gName 1) tYes (tOp rNe (tOp rModI (tVar 0) (tOp rMulI (tVar 1) (tVar 1))) (tC (.int 0))) [1]) tNil)))

theorem pure_is_free : ∀ (vs : List V) (H : Hp) (Q : VK) (E : XK), sp_is_free K mg vs H Q E → t_is_free P w K mg E { nx := fun _ H' => Q .non H', rt := Q } (start ["d", "one"] vs) H := by
  rintro vs H Q E ⟨d, rfl, q⟩
  show t_is_free P w K mg E _ [some (.int d), none] H
  unfold t_is_free
  walk_at "st"
  refine ⟨Nat.le_of_ble_eq_true rfl, fun p np => ?_⟩
  have s1 : Same H (upd H p (.tup [.int 2, .int 3, .int 5])) := same_new np
  refine ⟨p, rfl, ⟨_, tup_of upd_same⟩, fun D hD => lcm_tup (ys := ([2, 3, 5].map fun i : Int => !decide (d % (i * i) = 0)).map V.bl) (tup_of upd_same) hD (by simp) (by simp) (fun n x y hx hy H' R s r => ?_) fun Hf sf hf => ?_⟩
  · show gName 1 x [_, _] H' _
    walk_at "st"
    refine ⟨rfl, ?_⟩
    obtain ⟨i, rfl, rfl, i1, i2⟩ : ∃ i : Int, x = .int i ∧ y = .bl (!decide (d % (i * i) = 0)) ∧ 0 < i ∧ i < 10 := by
      rcases n with _ | _ | _ | n
      · cases hx; cases hy; exact ⟨2, rfl, rfl, by omega, by omega⟩
      · cases hx; cases hy; exact ⟨3, rfl, rfl, by omega, by omega⟩
      · cases hx; cases hy; exact ⟨5, rfl, rfl, by omega, by omega⟩
      · cases hx
    walk_at "st"
    refine k_I (Int.mul_pos i1 i1) ?_
    walk_at "st"
    exact r H' (Same.refl _)
  · walk_at "st"
    refine k_all (lst_of hf) ?_
    have e : (([2, 3, 5].map fun i : Int => !decide (d % (i * i) = 0))).all id = decide (Free d) := by
      simp only [List.map_cons, List.map_nil, List.all_cons, List.all_nil, id, Bool.and_true]
      unfold Free
      by_cases h1 : d % 4 = 0 <;> by_cases h2 : d % 9 = 0 <;> by_cases h3 : d % 25 = 0 <;> simp [h1, h2, h3]
    rw [e]
    exact q _ (s1.trans sf)
theorem free_nsq {d : Int} (h1 : 2 ≤ d) (h2 : d ≤ 40) (h : Free d) : Nsq d := by
  unfold Free at h
  by_cases a : d < 4
  · exact ⟨1, by omega, by omega, by omega⟩
  by_cases b : d < 9
  · exact ⟨2, by omega, by omega, by omega⟩
  by_cases c : d < 16
  · exact ⟨3, by omega, by omega, by omega⟩
  by_cases e : d < 25
  · exact ⟨4, by omega, by omega, by omega⟩
  by_cases f : d < 36
  · exact ⟨5, by omega, by omega, by omega⟩
  · exact ⟨6, by omega, by omega, by omega⟩
/-- a root number, as the program has it -/
structure RN (x : Rt) : Prop where
  a1 : -50 ≤ x.a
  a2 : x.a ≤ 50
  b1 : -50 ≤ x.b
  b2 : x.b ≤ 50
  c2 : x.c ≤ 50
  d1 : 2 ≤ x.d
  d2 : x.d ≤ 40
  free : Free x.d
  b0 : x.b ≠ 0
  c1 : 1 ≤ x.c
  low : Int.gcd (Int.gcd x.a x.b) x.c = 1
theorem RN.ok {x : Rt} (h : RN x) : x.Ok := ⟨free_nsq h.d1 h.d2 h.free, h.b0, by have := h.c1; omega⟩
instance (x : Rt) : Decidable (RN x) := decidable_of_iff ((-50 ≤ x.a ∧ x.a ≤ 50 ∧ -50 ≤ x.b ∧ x.b ≤ 50 ∧ x.c ≤ 50) ∧ (2 ≤ x.d ∧ x.d ≤ 40 ∧ Free x.d ∧ x.b ≠ 0 ∧ 1 ≤ x.c ∧ Int.gcd (Int.gcd x.a x.b) x.c = 1))
  ⟨fun ⟨⟨h1, h2, h3, h4, h5⟩, h6, h7, h8, h9, h10, h11⟩ => ⟨h1, h2, h3, h4, h5, h6, h7, h8, h9, h10, h11⟩, fun h => ⟨⟨h.a1, h.a2, h.b1, h.b2, h.c2⟩, h.d1, h.d2, h.free, h.b0, h.c1, h.low⟩⟩
/-- the number as a value, and as data -/
def rtV (x : Rt) : List V := [.int x.a, .int x.b, .int x.d, .int x.c]
def rtD (x : Rt) : PyData := .tuple [.int x.a, .int x.b, .int x.d, .int x.c]
def rnD : PyData → Bool
  | .tuple [.int a, .int b, .int d, .int c] => decide (RN ⟨a, b, d, c⟩)
  | _ => false
theorem rnD_rt (x : Rt) : rnD (rtD x) = decide (RN x) := rfl
theorem dp_rt {H : Hp} {p : Addr} {x : Rt} (h : SqT K H p (rtV x)) : Dp K H (.ref p) (rtD x) := .tup h (.cons (.int _) (.cons (.int _) (.cons (.int _) (.cons (.int _) .nil))))
theorem dpa_four {H : Hp} {xs : List V} {ds : List PyData} (h : DpAll K H xs ds) (hl : xs.length = 4) : ∃ x y z t d1 d2 d3 d4, xs = [x, y, z, t] ∧ ds = [d1, d2, d3, d4] ∧ Dp K H x d1 ∧ Dp K H y d2 ∧ Dp K H z d3 ∧ Dp K H t d4 := by
  cases h with
  | nil => simp at hl
  | cons h1 r1 => cases r1 with
    | nil => simp at hl
    | cons h2 r2 => cases r2 with
      | nil => simp at hl
      | cons h3 r3 => cases r3 with
        | nil => simp at hl
        | cons h4 r4 => cases r4 with
          | nil => exact ⟨_, _, _, _, _, _, _, _, rfl, rfl, h1, h2, h3, h4⟩
          | cons h5 r5 => simp at hl
theorem rnD_len {ds : List PyData} (h : ¬ (ds.length : Int) = 4) : rnD (.tuple ds) = false := by
  unfold rnD
  split
  · rename_i e
    cases e
    exact absurd rfl h
  · rfl
theorem rnD_bad {d1 d2 d3 d4 : PyData} (h : (whole d1 (-50) 50 && (whole d2 (-50) 50 && (whole d3 (-50) 50 && whole d4 (-50) 50))) = false) : rnD (.tuple [d1, d2, d3, d4]) = false := by
  unfold rnD
  split
  · rename_i a b d c e
    cases e
    refine decide_eq_false fun R => ?_
    rw [whole_int R.a1 R.a2, whole_int R.b1 R.b2, whole_int (show -50 ≤ d by have := R.d1; simp at this; omega) (show d ≤ 50 by have := R.d2; simp at this; omega), whole_int (show -50 ≤ c by have := R.c1; simp at this; omega) R.c2] at h
    cases h
  · rfl
theorem rn_is {H : Hp} {v : V} {d : PyData} (h : Dp K H v d) (hr : rnD d = true) : ∃ p x, v = .ref p ∧ d = rtD x ∧ RN x ∧ SqT K H p (rtV x) := by
  unfold rnD at hr
  split at hr
  · rename_i a b d c
    have R := of_decide_eq_true hr
    cases h with
    | tup hs ha =>
      obtain ⟨x, y, z, t, d1, d2, d3, d4, rfl, e, p1, p2, p3, p4⟩ := dpa_four ha (by rw [dpa_len ha]; rfl)
      cases e
      cases p1
      cases p2
      cases p3
      cases p4
      exact ⟨_, ⟨a, b, d, c⟩, rfl, rfl, R, hs⟩
  · cases hr
def sp_is_root_number (K : PySem.W.Frag) (mg : Str → Option Value) : Sp := fun vs H Q _ => ∃ (v : V) (d : PyData), vs = [v] ∧ Dp K H v d ∧ ∀ H', Same H H' → Q (.bl (rnD d)) H'
theorem len_is_root_number : ∀ vs H Q E, sp_is_root_number K mg vs H Q E → vs.length = 1 := fun _ _ _ _ ⟨_, _, e, _⟩ => by subst e; rfl
def t_is_root_number (P : PySem.Program) (w : PySem.World) (K : PySem.W.Frag) (mg : PySem.Str → Option PySem.Value) (E : XK) : TS :=
  (tSeq (tIfS (tOr (tNot (tB (tCB (rIsi K) (tCons (tVar 0) (tCons (tC (.ty "tuple")) tNil))))) (tOr (tTest (tOp rNe (tCB (rLenQ K) (tCons (tVar 0) tNil)) (tC (.int 4)))) (tNot (tB (tCB (rAll K) (tCons (tLc (iTup K (tVar 0)) (gName 5) tYes (tCall (sp_is_whole K mg) [] E0 (tCons (tVar 5) (tCons (tUn rNegI (tC (.int 50))) (tCons (tC (.int 50)) tNil)))) [5]) tNil))))))
  (tRet (tC (.bl false)))
  tNext)
  (tSeq (tAsg (tVar 0) (gTup K 4 (gCons (gName 1) (gCons (gName 2) (gCons (gName 3) (gCons (gName 4) gNil))))))
  (tSeq (tIfS (tOr (tNot (tTest (tChain rLeI rLeI (tC (.int 2)) (tVar 3) (tC (.int 40))))) (tOr (tNot (tB (tCall (sp_is_free K mg) [] E (tCons (tVar 3) tNil)))) (tOr (tTest (tOp rEq (tVar 2) (tC (.int 0)))) (tTest (tOp rLtI (tVar 4) (tC (.int 1)))))))
  (tRet (tC (.bl false)))
  tNext)
  (tRet (tOp rEq (tCall (sp_divisor K mg) [] E (tCons (tCall (sp_divisor K mg) [] E (tCons (tVar 1) (tCons (tVar 2) tNil))) (tCons (tVar 4) tNil))) (tC (.int 1)))))))

theorem pure_is_root_number : ∀ (vs : List V) (H : Hp) (Q : VK) (E : XK), sp_is_root_number K mg vs H Q E → t_is_root_number P w K mg E { nx := fun _ H' => Q .non H', rt := Q } (start ["value", "a", "b", "d", "c", "one"] vs) H := by
  rintro vs H Q E ⟨v, d, rfl, hd, q⟩
  show t_is_root_number P w K mg E _ [some v, none, none, none, none, none] H
  unfold t_is_root_number
  walk_at "st"
  refine k_isi hd (kit_tup d) ?_
  walk_at "st"
  cases hd with
  | non => exact k_iteT (k_iteT (q _ (Same.refl _)))
  | bl b => exact k_iteT (k_iteT (q _ (Same.refl _)))
  | int z => exact k_iteT (k_iteT (q _ (Same.refl _)))
  | str x => exact k_iteT (k_iteT (q _ (Same.refl _)))
  | lst hs ha => exact k_iteT (k_iteT (q _ (Same.refl _)))
  | @tup a xs ds hs ha =>
    refine k_iteF ?_
    walk_at "st"
    refine k_lenT hs ?_
    walk_at "st"
    refine k_iteN (fun h => ?_) fun h => ?_
    · refine k_iteT ?_
      rw [dpa_len ha] at h
      rw [rnD_len h] at q
      exact q _ (Same.refl _)
    · walk_at "st"
      refine ⟨a, rfl, ⟨xs, hs⟩, fun D hD => lcm_tup (ys := (ds.map fun d => whole d (-50) 50).map V.bl) hs hD (by simp [dpa_len ha]) (by have := dpa_len ha; simp; omega) (fun n x y hx hy H' R s r => ?_) fun Hf sf hf => ?_⟩
      · show gName 5 x [_, _, _, _, _, _] H' _
        walk_at "st"
        refine ⟨rfl, ?_⟩
        walk_at "st"
        obtain ⟨d, hd, pd⟩ := dpa_get ha hx
        refine ⟨x, d, _, _, rfl, same_dp s pd, ?_⟩
        have ey : y = .bl (whole d (-50) 50) := by
          simp [List.getElem?_map, hd] at hy
          exact hy.symm
        rw [ey] at r
        exact r H' (Same.refl _)
      · walk_at "st"
        refine k_all (lst_of hf) ?_
        walk_at "st"
        obtain ⟨x, y, z, t, d1, d2, d3, d4, rfl, rfl, p1, p2, p3, p4⟩ := dpa_four ha (by omega)
        have ea : ([d1, d2, d3, d4].map fun d => whole d (-50) 50).all id = (whole d1 (-50) 50 && (whole d2 (-50) 50 && (whole d3 (-50) 50 && whole d4 (-50) 50))) := by simp
        rw [ea]
        cases e : (whole d1 (-50) 50 && (whole d2 (-50) 50 && (whole d3 (-50) 50 && whole d4 (-50) 50)))
        · rw [rnD_bad e] at q
          exact k_iteT (q _ sf)
        · simp only [Bool.and_eq_true] at e
          obtain ⟨e1, e2, e3, e4⟩ := e
          obtain ⟨a, rfl, a1, a2⟩ := whole_is e1
          obtain ⟨b, rfl, b1, b2⟩ := whole_is e2
          obtain ⟨d, rfl, d1, d2⟩ := whole_is e3
          obtain ⟨c, rfl, c1, c2⟩ := whole_is e4
          cases p1
          cases p2
          cases p3
          cases p4
          have em : rnD (.tuple [.int a, .int b, .int d, .int c]) = decide (RN ⟨a, b, d, c⟩) := rfl
          rw [em] at q
          refine k_iteF ?_
          have hs' := same_tup sf hs
          walk_at "st"
          refine k_gtup hs' rfl ?_
          walk_at "st"
          refine k_ite (fun z1 => ?_) fun z => ?_
          · walk_at "st"
            refine k_iteN (fun z => ?_) fun z2 => ?_
            · rw [decide_eq_false fun R => z R.d2] at q
              walk_at "st"
              exact q _ sf
            · walk_at "st"
              refine ⟨d, rfl, fun Hg sg => ?_⟩
              walk_at "st"
              refine k_iteN (fun z => ?_) fun z3 => ?_
              · rw [decide_eq_false fun R => z R.free] at q
                walk_at "st"
                exact q _ (sf.trans sg)
              walk_at "st"
              refine k_ite (fun z => ?_) fun z4 => ?_
              · rw [decide_eq_false fun R => R.b0 z] at q
                walk_at "st"
                exact q _ (sf.trans sg)
              walk_at "st"
              refine k_ite (fun z => ?_) fun z5 => ?_
              · rw [decide_eq_false fun R => by have := R.c1; simp at this; omega] at q
                walk_at "st"
                exact q _ (sf.trans sg)
              walk_at "st"
              refine ⟨a, b, rfl, ?_⟩
              walk_at "st"
              refine ⟨_, c, rfl, ?_⟩
              walk_at "st"
              have e : decide (((Int.gcd (Int.gcd a b) c : Nat) : Int) = 1) = decide (RN ⟨a, b, d, c⟩) := by
                apply decide_eq_decide.mpr
                constructor
                · intro h
                  exact ⟨a1, a2, b1, b2, c2, z1, z2, z3, z4, by show 1 ≤ c; omega, by show Int.gcd (Int.gcd a b) c = 1; omega⟩
                · intro R
                  have := R.low
                  simp at this
                  omega
              rw [e]
              exact q _ (sf.trans sg)
          · rw [decide_eq_false fun R => z R.d1] at q
            walk_at "st"
            exact q _ sf
def sp_need_number (K : PySem.W.Frag) (mg : Str → Option Value) : Sp := fun vs H Q E => ∃ (v : V) (d : PyData), vs = [v] ∧ Dp K H v d ∧ (rnD d = true → ∀ H', Same H H' → Q .non H') ∧ (rnD d = false → ∀ H', Same H H' → E (cE mg "InvalidNumber") none H')
theorem len_need_number : ∀ vs H Q E, sp_need_number K mg vs H Q E → vs.length = 1 := fun _ _ _ _ ⟨_, _, e, _⟩ => by subst e; rfl
def t_need_number (P : PySem.Program) (w : PySem.World) (K : PySem.W.Frag) (mg : PySem.Str → Option PySem.Value) (E : XK) : TS :=
  (tIfS (tNot (tB (tCall (sp_is_root_number K mg) [] E (tCons (tVar 0) tNil))))
  (tRaise E (cE mg "InvalidNumber"))
  tNext)

theorem pure_need_number : ∀ (vs : List V) (H : Hp) (Q : VK) (E : XK), sp_need_number K mg vs H Q E → t_need_number P w K mg E { nx := fun _ H' => Q .non H', rt := Q } (start ["x"] vs) H := by
  rintro vs H Q E ⟨v, d, rfl, hd, q1, q2⟩
  show t_need_number P w K mg E _ [some v] H
  unfold t_need_number
  walk_at "st"
  refine ⟨v, d, rfl, hd, fun H' s => ?_⟩
  walk_at "st"
  cases e : rnD d
  · exact k_iteT (q2 e H' s)
  · exact k_iteF (q1 e H' s)
/-! ### floor_by -/
/-- numbers of which the floors are asked: their parts have few bits -/
structure Rt.Sm (x : Rt) : Prop where
  a : x.a.natAbs < 2 ^ 62
  b : x.b.natAbs < 2 ^ 62
  d1 : 2 ≤ x.d
  d2 : x.d ≤ 40
  c : x.c.natAbs < 2 ^ 62
theorem RN.sm {x : Rt} (h : RN x) : x.Sm := by
  have := h.a1
  have := h.a2
  have := h.b1
  have := h.b2
  have := h.c1
  have := h.c2
  exact ⟨by omega, by omega, h.d1, h.d2, by omega⟩
theorem k_gtup4 {g1 g2 g3 g4 : TG} {σ : L2.St} {H : Hp} {S : L2.St → Hp → Prop} {p : Addr} {x : Rt} (h : SqT K H p (rtV x)) (k : gCons g1 (gCons g2 (gCons g3 (gCons g4 gNil))) [.int x.a, .int x.b, .int x.d, .int x.c] σ H S) : gTup K 4 (gCons g1 (gCons g2 (gCons g3 (gCons g4 gNil)))) (.ref p) σ H S := k_gtup h rfl k
theorem lt_pow_mul {i j : Int} {a b : Nat} (ha : i.natAbs < 2 ^ a) (hb : j.natAbs < 2 ^ b) : (i * j).natAbs < 2 ^ (a + b) := wide_lt ha hb
def sp_floor_by (K : PySem.W.Frag) (mg : Str → Option Value) : Sp := fun vs H Q _ => ∃ (p : Addr) (x : Rt) (n m : Int), vs = [.ref p, .int n, .int m] ∧ SqT K H p (rtV x) ∧ x.Ok ∧ x.Sm ∧ n.natAbs < 2 ^ 62 ∧ Q (.int (x.fn n + m)) H
theorem len_floor_by : ∀ vs H Q E, sp_floor_by K mg vs H Q E → vs.length = 3 := fun _ _ _ _ ⟨_, _, _, _, e, _⟩ => by subst e; rfl
def t_floor_by (P : PySem.Program) (w : PySem.World) (K : PySem.W.Frag) (mg : PySem.Str → Option PySem.Value) (E : XK) : TS :=
  (tSeq (tAsg (tVar 0) (gTup K 4 (gCons (gName 3) (gCons (gName 4) (gCons (gName 5) (gCons (gName 6) gNil))))))
  (tSeq (tAsg (tCall (sp_root_of K mg) [] E (tCons (tOp rMulI (tOp rMulI (tOp rMulI (tOp rMulI (tVar 1) (tVar 1)) (tVar 4)) (tVar 4)) (tVar 5)) tNil)) (gName 7))
  (tRet (tOp rAddI (tOp rDivW (tOp rAddI (tOp rMulI (tVar 1) (tVar 3)) (tIf (tTest (tOp rGtI (tOp rMulI (tVar 1) (tVar 4)) (tC (.int 0)))) (tVar 7) (tOp rSubI (tUn rNegI (tVar 7)) (tC (.int 1))))) (tVar 6)) (tVar 2)))))

theorem pure_floor_by : ∀ (vs : List V) (H : Hp) (Q : VK) (E : XK), sp_floor_by K mg vs H Q E → t_floor_by P w K mg E { nx := fun _ H' => Q .non H', rt := Q } (start ["x", "n", "more", "a", "b", "d", "c", "own"] vs) H := by
  rintro vs H Q E ⟨p, x, n, m, rfl, hp, ok, sm, hn, q⟩
  show t_floor_by P w K mg E _ [some (.ref p), some (.int n), some (.int m), none, none, none, none, none] H
  unfold t_floor_by
  walk_at "st"
  refine k_gtup4 hp ?_
  have sb := sm.b
  have sc := sm.c
  have sa := sm.a
  have d1 := sm.d1
  have d2 := sm.d2
  walk_at "st"
  have b1 : (n * n * x.b * x.b * x.d).natAbs < 2 ^ 2000 :=
    Nat.lt_of_lt_of_le (lt_pow_mul (b := 62) (lt_pow_mul (lt_pow_mul (lt_pow_mul hn hn) sb) sb) (by omega)) (Nat.pow_le_pow_right (by omega) (by omega))
  have b2 : 0 ≤ n * n * x.b * x.b * x.d := by
    have e : n * n * x.b * x.b * x.d = (n * x.b) * (n * x.b) * x.d := by grind
    rw [e]
    exact Int.mul_nonneg (by rcases Int.le_total 0 (n * x.b) with h | h; exact Int.mul_nonneg h h; exact Int.mul_nonneg_of_nonpos_of_nonpos h h) (by omega)
  refine ⟨_, rfl, b2, ?_, ?_⟩
  · have : ((n * n * x.b * x.b * x.d).natAbs : Int) = n * n * x.b * x.b * x.d := Int.natAbs_of_nonneg b2
    have h3 : (((n * n * x.b * x.b * x.d).natAbs : Nat) : Int) < ((2 ^ 2000 : Nat) : Int) := Int.ofNat_lt.mpr b1
    rw [this, Int.natCast_pow] at h3
    exact h3
  walk_at "st"
  have oc := ok.c
  have e : x.fn n = (n * x.a + rtE (n * x.b) (sq (n * n * x.b * x.b * x.d))) / x.c := rfl
  rw [e] at q
  unfold rtE at q
  refine k_ite (fun h => ?_) fun h => ?_
  · rw [if_pos h] at q
    walk_at "st"
    exact q
  · rw [if_neg h] at q
    walk_at "st"
    exact q
def sp_floor_of (K : PySem.W.Frag) (mg : Str → Option Value) : Sp := fun vs H Q E => ∃ (v : V) (d : PyData), vs = [v] ∧ Dp K H v d ∧ (rnD d = false → ∀ H', Same H H' → E (cE mg "InvalidNumber") none H') ∧
  (∀ x : Rt, d = rtD x → RN x → ∀ H', Same H H' → Q (.int (x.fn 1)) H')
theorem len_floor_of : ∀ vs H Q E, sp_floor_of K mg vs H Q E → vs.length = 1 := fun _ _ _ _ ⟨_, _, e, _⟩ => by subst e; rfl
def t_floor_of (P : PySem.Program) (w : PySem.World) (K : PySem.W.Frag) (mg : PySem.Str → Option PySem.Value) (E : XK) : TS :=
  (tSeq (tDrop (tCall (sp_need_number K mg) [] E (tCons (tVar 0) tNil)))
  (tRet (tCall (sp_floor_by K mg) [] E (tCons (tVar 0) (tCons (tC (.int 1)) (tCons (tC (.int 0)) tNil))))))

theorem pure_floor_of : ∀ (vs : List V) (H : Hp) (Q : VK) (E : XK), sp_floor_of K mg vs H Q E → t_floor_of P w K mg E { nx := fun _ H' => Q .non H', rt := Q } (start ["x"] vs) H := by
  rintro vs H Q E ⟨v, d, rfl, hd, q2, q1⟩
  show t_floor_of P w K mg E _ [some v] H
  unfold t_floor_of
  walk_at "st"
  refine ⟨v, d, rfl, hd, fun hr H' s => ?_, q2⟩
  obtain ⟨p, x, rfl, rfl, R, hp⟩ := rn_is hd hr
  walk_at "st"
  refine ⟨p, x, 1, 0, rfl, same_tup s hp, R.ok, R.sm, by decide, ?_⟩
  rw [Int.add_zero]
  exact q1 x rfl R _ s
/-! ### // by a divisor of any sign -/
def CDivZ (_ j : Int) : Prop := j ≠ 0 ∧ j.natAbs.log2 < 9000
abbrev rDivZ : R2 := rI CDivZ fun i j => .int (i.fdiv j)
theorem op_fdivZ {X : Cx} : OpR X (binaryOp .FloorDiv) (rI CDivZ fun i j => .int (i.fdiv j)) := opI fun _ _ _ _ _ _ _ hc q => floordiv_int hc.1 q (.inl (PyProof.noPylong_of_log2 hc.2))
theorem cdivz {i j : Int} (h : j ≠ 0) (hb : j.natAbs < 2 ^ 1000) : CDivZ i j := ⟨h, Nat.lt_of_lt_of_le (PySem.Flt.log2_lt_of (k := 1000) (by decide) hb) (by decide)⟩
end Fl
/-! FlM: the laws' own numbers. -/
namespace Fl
open PySem L2 PySem.Spec PyProof.Rows
local macro_rules | `(tactic| walk_at "sc") => `(tactic| first
  | exact cm_l (by omega) (by omega) | exact cm_r (by omega) (by omega)
  | exact wide_div (b := 250) (by omega) (by omega) (by decide) (by decide)
  | omega | exact cpow (by omega) (by omega) (by omega))
local macro_rules | `(tactic| walk_at "st1") => `(tactic| with_reducible first
  | apply k_seq | apply k_next | apply k_asg | apply k_ret | apply k_drop | apply k_ifS | apply k_par | apply k_par2 | apply k_par3 | apply k_par33
  | (refine k_var rfl ?_) | apply k_c | apply k_op | apply k_un | apply k_I0 | apply k_p18 | apply k_p15 | apply k_p12 | apply k_p9 | apply k_p7 | apply k_p6 | apply k_p5
  | (refine k_I ?_ ?_; (focus walk_at "sc")) | apply k_U
  | apply k_eqI | apply k_neI | apply k_eqB | apply k_neB | apply k_isN | apply k_ntN
  | apply k_test | apply k_tB | apply k_bl | apply k_and | apply k_or | apply k_not | apply k_andV | apply k_orV | apply k_notV | apply k_if | apply k_chain
  | apply k_cb | apply k_call | apply k_nil | apply k_cons | apply k_tup | apply k_lst | apply k_abs | apply k_max2 | apply k_min2 | apply k_iteT | apply k_iteF | apply k_iteNT | apply k_iteNF | apply k_gsub | apply k_yes | apply k_lc | apply k_for | apply k_rng1 | apply k_rng2 | apply k_iList | apply k_iTup | apply k_bm
  | apply k_gcons | apply k_gnil | apply k_n0 | apply k_n1 | apply k_n2 | apply k_n3 | apply k_n4 | apply k_n5 | apply k_n6 | apply k_n7 | apply k_n8 | apply k_n9 | apply k_n10 | apply k_n11 | apply k_n12 | apply k_n13 | apply k_n14 | apply k_n15 | apply k_n16 | apply k_n17 | apply k_n18 | apply k_n19 | apply k_n20)
local macro_rules | `(tactic| walk_at "st") => `(tactic| repeat walk_at "st1")
local macro_rules | `(tactic| walk_at "nw") => `(tactic| (refine ⟨Nat.le_of_ble_eq_true rfl, fun p np => ?_⟩; generalize hH : upd _ p _ = H'; have s := new_same hH np; have e := new_at hH; clear hH))
variable {P : Program} {w : World} {K : PySem.W.Frag} {mg : Str → Option Value}
def sp__law_divisor (K : PySem.W.Frag) (mg : Str → Option Value) : Sp := fun vs H Q _ => ∃ a b : Int, vs = [.int a, .int b] ∧ Q (.int (Int.gcd a b)) H
theorem len__law_divisor : ∀ vs H Q E, sp__law_divisor K mg vs H Q E → vs.length = 2 := fun _ _ _ _ ⟨_, _, e, _⟩ => by subst e; rfl
def t__law_divisor (P : PySem.Program) (w : PySem.World) (K : PySem.W.Frag) (mg : PySem.Str → Option PySem.Value) (E : XK) : TS :=
  (tSeq (tPar 0 1 (tCons (tCB rAbs (tCons (tVar 0) tNil)) (tCons (tCB rAbs (tCons (tVar 1) tNil)) tNil)))
  (tSeq (tWhile (tTest (tOp rNe (tVar 1) (tC (.int 0))))
  (tPar 0 1 (tCons (tVar 1) (tCons (tOp rModI (tVar 0) (tVar 1)) tNil))))
  (tRet (tVar 0))))

theorem pure__law_divisor : ∀ (vs : List V) (H : Hp) (Q : VK) (E : XK), sp__law_divisor K mg vs H Q E → t__law_divisor P w K mg E { nx := fun _ H' => Q .non H', rt := Q } (start ["one", "other"] vs) H := by
  rintro vs H Q E ⟨a, b, rfl, q⟩
  show t__law_divisor P w K mg E _ [some (.int a), some (.int b)] H
  unfold t__law_divisor
  walk_at "st"
  rw [if_abs, if_abs]
  refine ⟨fun k σ H' => ∃ m n : Nat, σ = [some (.int m), some (.int n)] ∧ H' = H ∧ Nat.gcd m n = Int.gcd a b ∧ k = n, ⟨_, _, _, rfl, rfl, rfl, rfl⟩, ?_⟩
  rintro k σ H' ⟨m, n, rfl, rfl, hg, ek⟩
  rw [ek]
  clear ek
  walk_at "st"
  refine k_iteN (fun h => ?_) fun h => ?_
  · refine ⟨_, fun σ' H' z => z, ?_⟩
    walk_at "st"
    exact ⟨_, Nat.mod_lt m (by omega), n, m % n, by rw [Int.natCast_emod], rfl, by rw [gcd_step, hg], rfl⟩
  · have h0 : n = 0 := by omega
    subst h0
    walk_at "st"
    rw [Nat.gcd_zero_right] at hg
    rw [hg]
    exact q
def sp__law_lowest (K : PySem.W.Frag) (mg : Str → Option Value) : Sp := fun vs H Q _ => ∃ x : Rt, vs = [.int x.a, .int x.b, .int x.d, .int x.c] ∧ x.b ≠ 0 ∧ x.c ≠ 0 ∧ x.c.natAbs < 2 ^ 1000 ∧ ∀ H' p, Same H H' → H' p = some (.tup (rtV x.red)) → Q (.ref p) H'
theorem len__law_lowest : ∀ vs H Q E, sp__law_lowest K mg vs H Q E → vs.length = 4 := fun _ _ _ _ ⟨_, e, _⟩ => by subst e; rfl
def t__law_lowest (P : PySem.Program) (w : PySem.World) (K : PySem.W.Frag) (mg : PySem.Str → Option PySem.Value) (E : XK) : TS :=
  (tSeq (tAsg (tOp rMulI (tCall (sp__law_divisor K mg) [] E (tCons (tCall (sp__law_divisor K mg) [] E (tCons (tVar 0) (tCons (tVar 1) tNil))) (tCons (tVar 3) tNil))) (tIf (tTest (tOp rGtI (tVar 3) (tC (.int 0)))) (tC (.int 1)) (tUn rNegI (tC (.int 1))))) (gName 4))
  (tRet (tTup (tCons (tOp rDivZ (tVar 0) (tVar 4)) (tCons (tOp rDivZ (tVar 1) (tVar 4)) (tCons (tVar 2) (tCons (tOp rDivZ (tVar 3) (tVar 4)) tNil)))))))

theorem gs_eq {x : Rt} (c0 : x.c ≠ 0) : g3 x.a x.b x.c * (if 0 < x.c then 1 else -1) = x.gs := by
  unfold Rt.gs
  rcases Int.lt_or_gt_of_ne c0 with z | z
  · rw [if_neg (by omega), if_pos z]; omega
  · rw [if_pos z, if_neg (by omega)]; omega
theorem pure__law_lowest : ∀ (vs : List V) (H : Hp) (Q : VK) (E : XK), sp__law_lowest K mg vs H Q E → t__law_lowest P w K mg E { nx := fun _ H' => Q .non H', rt := Q } (start ["a", "b", "d", "c", "common"] vs) H := by
  rintro vs H Q E ⟨x, rfl, b0, c0, cb, q⟩
  show t__law_lowest P w K mg E _ [some (.int x.a), some (.int x.b), some (.int x.d), some (.int x.c), none] H
  unfold t__law_lowest
  obtain ⟨g0, ea, eb, ec, _, _⟩ := Rt.red_gs b0 c0
  have gb := Nat.lt_of_le_of_lt (Rt.gs_abs b0 c0) cb
  have fin : tRet (tTup (tCons (tOp rDivZ (tVar 0) (tVar 4)) (tCons (tOp rDivZ (tVar 1) (tVar 4)) (tCons (tVar 2) (tCons (tOp rDivZ (tVar 3) (tVar 4)) tNil))))) { nx := fun _ H' => Q .non H', rt := Q } [some (.int x.a), some (.int x.b), some (.int x.d), some (.int x.c), some (.int x.gs)] H := by
    have c : ∀ i, CDivZ i x.gs := fun i => cdivz g0 gb
    walk_at "st"
    refine k_I (c _) ?_
    walk_at "st"
    refine k_I (c _) ?_
    walk_at "st"
    refine k_I (c _) ?_
    walk_at "st"
    walk_at "nw"
    rename_i p np H' s e
    refine q H' p s ?_
    rw [e]
    have f1 : x.a.fdiv x.gs = x.red.a := (congrArg (fun z => Int.fdiv z x.gs) ea).trans (Int.mul_fdiv_cancel_left _ g0)
    have f2 : x.b.fdiv x.gs = x.red.b := (congrArg (fun z => Int.fdiv z x.gs) eb).trans (Int.mul_fdiv_cancel_left _ g0)
    have f3 : x.c.fdiv x.gs = x.red.c := (congrArg (fun z => Int.fdiv z x.gs) ec).trans (Int.mul_fdiv_cancel_left _ g0)
    rw [f1, f2, f3]
    unfold rtV
    rw [Rt.red_d]
  clear gb ea eb ec
  walk_at "st"
  refine ⟨_, _, rfl, ?_⟩
  walk_at "st"
  refine ⟨_, _, rfl, ?_⟩
  walk_at "st"
  have eg : (Int.gcd (Int.gcd x.a x.b : Int) x.c : Int) = g3 x.a x.b x.c := rfl
  rw [eg]
  have e := gs_eq c0
  refine k_ite (fun h => ?_) fun h => ?_
  · rw [if_pos h] at e
    walk_at "st1"
    refine k_I (cm_r (by omega) (by omega)) ?_
    rw [e]
    walk_at "st1"
    exact fin
  · rw [if_neg h] at e
    walk_at "st1"
    walk_at "st1"
    walk_at "st1"
    refine k_I (cm_r (by omega) (by omega)) ?_
    rw [e]
    walk_at "st1"
    exact fin
theorem red_low {x : Rt} (h : 0 < x.c) : x.red = x.low := by unfold Rt.red; rw [if_neg (by omega)]
/-! ### _law_root, _law_sign, _law_floor -/
def sp__law_root (K : PySem.W.Frag) (mg : Str → Option Value) : Sp := fun vs H Q _ => ∃ n : Int, vs = [.int n] ∧ 0 ≤ n ∧ n.natAbs < 2 ^ 1000 ∧ ∀ H', Same H H' → Q (.int (sq n)) H'
theorem len__law_root : ∀ vs H Q E, sp__law_root K mg vs H Q E → vs.length = 1 := fun _ _ _ _ ⟨_, e, _⟩ => by subst e; rfl
def t__law_root (P : PySem.Program) (w : PySem.World) (K : PySem.W.Frag) (mg : PySem.Str → Option PySem.Value) (E : XK) : TS :=
  (tSeq (tAsg (tTup (tCons (tC (.int 0)) (tCons (tC (.int 1)) tNil))) (gTup K 2 (gCons (gName 1) (gCons (gName 2) gNil))))
  (tSeq (tWhile (tTest (tOp rLeI (tOp rMulW (tVar 2) (tVar 2)) (tVar 0)))
  (tAsg (tOp rMulI (tC (.int 2)) (tVar 2)) (gName 2)))
  (tSeq (tWhile (tTest (tOp rGtI (tOp rSubI (tVar 2) (tVar 1)) (tC (.int 1))))
  (tSeq (tAsg (tOp rDivW (tOp rAddI (tVar 1) (tVar 2)) (tC (.int 2))) (gName 3))
  (tAsg (tIf (tTest (tOp rLeI (tOp rMulW (tVar 3) (tVar 3)) (tVar 0))) (tTup (tCons (tVar 3) (tCons (tVar 2) tNil))) (tTup (tCons (tVar 1) (tCons (tVar 3) tNil)))) (gTup K 2 (gCons (gName 1) (gCons (gName 2) gNil))))))
  (tRet (tVar 1)))))

theorem le_sq' {h : Int} (h0 : 0 ≤ h) : h ≤ h * h := by
  rcases Int.lt_or_le 0 h with z | z
  · have : h * 1 ≤ h * h := Int.mul_le_mul_of_nonneg_left (by omega) h0
    omega
  · have : h = 0 := by omega
    subst this
    decide
theorem pure__law_root : ∀ (vs : List V) (H : Hp) (Q : VK) (E : XK), sp__law_root K mg vs H Q E → t__law_root P w K mg E { nx := fun _ H' => Q .non H', rt := Q } (start ["number", "low", "high", "middle"] vs) H := by
  rintro vs H Q E ⟨n, rfl, n0, n1, q⟩
  show t__law_root P w K mg E _ [some (.int n), none, none, none] H
  unfold t__law_root
  walk_at "st"
  walk_at "nw"
  rename_i p np H1 s1 e1
  refine k_gtup (tup_of e1) rfl ?_
  walk_at "st"
  have nb : ∀ h : Int, 0 ≤ h → h ≤ 2 * n + 1 → h.natAbs < 2 ^ 1002 := fun h h0 h1 => by
    have : h.natAbs ≤ 2 * n.natAbs + 1 := by omega
    have e : (2 : Nat) ^ 1002 = 2 ^ 1000 * 4 := by rw [show 1002 = 1000 + 2 from rfl, Nat.pow_add]
    rw [e]
    generalize (2 : Nat) ^ 1000 = X at *
    omega
  refine ⟨fun m σ H' => ∃ h : Int, σ = [some (.int n), some (.int 0), some (.int h), none] ∧ H' = H1 ∧ 1 ≤ h ∧ h ≤ 2 * n + 1 ∧ m = (2 * n + 1 - h).toNat, ⟨_, 1, rfl, rfl, by omega, by omega, rfl⟩, ?_⟩
  rintro m σ H' ⟨h, rfl, rfl, h1, h2, rfl⟩
  walk_at "st"
  refine k_I (wide_mul (a := 1002) (b := 1002) (nb h (by omega) h2) (nb h (by omega) h2) (by decide) (by decide) (by decide)) ?_
  walk_at "st"
  refine k_ite (fun hh => ?_) fun hh => ?_
  · refine ⟨_, fun σ' H' z => z, ?_⟩
    walk_at "st"
    have := le_sq' (h := h) (by omega)
    exact ⟨_, by omega, 2 * h, rfl, rfl, by omega, by omega, rfl⟩
  · walk_at "st"
    refine ⟨fun m σ H' => ∃ (lo hi : Int) (y : Option V), σ = [some (.int n), some (.int lo), some (.int hi), y] ∧ Same H H' ∧ 0 ≤ lo ∧ lo < hi ∧ hi ≤ 2 * n + 1 ∧ lo * lo ≤ n ∧ n < hi * hi ∧ m = (hi - lo).toNat, ⟨_, 0, h, none, rfl, s1, by omega, by omega, h2, by omega, by omega, rfl⟩, ?_⟩
    rintro m σ H2 ⟨lo, hi, y, rfl, s2, l0, l1, l2, l3, l4, rfl⟩
    walk_at "st"
    refine k_ite (fun hd => ?_) fun hd => ?_
    · refine ⟨_, fun σ' H' z => z, ?_⟩
      walk_at "st"
      have m1 : lo < (lo + hi) / 2 := by omega
      have m2 : (lo + hi) / 2 < hi := by omega
      generalize (lo + hi) / 2 = mid at *
      have bm := nb mid (by omega) (by omega)
      refine k_I (wide_mul (a := 1002) (b := 1002) bm bm (by decide) (by decide) (by decide)) ?_
      walk_at "st"
      refine k_ite (fun hm => ?_) fun hm => ?_
      · walk_at "st"
        walk_at "nw"
        rename_i p3 _ H3 s3 e3
        refine k_gtup (tup_of e3) rfl ?_
        walk_at "st"
        exact ⟨_, by omega, mid, hi, _, rfl, s2.trans s3, by omega, by omega, by omega, hm, l4, rfl⟩
      · walk_at "st"
        walk_at "nw"
        rename_i p3 _ H3 s3 e3
        refine k_gtup (tup_of e3) rfl ?_
        walk_at "st"
        exact ⟨_, by omega, lo, mid, _, rfl, s2.trans s3, by omega, by omega, by omega, l3, by omega, rfl⟩
    · walk_at "st"
      have eh : hi = lo + 1 := by omega
      subst eh
      rw [sq_uniq l0 l3 l4] at q
      exact q _ s2
/-- s tells the sign of p x + q -/
def Sgn (x : Rt) (p q s : Int) : Prop := (0 < s ↔ x.P p q) ∧ (s < 0 ↔ x.P (-p) (-q))
def sp__law_sign (K : PySem.W.Frag) (mg : Str → Option Value) : Sp := fun vs H Q _ => ∃ (r : Addr) (x : Rt) (p q : Int), vs = [.ref r, .int p, .int q] ∧ SqT K H r (rtV x) ∧ x.Ok ∧ x.Sm ∧ p.natAbs < 2 ^ 4000 ∧ q.natAbs < 2 ^ 4000 ∧ ∀ s, Sgn x p q s → -1 ≤ s → s ≤ 1 → Q (.int s) H
theorem len__law_sign : ∀ vs H Q E, sp__law_sign K mg vs H Q E → vs.length = 3 := fun _ _ _ _ ⟨_, _, _, _, e, _⟩ => by subst e; rfl
def t__law_sign (P : PySem.Program) (w : PySem.World) (K : PySem.W.Frag) (mg : PySem.Str → Option PySem.Value) (E : XK) : TS :=
  (tSeq (tAsg (tVar 0) (gTup K 4 (gCons (gName 3) (gCons (gName 4) (gCons (gName 5) (gCons (gName 6) gNil))))))
  (tSeq (tPar 7 8 (tCons (tOp rAddI (tOp rMulI (tVar 1) (tVar 3)) (tOp rMulI (tVar 2) (tVar 6))) (tCons (tOp rMulI (tVar 1) (tVar 4)) tNil)))
  (tSeq (tIfS (tTest (tOp rEq (tVar 8) (tC (.int 0))))
  (tRet (tIf (tTest (tOp rGtI (tVar 7) (tC (.int 0)))) (tC (.int 1)) (tIf (tTest (tOp rLtI (tVar 7) (tC (.int 0)))) (tUn rNegI (tC (.int 1))) (tC (.int 0)))))
  tNext)
  (tSeq (tIfS (tTest (tOp rLtI (tOp rMulW (tVar 7) (tVar 7)) (tOp rMulI (tOp rMulW (tVar 8) (tVar 8)) (tVar 5))))
  (tRet (tIf (tTest (tOp rGtI (tVar 8) (tC (.int 0)))) (tC (.int 1)) (tUn rNegI (tC (.int 1)))))
  tNext)
  (tRet (tIf (tTest (tOp rGtI (tVar 7) (tC (.int 0)))) (tC (.int 1)) (tUn rNegI (tC (.int 1)))))))))

theorem sgn_of {x : Rt} {p q s : Int} (o : x.Ok) (h1 : 0 < s → x.P p q) (h2 : s < 0 → x.P (-p) (-q)) (h3 : s = 0 → p = 0 ∧ q = 0) : Sgn x p q s := by
  have C := o.cut
  refine ⟨⟨h1, fun h => ?_⟩, ⟨h2, fun h => ?_⟩⟩
  · rcases Int.lt_trichotomy s 0 with z | z | z
    · exact absurd (h2 z) (C.neg h)
    · obtain ⟨rfl, rfl⟩ := h3 z
      exact absurd h C.zero
    · exact z
  · rcases Int.lt_trichotomy s 0 with z | z | z
    · exact z
    · obtain ⟨rfl, rfl⟩ := h3 z
      exact absurd h C.zero
    · exact absurd h (C.neg (h1 z))
theorem pst_v {d u v : Int} (hd : 0 < d) (hv : 0 < v) (h : u * u < v * v * d) : Pst d u v := by
  unfold Pst
  rcases Int.lt_or_le u 0 with z | z
  · exact .inr (.inr (.inl ⟨z, hv, h⟩))
  · exact .inr (.inl ⟨z, hv⟩)
theorem pst_u {d u v : Int} (hd : Nsq d) (hu : 0 < u) (hv : v ≠ 0) (h : ¬ u * u < v * v * d) : Pst d u v := by
  unfold Pst
  rcases Int.lt_or_le v 0 with z | z
  · refine .inr (.inr (.inr ⟨hu, z, ?_⟩))
    rcases Int.lt_or_le (v * v * d) (u * u) with y | y
    · exact y
    · have e : u * u = v * v * d := by omega
      exact absurd (irr' hd e).2 hv
  · exact .inl ⟨hu, z⟩
theorem neg_sq (u : Int) : (-u) * (-u) = u * u := by grind
theorem pure__law_sign : ∀ (vs : List V) (H : Hp) (Q : VK) (E : XK), sp__law_sign K mg vs H Q E → t__law_sign P w K mg E { nx := fun _ H' => Q .non H', rt := Q } (start ["x", "p", "q", "a", "b", "d", "c", "one", "two"] vs) H := by
  rintro vs H Q E ⟨r, x, p, q, rfl, hr, ok, sm, hp, hq, k⟩
  show t__law_sign P w K mg E _ [some (.ref r), some (.int p), some (.int q), none, none, none, none, none, none] H
  unfold t__law_sign
  walk_at "st"
  refine k_gtup4 hr ?_
  have sb := sm.b
  have sc := sm.c
  have sa := sm.a
  have d1 := sm.d1
  have d2 := sm.d2
  walk_at "st"
  have b0 := ok.b
  have c0 := ok.c
  have dp := ok.d.pos
  have ew : (p * x.a).natAbs < 2 ^ (4000 + 62) := lt_pow_mul hp sa
  have ev : (q * x.c).natAbs < 2 ^ (4000 + 62) := lt_pow_mul hq sc
  have et : (p * x.b).natAbs < 2 ^ (4000 + 62) := lt_pow_mul hp sb
  have eo : (p * x.a + q * x.c).natAbs < 2 ^ 4100 := by
    have e : (2 : Nat) ^ 4100 = 2 ^ (4000 + 62) * 274877906944 := by rw [show 4100 = (4000 + 62) + 38 from rfl, Nat.pow_add]
    rw [e]
    generalize (2 : Nat) ^ (500 + 62) = X at *
    omega
  have e1 : -p * x.a + -q * x.c = -(p * x.a + q * x.c) := by grind
  have e2 : -p * x.b = -(p * x.b) := by grind
  have k' : ∀ s, (0 < s → Pst x.d (p * x.a + q * x.c) (p * x.b)) → (s < 0 → Pst x.d (-(p * x.a + q * x.c)) (-(p * x.b))) → (s = 0 → p = 0 ∧ q = 0) → -1 ≤ s → s ≤ 1 → Q (.int s) H := fun s h1 h2 h3 h4 h5 => k s (sgn_of ok h1 (fun z => by unfold Rt.P; rw [e1, e2]; exact h2 z) h3) h4 h5
  have z0 : p * x.b = 0 → p * x.a + q * x.c = 0 → p = 0 ∧ q = 0 := fun h1 h2 => by
    rcases Int.mul_eq_zero.mp h1 with h | h
    · rw [h, Int.zero_mul, Int.zero_add] at h2
      rcases Int.mul_eq_zero.mp h2 with y | y
      · exact ⟨h, y⟩
      · omega
    · exact absurd h b0
  clear k e1 e2 ew ev hp hq
  generalize p * x.a + q * x.c = u at *
  generalize p * x.b = v at *
  refine k_ite (fun hv => ?_) fun hv => ?_
  · subst hv
    walk_at "st"
    refine k_ite (fun hu => ?_) fun hu => ?_
    · walk_at "st"
      exact k' _ (fun _ => pos_pp (by omega) (by omega) (.inl hu)) (fun z => by omega) (fun z => by omega) (by decide) (by decide)
    · walk_at "st"
      refine k_ite (fun hu2 => ?_) fun hu2 => ?_
      · walk_at "st"
        exact k' _ (fun z => by omega) (fun _ => pos_pp (by omega) (by omega) (.inl (by omega))) (fun z => by omega) (by decide) (by decide)
      · walk_at "st"
        exact k' _ (fun z => by omega) (fun z => by omega) (fun _ => z0 rfl (by omega)) (by decide) (by decide)
  · walk_at "st"
    refine k_I (wide_mul (a := 4100) (b := 4100) eo eo (by decide) (by decide) (by decide)) ?_
    walk_at "st"
    refine k_I (wide_mul (a := 4062) (b := 4062) et et (by decide) (by decide) (by decide)) ?_
    walk_at "st"
    refine k_ite (fun hh => ?_) fun hh => ?_
    · walk_at "st"
      refine k_ite (fun hv2 => ?_) fun hv2 => ?_
      · walk_at "st"
        exact k' _ (fun _ => pst_v dp hv2 hh) (fun z => by omega) (fun z => by omega) (by decide) (by decide)
      · walk_at "st"
        exact k' _ (fun z => by omega) (fun _ => pst_v dp (by omega) (by rw [neg_sq, neg_sq]; exact hh)) (fun z => by omega) (by decide) (by decide)
    · walk_at "st"
      refine k_ite (fun hu => ?_) fun hu => ?_
      · walk_at "st"
        exact k' _ (fun _ => pst_u ok.d hu hv hh) (fun z => by omega) (fun z => by omega) (by decide) (by decide)
      · walk_at "st"
        refine k' _ (fun z => by omega) (fun _ => pst_u ok.d ?_ (by omega) (by rw [neg_sq, neg_sq]; exact hh)) (fun z => by omega) (by decide) (by decide)
        rcases Int.lt_or_le u 0 with z | z
        · omega
        · have e : u = 0 := by omega
          subst e
          exact absurd (Int.mul_pos (sq_pos' hv) dp) hh
def sp__law_floor (K : PySem.W.Frag) (mg : Str → Option Value) : Sp := fun vs H Q _ => ∃ (r : Addr) (x : Rt) (n : Int), vs = [.ref r, .int n] ∧ SqT K H r (rtV x) ∧ x.Ok ∧ x.Sm ∧ n.natAbs < 2 ^ 62 ∧ ∀ H', Same H H' → Q (.int (x.fl n)) H'
theorem len__law_floor : ∀ vs H Q E, sp__law_floor K mg vs H Q E → vs.length = 2 := fun _ _ _ _ ⟨_, _, _, e, _⟩ => by subst e; rfl
def t__law_floor (P : PySem.Program) (w : PySem.World) (K : PySem.W.Frag) (mg : PySem.Str → Option PySem.Value) (E : XK) : TS :=
  (tSeq (tAsg (tVar 0) (gTup K 4 (gCons (gName 2) (gCons (gName 3) (gCons (gName 4) (gCons (gName 5) gNil))))))
  (tSeq (tIfS (tTest (tOp rEq (tVar 1) (tC (.int 0))))
  (tRet (tC (.int 0)))
  tNext)
  (tSeq (tAsg (tCall (sp__law_root K mg) [] E (tCons (tOp rMulI (tOp rMulI (tOp rMulI (tOp rMulI (tVar 1) (tVar 1)) (tVar 3)) (tVar 3)) (tVar 4)) tNil)) (gName 6))
  (tRet (tOp rDivW (tOp rAddI (tOp rMulI (tVar 1) (tVar 2)) (tIf (tTest (tOp rGtI (tOp rMulI (tVar 1) (tVar 3)) (tC (.int 0)))) (tVar 6) (tOp rSubI (tUn rNegI (tVar 6)) (tC (.int 1))))) (tVar 5))))))

theorem pure__law_floor : ∀ (vs : List V) (H : Hp) (Q : VK) (E : XK), sp__law_floor K mg vs H Q E → t__law_floor P w K mg E { nx := fun _ H' => Q .non H', rt := Q } (start ["x", "n", "a", "b", "d", "c", "own"] vs) H := by
  rintro vs H Q E ⟨r, x, n, rfl, hr, ok, sm, hn, q⟩
  show t__law_floor P w K mg E _ [some (.ref r), some (.int n), none, none, none, none, none] H
  unfold t__law_floor
  walk_at "st"
  refine k_gtup4 hr ?_
  have sb := sm.b
  have sc := sm.c
  have sa := sm.a
  have d1 := sm.d1
  have d2 := sm.d2
  walk_at "st"
  unfold Rt.fl at q
  refine k_ite (fun h => ?_) fun h0 => ?_
  · rw [if_pos h] at q
    walk_at "st"
    exact q _ (Same.refl _)
  rw [if_neg h0] at q
  walk_at "st"
  have b1 : (n * n * x.b * x.b * x.d).natAbs < 2 ^ 1000 :=
    Nat.lt_of_lt_of_le (lt_pow_mul (b := 62) (lt_pow_mul (lt_pow_mul (lt_pow_mul hn hn) sb) sb) (by omega)) (Nat.pow_le_pow_right (by omega) (by omega))
  have b2 : 0 ≤ n * n * x.b * x.b * x.d := by
    have e : n * n * x.b * x.b * x.d = (n * x.b) * (n * x.b) * x.d := by grind
    rw [e]
    exact Int.mul_nonneg (sq_nn _) (by omega)
  refine ⟨_, rfl, b2, b1, fun H' s => ?_⟩
  walk_at "st"
  have oc := ok.c
  have e : x.fn n = (n * x.a + rtE (n * x.b) (sq (n * n * x.b * x.b * x.d))) / x.c := rfl
  rw [e] at q
  unfold rtE at q
  refine k_ite (fun h => ?_) fun h => ?_
  · rw [if_pos h] at q
    walk_at "st"
    exact q _ s
  · rw [if_neg h] at q
    walk_at "st"
    exact q _ s
end Fl
/-! FlH: while an exception is handled: the end of a list's walk, sum, a comprehension over a list, isinstance of the exception. -/
namespace Fl
open PySem L2 PySem.Spec PyProof.Rows HotX L2H
section
variable {prog : Program} {w : World} {A : Around} {E : Value → Shared → Prop} {s : Shared}
theorem nxt_end_hot {it l x1 : Addr} {i : Nat} {items : Array Value} {Q : Option Value → Shared → Prop} (hot : HotAt A x1 s.heap) (hx1 : x1 ≠ it) (hit : s.heap.IsListIter it l i) (hl : s.heap.IsList l items) (hx : items[i]? = none)
    (hQ : ∀ h', (∀ b o, b ≠ it → s.heap.get? b = some o → h'.get? b = some o) → Q none { s with heap := h' }) : wpAny (model prog w) A (pyNext (.ref it)) Q E s := by
  obtain ⟨hh, o1, vs1, h1, d1, c1⟩ := hot
  obtain ⟨o, ho, hc, hd⟩ := id hit
  obtain ⟨ol, hol, _, nl, hdl⟩ := hl
  unfold pyNext
  refine wpAny_bind (wpAny_attempt (wpAny_callSpecial?_slot (name := Str.ofString "__next__") hit.typeIs slot_listiter_next (wpAny_call_entry slot_listiter_next hit.typeIs entry_listiter_next ?_ (args_listiter_next _))))
  show wpAny _ _ (field (.ref it) 0 >>= _) _ _ s
  refine wpAny_bind (wpAny_field ho hd (x := .ref l) rfl ?_)
  show wpAny _ _ (if (Value.ref l == Value.none) = true then _ else _) _ _ s
  rw [if_neg (show ¬ ((Value.ref l == Value.none) = true) from Bool.false_ne_true)]
  show wpAny _ _ (field (.ref it) 1 >>= _) _ _ s
  refine wpAny_bind (wpAny_field ho hd (x := .int i 0) rfl ?_)
  show wpAny _ _ (seqItems? (.ref l) >>= _) _ _ s
  refine wpAny_bind (wpAny_seqItems hol hdl ?_)
  simp only [Int.toNat_natCast, hx]
  refine wpAny_bind (wpAny_rule (wpAny_bind (wpAny_setField ho hd (by simp) ?_)))
  show wpAny _ _ (newExc (.type "StopIteration") [] >>= _) _ _ _
  refine wpAny_bind ?_
  simp only [newExc, newTuple]
  refine wpAny_bind (wpAny_newObj_type ?_ (by size_fits))
  refine wpAny_bind (m := firstArgMember _ _) (wpAny_of_eq (a := Value.none) (by first | rfl | (simp only [firstArgMember]; rfl)) ?_)
  refine wpAny_newObj_type ?_ (by size_fits)
  have k1 : ∀ b o', b ≠ it → s.heap.get? b = some o' → (s.heap.update it (Obj.mapFields (·.setIfInBounds 0 .none))).get? b = some o' := fun b o' n e => by
    rw [Heap.get?_update_other _ _ (fun z => n z.symm)]
    exact e
  have h1' := k1 _ _ hx1 h1
  refine raiseNew_hot ⟨hh, o1, vs1, Heap.get?_push_of_some _ (Heap.get?_push_of_some _ h1'), d1, c1⟩ (Nat.ne_of_lt (Heap.lt_size (Heap.get?_push_of_some _ h1'))) (Heap.get?_push_size _ rfl) rfl (by first | (simp; done) | (simp; omega) | (simp only [Array.size_append]; simp; omega)) ?_
  refine wpAny_bind (wpAny_isInstance (T := "StopIteration") (b := true) ⟨_, Heap.get?_update_self _ (Heap.get?_push_size _ rfl) rfl, rfl⟩ isSubtype_stop ?_)
  refine wpAny_pure (hQ _ fun b o' n e => ?_)
  have e' := k1 b o' n e
  rw [Heap.get?_update_other _ _ (Nat.ne_of_gt (Heap.lt_size (Heap.get?_push_of_some _ e')))]
  exact Heap.get?_push_of_some _ (Heap.get?_push_of_some _ e')
end

/-! ### sum -/
theorem walks_hot {prog : Program} {w : World} {A : Around} (x1 : Addr) (I ax : Addr) (hne : ax ≠ I) (hx : x1 ≠ I) (items : Array Value) :
    Walks prog w A I [I, ax, x1] [I] items.size (fun i v => items[i]? = some v) (fun i h => h.IsListIter I ax i ∧ h.IsList ax items ∧ HotAt A x1 h) where
  sub := fun b hb => by simp at hb; simp [hb]
  frame := fun _ _ _ st hk => ⟨st.1.at fun o e => hk I (by simp) o e, st.2.1.at fun o e => hk ax (by simp) o e, by
    obtain ⟨a, o, vs, b, c, d⟩ := st.2.2
    exact ⟨a, o, vs, hk x1 (by simp) o b, c, d⟩⟩
  item := fun i s Q E hi st hQ => by
    refine wpAny_pyNext_list_item st.1 st.2.1 (x := items[i]) (by simp [hi]) fun h' hit' hs' => ?_
    obtain ⟨a, o, vs, b, c, d⟩ := st.2.2
    exact hQ _ h' s.toks (by simp [hi]) ⟨hit', st.2.1.extBut hs'.extBut hne, a, o, vs, hs'.extBut _ _ hx b, c, d⟩ fun b o hb e => hs'.extBut b o (fun h => hb (by simp [h])) e
  done := fun s Q E st hQ => nxt_end_hot st.2.2 hx st.1 st.2.1 (by simp) fun h' he' => hQ h' s.toks fun b o hb e => he' b o (fun h => hb (by simp [h])) e
  self := fun _ _ _ _ st hQ => wpAny_pyIter_listiter st.1 hQ
section
variable {prog : Program} {w : World} {A : Around} {E : Value → Shared → Prop} {s : Shared} {l : Addr} {its : List Value} {ns : List Int} {Q : Value → Shared → Prop}
theorem sum_hot {x1 : Addr} (hot : HotAt A x1 s.heap) (hl : s.heap.IsList l its.toArray) (hi : IntsAre its ns)
    (h : ∀ h' tk t', (∀ b o, s.heap.get? b = some o → h'.get? b = some o) → Q (.int ns.sum t') { s with heap := h', toks := tk }) : wpAny (model prog w) A (call (.builtin "sum") [.ref l]) Q E s := by
  obtain ⟨xs, e⟩ := hi.allInts.items
  have hn : numsOf (intItems xs).toList = ns := by rw [← e]; exact hi.numsOf
  rw [nums_intItems] at hn
  rw [e] at hl
  have hx : x1 < s.heap.objs.size := by obtain ⟨_, o, _, ho, _⟩ := hot; exact Heap.lt_size ho
  refine call_sum_walkG (iter_intList hl fun s2 e2 st hfp hlI => ?_)
  subst e2
  refine ⟨_, _, _, _, _, _, numAt xs, rfl, walks_hot (A := A.in1) x1 _ l hlI (Nat.ne_of_lt hx) (intItems xs), ⟨st.1, st.2, ?_⟩, fun b hb => ?_, (fun _ _ => intItems_at), fun h' tk t' hk => ?_⟩
  · obtain ⟨a, o, vs, b, c, d⟩ := hot
    exact ⟨a, o, vs, Heap.get?_push_of_some _ b, c, d⟩
  · rcases List.mem_cons.mp hb with rfl | hb
    · exact hfp _ (by simp)
    · rcases List.mem_cons.mp hb with rfl | hb
      · exact hfp _ (by simp)
      · have : b = x1 := by simpa using hb
        subst this
        show b < (s.heap.push _).objs.size
        rw [Heap.size_push]
        exact Nat.lt_succ_of_lt hx
  · have := h h' tk t' (old_kept hk)
    rw [show (intItems xs).size = xs.size by simp [intItems], preSum_eq, List.take_of_length_le (by simp), hn]
    exact this
end
theorem cr_sumH {X : Cx} (hc : HotC X) : CallR X (.builtin "sum") (rSum X.K) := by
  intro pins s σ H vs us Q I r h
  obtain ⟨a, ns, rfl, hs, q⟩ := h
  obtain ⟨its, rv, hl, _⟩ := I.list hs
  obtain ⟨x1, hot⟩ := hc.at I
  rw [Vals.ref1 r]
  exact sum_hot hot hl.isList rv.ints fun h' tk t' hk => ⟨.int _, H, I.kept hk, ⟨_, rfl⟩, q⟩
/-! ### a list walked -/
theorem turn_listH {P : Program} {w : World} {K : PySem.W.Frag} {tg : PySem.Expr} (a it : Addr) : TurnH P w K tg (Itl K a) [it] it (fun i h => h.IsListIter it a i) where
  mem := by simp
  obj := fun i h st b hb => by
    have e : b = it := by simpa using hb
    subst e
    obtain ⟨o, e, c, d⟩ := st
    exact ⟨o, e, fun v z => by rw [d] at z; cases z⟩
  keep := fun i h h' st k => st.at fun o e => k it (by simp) o e
  item := by
    intro X hP hw hK hc i pins s σ H E I hf st hg
    subst hP hw hK
    obtain ⟨xs, x, hq, hx⟩ := hg
    obtain ⟨its, rv, p, hz⟩ := I.list hq
    obtain ⟨u, hu, ru⟩ := rv.get hx
    obtain ⟨f0, f1, f2, f3, f4, f5⟩ := hf it (by simp)
    refine wpAny_pyNext_list_item st p.isList (x := u) (by simpa using hu) fun h' st' sb => ?_
    have I1 : Inv X pins σ H { s with heap := h' } := I.turned (t' := s.toks) (fun b o hb e => (sb.2 b hb).trans e) f0 f1 f3 f4 f5
    obtain ⟨o, e, c, d⟩ := id st'
    exact ⟨u, rfl, go_of (s := { s with heap := h' }) e c d (by decide) ⟨x, H, I1, ru, ⟨rfl, fun ys hy => by rw [I.list_inj hy hq]; exact hx⟩, st', fun b hb => (hf b hb).1⟩⟩
  done := by
    intro X hP hw hK hc i pins s σ H E I hf st hg
    subst hP hw hK
    obtain ⟨xs, hq, hx⟩ := hg
    obtain ⟨its, rv, p, hz⟩ := I.list hq
    obtain ⟨f0, f1, f2, f3, f4, f5⟩ := hf it (by simp)
    have hl := rv.length
    obtain ⟨pp, ⟨hh, v1, e1, c1⟩, hpp⟩ := hc
    have hm := List.mem_append_left pins hpp
    exact nxt_end_hot (x1 := pp.1) ⟨hh, pp.2, v1, (I.pin pp hm).1, e1, c1⟩ (f5 pp hm) st p.isList (by simp; omega) fun h' eb => ⟨rfl, I.turned (t' := s.toks) (fun b o hb e => eb b o hb e) f0 f1 f3 f4 f5⟩
  self := fun _ _ _ _ _ st h => wpAny_pyIter_listiter st h
theorem pi_listH {X : Cx} {tg l : PySem.Expr} {tl : TE} (hl : PE X l tl) : PIH X tg l (iList X.K tl) := by
  refine ⟨fun pins s σ H R I h => ?_⟩
  refine thn (hl.run pins s σ H _ I h) fun v s1 ⟨x, H1, I1, r1, q1⟩ => ?_
  obtain ⟨a, e, ⟨xs, hq⟩, q⟩ := q1
  subst e
  cases r1
  obtain ⟨its, rv, p, hz⟩ := I1.list hq
  refine wpAny_pyIter_list p.isList ⟨s1.heap.objs.size, [s1.heap.objs.size], _, _, H1, rfl, I1.kept (t' := s1.toks) fun b o e => Heap.get?_push_of_some _ e, turn_listH a _, ⟨_, Heap.get?_push_size _ rfl, rfl, rfl⟩, fun b hb => ?_, q⟩
  have e : b = s1.heap.objs.size := by simpa using hb
  subst e
  exact I1.fpOk (Nat.le_refl _) (I1.hok.fresh (Nat.le_refl _))

/-! ### a comprehension -/
/-- the block's context that bears the handled exception -/
abbrev blkH (X : Cx) (s : Shared) (H : Hp) (scope : Scope) (cenv : Env) (fp : List Addr) : Cx := { X.blk s H scope cenv fp with pn := X.pn }
section
variable {X : Cx}
theorem pe_lcH {elt tg iter : PySem.Expr} {scope : Scope} {own : List (Str × Nat)} {pos : Pos} {wi : TI} {g : TG} {te : TE} (hc : HotC X) (hN : X.N.Nodup) (hi : PIH X tg iter wi) (ok : BlkOk X.N X.env.scope scope own)
    (hg : ∀ (s : Shared) (H : Hp) (C : Addr) (cl : List (Str × Addr)) (fp : List Addr), PG (blkH X s H scope (compEnvC scope cl C X.env) fp) tg g)
    (he : ∀ (s : Shared) (H : Hp) (C : Addr) (cl : List (Str × Addr)) (fp : List Addr), PE (blkH X s H scope (compEnvC scope cl C X.env) fp) elt te) (hs : ∀ x, foldedSetIterable iter X.env x = pure x := by intro _; rfl) :
    PE X (.ListComp elt [⟨tg, iter, [], 0⟩] scope pos) (tLc wi g tYes te (own.map (·.2))) := by
  refine ⟨fun pins s σ H Q I h => ?_⟩
  rw [eval_ListComp]
  have hfree : ∀ y ∈ scope.names, y.2 = .free → ∃ c, X.env.cells.lookup y.1 = some c := fun y hy e => (ok.free y hy e).elim (fun k => I.ok.has _ (.inl k)) fun k => I.ok.has _ (.inr k)
  refine wpAny_comprehension_free (use := none) rfl hs (closure_ok hfree) ok.kind (fun y hy e => by rw [ok.uniq y hy, e]) (thn (hi.run pins s σ H _ I h) fun xv s1 hx => thn hx fun itv s2 h2 => ?_)
  obtain ⟨it, fp, tn, J, H2, e, I2, T, st2, f2, q⟩ := h2
  subst e
  refine wpAny_newObj_type (newEnv_comp ?_) (by show 0 ≤ sizeLine; decide)
  generalize hD : s2.heap.objs.size = D
  have hDn : H2 D = none := I2.hok.fresh (Nat.le_of_eq hD)
  obtain ⟨W, ⟨m0, w0⟩, turn⟩ := q D hDn
  generalize hs3 : ({ s2 with heap := s2.heap.push { cls := .type "list", data := .seq ([] : List Value).toArray } } : Shared) = s3
  have h3 : s3.heap = s2.heap.push { cls := .type "list", data := .seq ([] : List Value).toArray } := by rw [← hs3]
  have I3 : Inv X pins σ (upd H2 D (.lst [])) s3 := by
    rw [← hs3]
    refine I2.laid (t' := s2.toks) (fun b o e => Heap.get?_push_of_some _ e) (Nat.le_of_eq hD) ⟨Nat.zero_le _, [], 0, .nil, ?_⟩
    rw [← hD]
    exact Heap.get?_push_size _ rfl
  have sz : ∀ b ∈ fp, b < s2.heap.objs.size := fun b hb => by
    obtain ⟨o, e, _⟩ := T.obj _ _ st2 b hb
    exact Heap.lt_size e
  have f3 : ∀ b ∈ fp, FpOk X pins (upd H2 D (.lst [])) b ∧ b < s3.heap.objs.size := fun b hb => by
    refine ⟨⟨?_, (f2 b hb).2⟩, by rw [h3, Heap.size_push]; exact Nat.lt_succ_of_lt (sz b hb)⟩
    rw [upd_ne (by rw [← hD]; exact Nat.ne_of_lt (sz b hb))]
    exact (f2 b hb).1
  have st3 : tn 0 s3.heap := T.keep _ _ _ st2 fun b _ o e => by rw [h3]; exact Heap.get?_push_of_some _ e
  have I4a := block_start I3 ok hN f3
  have pg := hg s3 (upd H2 D (.lst [])) s3.heap.objs.size (cellsFrom (s3.heap.objs.size + 1) scope.names (cloFrom X.env.cells scope.names [])) fp
  have pe := he s3 (upd H2 D (.lst [])) s3.heap.objs.size (cellsFrom (s3.heap.objs.size + 1) scope.names (cloFrom X.env.cells scope.names [])) fp
  show codeAny _ _ (.compStart (.ListComp elt [⟨tg, iter, [], 0⟩] scope pos) 0 (.ref it) (.ref D) (compEnvC scope (cellsFrom (s3.heap.objs.size + 1) scope.names (cloFrom X.env.cells scope.names [])) s3.heap.objs.size X.env)) (compPost (model X.prog X.w) X.A X.xe none _ (.ref D) s3.heap.objs.size) { s3 with heap := pushCells (s3.heap.push { cls := .type "dict", data := .dict #[] }) scope.names }
  have nfp : ∀ b ∈ fp, (upd H2 D (.lst [])) b = none := fun b hb => (f3 b hb).1.1
  generalize hce : compEnvC scope (cellsFrom (s3.heap.objs.size + 1) scope.names (cloFrom X.env.cells scope.names [])) s3.heap.objs.size X.env = ce at I4a pg pe ⊢
  have cL : ce.locals = s3.heap.objs.size := by subst hce; rfl
  generalize hH3 : upd H2 D (.lst []) = H3 at I3 I4a pg pe w0 nfp f3
  generalize hs4 : ({ s3 with heap := pushCells (s3.heap.push { cls := .type "dict", data := .dict #[] }) scope.names } : Shared) = s4 at I4a ⊢
  have k34 : ∀ b o, s3.heap.get? b = some o → s4.heap.get? b = some o := fun b o e => by rw [← hs4]; exact pushCells_keeps _ _ _ _ (Heap.get?_push_of_some _ e)
  -- the block's context bears the exception
  have I4 : Inv (blkH X s3 H3 scope ce fp) [] (wipe σ (own.map (·.2))) H3 s4 := by
    refine ⟨⟨I4a.ok.mod, I4a.ok.kind, I4a.ok.glob, I4a.ok.blt, I4a.ok.above, I4a.ok.inj, I4a.ok.has, I4a.ok.cab, I4a.ok.hd, I4a.ok.frames, I4a.ok.stk, I4a.ok.exf, I4a.ok.bs, I4a.ok.bsz, I4a.ok.noex, I4a.ok.exfs, I4a.ok.funs, I4a.ok.frf⟩, I4a.os, I4a.bare, I4a.base, I4a.loc, I4a.cell, I4a.free, I4a.freeC, fun p hp => ?_, I4a.hok, I4a.len⟩
    have hp' : p ∈ X.pn := by simpa using (show p ∈ X.pn ++ [] from hp)
    obtain ⟨a1, a2, a3, a4, a5⟩ := I3.pin p (List.mem_append_left _ hp')
    refine ⟨k34 _ _ a1, a2, ?_, fun hm => ?_, a5⟩
    · show p.1 ≠ ce.locals
      rw [cL]
      exact Nat.ne_of_lt (Heap.lt_size a1)
    · rcases List.mem_cons.mp (I3.stkSub p.1 hm) with z | z
      · exact a3 z
      · exact a4 z
  have hcB : HotC (blkH X s3 H3 scope ce fp) := hc
  have st4 : tn 0 s4.heap := T.keep _ _ _ st3 fun b _ o e => k34 b o e
  have pnf : ∀ p ∈ X.pn, ∀ b ∈ fp, p.1 ≠ b := fun p hp b hb => (f3 b hb).1.2.2.2.2.2 p (List.mem_append_left _ hp)
  have stat : ∀ {σ' : L2.St} {H' : Hp} {s' : Shared}, Inv (blkH X s3 H3 scope ce fp) [] σ' H' s' → (∀ b ∈ fp, H' b = none) → ∀ b ∈ fp, FpOk (blkH X s3 H3 scope ce fp) [] H' b := fun {σ' H' s'} I' hn b hb =>
    ⟨hn b hb, (I'.ok.exf b hb).1, I'.ok.exfs b hb, .inl hb, fun x c e => (I'.ok.exf b hb).2 x c e, fun p hp => pnf p (by simpa using (show p ∈ X.pn ++ [] from hp)) b hb⟩
  have loop : codeAny (model X.prog X.w) X.A (.compLoop (.ListComp elt [⟨tg, iter, [], 0⟩] scope pos) 0 (.ref it) (.ref D) ce) (compPost (model X.prog X.w) X.A X.xe none (EP X pins σ Q) (.ref D) s3.heap.objs.size) s4 := by
    refine compLoop_any (fun n s' => ∃ i H', Inv (blkH X s3 H3 scope ce fp) [] (wipe σ (own.map (·.2))) H' s' ∧ tn i s'.heap ∧ (∀ b ∈ fp, H' b = none) ∧ W i n H') ?_ m0 ⟨0, H3, I4, st4, nfp, w0⟩
    rintro n s5 ⟨i, H5, I5, st5, n5, w5⟩
    rcases turn i n H5 w5 with ⟨stop, qq⟩ | ⟨go, Nx, hNx, step⟩
    · refine thnF (T.done (blkH X s3 H3 scope ce fp) rfl rfl rfl hcB i [] s5 _ H5 (fun _ _ => False) I5 (stat I5 n5) st5 stop) fun r s6 ⟨hr, I6⟩ => ?_
      subst hr
      have I7 : Inv X pins σ H5 s6 := I3.call' (ch := fp) I6.os I6.base I6.hok I6.bare fun b hb => ⟨(f3 b hb).1.2.2.2.1, (f3 b hb).1.2.1, (f3 b hb).1.2.2.2.2.1, (f3 b hb).1.2.2.2.2.2⟩
      have nC : H5 s3.heap.objs.size = none := by
        have z : H5 ce.locals = none := I6.free
        rwa [cL] at z
      obtain ⟨m, hn, _⟩ := I6.loc
      have hn : s6.heap.Ns ce.locals m := hn
      rw [cL] at hn
      obtain ⟨g0, g1, g2, g3, g4, g5⟩ := I3.fpOk (Nat.le_refl _) nC
      exact ⟨m, hn, fun h'' sb => ⟨.ref D, H5, I7.turned (t' := s6.toks) (fun b o hb e => (sb.2 b hb).trans e) g0 g1 g3 g4 g5, rfl, qq⟩⟩
    · refine thnF (T.item (blkH X s3 H3 scope ce fp) rfl rfl rfl hcB i [] s5 _ H5 (fun _ _ => False) I5 (stat I5 n5) st5 go) fun r s6 ⟨u, hr, h6⟩ => ?_
      subst hr
      refine thnF h6 fun _ s7 ⟨x, H7, I7, r7, y7, st7, n7⟩ => ?_
      have I7' := I7.pinned (stat I7 n7) (T.obj _ _ st7)
      refine thnF (pg.run _ s7 _ H7 x u _ I7' r7 (step x H7 y7)) fun _ s8 ⟨σ8, H8, I8, hw8, q8⟩ => ?_
      refine wpAny_tests_nil ?_
      have fin : ∀ {s' : Shared} {H' : Hp}, Inv (blkH X s3 H3 scope ce fp) ([] ++ pinsAt fp s7.heap) σ8 H' s' → Nx H' → ∃ m, m < n ∧ ∃ i H', Inv (blkH X s3 H3 scope ce fp) [] (wipe σ (own.map (·.2))) H' s' ∧ tn i s'.heap ∧ (∀ b ∈ fp, H' b = none) ∧ W i m H' := fun {s' H'} I' nx => by
        obtain ⟨m', hm, w'⟩ := hNx H' nx
        have pin' : ∀ b ∈ fp, ∀ o, s7.heap.get? b = some o → s'.heap.get? b = some o ∧ H' b = none := fun b hb o e =>
          let z := I'.pin (b, o) (List.mem_append_right _ (List.mem_append_right _ (mem_pinsAt hb e)))
          ⟨z.1, z.2.1⟩
        have hl : (wipe σ (own.map (·.2))).length = σ8.length := by rw [← hw8, wipe_length]
        refine ⟨m', hm, i + 1, H', (I'.unpinned (pins := [])).weak hl (fun j v e => ?_), T.keep _ _ _ st7 fun b hb o e => (pin' b hb o e).1, fun b hb => ?_, w'⟩
        · rw [← hw8] at e
          exact (wipe_some e).1
        · obtain ⟨o, e, _⟩ := T.obj _ _ st7 b hb
          exact (pin' b hb o e).2
      have q9 : te σ8 H8 fun y H4 => ∃ acc, H4 D = some (.lst acc) ∧ acc.length < sizeLine ∧ Nx (upd H4 D (.lst (acc ++ [y]))) := by
        have z : (if true = true then te σ8 H8 fun y H4 => ∃ acc, H4 D = some (.lst acc) ∧ acc.length < sizeLine ∧ Nx (upd H4 D (.lst (acc ++ [y]))) else Nx H8) := q8
        rwa [if_pos rfl] at z
      simp only [if_true]
      refine thnF (pe.run _ s8 σ8 H8 _ I8 q9) fun z s10 ⟨yv, H10, I10, r10, acc, hD10, hz10, nx⟩ => ?_
      exact app_ok (X := blkH X s3 H3 scope ce fp) I10 hD10 hz10 r10 fun s11 I11 => fin I11 nx
  exact codeAny_compStart_list loop (T.self X.A 0 _ _ _ st4 loop)
end
end Fl
/-! FlT: _law_term and _law_told: what a call of the program tells, or the kind of its exception. -/
namespace Fl
open PySem L2 PySem.Spec PyProof.Rows HotX L2H LamX
local macro_rules | `(tactic| walk_at "sc") => `(tactic| first
  | exact cm_l (by omega) (by omega) | exact cm_r (by omega) (by omega)
  | exact wide_div (b := 250) (by omega) (by omega) (by decide) (by decide)
  | omega | exact cpow (by omega) (by omega) (by omega))
local macro_rules | `(tactic| walk_at "st1") => `(tactic| with_reducible first
  | apply k_seq | apply k_next | apply k_asg | apply k_ret | apply k_drop | apply k_ifS | apply k_par | apply k_par2 | apply k_par3 | apply k_par33
  | (refine k_var rfl ?_) | apply k_c | apply k_op | apply k_un | apply k_I0 | apply k_p18 | apply k_p15 | apply k_p12 | apply k_p9 | apply k_p7 | apply k_p6 | apply k_p5
  | (refine k_I ?_ ?_; (focus walk_at "sc")) | apply k_U
  | apply k_eqI | apply k_neI | apply k_eqB | apply k_neB | apply k_isN | apply k_ntN
  | apply k_test | apply k_tB | apply k_bl | apply k_and | apply k_or | apply k_not | apply k_andV | apply k_orV | apply k_notV | apply k_if | apply k_chain
  | apply k_cb | apply k_call | apply k_nil | apply k_cons | apply k_tup | apply k_lst | apply k_abs | apply k_max2 | apply k_min2 | apply k_iteT | apply k_iteF | apply k_iteNT | apply k_iteNF | apply k_gsub | apply k_yes | apply k_lc | apply k_for | apply k_rng1 | apply k_rng2 | apply k_iList | apply k_iTup | apply k_bm
  | apply k_n0 | apply k_n1 | apply k_n2 | apply k_n3 | apply k_n4 | apply k_n5 | apply k_n6 | apply k_n7 | apply k_n8 | apply k_n9 | apply k_n10 | apply k_n11)
local macro_rules | `(tactic| walk_at "st") => `(tactic| repeat walk_at "st1")
/-! ### the nine classes -/
def nine : List Str := ["InvalidNumber", "InvalidCount", "InvalidNumeral", "InvalidRule", "InvalidHeap", "InvalidText", "Unlike", "NoPlace", "NothingToUndo"]
/-- what is known of a class whose exceptions are met -/
structure Xt (K : PySem.W.Frag) (mg : Str → Option Value) (x : Str) : Prop where
  ex : ∃ D : Addr, mg x = some (.ref D) ∧ ExcC K D ∧ (∀ y ∈ nine, ∃ C : Addr, mg y = some (.ref C) ∧ PySem.W.kitOne K (.ref D) (.ref C) = some (decide (y = x))) ∧ PySem.W.kitOne K (.ref D) (.type "ValueError") = some true ∧
    ∃ R : Addr, mg "RowError" = some (.ref R) ∧ PySem.W.exmOne K (.ref D) (.ref R) = some true
theorem call_isP {X : Cx} {a D : Addr} {oe : Obj} (hp : (a, oe) ∈ X.pn) (C : ExcC X.K D) (hz : Zc (.ref D) none oe) (hf : ∃ vs, oe.data = .fields vs) : CallR X (.builtin "isinstance") (rIsE X.K D a) := by
  intro pins s σ H xs us Q I r h
  obtain ⟨c, cv, b, rfl, hcv, e, q⟩ := h
  cases r with
  | cons rx rr =>
    cases rr with
    | cons rt rr =>
      cases rr
      cases rx
      have ec := hcv _ rt
      subst ec
      obtain ⟨hget, _⟩ := I.pin (a, oe) (List.mem_append_left _ hp)
      obtain ⟨vs, hv⟩ := hf
      have J : PySem.W.InstAt s.heap a oe D none := by
        obtain ⟨oc, od, oda, osl⟩ := oe
        obtain ⟨h1, h2⟩ := hz
        dsimp only at h1 h2 hv
        subst h1 h2 hv
        exact ⟨hget, rfl, rfl, trivial⟩
      exact PySem.W.kia_one (PySem.W.handS_kitx_exc C.hg C.hk C.hs C.hd C.ha C.hn C.ht C.hm) I.kIn J e (fun z => nomatch z) fun tk => ⟨.bl b, H, I.kept (t' := tk) fun _ _ z => z, rfl, q⟩
/-! ### a def run while an exception is handled, its promise told of the very state -/
theorem run_hot {CX : CXT} {P : Program} {w : World} {K : PySem.W.Frag} {mg : Str → Option Value} {base : Heap} {k : Nat} {f : Addr} {name qual : Str} {params : Arguments} {body : List Stmt} {scope : Scope} {dV kV doc pm cdv ct oc : Value} {an od : Option Addr}
    {osl : Array (Option Value)} {N ps : List Str} (lk : K.lookup f = some ⟨oc, od, .func (PySem.W.fnOf name qual params body scope dV kV doc pm an cdv ct), osl⟩) (hcd : PySem.W.codeIn K cdv qual = true) (S : FnScope N ps scope)
    {A : Around} {outer : List Env} {s : Shared} {H : Hp} {args : Args} {us : List Value} {vs : List V} {Q : VK} {E : XK} {p : Addr × Obj} (hr : RoomH (k + 1) A) (hpin : PinOk outer H s p) (e0 : Env0 P w K mg base A outer s H)
    (hb : BindsTo s (PySem.W.fnOf name qual params body scope dV kV doc pm an cdv ct) args (ps.zip us)) (r : Vals vs us) (hl : vs.length = ps.length)
    (hbody : RoomH k (A.deeper (envOfC qual scope s.heap.objs.size f cdv)) → ∃ t, PSs (cxH CX P w K mg base N qual scope f cdv A outer s H E p) body t ∧ t { nx := fun _ H' => Q .non H', rt := Q } (L2.start N vs) H) :
    codeAny (model P w) A (.call (.ref f) args) (CR CX outer P w H s Q E) s := by
  have KX : K.In s.heap := e0.mod.kin.keeps fun b o e => (e0.bs b o e).1
  have lim : s.heap.NoLimit := e0.mod.nolimit.keeps fun b o e => (e0.bs b o e).1
  refine codeAny_call_function hr.depth (KX _ _ lk) rfl S.co S.gen rfl (PySem.W.codeRec_of KX hcd) (hb _ _ _ _ ?_)
  refine wpAny_newFunctionEnv_cells S.kind (fun ⟨n, v⟩ hy => (S.par n (List.of_mem_zip hy).1).elim (fun q => .inl q) fun q => .inr ⟨q, PySem.W.cellsFrom_some _ _ _ (.inl q)⟩) fun env he s1 x => ?_
  subst he
  refine ⟨lim.keeps x.toInCall.keep, codeAny_func ?_⟩
  obtain ⟨t, ht, hq⟩ := hbody (hr.deeper _)
  have I : Inv (cxH CX P w K mg base N qual scope f cdv A outer s H E p) [] (L2.start N vs) H s1 := inv_startH S hpin e0 hl r x
  refine wpAny_mono (ht.run [] s1 (L2.start N vs) H _ I hq) (fun fl s' hs => ?_) fun e s' hs => hs
  cases fl with
  | ret u =>
    obtain ⟨v, σ', H', J, rv, q⟩ := hs
    exact ⟨v, H', J.os, J.bare, J.base, J.hok, rv, q⟩
  | next =>
    obtain ⟨σ', H', J, q⟩ := hs
    exact ⟨V.non, H', J.os, J.bare, J.base, J.hok, rfl, q⟩
  | brk => exact hs.elim fun _ z => z.elim fun _ z => z.2.elim
  | cont => exact hs.elim fun _ z => z.elim fun _ z => z.2.elim

theorem pe_cv {X : Cx} {x : Str} {pos : Pos} (h : ∃ C : Addr, X.mg x = some (.ref C)) (hg : Gl X x := by rfl) (hd : (x == ("__debug__" : Str)) = false := by decide) : PE X (.Name x pos) (tC (cV X.mg x)) := by
  obtain ⟨C, e⟩ := h
  have ec : cV X.mg x = .ref C := by unfold cV; rw [e]
  rw [ec]
  exact pe_glob hg e rfl hd
abbrev rInt1 : List V → Hp → VK → Prop := fun xs H Q => (∃ i, xs = [.int i] ∧ Q (.int i) H) ∨ ∃ k, xs = [.bl k] ∧ Q (.int (if k then 1 else 0)) H
/-! ### _law_term -/
def t__law_term (K : PySem.W.Frag) (mg : PySem.Str → Option PySem.Value) (D a : Addr) : TS :=
  (tSeq (tAsg (tLst (tCons (tCB (rIsE K D a) (tCons (tVar 0) (tCons (tC (cV mg "InvalidNumber")) tNil))) (tCons (tCB (rIsE K D a) (tCons (tVar 0) (tCons (tC (cV mg "InvalidCount")) tNil))) (tCons (tCB (rIsE K D a) (tCons (tVar 0) (tCons (tC (cV mg "InvalidNumeral")) tNil))) tNil)))) (gName 1))
  (tSeq (tAsg (tOp rCat (tVar 1) (tLst (tCons (tCB (rIsE K D a) (tCons (tVar 0) (tCons (tC (cV mg "InvalidRule")) tNil))) (tCons (tCB (rIsE K D a) (tCons (tVar 0) (tCons (tC (cV mg "InvalidHeap")) tNil))) (tCons (tCB (rIsE K D a) (tCons (tVar 0) (tCons (tC (cV mg "InvalidText")) tNil))) tNil))))) (gName 1))
  (tSeq (tAsg (tOp rCat (tVar 1) (tLst (tCons (tCB (rIsE K D a) (tCons (tVar 0) (tCons (tC (cV mg "Unlike")) tNil))) (tCons (tCB (rIsE K D a) (tCons (tVar 0) (tCons (tC (cV mg "NoPlace")) tNil))) (tCons (tCB (rIsE K D a) (tCons (tVar 0) (tCons (tC (cV mg "NothingToUndo")) tNil))) tNil))))) (gName 1))
  (tSeq (tAsg (tLst (tCons (tC (.str "InvalidNumber")) (tCons (tC (.str "InvalidCount")) (tCons (tC (.str "InvalidNumeral")) (tCons (tC (.str "InvalidRule")) (tCons (tC (.str "InvalidHeap")) (tCons (tC (.str "InvalidText")) tNil))))))) (gName 2))
  (tSeq (tAsg (tOp rCat (tVar 2) (tLst (tCons (tC (.str "Unlike")) (tCons (tC (.str "NoPlace")) (tCons (tC (.str "NothingToUndo")) tNil))))) (gName 2))
  (tSeq (tIfS (tOr (tTest (tOp rNe (tCB (rSum K) (tCons (tLc (iList K (tVar 1)) (gName 3) tYes (tCB rInt1 (tCons (tVar 3) tNil)) [3]) tNil)) (tC (.int 1)))) (tNot (tB (tCB (rIsE K D a) (tCons (tVar 0) (tCons (tC (.ty "ValueError")) tNil))))))
  (tRet (tTup (tCons (tC (.str "error")) (tCons (tC (.str "other")) tNil))))
  tNext)
  (tRet (tTup (tCons (tC (.str "error")) (tCons (tOp (rIxL K) (tVar 2) (tBM K "list" (rIndex K) (tVar 1) (tCons (tC (.bl true)) tNil))) tNil))))))))))

section
variable {K : PySem.W.Frag} {mg : Str → Option Value} {D a : Addr} {x : Str}
def Flags (K : PySem.W.Frag) (mg : Str → Option Value) (D : Addr) (x : Str) : Prop := ∀ y ∈ nine, ∃ C : Addr, mg y = some (.ref C) ∧ PySem.W.kitOne K (.ref D) (.ref C) = some (decide (y = x))
theorem k_isE {y : Str} {H : Hp} {Q : VK} (f : Flags K mg D x) (hy : y ∈ nine) (q : Q (.bl (decide (y = x))) H) : rIsE K D a [.ref a, cV mg y] H Q := by
  obtain ⟨C, e, k⟩ := f y hy
  have ec : cV mg y = .ref C := by unfold cV; rw [e]
  exact ⟨cV mg y, .ref C, _, rfl, fun u r => by rw [ec] at r; exact r, k, q⟩
theorem k_isV {H : Hp} {Q : VK} (f : PySem.W.kitOne K (.ref D) (.type "ValueError") = some true) (q : Q (.bl true) H) : rIsE K D a [.ref a, .ty "ValueError"] H Q := ⟨.ty "ValueError", .type "ValueError", true, rfl, fun u r => r, f, q⟩
theorem k_cat {H : Hp} {p q : Addr} {xs zs : List V} {Q : VK} (h1 : H p = some (.lst xs)) (h2 : H q = some (.lst zs)) (hl : xs.length + zs.length ≤ 100000) (k : ∀ r, H r = none → Q (.ref r) (upd H r (.lst (xs ++ zs)))) : rCat (.ref p) (.ref q) H Q :=
  ⟨p, q, xs, zs, rfl, rfl, h1, h2, Nat.le_trans hl (by decide), k⟩
theorem pure__law_term {H : Hp} {Q : VK} (f : Flags K mg D x) (fv : PySem.W.kitOne K (.ref D) (.type "ValueError") = some true) (hx : x ∈ nine)
    (q : ∀ H' p, Same H H' → H' p = some (.tup [.str "error", .str x]) → Q (.ref p) H') : t__law_term K mg D a { nx := fun _ H' => Q .non H', rt := Q } [some (.ref a), none, none, none] H := by
  unfold t__law_term
  walk_at "st"
  refine k_isE f (by decide) ?_
  walk_at "st"
  refine k_isE f (by decide) ?_
  walk_at "st"
  refine k_isE f (by decide) ?_
  walk_at "st"
  refine ⟨by show 3 ≤ sizeLine; decide, fun p1 n1 => ?_⟩
  generalize hH1 : upd H p1 _ = H1
  have s1 : Same H H1 := hH1 ▸ same_new n1
  have e1 := hH1 ▸ (upd_same (H := H) (a := p1))
  clear hH1
  walk_at "st"
  refine k_isE f (by decide) ?_
  walk_at "st"
  refine k_isE f (by decide) ?_
  walk_at "st"
  refine k_isE f (by decide) ?_
  walk_at "st"
  refine ⟨by show 3 ≤ sizeLine; decide, fun p2 n2 => ?_⟩
  generalize hH2 : upd H1 p2 _ = H2
  have s2 : Same H1 H2 := hH2 ▸ same_new n2
  have e2 := hH2 ▸ (upd_same (H := H1) (a := p2))
  clear hH2
  refine k_cat (s2 _ _ e1) e2 (by simp) fun p3 n3 => ?_
  generalize hH3 : upd H2 p3 _ = H3
  have s3 : Same H2 H3 := hH3 ▸ same_new n3
  have e3 := hH3 ▸ (upd_same (H := H2) (a := p3))
  clear hH3
  walk_at "st"
  refine k_isE f (by decide) ?_
  walk_at "st"
  refine k_isE f (by decide) ?_
  walk_at "st"
  refine k_isE f (by decide) ?_
  walk_at "st"
  refine ⟨by show 3 ≤ sizeLine; decide, fun p4 n4 => ?_⟩
  generalize hH4 : upd H3 p4 _ = H4
  have s4 : Same H3 H4 := hH4 ▸ same_new n4
  have e4 := hH4 ▸ (upd_same (H := H3) (a := p4))
  clear hH4
  refine k_cat (s4 _ _ e3) e4 (by simp) fun p5 n5 => ?_
  generalize hH5 : upd H4 p5 _ = H5
  have s5 : Same H4 H5 := hH5 ▸ same_new n5
  have e5 := hH5 ▸ (upd_same (H := H4) (a := p5))
  clear hH5
  walk_at "st"
  refine ⟨by show 6 ≤ sizeLine; decide, fun p6 n6 => ?_⟩
  generalize hH6 : upd H5 p6 _ = H6
  have s6 : Same H5 H6 := hH6 ▸ same_new n6
  have e6 := hH6 ▸ (upd_same (H := H5) (a := p6))
  clear hH6
  walk_at "st"
  refine ⟨by show 3 ≤ sizeLine; decide, fun p7 n7 => ?_⟩
  generalize hH7 : upd H6 p7 _ = H7
  have s7 : Same H6 H7 := hH7 ▸ same_new n7
  have e7 := hH7 ▸ (upd_same (H := H6) (a := p7))
  clear hH7
  refine k_cat (s7 _ _ e6) e7 (by simp) fun p8 n8 => ?_
  generalize hH8 : upd H7 p8 _ = H8
  have s8 : Same H7 H8 := hH8 ▸ same_new n8
  have e8 := hH8 ▸ (upd_same (H := H7) (a := p8))
  clear hH8
  have eF : H8 p5 = some (.lst ((nine.map fun y => decide (y = x)).map V.bl)) := s8 _ _ (s7 _ _ (s6 _ _ e5))
  have eK : H8 p8 = some (.lst (nine.map V.str)) := e8
  have sA : Same H H8 := ((((((s1.trans s2).trans s3).trans s4).trans s5).trans s6).trans s7).trans s8
  clear e1 e2 e3 e4 e5 e6 e7 e8 s1 s2 s3 s4 s5 s6 s7 s8 n1 n2 n3 n4 n5 n6 n7 n8
  walk_at "st"
  refine ⟨p5, rfl, ⟨_, lst_of eF⟩, fun L hL => lcm_list (ys := (nine.map fun y => (if decide (y = x) then (1 : Int) else 0)).map V.int) (lst_of eF) hL (by simp) (by simp; decide) (fun n x' y hx' hy H' R s r => ?_) fun Hf sf hf => ?_⟩
  · show gName 3 x' [_, _, _, _] H' _
    walk_at "st"
    refine ⟨rfl, ?_⟩
    walk_at "st"
    rw [List.getElem?_map, List.getElem?_map] at hx' hy
    cases ez : nine[n]? with
    | none => rw [ez] at hx'; cases hx'
    | some z =>
      rw [ez] at hx' hy
      cases hx'
      cases hy
      exact .inr ⟨_, rfl, r H' (Same.refl _)⟩
  · walk_at "st"
    refine ⟨L, _, rfl, lst_of hf, ?_⟩
    have hsum : ∀ x ∈ nine, (nine.map fun y => (if decide (y = x) then (1 : Int) else 0)).sum = 1 := by decide +kernel
    rw [hsum x hx]
    walk_at "st"
    refine k_iteN (fun h => absurd rfl h) fun _ => ?_
    walk_at "st"
    refine k_isV fv ?_
    walk_at "st"
    obtain ⟨j, hj⟩ := List.getElem?_of_mem hx
    have nd : nine.Nodup := by decide +kernel
    have eF' := sf _ _ eF
    refine ⟨ty_lst (lst_of eF'), ?_⟩
    walk_at "st"
    refine ⟨p5, _, .bl true, j, .bl true, rfl, rfl, lst_of eF', rfl, by simp [flatV], ?_, rfl, fun m z hm hz => ?_, ?_⟩
    · rw [List.getElem?_map, List.getElem?_map, hj]
      simp
    · rw [List.getElem?_map, List.getElem?_map] at hz
      cases ez : nine[m]? with
      | none => rw [ez] at hz; cases hz
      | some y =>
        rw [ez] at hz
        have ne : y ≠ x := fun e => by
          rw [e] at ez
          have := nd_ix nd ez hj
          omega
        cases hz
        simp [ne]
        rfl
    refine k_ixL (v := .str x) (lst_of (sf _ _ eK)) (atI_nat (by rw [List.getElem?_map, hj]; rfl)) ?_
    walk_at "st"
    exact ⟨by show 2 ≤ sizeLine; decide, fun p hp => q _ p ((sA.trans sf).trans (same_new hp)) upd_same⟩
end

end Fl
/-! FlU: _law_told: what a call of the program tells, or the kind of its exception. -/
namespace Fl
open PySem L2 PySem.Spec PyProof.Rows HotX L2H LamX
/-! ### _law_told -/
/-- the names of _law_told's text -/
abbrev tdB (p1 p2 p3 p4 q1 q2 q3 q4 p7 p8 : Pos) : List Stmt :=
  [.Try [.Return (some (.Call (.Name "deed" p1) [] [] p2)) p3] [.ExceptHandler (some (.Name "RowError" p4)) (some "e") [.Return (some (.Call (.Name "_law_term" q1) [.Name "e" q2] [] q3)) q4] p7] [] [] p8]
/-- what is known of _law_told, _law_term and the exceptions that are met -/
structure Tld (P : Program) (w : World) (K : PySem.W.Frag) (mg : Str → Option Value) (base : Heap) (met : List Str) : Prop where
  told : ∃ (f : Addr) (fd : FuncData) (st : Stmt), Fun K "_law_told" "_law_told" st f fd ∧ mg "_law_told" = some (.ref f) ∧ FnScope ["deed", "e"] ["deed"] (defScope st) ∧ Binds K fd ["deed"] [] ∧
    (defScope st).names.lookup ("RowError" : Str) = some PySem.NameKind.globalImplicit ∧ (defScope st).names.lookup ("_law_term" : Str) = some PySem.NameKind.globalImplicit ∧ (defScope st).names.lookup ("e" : Str) = some PySem.NameKind.local ∧ (defScope st).names.lookup ("deed" : Str) = some PySem.NameKind.local ∧
    ∃ p1 p2 p3 p4 q1 q2 q3 q4 p7 p8, defBody st = tdB p1 p2 p3 p4 q1 q2 q3 q4 p7 p8
  term : ∃ (f : Addr) (fd : FuncData) (st : Stmt), Fun K "_law_term" "_law_term" st f fd ∧ mg "_law_term" = some (.ref f) ∧ FnScope ["e", "flags", "kinds", "flag"] ["e"] (defScope st) ∧ Binds K fd ["e"] [] ∧
    ∀ {CX : CXT} {g : Addr} {cdv : Value} {A : Around} {outer : List Env} {s : Shared} {H : Hp} {E : XK} {a D : Addr} {oe : Obj}, ExcC K D → Zc (.ref D) none oe → (∃ vs, oe.data = .fields vs) → (a, oe) ∈ (cxH CX P w K mg base ["e", "flags", "kinds", "flag"] "_law_term" (defScope st) g cdv A outer s H E (a, oe)).pn →
      HotC (cxH CX P w K mg base ["e", "flags", "kinds", "flag"] "_law_term" (defScope st) g cdv A outer s H E (a, oe)) → PSs (cxH CX P w K mg base ["e", "flags", "kinds", "flag"] "_law_term" (defScope st) g cdv A outer s H E (a, oe)) (defBody st) (t__law_term K mg D a)
  xt : ∀ x ∈ met, x ∈ nine ∧ Xt K mg x
  row : ∃ R : Addr, mg "RowError" = some (.ref R)
/-- what is wanted of an exception that is met -/
def EXC (mg : Str → Option Value) (met : List Str) (Q : VK) : XK := fun cls d H' => d = none ∧ ∃ x ∈ met, cls = cE mg x ∧ ∀ H'' p, Same H' H'' → H'' p = some (.tup [.str "error", .str x]) → Q (.ref p) H''
def tTold (T : List (Addr × Str)) (mg : Str → Option Value) (met : List Str) (t : XK → TE) : TE := fun σ H Q => Tabs T H ∧ ∀ H1, ExtN H H1 → Tabs T H1 → t (EXC mg met Q) σ H1 Q
/-- the lambda's body, where what it raises has no context -/
abbrev lamN (X : Cx) (A : Around) (outer : List Env) (s : Shared) (H : Hp) (E : XK) (scope : Scope) (f c' : Addr) : Cx :=
  (lamCx X A outer s H E scope f c').wish fun e s' => wpAny (model X.prog X.w) (A.deeper (lamEnv X scope s.heap.objs.size f c')) (leaving (lamEnv X scope s.heap.objs.size f c') e) (fun _ s'' => L2N.CX X.prog X.w outer H s E e s'') (fun e' s'' => L2N.CX X.prog X.w outer H s E e' s'') s'
theorem pasL {X : Cx} {A : Around} {outer : List Env} {s : Shared} {H : Hp} {E : XK} {scope : Scope} {f c' : Addr} : Passes (L2N.CX X.prog X.w) (lamN X A outer s H E scope f c') E := L2N.passes_call (L2N.takes_of rfl rfl rfl rfl) fun _ _ _ _ h => h
theorem pe_clL {X : Cx} {A : Around} {outer : List Env} {s : Shared} {H : Hp} {E : XK} {scope : Scope} {f c' : Addr} {k : Nat} {x : Str} {ps : List Str} {sp : Sp} {e : PySem.Expr} {es : List PySem.Expr} {t : TA} {p pos : Pos} (C : Cal X.prog X.w X.K X.mg X.base k x ps sp) (hr : Room k (A.deeper (lamEnv X scope s.heap.objs.size f c')))
    (ha : PA (lamN X A outer s H E scope f c') (e :: es) t) (hg : scope.names.lookup x = some PySem.NameKind.globalImplicit := by rfl)
    (hdb : (x == ("__debug__" : Str)) = false := by decide) (he : starEach (e :: es) (lamEnv X scope s.heap.objs.size f c') = (false, eval e (lamEnv X scope s.heap.objs.size f c')) :: starEach es (lamEnv X scope s.heap.objs.size f c') := by rfl) (hpl : (backTo pos (starEach es (lamEnv X scope s.heap.objs.size f c'))).any (·.1) = false := by rfl) :
    PE (lamN X A outer s H E scope f c') (.Call (.Name x p) (e :: es) [] pos) (tCall sp [] E t) := pe_cl (X := lamN X A outer s H E scope f c') C hr (@pasL X A outer s H E scope f c') ha hg hdb he hpl
theorem pvL {X : Cx} {A : Around} {outer : List Env} {s : Shared} {H : Hp} {E : XK} {scope : Scope} {f c' : Addr} (i : Nat) {x : Str} {pos : Pos} (hN : X.N[i]? = some x := by rfl) (hv : Vis scope x := by first | exact Or.inl rfl | exact Or.inr (Or.inl rfl) | exact Or.inr (Or.inr rfl)) (hd : (x == ("__debug__" : Str)) = false := by decide)
    (hcd : (x == ("__classdict__" : Str)) = false := by decide) : PE (lamN X A outer s H E scope f c') (.Name x pos) (tVar i) := pe_var (X := lamN X A outer s H E scope f c') hN hv hd hcd
section
variable {X : Cx}
theorem pe_term {met : List Str} {a D : Addr} {oe : Obj} {pn : List (Addr × Obj)} {i : Nat} {x : Str} {p1 p2 p3 : Pos} (T9 : Tld X.prog X.w X.K X.mg X.base met) (hz : L2N.Zn (.ref D) none oe) (hf : ∃ vs, oe.data = .fields vs) (hx : x ∈ nine)
    (hC : ExcC X.K D) (hF : Flags X.K X.mg D x) (hV : PySem.W.kitOne X.K (.ref D) (.type "ValueError") = some true) (hr : Room 2 X.A) (hg : Gl X "_law_term") (hN : X.N[i]? = some "e") (hv : Vis X.env.scope "e") :
    PE (X.suite a ((a, oe) :: pn)) (.Call (.Name "_law_term" p1) [.Name "e" p2] [] p3) (fun σ H Q => σ[i]? = some (some (.ref a)) ∧ ∀ H' p, Same H H' → H' p = some (.tup [.str "error", .str x]) → Q (.ref p) H') := by
  obtain ⟨f, fd, st, F, g, S, hb, dv⟩ := T9.term
  refine ⟨fun pins s σ H Q I h => ?_⟩
  obtain ⟨hi, q⟩ := h
  have ha : PA (X.suite a ((a, oe) :: pn)) [.Name "e" p2] (tCons (tVar i) tNil) := pa_cons (pe_var hN hv) pa_nil
  refine wpAny_Call_Name_kw (ld_glob I hg g ?_ (by decide))
  refine PySem.W.callWith_K (h₀ := X.base) I.ok.mod.kin F.kp (thn (ha.run p3 pins s σ H (fun vs H1 => vs = [V.ref a] ∧ H1 = H) I ⟨_, hi, rfl, rfl⟩) fun us s1 ⟨vs, H1, I1, r, ev, eH⟩ => ⟨I1.kIn, ?_⟩) (by rfl) (by rfl)
  subst ev
  subst eH
  cases r with
  | cons ru rr =>
    cases rr
    cases ru
    have P1 := I1.pin (a, oe) (List.mem_append_left _ List.mem_cons_self)
    have hpin : PinOk X.stack H1 s1 (a, oe) := ⟨P1.1, P1.2.1, fun hm => (List.mem_cons.mp (I1.stkSub a hm)).elim P1.2.2.1 P1.2.2.2.1, P1.2.2.2.2⟩
    obtain ⟨vs, hvs⟩ := id hf
    have hot : Hot1 (X.A.mark (some (.ref a))) (a, oe) := ⟨rfl, vs, hvs, hz.2.2 vs hvs⟩
    have bd := hb s1 [.ref a] I1.kIn rfl
    obtain ⟨oc, od, kV, doc, pm, an, cdv, ct, osl, e, lk, hcd⟩ := F.ex
    subst e
    have hrH : RoomH 2 (X.A.mark (some (.ref a))) := ⟨hr.dp, hr.un⟩
    have rc := run_hot (CX := CX0) (k := 1) (Q := Q) (E := E0) (p := (a, oe)) (vs := [.ref a]) (us := [.ref a]) lk hcd S hrH hpin I1.env0 bd (.cons rfl .nil) rfl fun hr2 =>
      ⟨_, dv hC hz.zc hf List.mem_cons_self ⟨(a, oe), ⟨hot.1, hot.2⟩, List.mem_cons_self⟩, pure__law_term hF hV hx q⟩
    refine wpAny_call (codeAny_mono rc fun r s' hq => ?_)
    cases r with
    | error e => exact (show False from hq).elim
    | ok fl =>
      cases fl with
      | ret u => exact I1.after hq
      | next => exact False.elim hq
      | brk => exact False.elim hq
      | cont => exact False.elim hq

/-- deed(), in _law_told: Z is that def's context, entered at s -/
theorem pe_deed {pins : List (Addr × Obj)} {σ : L2.St} {H : Hp} {s : Shared} {CXg : CXT} {Eg : XK} {Ng : List Str} {qg : Str} {sg : Scope} {g f c' : Addr} {cdg pm ctv : Value} {params : Arguments} {body : PySem.Expr} {scope : Scope} {k i : Nat} {nm : Str} {pn : List (Addr × Obj)} {xe : Value → Shared → Prop} {W : WX} {E : XK} {tb : TE} {p1 p2 : Pos}
    (I : Inv X pins σ H s) (L : LamS X.env.scope scope) (hf : s.heap.get? f = some (PySem.W.kla_obj "<lambda>" (X.env.qual ++ "<lambda>") params body scope (cloFrom X.env.cells scope.names []) pm c' ctv)) (hfn : H f = none) (hfr : f ∉ frs X.stack)
    (hbind : bindArgs (PySem.W.kla_fn "<lambda>" (X.env.qual ++ "<lambda>") params body scope (cloFrom X.env.cells scope.names []) pm (.ref c') ctv) ⟨[], []⟩ = pure [])
    (tk : L2N.Takes ((cxOf CXg X.prog X.w X.K X.mg X.base Ng qg sg g cdg X.A X.stack s H Eg).tr pn xe) W) (hW : ∀ cls d σ' H', σ'.length = Ng.length → E cls d H' → W cls d σ' H') (hr : Room (k + 1) (X.A.deeper (envOfC qg sg s.heap.objs.size g cdg)))
    (hbody : ∀ (A : Around) (outer : List Env) (s : Shared) (H : Hp), Room k (A.deeper (lamEnv X scope s.heap.objs.size f c')) → PE (lamN X A outer s H E scope f c') body tb)
    (hN : Ng[i]? = some nm) (hv : Vis sg nm) (hd : (nm == ("__debug__" : Str)) = false := by decide) (hcd : (nm == ("__classdict__" : Str)) = false := by decide) :
    PE ((cxOf CXg X.prog X.w X.K X.mg X.base Ng qg sg g cdg X.A X.stack s H Eg).tr pn xe) (.Call (.Name nm p1) [] [] p2)
      (fun σZ HZ Q => σZ[i]? = some (some (.ref f)) ∧ HZ c' = some (CodeO c' (X.env.qual ++ "<lambda>")) ∧ tb σ HZ Q) := by
  refine ⟨fun pinsZ sZ σZ HZ Q IZ h => ?_⟩
  obtain ⟨hs, hc, ht⟩ := h
  refine wpAny_Call_Name_kw (thn ((pe_var (pos := p1) (i := i) hN hv hd hcd).run pinsZ sZ σZ HZ (fun v H1 => v = .ref f ∧ H1 = HZ) IZ ⟨.ref f, hs, rfl, rfl⟩) fun u s1 ⟨v, H1, I1, r1, ev, eH⟩ => ?_)
  subst ev
  rw [eH] at I1
  cases (show u = Value.ref f from r1)
  have of1 : s1.heap.get? f = some (PySem.W.kla_obj "<lambda>" (X.env.qual ++ "<lambda>") params body scope (cloFrom X.env.cells scope.names []) pm c' ctv) := I1.base.keep f _ hf hfn hfr (fun z => nomatch (show f ∈ ([] : List Addr) from z))
  refine PySem.W.callWith_F0 ⟨_, _, _, _, of1⟩ ?_
  have un : Un (frs X.stack) [] H HZ s.heap s1.heap := I1.base
  obtain ⟨⟨oc, vs, t, hoc, hdc, hvc⟩, _, _⟩ := I1.hok c' _ hc
  have rc : codeAny (model X.prog X.w) (X.A.deeper (envOfC qg sg s.heap.objs.size g cdg)) (.call (.ref f) ⟨[], []⟩) (CR (L2N.CX X.prog X.w) (envOfC qg sg s.heap.objs.size g cdg :: X.stack) X.prog X.w HZ s1 Q E) s1 := by
    refine PySem.W.kla_callFunE hr.depth of1 rfl L.co L.gen rfl ⟨c', oc, vs, t, rfl, hoc, hdc, hvc⟩ ?_
    rw [hbind]
    refine wpAny_pure (wpAny_newFunctionEnv (fun y hy => (L.own y hy).2) (fun y hy => absurd hy (by simp)) (fun h1 hns hsb => ⟨I1.nolimit.fresh _ hsb, ?_⟩) L.kind)
    show codeAny _ _ (.expr body (lamEnv X scope s1.heap.objs.size f c')) _ _
    have kp : ∀ b o, s1.heap.get? b = some o → h1.get? b = some o := fun b o e => hsb.extBut b o (Nat.ne_of_lt (Heap.lt_size e)) (Heap.get?_push_of_some _ e)
    have J := (lam_start2 (E := E) (tk := s1.toks + ([] : List (Str × Value)).length) (f := f) (c' := c') I L I1.env0 hr.hd un hns kp).wish fun e s' => wpAny (model X.prog X.w) ((X.A.deeper (envOfC qg sg s.heap.objs.size g cdg)).deeper (lamEnv X scope s1.heap.objs.size f c')) (leaving (lamEnv X scope s1.heap.objs.size f c') e) (fun _ s'' => L2N.CX X.prog X.w (envOfC qg sg s.heap.objs.size g cdg :: X.stack) HZ s1 E e s'') (fun e' s'' => L2N.CX X.prog X.w (envOfC qg sg s.heap.objs.size g cdg :: X.stack) HZ s1 E e' s'') s'
    refine PySem.W.kla_codeExpr (wpAny_mono ((hbody _ _ s1 HZ (hr.deeper _)).run [] _ _ HZ Q J ht) (fun v s' hq => ?_) fun e s' hq => hq)
    obtain ⟨w', H', J', rv, q⟩ := hq
    exact ⟨w', H', J'.os, J'.bare, J'.base, J'.hok, rv, q⟩
  have hx : Passes (L2N.CX X.prog X.w) ((cxOf CXg X.prog X.w X.K X.mg X.base Ng qg sg g cdg X.A X.stack s H Eg).tr pn xe) E := fun _ σ5 _ _ e s' I5 c5 => tk e s' (L2N.XE.of_call I5 (fun cls d H5 h5 => hW cls d σ5 H5 I5.len h5) c5)
  refine wpAny_call (codeAny_mono rc fun r s' hq => ?_)
  cases r with
  | error e => exact hx pinsZ σZ HZ s1 e s' I1 hq
  | ok fl =>
    cases fl with
    | ret u => exact I1.after hq
    | next => exact False.elim hq
    | brk => exact False.elim hq
    | cont => exact False.elim hq
theorem takesN0 : L2N.Takes X (fun _ _ _ _ => False) := fun _ _ x => by
  obtain ⟨_, _, _, _, _, _, _, _, _, _, _, _, _, _, _, _, z⟩ := x
  exact z.elim
/-- _law_told(lambda: body) -/
theorem pe_told {met : List Str} {T : List (Addr × Str)} {c P : Addr} {k : Nat} {params : Arguments} {body : PySem.Expr} {scope : Scope} {t : XK → TE} {p lpos pos : Pos} (T9 : Tld X.prog X.w X.K X.mg X.base met)
    (TB : TabB X.base X.mg c P) (hcode : X.env.code = .ref c) (hmT : (P, X.env.qual ++ "<lambda>") ∈ T) (hu : ∀ p ∈ T, p.1 = P → p.2 = X.env.qual ++ "<lambda>") (hr : Room (k + 4) X.A) (L : LamS X.env.scope scope)
    (hbody : ∀ (A : Around) (outer : List Env) (s : Shared) (H : Hp) (E : XK) (f c' : Addr), Room k (A.deeper (lamEnv X scope s.heap.objs.size f c')) → PE (lamN X A outer s H E scope f c') body (t E))
    (hdef : defaultsOf params X.env = ([], []) := by rfl) (hbind : ∀ (q : Str) (cl : List (Str × Addr)) (pm cv ctv : Value), bindArgs (PySem.W.kla_fn "<lambda>" q params body scope cl pm cv ctv) ⟨[], []⟩ = pure [] := by intros; rfl) (hg : Gl X "_law_told" := by rfl) :
    PE X (.Call (.Name "_law_told" p) [.Lambda params body scope lpos] [] pos) (tTold T X.mg met t) := by
  obtain ⟨g, fd, st, F, hm, Sg, hb, gR, gT, gE, gD, p1, p2, p3, p4, q1, q2, q3, q4, p7, p8, hbd⟩ := T9.told
  obtain ⟨oc, od, kV, doc, pm0, an, cdv, ct, osl, e, lk, hcg⟩ := F.ex
  subst e
  refine ⟨fun pins s σ H Q I h => ?_⟩
  obtain ⟨hT, h⟩ := h
  refine wpAny_Call_Name_kw (ld_glob I hg hm ?_ (by decide))
  refine PySem.W.callWith_K (h₀ := X.base) I.ok.mod.kin F.kp ?_ (by rfl) (by rfl)
  show wpAny _ _ (spliced ((false, eval (.Lambda params body scope lpos) X.env) :: backTo pos (starEach [] X.env))) _ _ s
  refine Calls.spliced_cons (lam_make2 I TB hcode hmT hu hT hdef (L.has I.ok) fun f c' pm' ctv H1 s' I1 eN T1 hf hfn hfr hco => ?_)
  refine Calls.spliced_nil ⟨I1.kIn, ?_⟩
  have rc : codeAny (model X.prog X.w) X.A (.call (.ref g) ⟨[.ref f], []⟩) (CR CX0 X.stack X.prog X.w H1 s' Q E0) s' := by
    refine run_ofS (k := k + 3) (N := ["deed", "e"]) (ps := ["deed"]) (us := [.ref f]) (vs := [.ref f]) lk hcg Sg hr I1.env0 (hb s' [.ref f] I1.kIn rfl) (.cons rfl .nil) rfl fun hr' => ?_
    rw [hbd]
    have gRl : Gl (cxOf CX0 X.prog X.w X.K X.mg X.base ["deed", "e"] "_law_told" (defScope st) g cdv X.A X.stack s' H1 E0).nox "RowError" := gR
    have gTl : Gl (cxOf CX0 X.prog X.w X.K X.mg X.base ["deed", "e"] "_law_told" (defScope st) g cdv X.A X.stack s' H1 E0).nox "_law_term" := gT
    obtain ⟨R, hR⟩ := T9.row
    refine ⟨_, PSs.nox (pss_one (L2N.ps_try_as (X := (cxOf CX0 X.prog X.w X.K X.mg X.base ["deed", "e"] "_law_told" (defScope st) g cdv X.A X.stack s' H1 E0).nox) (c := .ref R) (i := 1)
      (tb := fun W D' σ' H' => ∃ Ech : XK, (∀ cls d σ2 H2, σ2.length = 2 → Ech cls d H2 → W cls d σ2 H2) ∧ σ'[0]? = some (some (.ref f)) ∧ H' c' = some (CodeO c' (X.env.qual ++ "<lambda>")) ∧ t Ech σ H' D'.rt)
      (ts := fun a cls d D' σ' H' => ∃ (D : Addr) (x : Str), cls = .ref D ∧ d = none ∧ x ∈ nine ∧ ExcC X.K D ∧ Flags X.K X.mg D x ∧ PySem.W.kitOne X.K (.ref D) (.type "ValueError") = some true ∧ σ'[1]? = some (some (.ref a)) ∧ ∀ H2 p, Same H' H2 → H2 p = some (.tup [.str "error", .str x]) → D'.rt (.ref p) H2)
      (Wout := fun _ _ _ _ => False) rfl rfl Sg.nd rfl gE ⟨gRl, by decide, .inl hR⟩ takesN0 (fun W pn xe tk _ => ?_) (fun a oe cls d pn hz hf2 => ?_))), ?_⟩
    · refine ⟨fun pinsB sB σB HB D' IB h' => ?_⟩
      obtain ⟨Ech, hW, h1, h2, h3⟩ := h'
      have hp := pe_deed (CXg := CX0) (Eg := E0) (Ng := ["deed", "e"]) (p1 := p1) (p2 := p2) (k := k + 2) (i := 0) (nm := "deed") (E := Ech) (tb := t Ech) I1 L hf hfn hfr (hbind _ _ _ _ _) tk hW hr' (fun A outer s H hr2 => hbody A outer s H Ech f c' (hr2.mono (by omega))) rfl (.inl gD)
      exact (pss_one (ps_ret (pos := p3) hp)).run pinsB sB σB HB D' IB ⟨h1, h2, h3⟩
    · refine ⟨fun pinsB sB σB HB D' IB h' => ?_⟩
      obtain ⟨D, x, ec, ed, hx, hC, hF, hV, h1, h2⟩ := h'
      subst ec
      subst ed
      have hp := pe_term (X := (cxOf CX0 X.prog X.w X.K X.mg X.base ["deed", "e"] "_law_told" (defScope st) g cdv X.A X.stack s' H1 E0).nox) (p1 := q1) (p2 := q2) (p3 := q3) (i := 1) (pn := pn) (a := a) T9 hz hf2 hx hC hF hV (hr'.mono (by omega)) gTl rfl (.inl gE)
      exact (pss_one (ps_ret (pos := q4) hp)).run pinsB sB σB HB D' IB ⟨h1, h2⟩
    · refine ⟨EXC X.mg met Q, fun cls d σ2 H2 hl hE => ?_, rfl, hco, h H1 eN T1⟩
      obtain ⟨ed, x, hx, ec, q⟩ := hE
      obtain ⟨hx9, hxt⟩ := T9.xt x hx
      obtain ⟨D, mD, hC, hF, hV, R', mR, hex⟩ := hxt.ex
      rw [hR] at mR
      cases mR
      have eD : cE X.mg x = .ref D := by unfold cE; rw [mD]
      rw [eD] at ec
      refine ⟨true, by rw [ec]; exact hex, fun _ a _ => ⟨D, x, ec, ed, hx9, hC, hF, hV, ?_, q⟩, fun z => by cases z⟩
      simp [hl]
  refine wpAny_call (codeAny_mono rc fun r s2 hq => ?_)
  cases r with
  | error e => exact (show False from hq).elim
  | ok fl =>
    cases fl with
    | ret u => exact I1.after hq
    | next => exact False.elim hq
    | brk => exact False.elim hq
    | cont => exact False.elim hq
end
end Fl
/-! FlV: the end of a law that makes lambdas. -/
namespace Fl
open PySem L2 PySem.Spec PyProof.Rows HotX L2H LamX
variable {P : Program} {w : World} {K : PySem.W.Frag} {mg : Str → Option Value} {base : Heap}
/-- a def whose code object is known -/
structure FunL (K : PySem.W.Frag) (x : Str) (st : Stmt) (f : Addr) (fd : FuncData) (c : Addr) : Prop where
  ex : ∃ (oc : Value) (od : Option Addr) (kV doc pm : Value) (an : Option Addr) (ct : Value) (osl : Array (Option Value)),
    fd = PySem.W.fnOf x x (defArgs st) (defBody st) (defScope st) .none kV doc pm an (.ref c) ct ∧ K.lookup f = some ⟨oc, od, .func fd, osl⟩ ∧ PySem.W.codeIn K (.ref c) x = true
theorem fnok_ofL {x : Str} {st : Stmt} {f : Addr} {fd : FuncData} {N ps : List Str} {k : Nat} {sp : Sp} {c : Addr} (F : FunL K x st f fd c) (S : FnScope N ps (defScope st))
    (len : ∀ vs H Q E, sp vs H Q E → vs.length = ps.length) (t : XK → TS)
    (hd : ∀ (A : Around) (outer : List Env) (s : Shared) (H : Hp) (E : XK), Room k (A.deeper (envOfC x (defScope st) s.heap.objs.size f (.ref c))) → PSs (cxOf (L2N.CX P w) P w K mg base N x (defScope st) f (.ref c) A outer s H E) (defBody st) (t E))
    (hq : ∀ (vs : List V) (H : Hp) (Q : VK) (E : XK), sp vs H Q E → t E { nx := fun _ H' => Q .non H', rt := Q } (start N vs) H) : FnOk P w K mg base (L2N.CX P w) (k + 1) f fd ps sp := by
  obtain ⟨oc, od, kV, doc, pm, an, ct, osl, e, lk, hcd⟩ := F.ex
  subst e
  exact fn_of lk hcd S len fun A outer s H vs Q E hr hsp => ⟨t E, hd A outer s H E hr, hq vs H Q E hsp⟩
structure FxL (K : PySem.W.Frag) (x : Str) (st : Stmt) (c : Addr) : Prop where
  ex : ∃ (f : Addr) (fd : FuncData), PySem.W.nsIn K mainGlobals x = some (some (.ref f)) ∧ FunL K x st f fd c
theorem fxl_mk {x : Str} {st : Stmt} {f c : Addr} {oc : Value} {od an : Option Addr} {osl : Array (Option Value)} {kV doc pm ct : Value} (a : PySem.W.nsIn K mainGlobals x = some (some (.ref f)))
    (l : K.lookup f = some ⟨oc, od, .func (PySem.W.fnOf x x (defArgs st) (defBody st) (defScope st) .none kV doc pm an (.ref c) ct), osl⟩) (cd : PySem.W.codeIn K (.ref c) x = true) : FxL K x st c := ⟨f, _, a, oc, od, kV, doc, pm, an, ct, osl, rfl, l, cd⟩
/-! ### the nine classes in the row -/
structure N9 (K : PySem.W.Frag) (Cs : List Addr) : Prop where
  ns : ∀ (n : Nat) (y : Str), nine[n]? = some y → ∃ C, Cs[n]? = some C ∧ PySem.W.nsIn K mainGlobals y = some (some (.ref C))
theorem n9_mk {C1 C2 C3 C4 C5 C6 C7 C8 C9 : Addr} (h1 : PySem.W.nsIn K mainGlobals "InvalidNumber" = some (some (.ref C1))) (h2 : PySem.W.nsIn K mainGlobals "InvalidCount" = some (some (.ref C2))) (h3 : PySem.W.nsIn K mainGlobals "InvalidNumeral" = some (some (.ref C3)))
    (h4 : PySem.W.nsIn K mainGlobals "InvalidRule" = some (some (.ref C4))) (h5 : PySem.W.nsIn K mainGlobals "InvalidHeap" = some (some (.ref C5))) (h6 : PySem.W.nsIn K mainGlobals "InvalidText" = some (some (.ref C6)))
    (h7 : PySem.W.nsIn K mainGlobals "Unlike" = some (some (.ref C7))) (h8 : PySem.W.nsIn K mainGlobals "NoPlace" = some (some (.ref C8))) (h9 : PySem.W.nsIn K mainGlobals "NothingToUndo" = some (some (.ref C9))) : N9 K [C1, C2, C3, C4, C5, C6, C7, C8, C9] := by
  refine ⟨fun n y hy => ?_⟩
  rcases n with _ | _ | _ | _ | _ | _ | _ | _ | _ | n <;> cases hy
  · exact ⟨C1, rfl, h1⟩
  · exact ⟨C2, rfl, h2⟩
  · exact ⟨C3, rfl, h3⟩
  · exact ⟨C4, rfl, h4⟩
  · exact ⟨C5, rfl, h5⟩
  · exact ⟨C6, rfl, h6⟩
  · exact ⟨C7, rfl, h7⟩
  · exact ⟨C8, rfl, h8⟩
  · exact ⟨C9, rfl, h9⟩
def flB (K : PySem.W.Frag) (D : Addr) (x : Str) : List Str → List Addr → Bool
  | [], [] => true
  | y :: ys, C :: Cs => (match PySem.W.kitOne K (.ref D) (.ref C) with | some b => (b == decide (y = x)) | none => false) && flB K D x ys Cs
  | _, _ => false
theorem flB_get {D : Addr} {x : Str} : ∀ {ys : List Str} {Cs : List Addr}, flB K D x ys Cs = true → ∀ {n : Nat} {y : Str} {C : Addr}, ys[n]? = some y → Cs[n]? = some C → PySem.W.kitOne K (.ref D) (.ref C) = some (decide (y = x))
  | [], _, _, n, y, C, hy, _ => by cases hy
  | _ :: _, [], h, _, _, _, _, _ => by cases h
  | y0 :: ys, C0 :: Cs, h, n, y, C, hy, hc => by
    unfold flB at h
    rw [Bool.and_eq_true] at h
    cases n with
    | zero =>
      cases hy
      cases hc
      have h1 := h.1
      split at h1
      · rename_i b hb
        rw [hb, eq_of_beq h1]
      · cases h1
    | succ n => exact flB_get h.2 hy hc
/-- what is asked of a class that is met: all in one -/
structure XtF (K : PySem.W.Frag) (Cs : List Addr) (R D : Addr) (x : Str) : Prop where
  ex : ExcC K D
  fl : flB K D x nine Cs = true
  fv : PySem.W.kitOne K (.ref D) (.type "ValueError") = some true
  row : PySem.W.exmOne K (.ref D) (.ref R) = some true
theorem xt_mk {h : Heap} {Cs : List Addr} {R D : Addr} {x : Str} (KX : K.In h) (G : h.Ns mainGlobals mg) (N : N9 K Cs) (hR : PySem.W.nsIn K mainGlobals "RowError" = some (some (.ref R))) (hD : PySem.W.nsIn K mainGlobals x = some (some (.ref D))) (F : XtF K Cs R D x) : Xt K mg x := by
  refine ⟨D, PySem.W.mg_of KX G hD, F.ex, fun y hy => ?_, F.fv, R, PySem.W.mg_of KX G hR, F.row⟩
  obtain ⟨n, hn⟩ := List.getElem?_of_mem hy
  obtain ⟨C, hC, hc⟩ := N.ns n y hn
  exact ⟨C, PySem.W.mg_of KX G hc, flB_get F.fl hn hC⟩
theorem n9_all {h : Heap} {Cs : List Addr} (KX : K.In h) (G : h.Ns mainGlobals mg) (N : N9 K Cs) : ∀ y ∈ nine, ∃ C : Addr, mg y = some (.ref C) := fun y hy => by
  obtain ⟨n, hn⟩ := List.getElem?_of_mem hy
  obtain ⟨C, _, hc⟩ := N.ns n y hn
  exact ⟨C, PySem.W.mg_of KX G hc⟩
/-! ### heaps that grow beside the tables -/
theorem tabs_same {T : List (Addr × Str)} {H H' : Hp} (t : Tabs T H) (s : Same H H') : Tabs T H' := fun p hp => (t p hp).ext s
theorem extn_same {H H' : Hp} (s : Same H H') : ExtN H H' := ExtN.of s
theorem tabs0 {Pt : Addr} {q : Str} {H : Hp} (h : H Pt = some (.tbl #[])) : Tabs [(Pt, q)] H := fun p hp => by
  cases List.mem_singleton.mp hp
  exact ⟨#[], h, by simp [TriplesOk], fun pos cv hc => by cases hc⟩
abbrev lamQ : Str := (("law" : Str) ++ (".<locals>." : Str)) ++ ("<lambda>" : Str)
end Fl
/-! FlW: what the laws with lambdas share. -/
namespace Fl
open PySem L2 PySem.Spec PyProof.Rows HotX L2H LamX
local macro_rules | `(tactic| walk_at "sc") => `(tactic| first
  | exact cm_l (by omega) (by omega) | exact cm_r (by omega) (by omega)
  | exact wide_div (b := 250) (by omega) (by omega) (by decide) (by decide)
  | omega | exact cpow (by omega) (by omega) (by omega))
local macro_rules | `(tactic| walk_at "st1") => `(tactic| with_reducible first
  | apply k_seq | apply k_next | apply k_asg | apply k_ret | apply k_drop | apply k_ifS | apply k_par | apply k_par2 | apply k_par3 | apply k_par33
  | (refine k_var rfl ?_) | apply k_c | apply k_op | apply k_un | apply k_I0 | apply k_p18 | apply k_p15 | apply k_p12 | apply k_p9 | apply k_p7 | apply k_p6 | apply k_p5
  | (refine k_I ?_ ?_; (focus walk_at "sc")) | apply k_U
  | apply k_eqI | apply k_neI | apply k_eqB | apply k_neB | apply k_isN | apply k_ntN
  | apply k_test | apply k_tB | apply k_bl | apply k_and | apply k_or | apply k_not | apply k_andV | apply k_orV | apply k_notV | apply k_if | apply k_chain
  | apply k_cb | apply k_call | apply k_nil | apply k_cons | apply k_tup | apply k_lst | apply k_abs | apply k_max2 | apply k_min2 | apply k_iteT | apply k_iteF | apply k_iteNT | apply k_iteNF | apply k_gsub | apply k_yes | apply k_lc | apply k_for | apply k_rng1 | apply k_rng2 | apply k_iList | apply k_iTup | apply k_bm
  | apply k_n0 | apply k_n1 | apply k_n2 | apply k_n3 | apply k_n4 | apply k_n5 | apply k_n6 | apply k_n7 | apply k_n8 | apply k_n9 | apply k_n10 | apply k_n11)
local macro_rules | `(tactic| walk_at "st") => `(tactic| repeat walk_at "st1")
variable {P : Program} {w : World} {K : PySem.W.Frag} {mg : Str → Option Value} {T : List (Addr × Str)} {met : List Str}
/-! ### the dice and the tables -/
structure Dk (T : List (Addr × Str)) (R : Addr) (qs : List Addr) (H : Hp) : Prop where
  lst : H R = some (.lst (qs.map V.ref))
  one : 1 ≤ qs.length
  dice : ∀ q ∈ qs, IsDice H q
  tabs : Tabs T H
theorem Dk.same {R : Addr} {qs : List Addr} {H H' : Hp} (d : Dk T R qs H) (s : Same H H') : Dk T R qs H' := ⟨s _ _ d.lst, d.one, fun q h => Same.dice s (d.dice q h), tabs_same d.tabs s⟩
theorem ExtN.dice {H H' : Hp} {q : Addr} (e : ExtN H H') (h : IsDice H q) : IsDice H' q := by
  obtain ⟨c, k, h⟩ := h
  exact ⟨c, k, e _ _ h (by simp)⟩
theorem Dk.ext {R : Addr} {qs : List Addr} {H H' : Hp} (d : Dk T R qs H) (e : ExtN H H') (t : Tabs T H') : Dk T R qs H' := ⟨e _ _ d.lst (by simp), d.one, fun q h => ExtN.dice e (d.dice q h), t⟩
theorem Dk.chg {R q : Addr} {qs : List Addr} {H H' : Hp} (d : Dk T R qs H) (hq : q ∈ qs) (c : Chg q H H') : Dk T R qs H' := by
  have hd := d.dice q hq
  refine ⟨c.1 _ _ (dice_ne hd d.lst fun a b z => ?_) d.lst, d.one, fun r hr => c.dice (d.dice r hr), fun p hp => ?_⟩
  · have h1 := d.one
    cases qs with
    | nil => simp at h1
    | cons a r => simp at z
  · obtain ⟨ps, h1, h2, h3⟩ := d.tabs p hp
    refine ⟨ps, c.1 _ _ (dice_ne hd h1 fun a b z => by cases z) h1, h2, fun pos cv hc => ?_⟩
    obtain ⟨c', e, h⟩ := h3 pos cv hc
    exact ⟨c', e, c.1 _ _ (dice_ne hd h fun a b z => by cases z) h⟩
theorem tabs_upd {H : Hp} {b : Addr} {o o' : HO} (t : Tabs T H) (h : H b = some o) (n2 : ∀ ps, o ≠ .tbl ps) (n3 : ∀ f, o ≠ .ext f) : Tabs T (upd H b o') := fun p hp => by
  obtain ⟨ps, h1, h2, h3⟩ := t p hp
  refine ⟨ps, by rw [upd_ne]; exact h1; intro e; rw [e, h] at h1; exact n2 _ (Option.some.inj h1), h2, fun pos cv hc => ?_⟩
  obtain ⟨c', e, hh⟩ := h3 pos cv hc
  refine ⟨c', e, by rw [upd_ne]; exact hh; intro e; rw [e, h] at hh; exact n3 _ (Option.some.inj hh)⟩
theorem Dk.put {R b : Addr} {qs : List Addr} {H : Hp} {o o' : HO} (d : Dk T R qs H) (h : H b = some o) (n1 : ∀ xs, o ≠ .lst xs) (n2 : ∀ ps, o ≠ .tbl ps) (n3 : ∀ f, o ≠ .ext f) : Dk T R qs (upd H b o') := by
  refine ⟨?_, d.one, fun q hq => ?_, tabs_upd d.tabs h n2 n3⟩
  · rw [upd_ne]
    · exact d.lst
    · intro e
      have := d.lst
      rw [e, h] at this
      exact n1 _ (Option.some.inj this)
  · obtain ⟨c, k, hc⟩ := d.dice q hq
    refine ⟨c, k, ?_⟩
    rw [upd_ne]
    · exact hc
    · intro e
      rw [e, h] at hc
      exact n1 _ (Option.some.inj hc)
theorem Dk.putL {R b : Addr} {qs : List Addr} {H : Hp} {xs : List V} {o' : HO} (d : Dk T R qs H) (h : H b = some (.lst xs)) (n1 : b ≠ R) (n2 : ∀ q ∈ qs, b ≠ q) : Dk T R qs (upd H b o') := by
  refine ⟨?_, d.one, fun q hq => ?_, tabs_upd d.tabs h (fun _ => by simp) (fun _ => by simp)⟩
  · rw [upd_ne n1.symm]
    exact d.lst
  · obtain ⟨c, k, hc⟩ := d.dice q hq
    exact ⟨c, k, by rw [upd_ne (n2 q hq).symm]; exact hc⟩
/-! ### errors that are told -/
theorem eqv_err (x y : Str) : PyData.eqv (.tuple [.str x, .str y]) (.tuple [.str x, .str y]) = true := by simp [PyData.eqv, PyData.eqvAll]
theorem shaped_err {x y : Str} (h1 : PyData.strOk x = true) (h2 : PyData.strOk y = true) : SeqAt.shaped (.tuple [.str x, .str y]) = true := by
  unfold SeqAt.shaped
  simp [PyData.canLay0, PyData.canLayAll0, PyData.depth, PyData.depthAll, h1, h2]
theorem ok_error : PyData.strOk "error" = true := by decide +kernel
theorem dp_err {H : Hp} {p : Addr} {x y : Str} (h : H p = some (.tup [.str x, .str y])) : Dp K H (.ref p) (.tuple [.str x, .str y]) := .tup (tup_of h) (.cons (.str _) (.cons (.str _) .nil))
/-- a call that is told, where it raises -/
theorem told_raise {t : XK → TE} {x : Str} {σ : L2.St} {H : Hp} {Q : VK} (hx : x ∈ met) (hT : Tabs T H) (h : ∀ (E : XK) (Q' : VK) (H1 : Hp), ExtN H H1 → Tabs T H1 → (∀ H2, Same H1 H2 → E (cE mg x) none H2) → t E σ H1 Q')
    (k : ∀ H' p, ExtN H H' → Tabs T H' → H' p = some (.tup [.str "error", .str x]) → Q (.ref p) H') : tTold T mg met t σ H Q :=
  ⟨hT, fun H1 e1 t1 => h _ _ H1 e1 t1 fun H2 s2 => ⟨rfl, x, hx, rfl, fun H3 p s3 hp => k H3 p ((e1.trans (extn_same s2)).trans (extn_same s3)) (tabs_same (tabs_same t1 s2) s3) hp⟩⟩
/-- the same, where it answers -/
theorem told_val {t : XK → TE} {σ : L2.St} {H : Hp} {Q : VK} (hT : Tabs T H) (h : ∀ (E : XK) (H1 : Hp), ExtN H H1 → Tabs T H1 → t E σ H1 Q) : tTold T mg met t σ H Q := ⟨hT, fun H1 e1 t1 => h _ H1 e1 t1⟩
/-- if told != ('error', x): .. -/
theorem told_err {t : XK → TE} {tb : TS} {x : Str} {σ : L2.St} {H : Hp} {D : Ends} (hx : x ∈ met) (hT : Tabs T H) (h : ∀ (E : XK) (Q' : VK) (H1 : Hp), ExtN H H1 → Tabs T H1 → (∀ H2, Same H1 H2 → E (cE mg x) none H2) → t E σ H1 Q')
    (k : ∀ H', ExtN H H' → Tabs T H' → D.nx σ H') (ok : PyData.strOk x = true := by decide +kernel) : tIfS (tTest (tOp (rNeD K) (tTold T mg met t) (tTup (tCons (tC (.str "error")) (tCons (tC (.str x)) tNil))))) tb tNext D σ H := by
  apply k_ifS
  apply k_test
  apply k_op
  refine told_raise hx hT h fun H1 p e1 t1 hp => ?_
  walk_at "st"
  refine ⟨by show 2 ≤ sizeLine; decide, fun p2 np => ?_⟩
  have s2 : Same H1 (upd H1 p2 (.tup [.str "error", .str x])) := same_new np
  refine ⟨_, _, dp_err (s2 _ _ hp), dp_err upd_same, shaped_err ok_error ok, shaped_err ok_error ok, ?_⟩
  rw [eqv_err]
  walk_at "st"
  exact k _ (e1.trans (extn_same s2)) (tabs_same t1 s2)
theorem set_own {σ : L2.St} {i : Nat} : ∃ y, σ = σ.set i y := by
  by_cases h : i < σ.length
  · exact ⟨σ[i], by simp⟩
  · exact ⟨none, by rw [List.set_eq_of_length_le (by omega)]⟩
/-- for bad in [..]: .. -/
theorem for_bad (S : Option V → L2.St) {vs : List V} {p : Addr} {i : Nat} {tb : TS} {D : Ends} {σ : L2.St} {H : Hp} (hp : H p = some (.lst vs)) (hT : Tabs T H)
    (hs : ∀ v ∈ vs, ∀ (H' : Hp) (D' : Ends), ExtN H H' → Tabs T H' → (∀ H'', ExtN H H'' → Tabs T H'' → D'.nx (S (some v)) H'') → tb D' (S (some v)) H')
    (hd : ∀ y H', ExtN H H' → Tabs T H' → D.nx (S y) H') (hS : ∀ y, σ.set i y = S y := by intro y; rfl) :
    ∃ a, V.ref p = V.ref a ∧ (∃ xs, SqL K H a xs) ∧ ∃ W : Nat → Nat → L2.St → Hp → Prop, (∃ m, W 0 m σ H) ∧ ∀ j m σ H, W j m σ H →
      ((Itl K a).stop j H ∧ D.nx σ H) ∨ ((Itl K a).go j H ∧ ∃ N : L2.St → Hp → Prop, (∀ σ' H', N σ' H' → ∃ m', m' < m ∧ W (j + 1) m' σ' H') ∧ ∀ x H', (Itl K a).yld j H x H' → gName i x σ H' fun σ2 H2 => tb { D with nx := N, ct := N, bk := D.nx } σ2 H2) := by
  refine ⟨p, rfl, ⟨vs, lst_of hp⟩, for_list (xs := vs) (fun _ σ' H' => (∃ y, σ' = σ.set i y) ∧ ExtN H H' ∧ Tabs T H') ⟨set_own, ExtN.refl H, hT⟩ ?_ ?_ ?_⟩
  · rintro j σ' H' _ ⟨_, e, _⟩
    exact lst_of (e _ _ hp (by simp))
  · rintro j v σ' H' hv ⟨⟨y, rfl⟩, e, t⟩
    show tb _ ((σ.set i y).set i (some v)) H'
    rw [List.set_set, hS]
    exact hs v (List.mem_of_getElem? hv) H' _ e t fun H'' e2 t2 => ⟨⟨_, (hS _).symm⟩, e2, t2⟩
  · rintro σ' H' ⟨⟨y, rfl⟩, e, t⟩
    rw [hS]
    exact hd y H' e t
end Fl
/-! FlA: the numbers that the laws draw. -/
namespace Fl
open PySem L2 PySem.Spec PyProof.Rows
local macro_rules | `(tactic| walk_at "sc") => `(tactic| first
  | exact cm_l (by omega) (by omega) | exact cm_r (by omega) (by omega)
  | exact wide_div (b := 250) (by omega) (by omega) (by decide) (by decide)
  | omega | exact cpow (by omega) (by omega) (by omega))
local macro_rules | `(tactic| walk_at "st1") => `(tactic| with_reducible first
  | apply k_seq | apply k_next | apply k_asg | apply k_ret | apply k_drop | apply k_ifS | apply k_par | apply k_par2 | apply k_par3 | apply k_par33
  | (refine k_var rfl ?_) | apply k_c | apply k_op | apply k_un | apply k_I0 | apply k_p18 | apply k_p15 | apply k_p12 | apply k_p9 | apply k_p7 | apply k_p6 | apply k_p5
  | (refine k_I ?_ ?_; (focus walk_at "sc")) | apply k_U
  | apply k_eqI | apply k_neI | apply k_eqB | apply k_neB | apply k_isN | apply k_ntN
  | apply k_test | apply k_tB | apply k_bl | apply k_and | apply k_or | apply k_not | apply k_andV | apply k_orV | apply k_notV | apply k_if | apply k_chain
  | apply k_cb | apply k_call | apply k_nil | apply k_cons | apply k_tup | apply k_lst | apply k_abs | apply k_max2 | apply k_min2 | apply k_iteT | apply k_iteF | apply k_iteNT | apply k_iteNF | apply k_gsub | apply k_yes | apply k_lc | apply k_for | apply k_rng1 | apply k_rng2 | apply k_iList | apply k_iTup | apply k_bm
  | apply k_gcons | apply k_gnil | apply k_n0 | apply k_n1 | apply k_n2 | apply k_n3 | apply k_n4 | apply k_n5 | apply k_n6 | apply k_n7 | apply k_n8 | apply k_n9 | apply k_n10 | apply k_n11 | apply k_n12 | apply k_n13 | apply k_n14 | apply k_n15 | apply k_n16 | apply k_n17 | apply k_n18 | apply k_n19 | apply k_n20)
local macro_rules | `(tactic| walk_at "st") => `(tactic| repeat walk_at "st1")
local macro_rules | `(tactic| walk_at "nw") => `(tactic| (refine ⟨Nat.le_of_ble_eq_true rfl, fun p np => ?_⟩; generalize hH : upd _ p _ = H'; have s := new_same hH np; have e := new_at hH; clear hH))
variable {P : Program} {w : World} {K : PySem.W.Frag} {mg : Str → Option Value}
theorem at_ints (ns : List Int) {r : Int} (h0 : 0 ≤ r) (h1 : r < ns.length) : ∃ m ∈ ns, atI (ns.map V.int) r = some (.int m) := by
  have hl : r.toNat < ns.length := by omega
  refine ⟨ns[r.toNat], List.getElem_mem _, ?_⟩
  have e := atI_nat (xs := ns.map V.int) (j := r.toNat) (v := .int ns[r.toNat]) (by rw [List.getElem?_map, List.getElem?_eq_getElem hl]; rfl)
  rwa [show ((r.toNat : Nat) : Int) = r by omega] at e
theorem chg_lst {q p : Addr} {H H' : Hp} {xs : List V} (c : Chg q H H') (d : IsDice H q) (h : H p = some (.lst xs)) (hl : xs.length ≠ 2) : H' p = some (.lst xs) := c.1 _ _ (dice_ne d h fun a b z => by cases z; exact hl rfl) h
/-- lowest terms of small numbers -/
theorem low_rn {x : Rt} (a : x.a.natAbs ≤ 50) (b : x.b.natAbs ≤ 50) (c : x.c.natAbs ≤ 50) (d1 : 2 ≤ x.d) (d2 : x.d ≤ 40) (f : Free x.d) (b0 : x.b ≠ 0) (c0 : 0 < x.c) : RN x.low := by
  obtain ⟨h1, h2, h3⟩ := Rt.low_abs b0
  have h4 := Rt.low_c0 b0 c0
  exact ⟨by omega, by omega, by omega, by omega, by omega, d1, d2, f, Rt.low_b0 b0, by omega, Rt.low_gcd b0⟩
theorem small_c {c : Int} (h : c.natAbs < 2 ^ 60) : c.natAbs < 2 ^ 1000 := Nat.lt_of_lt_of_le h (Nat.pow_le_pow_right (by omega) (by omega))
def sp__law_any_number (K : PySem.W.Frag) (mg : Str → Option Value) : Sp := fun vs H Q _ => ∃ d : Addr, vs = [.ref d] ∧ IsDice H d ∧ ∀ H' p x, Chg d H H' → H' p = some (.tup (rtV x)) → RN x → Q (.ref p) H'
theorem len__law_any_number : ∀ vs H Q E, sp__law_any_number K mg vs H Q E → vs.length = 1 := fun _ _ _ _ ⟨_, e, _⟩ => by subst e; rfl
def t__law_any_number (P : PySem.Program) (w : PySem.World) (K : PySem.W.Frag) (mg : PySem.Str → Option PySem.Value) (E : XK) : TS :=
  (tSeq (tPar 1 2 (tCons (tOp (rIxL K) (tLst (tCons (tC (.int 2)) (tCons (tC (.int 3)) (tCons (tC (.int 5)) (tCons (tC (.int 6)) (tCons (tC (.int 7)) (tCons (tC (.int 10)) (tCons (tC (.int 13)) (tCons (tC (.int 21)) (tCons (tC (.int 29)) (tCons (tC (.int 38)) tNil))))))))))) (tCall (sp__law_roll K mg) [] E (tCons (tVar 0) (tCons (tC (.int 10)) tNil)))) (tCons (tOp (rIxL K) (tLst (tCons (tC (.int 2)) (tCons (tC (.int 9)) (tCons (tC (.int 50)) tNil)))) (tCall (sp__law_roll K mg) [] E (tCons (tVar 0) (tCons (tC (.int 3)) tNil)))) tNil)))
  (tSeq (tPar 3 4 (tCons (tOp rSubI (tCall (sp__law_roll K mg) [] E (tCons (tVar 0) (tCons (tOp rAddI (tOp rMulI (tC (.int 2)) (tVar 2)) (tC (.int 1))) tNil))) (tVar 2)) (tCons (tOp rAddI (tC (.int 1)) (tCall (sp__law_roll K mg) [] E (tCons (tVar 0) (tCons (tVar 2) tNil)))) tNil)))
  (tRet (tCall (sp__law_lowest K mg) [] E (tCons (tVar 3) (tCons (tIf (tTest (tOp rEq (tCall (sp__law_roll K mg) [] E (tCons (tVar 0) (tCons (tC (.int 2)) tNil))) (tC (.int 0)))) (tVar 4) (tUn rNegI (tVar 4))) (tCons (tVar 1) (tCons (tOp rAddI (tC (.int 1)) (tCall (sp__law_roll K mg) [] E (tCons (tVar 0) (tCons (tVar 2) tNil)))) tNil))))))))

theorem anyD : ∀ m ∈ [(2 : Int), 3, 5, 6, 7, 10, 13, 21, 29, 38], 2 ≤ m ∧ m ≤ 40 ∧ Free m := by decide
theorem anyH : ∀ m ∈ [(2 : Int), 9, 50], 2 ≤ m ∧ m ≤ 50 := by decide
theorem pure__law_any_number : ∀ (vs : List V) (H : Hp) (Q : VK) (E : XK), sp__law_any_number K mg vs H Q E → t__law_any_number P w K mg E { nx := fun _ H' => Q .non H', rt := Q } (start ["dice", "d", "high", "a", "b"] vs) H := by
  rintro vs H Q E ⟨q, rfl, hq, k⟩
  show t__law_any_number P w K mg E _ [some (.ref q), none, none, none, none] H
  unfold t__law_any_number
  walk_at "st"
  walk_at "nw"
  rename_i p1 _ H1 s1 e1
  walk_at "st"
  have c1 := Same.chg s1 hq
  refine ⟨q, 10, rfl, c1.2, by omega, by omega, fun H2 r c2 r1 r2 => ?_⟩
  obtain ⟨d, hd, ed⟩ := at_ints [2, 3, 5, 6, 7, 10, 13, 21, 29, 38] r1 r2
  obtain ⟨d1, d2, df⟩ := anyD d hd
  refine k_ixL (lst_of (chg_lst c2 c1.2 e1 (by decide))) ed ?_
  have c12 := c1.trans c2
  clear e1 c1 c2 ed hd s1 r1 r2
  walk_at "st"
  walk_at "nw"
  rename_i p3 _ H3 s3 e3
  walk_at "st"
  have c13 := c12.trans (Same.chg s3 c12.2)
  clear c12 s3
  refine ⟨q, 3, rfl, c13.2, by omega, by omega, fun H4 r c4 r1 r2 => ?_⟩
  obtain ⟨h, hh, eh⟩ := at_ints [2, 9, 50] r1 r2
  obtain ⟨h1, h2⟩ := anyH h hh
  refine k_ixL (lst_of (chg_lst c4 c13.2 e3 (by decide))) eh ?_
  have c14 := c13.trans c4
  clear e3 c13 c4 eh hh r1 r2
  walk_at "st"
  refine ⟨q, _, rfl, c14.2, by omega, by omega, fun H5 ra c5 a1 a2 => ?_⟩
  walk_at "st"
  refine ⟨q, _, rfl, c5.2, by omega, by omega, fun H6 rb c6 b1 b2 => ?_⟩
  walk_at "st"
  refine ⟨q, 2, rfl, c6.2, by omega, by omega, fun H7 rs c7 _ _ => ?_⟩
  walk_at "st"
  have c17 := ((c14.trans c5).trans c6).trans c7
  clear c14 c5 c6 c7
  obtain ⟨b, hb, hb0, hcont⟩ : ∃ b : Int, b.natAbs ≤ 50 ∧ b ≠ 0 ∧ ∀ S : Int → Prop, S b → (rs = 0 → S (1 + rb)) ∧ (rs ≠ 0 → S (-(1 + rb))) := by
    by_cases h : rs = 0
    · exact ⟨1 + rb, by omega, by omega, fun S hS => ⟨fun _ => hS, fun z => absurd h z⟩⟩
    · exact ⟨-(1 + rb), by omega, by omega, fun S hS => ⟨fun z => absurd z h, fun _ => hS⟩⟩
  have fin : ∀ (b : Int) (H8 : Hp) (rc : Int), b.natAbs ≤ 50 → b ≠ 0 → Chg q H H8 → 0 ≤ rc → rc < h → sp__law_lowest K mg [.int (ra - h), .int b, .int d, .int (1 + rc)] H8 Q E := fun b H8 rc hb hb0 c8 r1 r2 =>
    ⟨⟨ra - h, b, d, 1 + rc⟩, rfl, hb0, by show 1 + rc ≠ 0; omega, small_c (by show (1 + rc).natAbs < 2 ^ 60; omega), fun H9 p s9 e9 => k H9 p _ (c8.trans (Same.chg s9 c8.2)) (by rw [red_low (by show 0 < 1 + rc; omega)] at e9; exact e9) (low_rn (by show (ra - h).natAbs ≤ 50; omega) hb (by show (1 + rc).natAbs ≤ 50; omega) d1 d2 df hb0 (by show 0 < 1 + rc; omega))⟩
  refine k_ite (fun z => ?_) fun z => ?_
  · walk_at "st"
    refine ⟨q, h, rfl, c17.2, by omega, by omega, fun H8 rc c8 c1 c2 => ?_⟩
    walk_at "st"
    exact fin _ _ _ (by omega) (by omega) (c17.trans c8) c1 c2
  · walk_at "st"
    refine ⟨q, h, rfl, c17.2, by omega, by omega, fun H8 rc c8 c1 c2 => ?_⟩
    walk_at "st"
    exact fin _ _ _ (by omega) (by omega) (c17.trans c8) c1 c2
end Fl
/-! FlK: what stays from heap to heap, found step by step backwards. -/
namespace Fl
open PySem L2 PySem.Spec PyProof.Rows HotX L2H LamX
variable {P : Program} {w : World} {K : PySem.W.Frag} {mg : Str → Option Value} {T : List (Addr × Str)} {met : List Str} {H H' : Hp} {p q R : Addr} {o : HO} {xs : List V} {qs : List Addr}
/-- no dice -/
def Kb (o : HO) : Prop := ∀ c k : Int, o ≠ .lst [.int c, .int k]
theorem kb_tup : Kb (.tup xs) := fun _ _ => by simp
theorem kb_ref {l : List Addr} : Kb (.lst (l.map V.ref)) := fun c k z => by
  cases l with
  | nil => simp at z
  | cons a r => simp at z
theorem kb_len (h : xs.length ≠ 2) : Kb (.lst xs) := fun c k z => by cases z; exact h rfl
/-- a step that may roll dice -/
structure Kq (H H' : Hp) : Prop where
  obj : ∀ b o, Kb o → H b = some o → H' b = some o
  dice : ∀ q, IsDice H q → IsDice H' q
theorem kq_of (d : IsDice H q) (c : Chg q H H') : Kq H H' := ⟨fun b o k h => c.1 b o (dice_ne d h k) h, fun _ h => c.dice h⟩
theorem kq_same (s : Same H H') : Kq H H' := ⟨fun b o _ h => s b o h, fun _ h => Same.dice s h⟩
theorem Kq.trans {H1 : Hp} (a : Kq H H1) (b : Kq H1 H') : Kq H H' := ⟨fun c o k h => b.obj c o k (a.obj c o k h), fun q h => b.dice q (a.dice q h)⟩
theorem kq_refl : Kq H H := ⟨fun _ _ _ h => h, fun _ h => h⟩
theorem st_kq {H1 : Hp} (b : Same H1 H') (a : Kq H H1) : Kq H H' := a.trans (kq_same b)
theorem kq_kq {H1 : Hp} (b : Kq H1 H') (a : Kq H H1) : Kq H H' := a.trans b
theorem kq_tabs (k : Kq H H') (t : Tabs T H) : Tabs T H' := fun p hp => by
  obtain ⟨ps, h1, h2, h3⟩ := t p hp
  refine ⟨ps, k.obj _ _ (fun _ _ z => by cases z) h1, h2, fun pos cv hc => ?_⟩
  obtain ⟨c', e, h⟩ := h3 pos cv hc
  exact ⟨c', e, k.obj _ _ (fun _ _ z => by cases z) h⟩
theorem kq_dk (k : Kq H H') (d : Dk T R qs H) : Dk T R qs H' := ⟨k.obj _ _ kb_ref d.lst, d.one, fun q h => k.dice q (d.dice q h), kq_tabs k d.tabs⟩
theorem kq_dice (k : Kq H H') (d : IsDice H q) : IsDice H' q := k.dice q d
theorem kq_at (k : Kq H H') (hb : Kb o) (h : H p = some o) : H' p = some o := k.obj _ _ hb h
theorem kq_at2 (k : Kq H H') (h : H p = some o) (hb : Kb o) : H' p = some o := k.obj _ _ hb h
theorem xn_at2 (e : ExtN H H') (h : H p = some o) (n : ∀ ps, o ≠ .tbl ps) : H' p = some o := e _ _ h n
theorem st_at (s : Same H H') (h : H p = some o) : H' p = some o := s _ _ h
theorem st_trans {H1 : Hp} (b : Same H1 H') (a : Same H H1) : Same H H' := a.trans b
theorem st_dice (s : Same H H') (d : IsDice H q) : IsDice H' q := Same.dice s d
theorem st_tabs (s : Same H H') (t : Tabs T H) : Tabs T H' := tabs_same t s
theorem st_dk (s : Same H H') (d : Dk T R qs H) : Dk T R qs H' := d.same s
theorem xn_at (e : ExtN H H') (n : ∀ ps, o ≠ .tbl ps) (h : H p = some o) : H' p = some o := e _ _ h n
theorem xn_dice (e : ExtN H H') (d : IsDice H q) : IsDice H' q := ExtN.dice e d
theorem xn_dk (e : ExtN H H') (t : Tabs T H') (d : Dk T R qs H) : Dk T R qs H' := d.ext e t
theorem dp_int {i : Int} : Dp K H (.int i) (.int i) := .int i
theorem dp_non : Dp K H .non .none := .non
theorem dp_bl {b : Bool} : Dp K H (.bl b) (.bool b) := .bl b
theorem dp_str {x : Str} : Dp K H (.str x) (.str x) := .str x
/-- all that a law keeps while it works at one dice -/
structure Lw (T : List (Addr × Str)) (R : Addr) (qs : List Addr) (d : Addr) (H : Hp) : Prop where
  dk : Dk T R qs H
  mem : d ∈ qs
theorem lw_dice {d : Addr} (l : Lw T R qs d H) : IsDice H d := l.dk.dice d l.mem
theorem lw_tabs {d : Addr} (l : Lw T R qs d H) : Tabs T H := l.dk.tabs
theorem st_lw {d : Addr} (s : Same H H') (l : Lw T R qs d H) : Lw T R qs d H' := ⟨st_dk s l.dk, l.mem⟩
theorem kq_lw {d : Addr} (s : Kq H H') (l : Lw T R qs d H) : Lw T R qs d H' := ⟨kq_dk s l.dk, l.mem⟩
theorem xn_lw {d : Addr} (e : ExtN H H') (t : Tabs T H') (l : Lw T R qs d H) : Lw T R qs d H' := ⟨xn_dk e t l.dk, l.mem⟩
theorem xn_tup (e : ExtN H H') (h : SqT K H p xs) : SqT K H' p xs := by
  rcases h with (h | ⟨o, h⟩) | h
  · exact .inl (.inl (e _ _ h (by simp)))
  · exact .inl (.inr ⟨o, e _ _ h (by simp)⟩)
  · exact .inr h
theorem xn_lst (e : ExtN H H') (h : SqL K H p xs) : SqL K H' p xs := by
  rcases h with (h | ⟨o, h⟩) | h
  · exact .inl (.inl (e _ _ h (by simp)))
  · exact .inl (.inr ⟨o, e _ _ h (by simp)⟩)
  · exact .inr h
mutual
theorem xn_dp (e : ExtN H H') : ∀ {v : V} {d : PyData}, Dp K H v d → Dp K H' v d
  | _, _, .non => .non
  | _, _, .bl b => .bl b
  | _, _, .int i => .int i
  | _, _, .str x => .str x
  | _, _, .lst h a => .lst (xn_lst e h) (xn_dpa e a)
  | _, _, .tup h a => .tup (xn_tup e h) (xn_dpa e a)
theorem xn_dpa (e : ExtN H H') : ∀ {vs : List V} {ds : List PyData}, DpAll K H vs ds → DpAll K H' vs ds
  | _, _, .nil => .nil
  | _, _, .cons h a => .cons (xn_dp e h) (xn_dpa e a)
end
theorem st_dp {v : V} {d : PyData} (s : Same H H') (h : Dp K H v d) : Dp K H' v d := same_dp s h
/-! ### calls -/
theorem k_roll {d : Addr} {m : Int} {Q : VK} {E : XK} (hd : IsDice H d) (m1 : 1 ≤ m) (m2 : m ≤ 1000000000000000000) (k : ∀ H' r, Kq H H' → 0 ≤ r → r < m → Q (.int r) H') : sp__law_roll K mg [.ref d, .int m] H Q E :=
  ⟨d, m, rfl, hd, m1, m2, fun H' r c r1 r2 => k H' r (kq_of hd c) r1 r2⟩
theorem k_any_number {d : Addr} {Q : VK} {E : XK} (hd : IsDice H d) (k : ∀ H' p x, Kq H H' → H' p = some (.tup (rtV x)) → RN x → Q (.ref p) H') : sp__law_any_number K mg [.ref d] H Q E :=
  ⟨d, rfl, hd, fun H' p x c e r => k H' p x (kq_of hd c) e r⟩
theorem k_is_rn {x : Rt} {Q : VK} {E : XK} (h : H p = some (.tup (rtV x))) (r : RN x) (k : ∀ H', Same H H' → Q (.bl true) H') : sp_is_root_number K mg [.ref p] H Q E :=
  ⟨_, rtD x, rfl, dp_rt (tup_of h), fun H' s => by rw [rnD_rt, decide_eq_true r]; exact k H' s⟩
theorem rtD_inj {x y : Rt} (h : rtD x = rtD y) : x = y := by
  obtain ⟨a, b, c, d⟩ := x
  obtain ⟨a', b', c', d'⟩ := y
  simp [rtD] at h
  obtain ⟨rfl, rfl, rfl, rfl⟩ := h
  rfl
theorem k_floor_of {x : Rt} {Q : VK} {E : XK} (h : H p = some (.tup (rtV x))) (r : RN x) (k : ∀ H', Same H H' → Q (.int (x.fl 1)) H') : sp_floor_of K mg [.ref p] H Q E :=
  ⟨_, rtD x, rfl, dp_rt (tup_of h), fun z => (by rw [rnD_rt, decide_eq_true r] at z; cases z), fun y e _ H' s => (by rw [rtD_inj e] at k; rw [← Rt.fl_one]; exact k H' s)⟩
theorem RN.fl_abs {x : Rt} (r : RN x) (n : Int) : (x.fl n).natAbs ≤ n.natAbs * 2050 + 1 := by
  have h := Rt.fl_abs r.c1 (show 1 ≤ x.d by have := r.d1; omega) n
  have a1 := r.a1
  have a2 := r.a2
  have b1 := r.b1
  have b2 := r.b2
  have d1 := r.d1
  have d2 := r.d2
  have e : x.b.natAbs * x.d.natAbs ≤ 50 * 40 := Nat.mul_le_mul (by omega) (by omega)
  have e2 : n.natAbs * (x.a.natAbs + x.b.natAbs * x.d.natAbs) ≤ n.natAbs * 2050 := Nat.mul_le_mul_left _ (by omega)
  omega
theorem RN.neg {x : Rt} (r : RN x) : RN x.neg := by
  have a1 := r.a1
  have a2 := r.a2
  have b1 := r.b1
  have b2 := r.b2
  have b0 := r.b0
  refine ⟨?_, ?_, ?_, ?_, r.c2, r.d1, r.d2, r.free, ?_, r.c1, ?_⟩
  · show -50 ≤ -x.a; omega
  · show -x.a ≤ 50; omega
  · show -50 ≤ -x.b; omega
  · show -x.b ≤ 50; omega
  · show -x.b ≠ 0; omega
  · show Int.gcd (Int.gcd (-x.a) (-x.b)) x.c = 1
    rw [Int.gcd_neg, Int.neg_gcd]
    exact r.low
/-- the signs beside a whole part -/
theorem sgn_lo {x : Rt} (o : x.Ok) {n s : Int} (hn : n ≠ 0) (h : Sgn x n (-x.fl n) s) : 0 < s := h.1.mpr (o.fl hn).lo
theorem sgn_hi {x : Rt} (o : x.Ok) {n s : Int} (hn : n ≠ 0) (h : Sgn x n (-x.fl n - 1) s) : s < 0 := h.2.mpr (by have := (o.fl hn).hi; rwa [show x.fl n + 1 = -(-x.fl n - 1) by omega] at this)
theorem k_lfloor {x : Rt} {n : Int} {Q : VK} {E : XK} (h : H p = some (.tup (rtV x))) (o : x.Ok) (s : x.Sm) (hn : n.natAbs < 2 ^ 62) (k : ∀ H', Same H H' → Q (.int (x.fl n)) H') : sp__law_floor K mg [.ref p, .int n] H Q E := ⟨p, x, n, rfl, tup_of h, o, s, hn, k⟩
theorem k_lsign {x : Rt} {m n : Int} {Q : VK} {E : XK} (h : H p = some (.tup (rtV x))) (o : x.Ok) (s : x.Sm) (hm : m.natAbs < 2 ^ 200) (hn : n.natAbs < 2 ^ 200) (k : ∀ s, Sgn x m n s → Q (.int s) H) : sp__law_sign K mg [.ref p, .int m, .int n] H Q E :=
  ⟨p, x, m, n, rfl, tup_of h, o, s, Nat.lt_of_lt_of_le hm (Nat.pow_le_pow_right (by omega) (by omega)), Nat.lt_of_lt_of_le hn (Nat.pow_le_pow_right (by omega) (by omega)), fun s hs _ _ => k s hs⟩
theorem k_lsignW {x : Rt} {m n : Int} {Q : VK} {E : XK} (h : H p = some (.tup (rtV x))) (o : x.Ok) (s : x.Sm) (hm : m.natAbs < 2 ^ 4000) (hn : n.natAbs < 2 ^ 4000) (k : ∀ s, Sgn x m n s → -1 ≤ s → s ≤ 1 → Q (.int s) H) : sp__law_sign K mg [.ref p, .int m, .int n] H Q E := ⟨p, x, m, n, rfl, tup_of h, o, s, hm, hn, k⟩
/-! ### the top loop of a law -/
theorem law_top {a : Addr} {ns : List Int} {σ0 : L2.St} {n : Nat} {m : Int} {tb : TS} {Q : VK} {E : XK} (hs : SqL K H a (ns.map V.int)) (hl : ns.length ≤ 63) (hT : Tabs T H) (h0 : σ0.length = n) (m1 : 1 ≤ m) (m2 : m ≤ 63)
    (body : ∀ (D : Ends) (d R : Addr) (qs : List Addr) (r : L2.St) (H1 : Hp), r.length = n → Lw T R qs d H1 → (∀ y' r' H', r'.length = n → Lw T R qs d H' → D.nx (some (.ref a) :: y' :: r') H') → tb D (some (.ref a) :: some (.ref d) :: r) H1)
    (q : ∀ H', Q (.bl true) H') :
    tSeq (tFor (iList K (tCall (sp__law_rounds K mg) [] E (tCons (tVar 0) (tCons (tC (.int m)) tNil)))) (gName 1) tb) (tRet (tC (.bl true))) { nx := fun _ H' => Q .non H', rt := Q } (some (.ref a) :: none :: σ0) H := by
  apply k_seq
  apply k_for
  apply k_iList
  apply k_call
  apply k_cons
  refine k_var rfl ?_
  apply k_cons
  apply k_c
  apply k_nil
  refine ⟨a, ns, m, rfl, hs, hl, by omega, by omega, fun H1 R qs s1 nR hR l1 hd => ?_⟩
  have dk : Dk T R qs H1 := ⟨hR, l1, hd, tabs_same hT s1⟩
  refine ⟨R, rfl, ⟨_, lst_of hR⟩, for_list (xs := qs.map V.ref) (fun _ σ H' => (∃ y r, σ = some (.ref a) :: y :: r ∧ r.length = n) ∧ Dk T R qs H') ⟨⟨_, _, rfl, h0⟩, dk⟩ (fun i σ H' _ p => lst_of p.2.lst) ?_ ?_⟩
  · rintro i x σ H2 hx ⟨⟨y, r, rfl, hr⟩, dk⟩
    obtain ⟨d, hd, rfl⟩ : ∃ d ∈ qs, x = .ref d := by
      obtain ⟨d, hd, e⟩ := List.mem_map.mp (List.mem_of_getElem? hx)
      exact ⟨d, hd, e.symm⟩
    exact body _ d R qs r H2 hr ⟨dk, hd⟩ fun y' r' H' h l => ⟨⟨y', r', rfl, h⟩, l.dk⟩
  · rintro σ H2 ⟨⟨y, r, rfl, hr⟩, _⟩
    exact q _
/-- told != ('error', x), where it raises x -/
theorem told_ne {t : XK → TE} {x : Str} {σ : L2.St} {R : Bool → Hp → Prop} (hx : x ∈ met) (hT : Tabs T H) (h : ∀ (E : XK) (Q' : VK) (H1 : Hp), ExtN H H1 → Tabs T H1 → (∀ H2, Same H1 H2 → E (cE mg x) none H2) → t E σ H1 Q')
    (k : ∀ H', ExtN H H' → Tabs T H' → R false H') (ok : PyData.strOk x = true := by decide +kernel) : tTold T mg met t σ H fun x1 H1 => tTup (tCons (tC (.str "error")) (tCons (tC (.str x)) tNil)) σ H1 fun y H2 => rNeD K x1 y H2 fun z H3 => ∃ k, z = .bl k ∧ R k H3 := by
  refine told_raise hx hT h fun H1 p e1 t1 hp => ?_
  apply k_tup
  apply k_cons
  apply k_c
  apply k_cons
  apply k_c
  apply k_nil
  refine ⟨by show 2 ≤ sizeLine; decide, fun p2 np => ?_⟩
  have s2 : Same H1 (upd H1 p2 (.tup [.str "error", .str x])) := same_new np
  refine ⟨_, _, dp_err (s2 _ _ hp), dp_err upd_same, shaped_err ok_error ok, shaped_err ok_error ok, ?_⟩
  rw [eqv_err]
  exact ⟨_, rfl, k _ (e1.trans (extn_same s2)) (tabs_same t1 s2)⟩
/-- one of the items -/
theorem at_any {r : Int} (h0 : 0 ≤ r) (h1 : r < xs.length) : ∃ v ∈ xs, atI xs r = some v := by
  have hl : r.toNat < xs.length := by omega
  refine ⟨xs[r.toNat], List.getElem_mem _, ?_⟩
  have e := atI_nat (j := r.toNat) (List.getElem?_eq_getElem hl)
  rwa [show ((r.toNat : Nat) : Int) = r by omega] at e
theorem k_cat' {Q : VK} {zs : List V} (h1 : H p = some (.lst xs)) (h2 : H q = some (.lst zs)) (hl : xs.length + zs.length ≤ 100000) (k : ∀ r H', Same H H' → H' r = some (.lst (xs ++ zs)) → Q (.ref r) H') : rCat (.ref p) (.ref q) H Q :=
  k_cat h1 h2 hl fun r nr => k r _ (same_new nr) upd_same
/-! ### lists by their length -/
theorem ex_0 {α : Type} {r : List α} (h : r.length = 0) : r = [] := List.eq_nil_of_length_eq_zero h
theorem ex_s {α : Type} {r : List α} {n : Nat} (h : r.length = n + 1) : ∃ y s, r = y :: s ∧ s.length = n := by
  cases r with
  | nil => simp at h
  | cons y s => exact ⟨y, s, rfl, by simpa using h⟩
theorem ex_1 {α : Type} {r : List α} (h : r.length = 1) : ∃ y0, r = [y0] := by
  obtain ⟨y0, s, rfl, g⟩ := ex_s h
  exact ⟨y0, by rw [ex_0 g]⟩
theorem ex_2 {α : Type} {r : List α} (h : r.length = 2) : ∃ y0 y1, r = [y0, y1] := by
  obtain ⟨y0, s, rfl, g⟩ := ex_s h
  obtain ⟨y1, e⟩ := ex_1 g
  exact ⟨y0, y1, by rw [e]⟩
theorem ex_3 {α : Type} {r : List α} (h : r.length = 3) : ∃ y0 y1 y2, r = [y0, y1, y2] := by
  obtain ⟨y0, s, rfl, g⟩ := ex_s h
  obtain ⟨y1, y2, e⟩ := ex_2 g
  exact ⟨y0, y1, y2, by rw [e]⟩
theorem ex_4 {α : Type} {r : List α} (h : r.length = 4) : ∃ y0 y1 y2 y3, r = [y0, y1, y2, y3] := by
  obtain ⟨y0, s, rfl, g⟩ := ex_s h
  obtain ⟨y1, y2, y3, e⟩ := ex_3 g
  exact ⟨y0, y1, y2, y3, by rw [e]⟩
theorem ex_5 {α : Type} {r : List α} (h : r.length = 5) : ∃ y0 y1 y2 y3 y4, r = [y0, y1, y2, y3, y4] := by
  obtain ⟨y0, s, rfl, g⟩ := ex_s h
  obtain ⟨y1, y2, y3, y4, e⟩ := ex_4 g
  exact ⟨y0, y1, y2, y3, y4, by rw [e]⟩
theorem ex_6 {α : Type} {r : List α} (h : r.length = 6) : ∃ y0 y1 y2 y3 y4 y5, r = [y0, y1, y2, y3, y4, y5] := by
  obtain ⟨y0, s, rfl, g⟩ := ex_s h
  obtain ⟨y1, y2, y3, y4, y5, e⟩ := ex_5 g
  exact ⟨y0, y1, y2, y3, y4, y5, by rw [e]⟩
theorem ex_7 {α : Type} {r : List α} (h : r.length = 7) : ∃ y0 y1 y2 y3 y4 y5 y6, r = [y0, y1, y2, y3, y4, y5, y6] := by
  obtain ⟨y0, s, rfl, g⟩ := ex_s h
  obtain ⟨y1, y2, y3, y4, y5, y6, e⟩ := ex_6 g
  exact ⟨y0, y1, y2, y3, y4, y5, y6, by rw [e]⟩
theorem ex_8 {α : Type} {r : List α} (h : r.length = 8) : ∃ y0 y1 y2 y3 y4 y5 y6 y7, r = [y0, y1, y2, y3, y4, y5, y6, y7] := by
  obtain ⟨y0, s, rfl, g⟩ := ex_s h
  obtain ⟨y1, y2, y3, y4, y5, y6, y7, e⟩ := ex_7 g
  exact ⟨y0, y1, y2, y3, y4, y5, y6, y7, by rw [e]⟩
theorem ex_9 {α : Type} {r : List α} (h : r.length = 9) : ∃ y0 y1 y2 y3 y4 y5 y6 y7 y8, r = [y0, y1, y2, y3, y4, y5, y6, y7, y8] := by
  obtain ⟨y0, s, rfl, g⟩ := ex_s h
  obtain ⟨y1, y2, y3, y4, y5, y6, y7, y8, e⟩ := ex_8 g
  exact ⟨y0, y1, y2, y3, y4, y5, y6, y7, y8, by rw [e]⟩
theorem ex_10 {α : Type} {r : List α} (h : r.length = 10) : ∃ y0 y1 y2 y3 y4 y5 y6 y7 y8 y9, r = [y0, y1, y2, y3, y4, y5, y6, y7, y8, y9] := by
  obtain ⟨y0, s, rfl, g⟩ := ex_s h
  obtain ⟨y1, y2, y3, y4, y5, y6, y7, y8, y9, e⟩ := ex_9 g
  exact ⟨y0, y1, y2, y3, y4, y5, y6, y7, y8, y9, by rw [e]⟩
theorem ex_11 {α : Type} {r : List α} (h : r.length = 11) : ∃ y0 y1 y2 y3 y4 y5 y6 y7 y8 y9 y10, r = [y0, y1, y2, y3, y4, y5, y6, y7, y8, y9, y10] := by
  obtain ⟨y0, s, rfl, g⟩ := ex_s h
  obtain ⟨y1, y2, y3, y4, y5, y6, y7, y8, y9, y10, e⟩ := ex_10 g
  exact ⟨y0, y1, y2, y3, y4, y5, y6, y7, y8, y9, y10, by rw [e]⟩
theorem ex_12 {α : Type} {r : List α} (h : r.length = 12) : ∃ y0 y1 y2 y3 y4 y5 y6 y7 y8 y9 y10 y11, r = [y0, y1, y2, y3, y4, y5, y6, y7, y8, y9, y10, y11] := by
  obtain ⟨y0, s, rfl, g⟩ := ex_s h
  obtain ⟨y1, y2, y3, y4, y5, y6, y7, y8, y9, y10, y11, e⟩ := ex_11 g
  exact ⟨y0, y1, y2, y3, y4, y5, y6, y7, y8, y9, y10, y11, by rw [e]⟩
theorem ex_13 {α : Type} {r : List α} (h : r.length = 13) : ∃ y0 y1 y2 y3 y4 y5 y6 y7 y8 y9 y10 y11 y12, r = [y0, y1, y2, y3, y4, y5, y6, y7, y8, y9, y10, y11, y12] := by
  obtain ⟨y0, s, rfl, g⟩ := ex_s h
  obtain ⟨y1, y2, y3, y4, y5, y6, y7, y8, y9, y10, y11, y12, e⟩ := ex_12 g
  exact ⟨y0, y1, y2, y3, y4, y5, y6, y7, y8, y9, y10, y11, y12, by rw [e]⟩
theorem ex_14 {α : Type} {r : List α} (h : r.length = 14) : ∃ y0 y1 y2 y3 y4 y5 y6 y7 y8 y9 y10 y11 y12 y13, r = [y0, y1, y2, y3, y4, y5, y6, y7, y8, y9, y10, y11, y12, y13] := by
  obtain ⟨y0, s, rfl, g⟩ := ex_s h
  obtain ⟨y1, y2, y3, y4, y5, y6, y7, y8, y9, y10, y11, y12, y13, e⟩ := ex_13 g
  exact ⟨y0, y1, y2, y3, y4, y5, y6, y7, y8, y9, y10, y11, y12, y13, by rw [e]⟩
theorem ex_15 {α : Type} {r : List α} (h : r.length = 15) : ∃ y0 y1 y2 y3 y4 y5 y6 y7 y8 y9 y10 y11 y12 y13 y14, r = [y0, y1, y2, y3, y4, y5, y6, y7, y8, y9, y10, y11, y12, y13, y14] := by
  obtain ⟨y0, s, rfl, g⟩ := ex_s h
  obtain ⟨y1, y2, y3, y4, y5, y6, y7, y8, y9, y10, y11, y12, y13, y14, e⟩ := ex_14 g
  exact ⟨y0, y1, y2, y3, y4, y5, y6, y7, y8, y9, y10, y11, y12, y13, y14, by rw [e]⟩
theorem ex_16 {α : Type} {r : List α} (h : r.length = 16) : ∃ y0 y1 y2 y3 y4 y5 y6 y7 y8 y9 y10 y11 y12 y13 y14 y15, r = [y0, y1, y2, y3, y4, y5, y6, y7, y8, y9, y10, y11, y12, y13, y14, y15] := by
  obtain ⟨y0, s, rfl, g⟩ := ex_s h
  obtain ⟨y1, y2, y3, y4, y5, y6, y7, y8, y9, y10, y11, y12, y13, y14, y15, e⟩ := ex_15 g
  exact ⟨y0, y1, y2, y3, y4, y5, y6, y7, y8, y9, y10, y11, y12, y13, y14, y15, by rw [e]⟩
theorem ex_17 {α : Type} {r : List α} (h : r.length = 17) : ∃ y0 y1 y2 y3 y4 y5 y6 y7 y8 y9 y10 y11 y12 y13 y14 y15 y16, r = [y0, y1, y2, y3, y4, y5, y6, y7, y8, y9, y10, y11, y12, y13, y14, y15, y16] := by
  obtain ⟨y0, s, rfl, g⟩ := ex_s h
  obtain ⟨y1, y2, y3, y4, y5, y6, y7, y8, y9, y10, y11, y12, y13, y14, y15, y16, e⟩ := ex_16 g
  exact ⟨y0, y1, y2, y3, y4, y5, y6, y7, y8, y9, y10, y11, y12, y13, y14, y15, y16, by rw [e]⟩
theorem ex_18 {α : Type} {r : List α} (h : r.length = 18) : ∃ y0 y1 y2 y3 y4 y5 y6 y7 y8 y9 y10 y11 y12 y13 y14 y15 y16 y17, r = [y0, y1, y2, y3, y4, y5, y6, y7, y8, y9, y10, y11, y12, y13, y14, y15, y16, y17] := by
  obtain ⟨y0, s, rfl, g⟩ := ex_s h
  obtain ⟨y1, y2, y3, y4, y5, y6, y7, y8, y9, y10, y11, y12, y13, y14, y15, y16, y17, e⟩ := ex_17 g
  exact ⟨y0, y1, y2, y3, y4, y5, y6, y7, y8, y9, y10, y11, y12, y13, y14, y15, y16, y17, by rw [e]⟩
theorem ex_19 {α : Type} {r : List α} (h : r.length = 19) : ∃ y0 y1 y2 y3 y4 y5 y6 y7 y8 y9 y10 y11 y12 y13 y14 y15 y16 y17 y18, r = [y0, y1, y2, y3, y4, y5, y6, y7, y8, y9, y10, y11, y12, y13, y14, y15, y16, y17, y18] := by
  obtain ⟨y0, s, rfl, g⟩ := ex_s h
  obtain ⟨y1, y2, y3, y4, y5, y6, y7, y8, y9, y10, y11, y12, y13, y14, y15, y16, y17, y18, e⟩ := ex_18 g
  exact ⟨y0, y1, y2, y3, y4, y5, y6, y7, y8, y9, y10, y11, y12, y13, y14, y15, y16, y17, y18, by rw [e]⟩
theorem ex_20 {α : Type} {r : List α} (h : r.length = 20) : ∃ y0 y1 y2 y3 y4 y5 y6 y7 y8 y9 y10 y11 y12 y13 y14 y15 y16 y17 y18 y19, r = [y0, y1, y2, y3, y4, y5, y6, y7, y8, y9, y10, y11, y12, y13, y14, y15, y16, y17, y18, y19] := by
  obtain ⟨y0, s, rfl, g⟩ := ex_s h
  obtain ⟨y1, y2, y3, y4, y5, y6, y7, y8, y9, y10, y11, y12, y13, y14, y15, y16, y17, y18, y19, e⟩ := ex_19 g
  exact ⟨y0, y1, y2, y3, y4, y5, y6, y7, y8, y9, y10, y11, y12, y13, y14, y15, y16, y17, y18, y19, by rw [e]⟩
theorem ex_21 {α : Type} {r : List α} (h : r.length = 21) : ∃ y0 y1 y2 y3 y4 y5 y6 y7 y8 y9 y10 y11 y12 y13 y14 y15 y16 y17 y18 y19 y20, r = [y0, y1, y2, y3, y4, y5, y6, y7, y8, y9, y10, y11, y12, y13, y14, y15, y16, y17, y18, y19, y20] := by
  obtain ⟨y0, s, rfl, g⟩ := ex_s h
  obtain ⟨y1, y2, y3, y4, y5, y6, y7, y8, y9, y10, y11, y12, y13, y14, y15, y16, y17, y18, y19, y20, e⟩ := ex_20 g
  exact ⟨y0, y1, y2, y3, y4, y5, y6, y7, y8, y9, y10, y11, y12, y13, y14, y15, y16, y17, y18, y19, y20, by rw [e]⟩
theorem ex_22 {α : Type} {r : List α} (h : r.length = 22) : ∃ y0 y1 y2 y3 y4 y5 y6 y7 y8 y9 y10 y11 y12 y13 y14 y15 y16 y17 y18 y19 y20 y21, r = [y0, y1, y2, y3, y4, y5, y6, y7, y8, y9, y10, y11, y12, y13, y14, y15, y16, y17, y18, y19, y20, y21] := by
  obtain ⟨y0, s, rfl, g⟩ := ex_s h
  obtain ⟨y1, y2, y3, y4, y5, y6, y7, y8, y9, y10, y11, y12, y13, y14, y15, y16, y17, y18, y19, y20, y21, e⟩ := ex_21 g
  exact ⟨y0, y1, y2, y3, y4, y5, y6, y7, y8, y9, y10, y11, y12, y13, y14, y15, y16, y17, y18, y19, y20, y21, by rw [e]⟩
theorem ex_23 {α : Type} {r : List α} (h : r.length = 23) : ∃ y0 y1 y2 y3 y4 y5 y6 y7 y8 y9 y10 y11 y12 y13 y14 y15 y16 y17 y18 y19 y20 y21 y22, r = [y0, y1, y2, y3, y4, y5, y6, y7, y8, y9, y10, y11, y12, y13, y14, y15, y16, y17, y18, y19, y20, y21, y22] := by
  obtain ⟨y0, s, rfl, g⟩ := ex_s h
  obtain ⟨y1, y2, y3, y4, y5, y6, y7, y8, y9, y10, y11, y12, y13, y14, y15, y16, y17, y18, y19, y20, y21, y22, e⟩ := ex_22 g
  exact ⟨y0, y1, y2, y3, y4, y5, y6, y7, y8, y9, y10, y11, y12, y13, y14, y15, y16, y17, y18, y19, y20, y21, y22, by rw [e]⟩
theorem ex_24 {α : Type} {r : List α} (h : r.length = 24) : ∃ y0 y1 y2 y3 y4 y5 y6 y7 y8 y9 y10 y11 y12 y13 y14 y15 y16 y17 y18 y19 y20 y21 y22 y23, r = [y0, y1, y2, y3, y4, y5, y6, y7, y8, y9, y10, y11, y12, y13, y14, y15, y16, y17, y18, y19, y20, y21, y22, y23] := by
  obtain ⟨y0, s, rfl, g⟩ := ex_s h
  obtain ⟨y1, y2, y3, y4, y5, y6, y7, y8, y9, y10, y11, y12, y13, y14, y15, y16, y17, y18, y19, y20, y21, y22, y23, e⟩ := ex_23 g
  exact ⟨y0, y1, y2, y3, y4, y5, y6, y7, y8, y9, y10, y11, y12, y13, y14, y15, y16, y17, y18, y19, y20, y21, y22, y23, by rw [e]⟩
abbrev rStrI : List V → Hp → VK → Prop := fun xs H Q => ∃ i, xs = [.int i] ∧ i.natAbs.log2 < 1920 ∧ Q (.str (toString i)) H
theorem k_strI {i : Int} {Q : VK} (h : i.natAbs < 1000000000000000000000) (k : Q (.str (toString i)) H) : rStrI [.int i] H Q := ⟨i, rfl, Nat.lt_of_lt_of_le (PySem.Flt.log2_lt_of (k := 70) (by decide) (by omega)) (by decide), k⟩
theorem dp3 {x y z : V} {d e f : PyData} (h : H p = some (.tup [x, y, z])) (h1 : Dp K H x d) (h2 : Dp K H y e) (h3 : Dp K H z f) : Dp K H (.ref p) (.tuple [d, e, f]) := .tup (tup_of h) (.cons h1 (.cons h2 (.cons h3 .nil)))
theorem dp4 {x y z t : V} {d e f g : PyData} (h : H p = some (.tup [x, y, z, t])) (h1 : Dp K H x d) (h2 : Dp K H y e) (h3 : Dp K H z f) (h4 : Dp K H t g) : Dp K H (.ref p) (.tuple [d, e, f, g]) := .tup (tup_of h) (.cons h1 (.cons h2 (.cons h3 (.cons h4 .nil))))
theorem dp4l {x y z t : V} {d e f g : PyData} (h : H p = some (.lst [x, y, z, t])) (h1 : Dp K H x d) (h2 : Dp K H y e) (h3 : Dp K H z f) (h4 : Dp K H t g) : Dp K H (.ref p) (.list [d, e, f, g]) := .lst (lst_of h) (.cons h1 (.cons h2 (.cons h3 (.cons h4 .nil))))
theorem dp5 {x y z t u : V} {d e f g i : PyData} (h : H p = some (.tup [x, y, z, t, u])) (h1 : Dp K H x d) (h2 : Dp K H y e) (h3 : Dp K H z f) (h4 : Dp K H t g) (h5 : Dp K H u i) : Dp K H (.ref p) (.tuple [d, e, f, g, i]) := .tup (tup_of h) (.cons h1 (.cons h2 (.cons h3 (.cons h4 (.cons h5 .nil)))))
theorem dp0 (h : H p = some (.tup [])) : Dp K H (.ref p) (.tuple []) := .tup (tup_of h) .nil
/-! ### ways that meet again -/
theorem k_cut {t u : TS} {D : Ends} {σ : L2.St} (N : L2.St → Hp → Prop) (hN : ∀ σ' H', N σ' H' → u D σ' H') (h : ∀ X : L2.St → Hp → Prop, (∀ σ' H', N σ' H' → X σ' H') → t { D with nx := X } σ H) : tSeq t u D σ H := h _ hN
theorem k_cut2 {t u v : TS} {D : Ends} {σ : L2.St} (N : L2.St → Hp → Prop) (hN : ∀ σ' H', N σ' H' → v D σ' H') (h : ∀ X : L2.St → Hp → Prop, (∀ σ' H', N σ' H' → X σ' H') → tSeq t u { D with nx := X } σ H) : tSeq t (tSeq u v) D σ H := h _ hN
theorem k_cut3 {t u v z : TS} {D : Ends} {σ : L2.St} (N : L2.St → Hp → Prop) (hN : ∀ σ' H', N σ' H' → z D σ' H') (h : ∀ X : L2.St → Hp → Prop, (∀ σ' H', N σ' H' → X σ' H') → tSeq t (tSeq u v) { D with nx := X } σ H) : tSeq t (tSeq u (tSeq v z)) D σ H := h _ hN
theorem k_join {t u : TS} {D : Ends} {σ : L2.St} {b : Bool} (N : L2.St → Hp → Prop) (hN : ∀ σ' H', N σ' H' → D.nx σ' H') (h : ∀ X : L2.St → Hp → Prop, (∀ σ' H', N σ' H' → X σ' H') → if b = true then t { D with nx := X } σ H else u { D with nx := X } σ H) : if b = true then t D σ H else u D σ H := h _ hN
theorem k_joinV {ta tb : TE} {Q : VK} {σ : L2.St} {b : Bool} (N : V → Hp → Prop) (hN : ∀ v H', N v H' → Q v H') (h : ∀ X : VK, (∀ v H', N v H' → X v H') → if b = true then ta σ H X else tb σ H X) : if b = true then ta σ H Q else tb σ H Q := h _ hN
/-! ### comparisons of data -/
theorem k_neerr {x : Str} {Q : VK} (h1 : H p = some (.tup [.str "error", .str x])) (h2 : H q = some (.tup [.str "error", .str x])) (ok : PyData.strOk x = true) (k : Q (.bl false) H) : rNeD K (.ref p) (.ref q) H Q :=
  ⟨_, _, dp_err h1, dp_err h2, shaped_err ok_error ok, shaped_err ok_error ok, by rw [eqv_err]; exact k⟩
theorem shaped_bl {b : Bool} : SeqAt.shaped (.bool b) = true := by cases b <;> decide +kernel
theorem k_neDB {a b : Bool} {Q : VK} (k : Q (.bl (!decide (a = b))) H) : rNeD K (.bl a) (.bl b) H Q :=
  ⟨_, _, .bl a, .bl b, shaped_bl, shaped_bl, by
    have e : PyData.eqv (.bool a) (.bool b) = decide (a = b) := by cases a <;> cases b <;> decide +kernel
    rw [e]; exact k⟩
theorem shaped_rt {x : Rt} : SeqAt.shaped (rtD x) = true := shaped_tup (ns := [x.a, x.b, x.d, x.c])
theorem eqv_rt (x y : Rt) : PyData.eqv (rtD x) (rtD y) = decide (x = y) := by
  have e : PyData.eqv (rtD x) (rtD y) = decide ([x.a, x.b, x.d, x.c] = [y.a, y.b, y.d, y.c]) := eqv_ints [x.a, x.b, x.d, x.c] [y.a, y.b, y.d, y.c]
  rw [e]
  apply decide_eq_decide.mpr
  obtain ⟨a, b, c, d⟩ := x
  obtain ⟨a', b', c', d'⟩ := y
  simp
theorem k_neRt {x y : Rt} {Q : VK} (h1 : H p = some (.tup (rtV x))) (h2 : H q = some (.tup (rtV y))) (k : Q (.bl (!decide (x = y))) H) : rNeD K (.ref p) (.ref q) H Q :=
  ⟨_, _, dp_rt (tup_of h1), dp_rt (tup_of h2), shaped_rt, shaped_rt, by rw [eqv_rt]; exact k⟩
theorem k_eqRt {x y : Rt} {Q : VK} (h1 : H p = some (.tup (rtV x))) (h2 : H q = some (.tup (rtV y))) (k : Q (.bl (decide (x = y))) H) : rEqD K (.ref p) (.ref q) H Q :=
  ⟨_, _, dp_rt (tup_of h1), dp_rt (tup_of h2), shaped_rt, shaped_rt, by rw [eqv_rt]; exact k⟩
/-! ### guards: the goal is of this kind -/
theorem gd_cat {x y : V} {Q : VK} (h : rCat x y H Q) : rCat x y H Q := h
theorem gd_roll {vs : List V} {Q : VK} {E : XK} (h : sp__law_roll K mg vs H Q E) : sp__law_roll K mg vs H Q E := h
theorem gd_strI {vs : List V} {Q : VK} (h : rStrI vs H Q) : rStrI vs H Q := h
theorem gd_len {vs : List V} {Q : VK} (h : rLenQ K vs H Q) : rLenQ K vs H Q := h
theorem gd_gtup4 {g1 g2 g3 g4 : TG} {v : V} {σ : L2.St} {S : L2.St → Hp → Prop} (h : gTup K 4 (gCons g1 (gCons g2 (gCons g3 (gCons g4 gNil)))) v σ H S) : gTup K 4 (gCons g1 (gCons g2 (gCons g3 (gCons g4 gNil)))) v σ H S := h
theorem gd_gtup {n : Nat} {t : TGs} {v : V} {σ : L2.St} {S : L2.St → Hp → Prop} (h : gTup K n t v σ H S) : gTup K n t v σ H S := h
theorem gd_ixT {x y : V} {Q : VK} (h : rIxT K x y H Q) : rIxT K x y H Q := h
theorem gd_ixL {x y : V} {Q : VK} (h : rIxL K x y H Q) : rIxL K x y H Q := h
end Fl
/-! FlI: lowest terms, inverses, signs. -/
namespace Fl
open PySem L2 PySem.Spec PyProof.Rows HotX L2H LamX
local macro_rules | `(tactic| walk_at "sc") => `(tactic| first
  | exact cm_l (by omega) (by omega) | exact cm_r (by omega) (by omega)
  | exact wide_div (b := 250) (by omega) (by omega) (by decide) (by decide)
  | omega | exact cpow (by omega) (by omega) (by omega))
local macro_rules | `(tactic| walk_at "st1") => `(tactic| with_reducible first
  | apply k_seq | apply k_next | apply k_asg | apply k_ret | apply k_drop | apply k_ifS | apply k_par | apply k_par2 | apply k_par3 | apply k_par33
  | (refine k_var rfl ?_) | apply k_c | apply k_op | apply k_un | apply k_I0 | apply k_p18 | apply k_p15 | apply k_p12 | apply k_p9 | apply k_p7 | apply k_p6 | apply k_p5
  | (refine k_I ?_ ?_; (focus walk_at "sc")) | apply k_U
  | apply k_eqI | apply k_neI | apply k_eqB | apply k_neB | apply k_isN | apply k_ntN
  | apply k_test | apply k_tB | apply k_bl | apply k_and | apply k_or | apply k_not | apply k_andV | apply k_orV | apply k_notV | apply k_if | apply k_chain
  | apply k_cb | apply k_call | apply k_nil | apply k_cons | apply k_tup | apply k_lst | apply k_abs | apply k_max2 | apply k_min2 | apply k_iteT | apply k_iteF | apply k_iteNT | apply k_iteNF | apply k_gsub | apply k_yes | apply k_lc | apply k_for | apply k_rng1 | apply k_rng2 | apply k_iList | apply k_iTup | apply k_bm
  | apply k_slice | apply k_nopart | apply k_part | apply k_someI | apply k_enumT | apply k_enumL | apply k_gcons | apply k_gnil | apply k_n0 | apply k_n1 | apply k_n2 | apply k_n3 | apply k_n4 | apply k_n5 | apply k_n6 | apply k_n7 | apply k_n8 | apply k_n9 | apply k_n10 | apply k_n11 | apply k_n12 | apply k_n13 | apply k_n14 | apply k_n15 | apply k_n16 | apply k_n17 | apply k_n18 | apply k_n19 | apply k_n20)
local macro_rules | `(tactic| walk_at "st") => `(tactic| repeat walk_at "st1")
local macro_rules | `(tactic| walk_at "nw") => `(tactic| (refine ⟨Nat.le_of_ble_eq_true rfl, fun p np => ?_⟩; generalize hH : upd _ p _ = H'; have s := new_same hH np; have e := new_at hH; clear hH))
local macro_rules | `(tactic| walk_at "kb") => `(tactic| first | exact kb_tup | exact kb_ref | (refine kb_len ?_; (first | decide | (intro z; simp at z; done) | (simp; omega))))
local macro_rules | `(tactic| walk_at "hp") => `(tactic| first
  | assumption
  | exact Same.refl _
  | (apply tup_of; walk_at "hp") | (apply lst_of; walk_at "hp")
  | (refine st_at (by assumption) ?_; walk_at "hp")
  | (refine kq_at2 (by assumption) ?_ ?_; (focus walk_at "hp"); walk_at "kb")
  | (refine xn_at2 (by assumption) ?_ ?_; (focus walk_at "hp"); (intro z; simp; done))
  | exact dp_int | exact dp_non | exact dp_bl | exact dp_str
  | (refine dp_rt ?_; walk_at "hp")
  | (refine st_trans (by assumption) ?_; walk_at "hp")
  | (refine st_dice (by assumption) ?_; walk_at "hp") | (refine kq_dice (by assumption) ?_; walk_at "hp") | (refine xn_dice (by assumption) ?_; walk_at "hp")
  | exact lw_dice (by assumption) | exact lw_tabs (by assumption)
  | exact kq_refl | (refine st_kq (by assumption) ?_; walk_at "hp") | (refine kq_kq (by assumption) ?_; walk_at "hp")
  | (refine st_tabs (by assumption) ?_; walk_at "hp") | (refine kq_tabs (by assumption) ?_; walk_at "hp")
  | (refine st_lw (by assumption) ?_; walk_at "hp") | (refine kq_lw (by assumption) ?_; walk_at "hp") | (refine xn_lw (by assumption) ?_ ?_; (focus walk_at "hp"); walk_at "hp")
  | (refine st_dp (by assumption) ?_; walk_at "hp") | (refine xn_dp (by assumption) ?_; walk_at "hp")
  | (refine same_tup (by assumption) ?_; walk_at "hp") | (refine xn_tup (by assumption) ?_; walk_at "hp"))
local macro_rules | `(tactic| walk_at "w1") => `(tactic| first
  | walk_at "st1"
  | walk_at "nw"
  | ((with_reducible refine gd_cat ?_); refine k_cat' (by walk_at "hp") (by walk_at "hp") (by first | (simp; done) | (simp; omega)) (fun p H' s e => ?_))
  | ((with_reducible refine gd_roll ?_); refine k_roll (by walk_at "hp") (by omega) (by omega) (fun H' r c r1 r2 => ?_))
  | ((with_reducible refine gd_strI ?_); refine k_strI (by omega) ?_)
  | ((with_reducible refine gd_catA ?_); refine k_catT (by walk_at "hp") (by walk_at "hp") (by first | (simp; done) | (simp; omega)) (fun H' p s e => ?_))
  | ((with_reducible refine gd_tupOf ?_); refine k_tupOf (by walk_at "hp") (fun H' p s e => ?_))
  | ((with_reducible refine gd_slL ?_); refine k_slL (by walk_at "hp") (fun H' p s n e => ?_))
  | ((with_reducible refine gd_slA ?_); refine k_slA (by walk_at "hp") (fun H' p s e => ?_))
  | ((with_reducible refine gd_len ?_); first | (refine k_lenL (by walk_at "hp") ?_) | (refine k_lenT (by walk_at "hp") ?_))
  | ((with_reducible refine gd_gtup4 ?_); refine k_gtup4 (by walk_at "hp") ?_)
  | ((with_reducible refine gd_gtup ?_); refine k_gtup (by walk_at "hp") (by rfl) ?_)
  | ((with_reducible refine gd_ixT ?_); refine k_ixT (by walk_at "hp") (by rfl) ?_)
  | ((with_reducible refine gd_ixL ?_); refine k_ixL (by walk_at "hp") (by rfl) ?_))
local macro_rules | `(tactic| walk_at "w") => `(tactic| repeat walk_at "w1")
local macro_rules | `(tactic| walk_at "dec") => `(tactic| first | refine k_pos (by omega) ?_ | refine k_neg (by omega) ?_ | refine k_npos (by omega) ?_ | refine k_nneg (by omega) ?_)
local macro_rules | `(tactic| walk_at "v") => `(tactic| repeat first | walk_at "w1" | walk_at "dec")
variable {P : Program} {w : World} {K : PySem.W.Frag} {mg : Str → Option Value}
/-! ### reduced, inverted, inverse -/
def sp_reduced (K : PySem.W.Frag) (mg : Str → Option Value) : Sp := fun vs H Q _ => ∃ x : Rt, vs = [.int x.a, .int x.b, .int x.d, .int x.c] ∧ x.b ≠ 0 ∧ x.c ≠ 0 ∧ x.c.natAbs < 2 ^ 1000 ∧ ∀ H' p, Same H H' → H' p = some (.tup (rtV x.red)) → Q (.ref p) H'
theorem len_reduced : ∀ vs H Q E, sp_reduced K mg vs H Q E → vs.length = 4 := fun _ _ _ _ ⟨_, e, _⟩ => by subst e; rfl
def t_reduced (P : PySem.Program) (w : PySem.World) (K : PySem.W.Frag) (mg : PySem.Str → Option PySem.Value) (E : XK) : TS :=
  (tSeq (tAsg (tCall (sp_divisor K mg) [] E (tCons (tCall (sp_divisor K mg) [] E (tCons (tVar 0) (tCons (tVar 1) tNil))) (tCons (tVar 3) tNil))) (gName 4))
  (tSeq (tIfS (tTest (tOp rLtI (tVar 3) (tC (.int 0))))
  (tAsg (tUn rNegI (tVar 4)) (gName 4))
  tNext)
  (tRet (tTup (tCons (tOp rDivZ (tVar 0) (tVar 4)) (tCons (tOp rDivZ (tVar 1) (tVar 4)) (tCons (tVar 2) (tCons (tOp rDivZ (tVar 3) (tVar 4)) tNil))))))))

theorem pure_reduced : ∀ (vs : List V) (H : Hp) (Q : VK) (E : XK), sp_reduced K mg vs H Q E → t_reduced P w K mg E { nx := fun _ H' => Q .non H', rt := Q } (start ["a", "b", "d", "c", "common"] vs) H := by
  rintro vs H Q E ⟨x, rfl, b0, c0, cb, q⟩
  show t_reduced P w K mg E _ [some (.int x.a), some (.int x.b), some (.int x.d), some (.int x.c), none] H
  unfold t_reduced
  obtain ⟨g0, ea, eb, ec, _, _⟩ := Rt.red_gs b0 c0
  have gb := Nat.lt_of_le_of_lt (Rt.gs_abs b0 c0) cb
  have fin : tRet (tTup (tCons (tOp rDivZ (tVar 0) (tVar 4)) (tCons (tOp rDivZ (tVar 1) (tVar 4)) (tCons (tVar 2) (tCons (tOp rDivZ (tVar 3) (tVar 4)) tNil))))) { nx := fun _ H' => Q .non H', rt := Q } [some (.int x.a), some (.int x.b), some (.int x.d), some (.int x.c), some (.int x.gs)] H := by
    have c : ∀ i, CDivZ i x.gs := fun i => cdivz g0 gb
    walk_at "st"
    refine k_I (c _) ?_
    walk_at "st"
    refine k_I (c _) ?_
    walk_at "st"
    refine k_I (c _) ?_
    walk_at "w"
    rename_i p np H' s e
    refine q H' p s ?_
    rw [e]
    have f1 : x.a.fdiv x.gs = x.red.a := (congrArg (fun z => Int.fdiv z x.gs) ea).trans (Int.mul_fdiv_cancel_left _ g0)
    have f2 : x.b.fdiv x.gs = x.red.b := (congrArg (fun z => Int.fdiv z x.gs) eb).trans (Int.mul_fdiv_cancel_left _ g0)
    have f3 : x.c.fdiv x.gs = x.red.c := (congrArg (fun z => Int.fdiv z x.gs) ec).trans (Int.mul_fdiv_cancel_left _ g0)
    rw [f1, f2, f3]
    unfold rtV
    rw [Rt.red_d]
  clear gb ea eb ec
  walk_at "st"
  refine ⟨_, _, rfl, ?_⟩
  walk_at "st"
  refine ⟨_, _, rfl, ?_⟩
  walk_at "st"
  have eg : (Int.gcd (Int.gcd x.a x.b : Int) x.c : Int) = g3 x.a x.b x.c := rfl
  rw [eg]
  refine k_ite (fun h => ?_) fun h => ?_
  · have e : x.gs = -g3 x.a x.b x.c := by unfold Rt.gs; rw [if_pos h]
    rw [e] at fin
    walk_at "st1"
    walk_at "st1"
    walk_at "st1"
    walk_at "st1"
    walk_at "st1"
    exact fin
  · have e : x.gs = g3 x.a x.b x.c := by unfold Rt.gs; rw [if_neg h]
    rw [e] at fin
    walk_at "st1"
    exact fin
def sp_inverted (K : PySem.W.Frag) (mg : Str → Option Value) : Sp := fun vs H Q _ => ∃ (p : Addr) (x : Rt), vs = [.ref p] ∧ SqT K H p (rtV x) ∧ x.Ok ∧ x.Sm ∧ ∀ H' p', Same H H' → H' p' = some (.tup (rtV x.inv)) → Q (.ref p') H'
theorem len_inverted : ∀ vs H Q E, sp_inverted K mg vs H Q E → vs.length = 1 := fun _ _ _ _ ⟨_, _, e, _⟩ => by subst e; rfl
def t_inverted (P : PySem.Program) (w : PySem.World) (K : PySem.W.Frag) (mg : PySem.Str → Option PySem.Value) (E : XK) : TS :=
  (tSeq (tAsg (tVar 0) (gTup K 4 (gCons (gName 1) (gCons (gName 2) (gCons (gName 3) (gCons (gName 4) gNil))))))
  (tRet (tCall (sp_reduced K mg) [] E (tCons (tOp rMulI (tVar 4) (tVar 1)) (tCons (tOp rMulI (tUn rNegI (tVar 4)) (tVar 2)) (tCons (tVar 3) (tCons (tOp rSubI (tOp rMulI (tVar 1) (tVar 1)) (tOp rMulI (tOp rMulI (tVar 3) (tVar 2)) (tVar 2))) tNil)))))))

theorem pure_inverted : ∀ (vs : List V) (H : Hp) (Q : VK) (E : XK), sp_inverted K mg vs H Q E → t_inverted P w K mg E { nx := fun _ H' => Q .non H', rt := Q } (start ["x", "a", "b", "d", "c"] vs) H := by
  rintro vs H Q E ⟨p, x, rfl, hp, o, sm, q⟩
  show t_inverted P w K mg E _ [some (.ref p), none, none, none, none] H
  unfold t_inverted
  have sa := sm.a
  have sb := sm.b
  have sc := sm.c
  have d1 := sm.d1
  have d2 := sm.d2
  walk_at "w"
  refine ⟨x.invN, rfl, Rt.inv_b0 o, Rt.inv_c0 o, ?_, q⟩
  show (x.a * x.a - x.d * x.b * x.b).natAbs < 2 ^ 1000
  have h1 : (x.a * x.a).natAbs < 2 ^ (62 + 62) := lt_pow_mul sa sa
  have h2 : (x.d * x.b * x.b).natAbs < 2 ^ (62 + 62 + 62) := lt_pow_mul (lt_pow_mul (by omega) sb) sb
  have h3 : (x.a * x.a - x.d * x.b * x.b).natAbs < 2 ^ 190 := by omega
  exact Nat.lt_of_lt_of_le h3 (Nat.pow_le_pow_right (by omega) (by omega))
def sp_inverse (K : PySem.W.Frag) (mg : Str → Option Value) : Sp := fun vs H Q E => ∃ (v : V) (d : PyData), vs = [v] ∧ Dp K H v d ∧ (rnD d = false → ∀ H', Same H H' → E (cE mg "InvalidNumber") none H') ∧
  (∀ x : Rt, d = rtD x → RN x → ∀ H' p', Same H H' → H' p' = some (.tup (rtV x.inv)) → Q (.ref p') H')
theorem len_inverse : ∀ vs H Q E, sp_inverse K mg vs H Q E → vs.length = 1 := fun _ _ _ _ ⟨_, _, e, _⟩ => by subst e; rfl
def t_inverse (P : PySem.Program) (w : PySem.World) (K : PySem.W.Frag) (mg : PySem.Str → Option PySem.Value) (E : XK) : TS :=
  (tSeq (tDrop (tCall (sp_need_number K mg) [] E (tCons (tVar 0) tNil)))
  (tRet (tCall (sp_inverted K mg) [] E (tCons (tVar 0) tNil))))

theorem pure_inverse : ∀ (vs : List V) (H : Hp) (Q : VK) (E : XK), sp_inverse K mg vs H Q E → t_inverse P w K mg E { nx := fun _ H' => Q .non H', rt := Q } (start ["x"] vs) H := by
  rintro vs H Q E ⟨v, d, rfl, hd, q2, q1⟩
  show t_inverse P w K mg E _ [some v] H
  unfold t_inverse
  walk_at "st"
  refine ⟨v, d, rfl, hd, fun hr H' s => ?_, q2⟩
  obtain ⟨p, x, rfl, rfl, R, hp⟩ := rn_is hd hr
  walk_at "st"
  exact ⟨p, x, rfl, same_tup s hp, R.ok, R.sm, fun H2 p' s2 e => q1 x rfl R H2 p' (s.trans s2) e⟩
/-! ### sign_of, is_less -/
def sp_sign_of (K : PySem.W.Frag) (mg : Str → Option Value) : Sp := fun vs H Q _ => ∃ a b d : Int, vs = [.int a, .int b, .int d] ∧ Nsq d ∧ d ≤ 40 ∧ b ≠ 0 ∧ a.natAbs < 2 ^ 400 ∧ b.natAbs < 2 ^ 400 ∧ ∀ s, (0 < s ↔ Pst d a b) → Q (.int s) H
theorem len_sign_of : ∀ vs H Q E, sp_sign_of K mg vs H Q E → vs.length = 3 := fun _ _ _ _ ⟨_, _, _, e, _⟩ => by subst e; rfl
def t_sign_of (P : PySem.Program) (w : PySem.World) (K : PySem.W.Frag) (mg : PySem.Str → Option PySem.Value) (E : XK) : TS :=
  (tSeq (tIfS (tTest (tOp rLtI (tOp rMulW (tVar 0) (tVar 0)) (tOp rMulI (tOp rMulW (tVar 1) (tVar 1)) (tVar 2))))
  (tRet (tIf (tTest (tOp rGtI (tVar 1) (tC (.int 0)))) (tC (.int 1)) (tUn rNegI (tC (.int 1)))))
  tNext)
  (tRet (tIf (tTest (tOp rGtI (tVar 0) (tC (.int 0)))) (tC (.int 1)) (tUn rNegI (tC (.int 1))))))

theorem pure_sign_of : ∀ (vs : List V) (H : Hp) (Q : VK) (E : XK), sp_sign_of K mg vs H Q E → t_sign_of P w K mg E { nx := fun _ H' => Q .non H', rt := Q } (start ["a", "b", "d"] vs) H := by
  rintro vs H Q E ⟨a, b, d, rfl, hd, d2, b0, ha, hb, q⟩
  show t_sign_of P w K mg E _ [some (.int a), some (.int b), some (.int d)] H
  unfold t_sign_of
  have dp := hd.pos
  walk_at "st"
  refine k_I (wide_mul (a := 400) (b := 400) ha ha (by decide) (by decide) (by decide)) ?_
  walk_at "st"
  refine k_I (wide_mul (a := 400) (b := 400) hb hb (by decide) (by decide) (by decide)) ?_
  walk_at "st"
  refine k_ite (fun hh => ?_) fun hh => ?_
  · walk_at "st"
    refine k_ite (fun hv => ?_) fun hv => ?_
    · walk_at "st"
      exact q _ ⟨fun _ => pst_v dp hv hh, fun _ => by omega⟩
    · walk_at "st"
      refine q _ ⟨fun z => by omega, fun z => absurd (pst_v (u := -a) (v := -b) dp (by omega) (by rw [neg_sq, neg_sq]; exact hh)) z.neg⟩
  · walk_at "st"
    refine k_ite (fun hu => ?_) fun hu => ?_
    · walk_at "st"
      exact q _ ⟨fun _ => pst_u hd hu b0 hh, fun _ => by omega⟩
    · walk_at "st"
      refine q _ ⟨fun z => by omega, fun z => ?_⟩
      rcases Int.lt_or_le a 0 with y | y
      · exact absurd (pst_u (u := -a) (v := -b) hd (by omega) (by omega) (by rw [neg_sq, neg_sq]; exact hh)) z.neg
      · have e : a = 0 := by omega
        subst e
        exact absurd (Int.mul_pos (sq_pos' b0) dp) hh
instance (d u v : Int) : Decidable (Pst d u v) := by unfold Pst; infer_instance
theorem pst_zero {d u : Int} : Pst d u 0 ↔ 0 < u := by unfold Pst; omega
/-- x < y -/
def Rt.lt (x y : Rt) : Prop := Pst x.d (y.a * x.c - x.a * y.c) (y.b * x.c - x.b * y.c)
instance (x y : Rt) : Decidable (x.lt y) := by unfold Rt.lt; infer_instance
def sp_is_less (K : PySem.W.Frag) (mg : Str → Option Value) : Sp := fun vs H Q E => ∃ (p q : Addr) (x y : Rt), vs = [.ref p, .ref q] ∧ SqT K H p (rtV x) ∧ SqT K H q (rtV y) ∧ RN x ∧ RN y ∧ (x.d ≠ y.d → ∀ H', Same H H' → E (cE mg "Unlike") none H') ∧ (x.d = y.d → ∀ H', Same H H' → Q (.bl (decide (x.lt y))) H')
theorem len_is_less : ∀ vs H Q E, sp_is_less K mg vs H Q E → vs.length = 2 := fun _ _ _ _ ⟨_, _, _, _, e, _⟩ => by subst e; rfl
def t_is_less (P : PySem.Program) (w : PySem.World) (K : PySem.W.Frag) (mg : PySem.Str → Option PySem.Value) (E : XK) : TS :=
  (tSeq (tDrop (tCall (sp_need_number K mg) [] E (tCons (tVar 0) tNil)))
  (tSeq (tDrop (tCall (sp_need_number K mg) [] E (tCons (tVar 1) tNil)))
  (tSeq (tIfS (tTest (tOp rNe (tOp (rIxT K) (tVar 0) (tC (.int 2))) (tOp (rIxT K) (tVar 1) (tC (.int 2)))))
  (tRaise E (cE mg "Unlike"))
  tNext)
  (tSeq (tPar 2 3 (tCons (tOp rSubI (tOp rMulI (tOp (rIxT K) (tVar 1) (tC (.int 0))) (tOp (rIxT K) (tVar 0) (tC (.int 3)))) (tOp rMulI (tOp (rIxT K) (tVar 0) (tC (.int 0))) (tOp (rIxT K) (tVar 1) (tC (.int 3))))) (tCons (tOp rSubI (tOp rMulI (tOp (rIxT K) (tVar 1) (tC (.int 1))) (tOp (rIxT K) (tVar 0) (tC (.int 3)))) (tOp rMulI (tOp (rIxT K) (tVar 0) (tC (.int 1))) (tOp (rIxT K) (tVar 1) (tC (.int 3))))) tNil)))
  (tRet (tIf (tTest (tOp rEq (tVar 3) (tC (.int 0)))) (tOp rGtI (tVar 2) (tC (.int 0))) (tOp rGtI (tCall (sp_sign_of K mg) [] E (tCons (tVar 2) (tCons (tVar 3) (tCons (tOp (rIxT K) (tVar 0) (tC (.int 2))) tNil)))) (tC (.int 0)))))))))

theorem k_need {H : Hp} {p : Addr} {x : Rt} {Q : VK} {E : XK} (h : SqT K H p (rtV x)) (r : RN x) (k : ∀ H', Same H H' → Q .non H') : sp_need_number K mg [.ref p] H Q E :=
  ⟨_, rtD x, rfl, dp_rt h, fun _ => k, fun z => (by rw [rnD_rt, decide_eq_true r] at z; cases z)⟩
theorem pure_is_less : ∀ (vs : List V) (H : Hp) (Q : VK) (E : XK), sp_is_less K mg vs H Q E → t_is_less P w K mg E { nx := fun _ H' => Q .non H', rt := Q } (start ["one", "other", "a", "b"] vs) H := by
  rintro vs H Q E ⟨p, q, x, y, rfl, hp, hq, rx, ry, k1, k2⟩
  show t_is_less P w K mg E _ [some (.ref p), some (.ref q), none, none] H
  unfold t_is_less
  have a1 := rx.a1
  have a2 := rx.a2
  have b1 := rx.b1
  have b2 := rx.b2
  have c1 := rx.c1
  have c2 := rx.c2
  have ya1 := ry.a1
  have ya2 := ry.a2
  have yb1 := ry.b1
  have yb2 := ry.b2
  have yc1 := ry.c1
  have yc2 := ry.c2
  walk_at "w"
  refine k_need hp rx fun H1 s1 => ?_
  walk_at "w"
  refine k_need (same_tup s1 hq) ry fun H2 s2 => ?_
  have s := s1.trans s2
  replace hp := same_tup s hp
  replace hq := same_tup s hq
  clear s1 s2
  walk_at "w"
  refine k_iteN (fun h => ?_) fun h => ?_
  · walk_at "w"
    exact k1 h _ s
  · walk_at "w"
    have k3 : ∀ b : Bool, (b = true ↔ Pst x.d (y.a * x.c - x.a * y.c) (y.b * x.c - x.b * y.c)) → Q (.bl b) H2 := fun b hb => by
      have e : b = decide (x.lt y) := by
        by_cases z : x.lt y
        · rw [decide_eq_true z]; exact hb.mpr z
        · rw [decide_eq_false z]
          cases b with
          | false => rfl
          | true => exact absurd (hb.mp rfl) z
      rw [e]
      exact k2 h _ s
    clear k2
    have m : ∀ i j : Int, i.natAbs ≤ 50 → j.natAbs ≤ 50 → (i * j).natAbs ≤ 2500 := fun i j hi hj => by
      rw [Int.natAbs_mul]
      exact Nat.mul_le_mul hi hj
    have m1 := m y.a x.c (by omega) (by omega)
    have m2 := m x.a y.c (by omega) (by omega)
    have m3 := m y.b x.c (by omega) (by omega)
    have m4 := m x.b y.c (by omega) (by omega)
    generalize hu : y.a * x.c - x.a * y.c = u at *
    generalize hv : y.b * x.c - x.b * y.c = v at *
    refine k_ite (fun h0 => ?_) fun h0 => ?_
    · walk_at "w"
      subst h0
      exact k3 _ (by rw [pst_zero, decide_eq_true_eq])
    · walk_at "w"
      refine ⟨u, v, x.d, rfl, rx.ok.d, rx.d2, h0, by omega, by omega, fun t ht => ?_⟩
      walk_at "w"
      exact k3 _ (by rw [decide_eq_true_eq]; exact ht)
theorem lt_irr {x : Rt} : ¬ x.lt x := fun h => by
  unfold Rt.lt at h
  rw [Int.sub_self, Int.sub_self] at h
  unfold Pst at h
  omega
theorem lt_swap {x y : Rt} (rx : RN x) (ry : RN y) (hd : x.d = y.d) (hn : x ≠ y) : y.lt x ↔ ¬ x.lt y := by
  unfold Rt.lt
  have e1 : x.a * y.c - y.a * x.c = -(y.a * x.c - x.a * y.c) := by omega
  have e2 : x.b * y.c - y.b * x.c = -(y.b * x.c - x.b * y.c) := by omega
  rw [e1, e2, ← hd]
  rcases pos_tri rx.ok.d (y.a * x.c - x.a * y.c) (y.b * x.c - x.b * y.c) with h | h | ⟨h1, h2⟩
  · exact ⟨fun z => absurd z h.neg, fun z => absurd h z⟩
  · refine ⟨fun _ z => z.neg h, fun _ => h⟩
  · exact absurd (low_eq hd rx.ok.c ry.ok.c rx.low ry.low (by omega) (by omega)) hn
theorem mul_abs_le {i j : Int} {m n : Nat} (hi : i.natAbs ≤ m) (hj : j.natAbs ≤ n) : (i * j).natAbs ≤ m * n := by
  rw [Int.natAbs_mul]
  exact Nat.mul_le_mul hi hj
theorem RN.inv_abs {x : Rt} (r : RN x) : x.inv.a.natAbs ≤ 2500 ∧ x.inv.b.natAbs ≤ 2500 ∧ x.inv.c.natAbs ≤ 102500 := by
  have o := r.ok
  obtain ⟨h1, h2, h3⟩ := Rt.red_abs (Rt.inv_b0 o) (Rt.inv_c0 o)
  have a1 := r.a1
  have a2 := r.a2
  have b1 := r.b1
  have b2 := r.b2
  have c1 := r.c1
  have c2 := r.c2
  have d1 := r.d1
  have d2 := r.d2
  have e1 : x.invN.a.natAbs ≤ 50 * 50 := mul_abs_le (by omega) (by omega)
  have e2 : x.invN.b.natAbs ≤ 50 * 50 := mul_abs_le (by omega) (by omega)
  have e3 : (x.a * x.a).natAbs ≤ 50 * 50 := mul_abs_le (by omega) (by omega)
  have e4 : (x.d * x.b * x.b).natAbs ≤ 40 * 50 * 50 := mul_abs_le (mul_abs_le (by omega) (by omega)) (by omega)
  have e5 : x.invN.c.natAbs ≤ 102500 := by
    show (x.a * x.a - x.d * x.b * x.b).natAbs ≤ 102500
    omega
  exact ⟨Nat.le_trans h1 e1, Nat.le_trans h2 e2, Nat.le_trans h3 e5⟩
theorem k_is_less {H : Hp} {p q : Addr} {x y : Rt} {Q : VK} {E : XK} (h1 : H p = some (.tup (rtV x))) (h2 : H q = some (.tup (rtV y))) (rx : RN x) (ry : RN y) (hd : x.d = y.d) (k : ∀ H', Same H H' → Q (.bl (decide (x.lt y))) H') : sp_is_less K mg [.ref p, .ref q] H Q E :=
  ⟨p, q, x, y, rfl, tup_of h1, tup_of h2, rx, ry, fun n => absurd hd n, fun _ => k⟩
theorem k_inverse {H : Hp} {p : Addr} {x : Rt} {Q : VK} {E : XK} (h : H p = some (.tup (rtV x))) (r : RN x) (k : ∀ H' p', Same H H' → H' p' = some (.tup (rtV x.inv)) → Q (.ref p') H') : sp_inverse K mg [.ref p] H Q E :=
  ⟨_, rtD x, rfl, dp_rt (tup_of h), fun z => (by rw [rnD_rt, decide_eq_true r] at z; cases z), fun y e _ => by rw [← rtD_inj e]; exact k⟩
end Fl
/-! FlR: rows. -/
namespace Fl
open PySem L2 PySem.Spec PyProof.Rows HotX L2H LamX
local macro_rules | `(tactic| walk_at "sc") => `(tactic| first
  | exact cm_l (by omega) (by omega) | exact cm_r (by omega) (by omega)
  | exact wide_div (b := 250) (by omega) (by omega) (by decide) (by decide)
  | omega | exact cpow (by omega) (by omega) (by omega))
local macro_rules | `(tactic| walk_at "st1") => `(tactic| with_reducible first
  | apply k_seq | apply k_next | apply k_asg | apply k_ret | apply k_drop | apply k_ifS | apply k_par | apply k_par2 | apply k_par3 | apply k_par33
  | (refine k_var rfl ?_) | apply k_c | apply k_op | apply k_un | apply k_I0 | apply k_p18 | apply k_p15 | apply k_p12 | apply k_p9 | apply k_p7 | apply k_p6 | apply k_p5
  | (refine k_I ?_ ?_; (focus walk_at "sc")) | apply k_U
  | apply k_eqI | apply k_neI | apply k_eqB | apply k_neB | apply k_isN | apply k_ntN
  | apply k_test | apply k_tB | apply k_bl | apply k_and | apply k_or | apply k_not | apply k_andV | apply k_orV | apply k_notV | apply k_if | apply k_chain
  | apply k_cb | apply k_call | apply k_nil | apply k_cons | apply k_tup | apply k_lst | apply k_abs | apply k_max2 | apply k_min2 | apply k_iteT | apply k_iteF | apply k_iteNT | apply k_iteNF | apply k_gsub | apply k_yes | apply k_lc | apply k_for | apply k_rng1 | apply k_rng2 | apply k_iList | apply k_iTup | apply k_bm
  | apply k_slice | apply k_nopart | apply k_part | apply k_someI | apply k_enumT | apply k_enumL | apply k_gcons | apply k_gnil | apply k_n0 | apply k_n1 | apply k_n2 | apply k_n3 | apply k_n4 | apply k_n5 | apply k_n6 | apply k_n7 | apply k_n8 | apply k_n9 | apply k_n10 | apply k_n11 | apply k_n12 | apply k_n13 | apply k_n14 | apply k_n15 | apply k_n16 | apply k_n17 | apply k_n18 | apply k_n19 | apply k_n20)
local macro_rules | `(tactic| walk_at "st") => `(tactic| repeat walk_at "st1")
local macro_rules | `(tactic| walk_at "nw") => `(tactic| (refine ⟨Nat.le_of_ble_eq_true rfl, fun p np => ?_⟩; generalize hH : upd _ p _ = H'; have s := new_same hH np; have e := new_at hH; clear hH))
local macro_rules | `(tactic| walk_at "kb") => `(tactic| first | exact kb_tup | exact kb_ref | (refine kb_len ?_; (first | decide | (intro z; simp at z; done) | (simp; omega))))
local macro_rules | `(tactic| walk_at "hp") => `(tactic| first
  | assumption
  | exact Same.refl _
  | (apply tup_of; walk_at "hp") | (apply lst_of; walk_at "hp")
  | (refine st_at (by assumption) ?_; walk_at "hp")
  | (refine kq_at2 (by assumption) ?_ ?_; (focus walk_at "hp"); walk_at "kb")
  | (refine xn_at2 (by assumption) ?_ ?_; (focus walk_at "hp"); (intro z; simp; done))
  | exact dp_int | exact dp_non | exact dp_bl | exact dp_str
  | (refine dp_rt ?_; walk_at "hp")
  | (refine st_trans (by assumption) ?_; walk_at "hp")
  | (refine st_dice (by assumption) ?_; walk_at "hp") | (refine kq_dice (by assumption) ?_; walk_at "hp") | (refine xn_dice (by assumption) ?_; walk_at "hp")
  | exact lw_dice (by assumption) | exact lw_tabs (by assumption)
  | exact kq_refl | (refine st_kq (by assumption) ?_; walk_at "hp") | (refine kq_kq (by assumption) ?_; walk_at "hp")
  | (refine st_tabs (by assumption) ?_; walk_at "hp") | (refine kq_tabs (by assumption) ?_; walk_at "hp")
  | (refine st_lw (by assumption) ?_; walk_at "hp") | (refine kq_lw (by assumption) ?_; walk_at "hp") | (refine xn_lw (by assumption) ?_ ?_; (focus walk_at "hp"); walk_at "hp")
  | (refine st_dp (by assumption) ?_; walk_at "hp") | (refine xn_dp (by assumption) ?_; walk_at "hp")
  | (refine same_tup (by assumption) ?_; walk_at "hp") | (refine xn_tup (by assumption) ?_; walk_at "hp"))
local macro_rules | `(tactic| walk_at "w1") => `(tactic| first
  | walk_at "st1"
  | walk_at "nw"
  | ((with_reducible refine gd_cat ?_); refine k_cat' (by walk_at "hp") (by walk_at "hp") (by first | (simp; done) | (simp; omega)) (fun p H' s e => ?_))
  | ((with_reducible refine gd_roll ?_); refine k_roll (by walk_at "hp") (by omega) (by omega) (fun H' r c r1 r2 => ?_))
  | ((with_reducible refine gd_strI ?_); refine k_strI (by omega) ?_)
  | ((with_reducible refine gd_catA ?_); refine k_catT (by walk_at "hp") (by walk_at "hp") (by first | (simp; done) | (simp; omega)) (fun H' p s e => ?_))
  | ((with_reducible refine gd_tupOf ?_); refine k_tupOf (by walk_at "hp") (fun H' p s e => ?_))
  | ((with_reducible refine gd_slL ?_); refine k_slL (by walk_at "hp") (fun H' p s n e => ?_))
  | ((with_reducible refine gd_slA ?_); refine k_slA (by walk_at "hp") (fun H' p s e => ?_))
  | ((with_reducible refine gd_len ?_); first | (refine k_lenL (by walk_at "hp") ?_) | (refine k_lenT (by walk_at "hp") ?_))
  | ((with_reducible refine gd_gtup4 ?_); refine k_gtup4 (by walk_at "hp") ?_)
  | ((with_reducible refine gd_gtup ?_); refine k_gtup (by walk_at "hp") (by rfl) ?_)
  | ((with_reducible refine gd_ixT ?_); refine k_ixT (by walk_at "hp") (by rfl) ?_)
  | ((with_reducible refine gd_ixL ?_); refine k_ixL (by walk_at "hp") (by rfl) ?_))
local macro_rules | `(tactic| walk_at "w") => `(tactic| repeat walk_at "w1")
local macro_rules | `(tactic| walk_at "dec") => `(tactic| first | refine k_pos (by omega) ?_ | refine k_neg (by omega) ?_ | refine k_npos (by omega) ?_ | refine k_nneg (by omega) ?_)
local macro_rules | `(tactic| walk_at "v") => `(tactic| repeat first | walk_at "w1" | walk_at "dec")
variable {P : Program} {w : World} {K : PySem.W.Frag} {mg : Str → Option Value}
/-- a root number above 1 -/
structure RW (x : Rt) : Prop where
  rn : RN x
  gt : 1 ≤ x.fl 1
instance (x : Rt) : Decidable (RW x) := decidable_of_iff (RN x ∧ 1 ≤ x.fl 1) ⟨fun h => ⟨h.1, h.2⟩, fun h => ⟨h.rn, h.gt⟩⟩
def rowD : PyData → Bool
  | .tuple [.int a, .int b, .int d, .int c] => decide (RW ⟨a, b, d, c⟩)
  | _ => false
theorem rowD_rt (x : Rt) : rowD (rtD x) = decide (RW x) := rfl
theorem rowD_rn {d : PyData} (h : rnD d = false) : rowD d = false := by
  unfold rowD
  split
  · rename_i a b d c
    have : decide (RN ⟨a, b, d, c⟩) = false := h
    exact decide_eq_false fun r => of_decide_eq_false this r.rn
  · rfl
theorem row_is {H : Hp} {v : V} {d : PyData} (h : Dp K H v d) (hr : rowD d = true) : ∃ p x, v = .ref p ∧ d = rtD x ∧ RW x ∧ SqT K H p (rtV x) := by
  have h1 : rnD d = true := by
    cases e : rnD d with
    | true => rfl
    | false => rw [rowD_rn e] at hr; cases hr
  obtain ⟨p, x, e1, e2, _, e4⟩ := rn_is h h1
  subst e2
  exact ⟨p, x, e1, rfl, of_decide_eq_true hr, e4⟩
def sp_need_row (K : PySem.W.Frag) (mg : Str → Option Value) : Sp := fun vs H Q E => ∃ (v : V) (d : PyData), vs = [v] ∧ Dp K H v d ∧ (rowD d = true → ∀ H', Same H H' → Q .non H') ∧ (rowD d = false → ∀ H', Same H H' → E (cE mg "InvalidNumber") none H')
theorem len_need_row : ∀ vs H Q E, sp_need_row K mg vs H Q E → vs.length = 1 := fun _ _ _ _ ⟨_, _, e, _⟩ => by subst e; rfl
def t_need_row (P : PySem.Program) (w : PySem.World) (K : PySem.W.Frag) (mg : PySem.Str → Option PySem.Value) (E : XK) : TS :=
  (tSeq (tDrop (tCall (sp_need_number K mg) [] E (tCons (tVar 0) tNil)))
  (tIfS (tTest (tOp rLtI (tCall (sp_floor_by K mg) [] E (tCons (tVar 0) (tCons (tC (.int 1)) (tCons (tC (.int 0)) tNil)))) (tC (.int 1))))
  (tRaise E (cE mg "InvalidNumber"))
  tNext))

theorem pure_need_row : ∀ (vs : List V) (H : Hp) (Q : VK) (E : XK), sp_need_row K mg vs H Q E → t_need_row P w K mg E { nx := fun _ H' => Q .non H', rt := Q } (start ["x"] vs) H := by
  rintro vs H Q E ⟨v, d, rfl, hd, q1, q2⟩
  show t_need_row P w K mg E _ [some v] H
  unfold t_need_row
  walk_at "w"
  refine ⟨v, d, rfl, hd, fun hr H1 s1 => ?_, fun hr H1 s1 => q2 (rowD_rn hr) H1 s1⟩
  obtain ⟨p, x, rfl, rfl, r, hp⟩ := rn_is hd hr
  walk_at "w"
  refine ⟨p, x, 1, 0, rfl, same_tup s1 hp, r.ok, r.sm, by decide, ?_⟩
  rw [Int.add_zero, ← Rt.fl_one]
  rw [rowD_rt] at q1 q2
  walk_at "w"
  refine k_ite (fun h => ?_) fun h => ?_
  · walk_at "w"
    exact q2 (decide_eq_false fun z => by have := z.gt; omega) _ s1
  · walk_at "w"
    exact q1 (decide_eq_true ⟨r, by omega⟩) _ s1
def sp_entry_at (K : PySem.W.Frag) (mg : Str → Option Value) : Sp := fun vs H Q _ => ∃ (p : Addr) (x : Rt) (n : Int), vs = [.ref p, .int n] ∧ SqT K H p (rtV x) ∧ x.Ok ∧ x.Sm ∧ n.natAbs < 2 ^ 62 ∧ Q (.int (x.fl n)) H
theorem len_entry_at : ∀ vs H Q E, sp_entry_at K mg vs H Q E → vs.length = 2 := fun _ _ _ _ ⟨_, _, _, e, _⟩ => by subst e; rfl
def t_entry_at (P : PySem.Program) (w : PySem.World) (K : PySem.W.Frag) (mg : PySem.Str → Option PySem.Value) (E : XK) : TS :=
  (tRet (tIf (tTest (tOp rNe (tVar 1) (tC (.int 0)))) (tCall (sp_floor_by K mg) [] E (tCons (tVar 0) (tCons (tVar 1) (tCons (tC (.int 0)) tNil)))) (tC (.int 0))))

theorem pure_entry_at : ∀ (vs : List V) (H : Hp) (Q : VK) (E : XK), sp_entry_at K mg vs H Q E → t_entry_at P w K mg E { nx := fun _ H' => Q .non H', rt := Q } (start ["x", "n"] vs) H := by
  rintro vs H Q E ⟨p, x, n, rfl, hp, o, sm, hn, q⟩
  show t_entry_at P w K mg E _ [some (.ref p), some (.int n)] H
  unfold t_entry_at
  walk_at "w"
  unfold Rt.fl at q
  refine k_iteN (fun h => ?_) fun h => ?_
  · rw [if_neg h] at q
    walk_at "w"
    refine ⟨p, x, n, 0, rfl, hp, o, sm, hn, ?_⟩
    rw [Int.add_zero]
    exact q
  · rw [if_pos h] at q
    walk_at "w"
    exact q
/-- a def that wants a row and a count -/
def SpRC (K : PySem.W.Frag) (mg : Str → Option Value) (lo hi : Int) (good : Rt → Int → Hp → VK → Prop) : Sp := fun vs H Q E => ∃ (v u : V) (d e : PyData), vs = [v, u] ∧ Dp K H v d ∧ Dp K H u e ∧ (rowD d = false → ∀ H', Same H H' → E (cE mg "InvalidNumber") none H') ∧ (rowD d = true → whole e lo hi = false → ∀ H', Same H H' → E (cE mg "InvalidCount") none H') ∧
  (∀ x n, d = rtD x → RW x → e = .int n → lo ≤ n → n ≤ hi → good x n H Q)
theorem SpRC.len {lo hi : Int} {good : Rt → Int → Hp → VK → Prop} : ∀ vs H Q E, SpRC K mg lo hi good vs H Q E → vs.length = 2 := fun _ _ _ _ ⟨_, _, _, _, e, _⟩ => by subst e; rfl
theorem SpRC.ok {lo hi : Int} {good : Rt → Int → Hp → VK → Prop} {H : Hp} {Q : VK} {E : XK} {p : Addr} {x : Rt} {n : Int} (h : H p = some (.tup (rtV x))) (r : RW x) (h1 : lo ≤ n) (h2 : n ≤ hi) (k : good x n H Q) : SpRC K mg lo hi good [.ref p, .int n] H Q E :=
  ⟨_, _, rtD x, .int n, rfl, dp_rt (tup_of h), .int n, fun z => (by rw [rowD_rt, decide_eq_true r] at z; cases z), fun _ z => (by rw [whole_int h1 h2] at z; cases z), fun y m e1 _ e2 _ _ => by cases e2; rw [← rtD_inj e1]; exact k⟩
theorem SpRC.badx {lo hi : Int} {good : Rt → Int → Hp → VK → Prop} {H : Hp} {Q : VK} {E : XK} {v u : V} {d e : PyData} (h : Dp K H v d) (h2 : Dp K H u e) (r : rowD d = false) (k : ∀ H', Same H H' → E (cE mg "InvalidNumber") none H') : SpRC K mg lo hi good [v, u] H Q E :=
  ⟨_, _, d, e, rfl, h, h2, fun _ => k, fun z => (by rw [r] at z; cases z), fun y m e1 ry _ _ _ => (by subst e1; rw [rowD_rt, decide_eq_true ry] at r; cases r)⟩
theorem SpRC.badn {lo hi : Int} {good : Rt → Int → Hp → VK → Prop} {H : Hp} {Q : VK} {E : XK} {p : Addr} {x : Rt} {u : V} {e : PyData} (h : H p = some (.tup (rtV x))) (r : RW x) (h2 : Dp K H u e) (hw : whole e lo hi = false) (k : ∀ H', Same H H' → E (cE mg "InvalidCount") none H') : SpRC K mg lo hi good [.ref p, u] H Q E :=
  ⟨_, _, rtD x, e, rfl, dp_rt (tup_of h), h2, fun z => (by rw [rowD_rt, decide_eq_true r] at z; cases z), fun _ _ => k, fun y m _ _ e2 a b => (by subst e2; rw [whole_int a b] at hw; cases hw)⟩
/-- need_row, then need_count -/
theorem rc_walk {lo hi : Int} {good : Rt → Int → Hp → VK → Prop} {v u : V} {H : Hp} {Q : VK} {E : XK} {t : TE} {D : Ends} (h : SpRC K mg lo hi good [v, u] H Q E)
    (k : ∀ p x n H', v = .ref p → u = .int n → Same H H' → SqT K H' p (rtV x) → RW x → lo ≤ n → n ≤ hi → good x n H Q → t [some v, some u] H' D.rt) {tlo thi : TE} (hlo : ∀ H' Q', Q' (V.int lo) H' → tlo [some v, some u] H' Q') (hhi : ∀ H' Q', Q' (V.int hi) H' → thi [some v, some u] H' Q') :
    tSeq (tDrop (tCall (sp_need_row K mg) [] E (tCons (tVar 0) tNil))) (tSeq (tDrop (tCall (sp_need_count K mg) [] E (tCons (tVar 1) (tCons tlo (tCons thi tNil))))) (tRet t)) D [some v, some u] H := by
  obtain ⟨_, _, d, e, ev, hd, he, q1, q2, q3⟩ := h
  cases ev
  walk_at "w"
  refine ⟨v, d, rfl, hd, fun hr H1 s1 => ?_, q1⟩
  walk_at "w"
  refine hlo _ _ ?_
  walk_at "w"
  refine hhi _ _ ?_
  walk_at "w"
  refine ⟨u, e, lo, hi, rfl, same_dp s1 he, fun hw => ?_, fun hw => q2 hr hw _ s1⟩
  obtain ⟨p, x, rfl, rfl, r, hp⟩ := row_is hd hr
  obtain ⟨n, rfl, n1, n2⟩ := whole_is hw
  cases he
  walk_at "w"
  exact k p x n H1 rfl rfl s1 (same_tup s1 hp) r n1 n2 (q3 x n rfl r rfl n1 n2)
/-! ### entry -/
def sp_entry (K : PySem.W.Frag) (mg : Str → Option Value) : Sp := SpRC K mg 1 1000000000000000000 fun x n H Q => ∀ H', Same H H' → Q (.int (x.fl n)) H'
theorem len_entry : ∀ vs H Q E, sp_entry K mg vs H Q E → vs.length = 2 := SpRC.len
def t_entry (P : PySem.Program) (w : PySem.World) (K : PySem.W.Frag) (mg : PySem.Str → Option PySem.Value) (E : XK) : TS :=
  (tSeq (tDrop (tCall (sp_need_row K mg) [] E (tCons (tVar 0) tNil)))
  (tSeq (tDrop (tCall (sp_need_count K mg) [] E (tCons (tVar 1) (tCons (tC (.int 1)) (tCons (tOp rPowI (tC (.int 10)) (tC (.int 18))) tNil)))))
  (tRet (tCall (sp_entry_at K mg) [] E (tCons (tVar 0) (tCons (tVar 1) tNil))))))

theorem pure_entry : ∀ (vs : List V) (H : Hp) (Q : VK) (E : XK), sp_entry K mg vs H Q E → t_entry P w K mg E { nx := fun _ H' => Q .non H', rt := Q } (start ["x", "n"] vs) H := by
  intro vs H Q E h
  obtain ⟨v, u, d, e, rfl, _⟩ := id h
  show t_entry P w K mg E _ [some v, some u] H
  unfold t_entry
  refine rc_walk h (fun p x n H1 ev eu s1 hp r n1 n2 k => ?_) (fun H' Q' q => ?_) (fun H' Q' q => ?_)
  · subst ev
    subst eu
    walk_at "w"
    exact ⟨p, x, n, rfl, hp, r.rn.ok, r.rn.sm, by omega, k _ s1⟩
  · walk_at "w"
    exact q
  · walk_at "w"
    exact q
/-! ### counted, place_in, place, count_to -/
theorem RN.inv_sm {x : Rt} (r : RN x) : x.inv.Sm := by
  obtain ⟨h1, h2, h3⟩ := r.inv_abs
  exact ⟨by omega, by omega, by rw [(Rt.inv_eqs r.ok).1]; exact r.d1, by rw [(Rt.inv_eqs r.ok).1]; exact r.d2, by omega⟩
def sp_counted (K : PySem.W.Frag) (mg : Str → Option Value) : Sp := fun vs H Q _ => ∃ (p : Addr) (x : Rt) (n : Int), vs = [.ref p, .int n] ∧ SqT K H p (rtV x) ∧ RW x ∧ 0 ≤ n ∧ n ≤ 1000000000000000000 ∧ ∀ H', Same H H' → Q (.int (x.cnt n)) H'
theorem len_counted : ∀ vs H Q E, sp_counted K mg vs H Q E → vs.length = 2 := fun _ _ _ _ ⟨_, _, _, e, _⟩ => by subst e; rfl
def t_counted (P : PySem.Program) (w : PySem.World) (K : PySem.W.Frag) (mg : PySem.Str → Option PySem.Value) (E : XK) : TS :=
  (tRet (tCall (sp_entry_at K mg) [] E (tCons (tCall (sp_inverted K mg) [] E (tCons (tVar 0) tNil)) (tCons (tOp rAddI (tVar 1) (tC (.int 1))) tNil))))

theorem pure_counted : ∀ (vs : List V) (H : Hp) (Q : VK) (E : XK), sp_counted K mg vs H Q E → t_counted P w K mg E { nx := fun _ H' => Q .non H', rt := Q } (start ["x", "total"] vs) H := by
  rintro vs H Q E ⟨p, x, n, rfl, hp, r, n1, n2, q⟩
  show t_counted P w K mg E _ [some (.ref p), some (.int n)] H
  unfold t_counted
  walk_at "w"
  refine ⟨p, x, rfl, hp, r.rn.ok, r.rn.sm, fun H1 p1 s1 e1 => ?_⟩
  walk_at "w"
  exact ⟨p1, x.inv, n + 1, rfl, tup_of e1, Rt.inv_ok r.rn.ok, r.rn.inv_sm, by omega, q _ s1⟩
/-- the place of t, or None -/
def plc (x : Rt) (t : Int) : V := if x.In t then .int (x.cnt t) else .non
def sp_place_in (K : PySem.W.Frag) (mg : Str → Option Value) : Sp := fun vs H Q _ => ∃ (p : Addr) (x : Rt) (n : Int), vs = [.ref p, .int n] ∧ SqT K H p (rtV x) ∧ RW x ∧ 0 ≤ n ∧ n ≤ 1000000000000000000 ∧ ∀ H', Same H H' → Q (plc x n) H'
theorem len_place_in : ∀ vs H Q E, sp_place_in K mg vs H Q E → vs.length = 2 := fun _ _ _ _ ⟨_, _, _, e, _⟩ => by subst e; rfl
def t_place_in (P : PySem.Program) (w : PySem.World) (K : PySem.W.Frag) (mg : PySem.Str → Option PySem.Value) (E : XK) : TS :=
  (tSeq (tAsg (tCall (sp_counted K mg) [] E (tCons (tVar 0) (tCons (tVar 1) tNil))) (gName 2))
  (tRet (tIf (tAnd (tTest (tOp rGtI (tVar 2) (tC (.int 0)))) (tTest (tOp rEq (tCall (sp_entry_at K mg) [] E (tCons (tVar 0) (tCons (tVar 2) tNil))) (tVar 1)))) (tVar 2) (tC .non))))

theorem pure_place_in : ∀ (vs : List V) (H : Hp) (Q : VK) (E : XK), sp_place_in K mg vs H Q E → t_place_in P w K mg E { nx := fun _ H' => Q .non H', rt := Q } (start ["x", "total", "n"] vs) H := by
  rintro vs H Q E ⟨p, x, t, rfl, hp, r, t1, t2, q⟩
  show t_place_in P w K mg E _ [some (.ref p), some (.int t), none] H
  unfold t_place_in
  have c1 := cnt_nonneg r.rn.ok r.gt t1
  have c2 := cnt_le r.rn.ok r.gt t1
  walk_at "w"
  refine ⟨p, x, t, rfl, hp, r, t1, t2, fun H1 s1 => ?_⟩
  walk_at "w"
  unfold plc at q
  refine k_ite (fun h => ?_) fun h => ?_
  · walk_at "w"
    refine ⟨p, x, x.cnt t, rfl, same_tup s1 hp, r.rn.ok, r.rn.sm, by omega, ?_⟩
    walk_at "w"
    refine k_ite (fun h2 => ?_) fun h2 => ?_
    · rw [if_pos ⟨h, h2⟩] at q
      walk_at "w"
      exact q _ s1
    · rw [if_neg fun z => h2 z.2] at q
      walk_at "w"
      exact q _ s1
  · rw [if_neg fun z => h z.1] at q
    walk_at "w"
    exact q _ s1
def sp_place (K : PySem.W.Frag) (mg : Str → Option Value) : Sp := SpRC K mg 1 1000000000000000000 fun x n H Q => ∀ H', Same H H' → Q (plc x n) H'
theorem len_place : ∀ vs H Q E, sp_place K mg vs H Q E → vs.length = 2 := SpRC.len
def t_place (P : PySem.Program) (w : PySem.World) (K : PySem.W.Frag) (mg : PySem.Str → Option PySem.Value) (E : XK) : TS :=
  (tSeq (tDrop (tCall (sp_need_row K mg) [] E (tCons (tVar 0) tNil)))
  (tSeq (tDrop (tCall (sp_need_count K mg) [] E (tCons (tVar 1) (tCons (tC (.int 1)) (tCons (tOp rPowI (tC (.int 10)) (tC (.int 18))) tNil)))))
  (tRet (tCall (sp_place_in K mg) [] E (tCons (tVar 0) (tCons (tVar 1) tNil))))))

theorem pure_place : ∀ (vs : List V) (H : Hp) (Q : VK) (E : XK), sp_place K mg vs H Q E → t_place P w K mg E { nx := fun _ H' => Q .non H', rt := Q } (start ["x", "total"] vs) H := by
  intro vs H Q E h
  obtain ⟨v, u, d, e, rfl, _⟩ := id h
  show t_place P w K mg E _ [some v, some u] H
  unfold t_place
  refine rc_walk h (fun p x n H1 ev eu s1 hp r n1 n2 k => ?_) (fun H' Q' q => ?_) (fun H' Q' q => ?_)
  · subst ev
    subst eu
    walk_at "w"
    exact ⟨p, x, n, rfl, hp, r, by omega, by omega, fun H2 s2 => k _ (s1.trans s2)⟩
  · walk_at "w"
    exact q
  · walk_at "w"
    exact q
def sp_count_to (K : PySem.W.Frag) (mg : Str → Option Value) : Sp := SpRC K mg 0 1000000000000000000 fun x n H Q => ∀ H', Same H H' → Q (.int (x.cnt n)) H'
theorem len_count_to : ∀ vs H Q E, sp_count_to K mg vs H Q E → vs.length = 2 := SpRC.len
def t_count_to (P : PySem.Program) (w : PySem.World) (K : PySem.W.Frag) (mg : PySem.Str → Option PySem.Value) (E : XK) : TS :=
  (tSeq (tDrop (tCall (sp_need_row K mg) [] E (tCons (tVar 0) tNil)))
  (tSeq (tDrop (tCall (sp_need_count K mg) [] E (tCons (tVar 1) (tCons (tC (.int 0)) (tCons (tOp rPowI (tC (.int 10)) (tC (.int 18))) tNil)))))
  (tRet (tCall (sp_counted K mg) [] E (tCons (tVar 0) (tCons (tVar 1) tNil))))))

theorem pure_count_to : ∀ (vs : List V) (H : Hp) (Q : VK) (E : XK), sp_count_to K mg vs H Q E → t_count_to P w K mg E { nx := fun _ H' => Q .non H', rt := Q } (start ["x", "total"] vs) H := by
  intro vs H Q E h
  obtain ⟨v, u, d, e, rfl, _⟩ := id h
  show t_count_to P w K mg E _ [some v, some u] H
  unfold t_count_to
  refine rc_walk h (fun p x n H1 ev eu s1 hp r n1 n2 k => ?_) (fun H' Q' q => ?_) (fun H' Q' q => ?_)
  · subst ev
    subst eu
    walk_at "w"
    exact ⟨p, x, n, rfl, hp, r, by omega, by omega, fun H2 s2 => k _ (s1.trans s2)⟩
  · walk_at "w"
    exact q
  · walk_at "w"
    exact q
end Fl
/-! FlJ: the rows that the laws draw. -/
namespace Fl
open PySem L2 PySem.Spec PyProof.Rows HotX L2H LamX
local macro_rules | `(tactic| walk_at "sc") => `(tactic| first
  | exact cm_l (by omega) (by omega) | exact cm_r (by omega) (by omega)
  | exact wide_div (b := 250) (by omega) (by omega) (by decide) (by decide)
  | omega | exact cpow (by omega) (by omega) (by omega))
local macro_rules | `(tactic| walk_at "st1") => `(tactic| with_reducible first
  | apply k_seq | apply k_next | apply k_asg | apply k_ret | apply k_drop | apply k_ifS | apply k_par | apply k_par2 | apply k_par3 | apply k_par33
  | (refine k_var rfl ?_) | apply k_c | apply k_op | apply k_un | apply k_I0 | apply k_p18 | apply k_p15 | apply k_p12 | apply k_p9 | apply k_p7 | apply k_p6 | apply k_p5
  | (refine k_I ?_ ?_; (focus walk_at "sc")) | apply k_U
  | apply k_eqI | apply k_neI | apply k_eqB | apply k_neB | apply k_isN | apply k_ntN
  | apply k_test | apply k_tB | apply k_bl | apply k_and | apply k_or | apply k_not | apply k_andV | apply k_orV | apply k_notV | apply k_if | apply k_chain
  | apply k_cb | apply k_call | apply k_nil | apply k_cons | apply k_tup | apply k_lst | apply k_abs | apply k_max2 | apply k_min2 | apply k_iteT | apply k_iteF | apply k_iteNT | apply k_iteNF | apply k_gsub | apply k_yes | apply k_lc | apply k_for | apply k_rng1 | apply k_rng2 | apply k_iList | apply k_iTup | apply k_bm
  | apply k_slice | apply k_nopart | apply k_part | apply k_someI | apply k_enumT | apply k_enumL | apply k_gcons | apply k_gnil | apply k_n0 | apply k_n1 | apply k_n2 | apply k_n3 | apply k_n4 | apply k_n5 | apply k_n6 | apply k_n7 | apply k_n8 | apply k_n9 | apply k_n10 | apply k_n11 | apply k_n12 | apply k_n13 | apply k_n14 | apply k_n15 | apply k_n16 | apply k_n17 | apply k_n18 | apply k_n19 | apply k_n20)
local macro_rules | `(tactic| walk_at "st") => `(tactic| repeat walk_at "st1")
local macro_rules | `(tactic| walk_at "nw") => `(tactic| (refine ⟨Nat.le_of_ble_eq_true rfl, fun p np => ?_⟩; generalize hH : upd _ p _ = H'; have s := new_same hH np; have e := new_at hH; clear hH))
local macro_rules | `(tactic| walk_at "kb") => `(tactic| first | exact kb_tup | exact kb_ref | (refine kb_len ?_; (first | decide | (intro z; simp at z; done) | (simp; omega))))
local macro_rules | `(tactic| walk_at "hp") => `(tactic| first
  | assumption
  | exact Same.refl _
  | (apply tup_of; walk_at "hp") | (apply lst_of; walk_at "hp")
  | (refine st_at (by assumption) ?_; walk_at "hp")
  | (refine kq_at2 (by assumption) ?_ ?_; (focus walk_at "hp"); walk_at "kb")
  | (refine xn_at2 (by assumption) ?_ ?_; (focus walk_at "hp"); (intro z; simp; done))
  | exact dp_int | exact dp_non | exact dp_bl | exact dp_str
  | (refine dp_rt ?_; walk_at "hp")
  | (refine st_trans (by assumption) ?_; walk_at "hp")
  | (refine st_dice (by assumption) ?_; walk_at "hp") | (refine kq_dice (by assumption) ?_; walk_at "hp") | (refine xn_dice (by assumption) ?_; walk_at "hp")
  | exact lw_dice (by assumption) | exact lw_tabs (by assumption)
  | exact kq_refl | (refine st_kq (by assumption) ?_; walk_at "hp") | (refine kq_kq (by assumption) ?_; walk_at "hp")
  | (refine st_tabs (by assumption) ?_; walk_at "hp") | (refine kq_tabs (by assumption) ?_; walk_at "hp")
  | (refine st_lw (by assumption) ?_; walk_at "hp") | (refine kq_lw (by assumption) ?_; walk_at "hp") | (refine xn_lw (by assumption) ?_ ?_; (focus walk_at "hp"); walk_at "hp")
  | (refine st_dp (by assumption) ?_; walk_at "hp") | (refine xn_dp (by assumption) ?_; walk_at "hp")
  | (refine same_tup (by assumption) ?_; walk_at "hp") | (refine xn_tup (by assumption) ?_; walk_at "hp"))
local macro_rules | `(tactic| walk_at "w1") => `(tactic| first
  | walk_at "st1"
  | walk_at "nw"
  | ((with_reducible refine gd_cat ?_); refine k_cat' (by walk_at "hp") (by walk_at "hp") (by first | (simp; done) | (simp; omega)) (fun p H' s e => ?_))
  | ((with_reducible refine gd_roll ?_); refine k_roll (by walk_at "hp") (by omega) (by omega) (fun H' r c r1 r2 => ?_))
  | ((with_reducible refine gd_strI ?_); refine k_strI (by omega) ?_)
  | ((with_reducible refine gd_catA ?_); refine k_catT (by walk_at "hp") (by walk_at "hp") (by first | (simp; done) | (simp; omega)) (fun H' p s e => ?_))
  | ((with_reducible refine gd_tupOf ?_); refine k_tupOf (by walk_at "hp") (fun H' p s e => ?_))
  | ((with_reducible refine gd_slL ?_); refine k_slL (by walk_at "hp") (fun H' p s n e => ?_))
  | ((with_reducible refine gd_slA ?_); refine k_slA (by walk_at "hp") (fun H' p s e => ?_))
  | ((with_reducible refine gd_len ?_); first | (refine k_lenL (by walk_at "hp") ?_) | (refine k_lenT (by walk_at "hp") ?_))
  | ((with_reducible refine gd_gtup4 ?_); refine k_gtup4 (by walk_at "hp") ?_)
  | ((with_reducible refine gd_gtup ?_); refine k_gtup (by walk_at "hp") (by rfl) ?_)
  | ((with_reducible refine gd_ixT ?_); refine k_ixT (by walk_at "hp") (by rfl) ?_)
  | ((with_reducible refine gd_ixL ?_); refine k_ixL (by walk_at "hp") (by rfl) ?_))
local macro_rules | `(tactic| walk_at "w") => `(tactic| repeat walk_at "w1")
local macro_rules | `(tactic| walk_at "dec") => `(tactic| first | refine k_pos (by omega) ?_ | refine k_neg (by omega) ?_ | refine k_npos (by omega) ?_ | refine k_nneg (by omega) ?_)
local macro_rules | `(tactic| walk_at "v") => `(tactic| repeat first | walk_at "w1" | walk_at "dec")
variable {P : Program} {w : World} {K : PySem.W.Frag} {mg : Str → Option Value}
theorem row_low {x : Rt} (a : x.a.natAbs ≤ 50) (b : x.b.natAbs ≤ 50) (c : x.c.natAbs ≤ 50) (d1 : 2 ≤ x.d) (d2 : x.d ≤ 40) (f : Free x.d) (b0 : x.b ≠ 0) (c0 : 0 < x.c) (g : Pst x.d (x.a - x.c) x.b) : RW x.low := by
  have r := low_rn a b c d1 d2 f b0 c0
  have o : x.Ok := ⟨free_nsq d1 d2 f, b0, c0⟩
  refine ⟨r, (gt_iff r.ok).mp ((Rt.low_P o _ _).mpr ?_)⟩
  unfold Rt.P
  rwa [show 1 * x.a + -1 * x.c = x.a - x.c by omega, show 1 * x.b = x.b by omega]
def sp__law_any_row (K : PySem.W.Frag) (mg : Str → Option Value) : Sp := fun vs H Q _ => ∃ d : Addr, vs = [.ref d] ∧ IsDice H d ∧ ∀ H' p x, Kq H H' → H' p = some (.tup (rtV x)) → RW x → Q (.ref p) H'
theorem len__law_any_row : ∀ vs H Q E, sp__law_any_row K mg vs H Q E → vs.length = 1 := fun _ _ _ _ ⟨_, e, _⟩ => by subst e; rfl
def t__law_any_row (P : PySem.Program) (w : PySem.World) (K : PySem.W.Frag) (mg : PySem.Str → Option PySem.Value) (E : XK) : TS :=
  (tSeq (tAsg (tOp (rIxL K) (tLst (tCons (tC (.int 2)) (tCons (tC (.int 3)) (tCons (tC (.int 5)) (tCons (tC (.int 6)) (tCons (tC (.int 7)) (tCons (tC (.int 10)) (tCons (tC (.int 11)) (tCons (tC (.int 13)) (tCons (tC (.int 26)) (tCons (tC (.int 29)) (tCons (tC (.int 37)) (tCons (tC (.int 39)) tNil))))))))))))) (tCall (sp__law_roll K mg) [] E (tCons (tVar 0) (tCons (tC (.int 12)) tNil)))) (gName 1))
  (tSeq (tIfS (tTest (tOp rEq (tCall (sp__law_roll K mg) [] E (tCons (tVar 0) (tCons (tC (.int 4)) tNil))) (tC (.int 0))))
  (tSeq (tPar 2 3 (tCons (tOp rAddI (tC (.int 1)) (tCall (sp__law_roll K mg) [] E (tCons (tVar 0) (tCons (tC (.int 3)) tNil)))) (tCons (tOp rAddI (tC (.int 1)) (tCall (sp__law_roll K mg) [] E (tCons (tVar 0) (tCons (tC (.int 9)) tNil)))) tNil)))
  (tRet (tCall (sp__law_lowest K mg) [] E (tCons (tOp rAddI (tOp rAddI (tOp rMulI (tC (.int 7)) (tVar 2)) (tVar 3)) (tCall (sp__law_roll K mg) [] E (tCons (tVar 0) (tCons (tC (.int 12)) tNil)))) (tCons (tUn rNegI (tVar 2)) (tCons (tVar 1) (tCons (tVar 3) tNil)))))))
  tNext)
  (tSeq (tAsg (tOp (rIxL K) (tLst (tCons (tC (.int 1)) (tCons (tC (.int 3)) (tCons (tC (.int 24)) tNil)))) (tCall (sp__law_roll K mg) [] E (tCons (tVar 0) (tCons (tC (.int 3)) tNil)))) (gName 4))
  (tSeq (tPar 5 2 (tCons (tCall (sp__law_roll K mg) [] E (tCons (tVar 0) (tCons (tOp rAddI (tVar 4) (tC (.int 1))) tNil))) (tCons (tOp rAddI (tC (.int 1)) (tCall (sp__law_roll K mg) [] E (tCons (tVar 0) (tCons (tVar 4) tNil)))) tNil)))
  (tRet (tCall (sp__law_lowest K mg) [] E (tCons (tVar 5) (tCons (tVar 2) (tCons (tVar 1) (tCons (tOp rAddI (tC (.int 1)) (tCall (sp__law_roll K mg) [] E (tCons (tVar 0) (tCons (tOp rAddI (tVar 5) (tVar 2)) tNil)))) tNil))))))))))

theorem rowDs : ∀ m ∈ [(2 : Int), 3, 5, 6, 7, 10, 11, 13, 26, 29, 37, 39], 2 ≤ m ∧ m ≤ 39 ∧ Free m := by decide
theorem rowHs : ∀ m ∈ [(1 : Int), 3, 24], 1 ≤ m ∧ m ≤ 24 := by decide
theorem pure__law_any_row : ∀ (vs : List V) (H : Hp) (Q : VK) (E : XK), sp__law_any_row K mg vs H Q E → t__law_any_row P w K mg E { nx := fun _ H' => Q .non H', rt := Q } (start ["dice", "d", "b", "c", "high", "a"] vs) H := by
  rintro vs H Q E ⟨q, rfl, hq, k⟩
  show t__law_any_row P w K mg E _ [some (.ref q), none, none, none, none, none] H
  unfold t__law_any_row
  walk_at "w"
  rename_i p1 _ H1 s1 e1 H2 r c2 r1 r2
  obtain ⟨d, hd, ed⟩ := at_ints [2, 3, 5, 6, 7, 10, 11, 13, 26, 29, 37, 39] r1 r2
  obtain ⟨d1, d2, df⟩ := rowDs d hd
  refine k_ixL (lst_of (by walk_at "hp")) ed ?_
  walk_at "w"
  refine k_ite (fun z => ?_) fun z => ?_
  · walk_at "w"
    rename_i H3 rz c3 z1 z2 H4 rb c4 b1 b2 H5 rc c5 h1 h2 H6 ra c6 a1 a2
    refine ⟨⟨7 * (1 + rb) + (1 + rc) + ra, -(1 + rb), d, 1 + rc⟩, rfl, by show -(1 + rb) ≠ 0; omega, by show 1 + rc ≠ 0; omega, small_c (by show (1 + rc).natAbs < 2 ^ 60; omega), fun H7 p s7 e7 => k H7 p _ (by walk_at "hp") (by rw [red_low (by show 0 < 1 + rc; omega)] at e7; exact e7) (row_low ?_ ?_ ?_ d1 (by show d ≤ 40; omega) df ?_ ?_ ?_)⟩
    · show (7 * (1 + rb) + (1 + rc) + ra).natAbs ≤ 50; omega
    · show (-(1 + rb)).natAbs ≤ 50; omega
    · show (1 + rc).natAbs ≤ 50; omega
    · show -(1 + rb) ≠ 0; omega
    · show 0 < 1 + rc; omega
    · show Pst d (7 * (1 + rb) + (1 + rc) + ra - (1 + rc)) (-(1 + rb))
      generalize hb : 1 + rb = b at *
      rw [pos_dn (by omega) (by omega) (by omega)]
      have e : - -b * - -b * d = b * b * d := by grind
      rw [e]
      have h1 : b * b * d ≤ b * b * 39 := Int.mul_le_mul_of_nonneg_left d2 (sq_nn b)
      have h2 : (7 * b) * (7 * b) ≤ (7 * b + (1 + rc) + ra - (1 + rc)) * (7 * b + (1 + rc) + ra - (1 + rc)) := Int.mul_le_mul (by omega) (by omega) (by omega) (by omega)
      have h3 : (7 * b) * (7 * b) = 49 * (b * b) := by grind
      have h4 := sq_pos' (x := b) (by omega)
      omega
  · walk_at "w"
    rename_i H3 rz c3 z1 z2 p4 _ H4 s4 e4 H5 r c5 r1 r2
    obtain ⟨h, hh, eh⟩ := at_ints [1, 3, 24] r1 r2
    obtain ⟨h1, h2⟩ := rowHs h hh
    refine k_ixL (lst_of (by walk_at "hp")) eh ?_
    walk_at "w"
    rename_i H6 ra c6 a1 a2 H7 rb c7 b1 b2 H8 rc c8 g1 g2
    refine ⟨⟨ra, 1 + rb, d, 1 + rc⟩, rfl, by show 1 + rb ≠ 0; omega, by show 1 + rc ≠ 0; omega, small_c (by show (1 + rc).natAbs < 2 ^ 60; omega), fun H7 p s7 e7 => k H7 p _ (by walk_at "hp") (by rw [red_low (by show 0 < 1 + rc; omega)] at e7; exact e7) (row_low ?_ ?_ ?_ d1 (by show d ≤ 40; omega) df ?_ ?_ ?_)⟩
    · show ra.natAbs ≤ 50; omega
    · show (1 + rb).natAbs ≤ 50; omega
    · show (1 + rc).natAbs ≤ 50; omega
    · show 1 + rb ≠ 0; omega
    · show 0 < 1 + rc; omega
    · show Pst d (ra - (1 + rc)) (1 + rb)
      generalize hb : 1 + rb = b at *
      rcases Int.lt_or_le (ra - (1 + rc)) 0 with z | z
      · rw [pos_up (by omega) (by omega) z]
        have h1 : (-(ra - (1 + rc))) * (-(ra - (1 + rc))) ≤ b * b := Int.mul_le_mul (by omega) (by omega) (by omega) (by omega)
        have h2 : b * b * 2 ≤ b * b * d := Int.mul_le_mul_of_nonneg_left d1 (sq_nn b)
        have h4 := sq_pos' (x := b) (by omega)
        omega
      · exact pos_pp z (by omega) (by omega)
theorem k_any_row {H : Hp} {d : Addr} {Q : VK} {E : XK} (hd : IsDice H d) (k : ∀ H' p x, Kq H H' → H' p = some (.tup (rtV x)) → RW x → Q (.ref p) H') : sp__law_any_row K mg [.ref d] H Q E := ⟨d, rfl, hd, k⟩
def sp__law_far (K : PySem.W.Frag) (mg : Str → Option Value) : Sp := fun vs H Q _ => ∃ d : Addr, vs = [.ref d] ∧ IsDice H d ∧ ∀ H' n, Chg d H H' → 1 ≤ n → n ≤ 1000000000000000000 → Q (.int n) H'
theorem len__law_far : ∀ vs H Q E, sp__law_far K mg vs H Q E → vs.length = 1 := fun _ _ _ _ ⟨_, e, _⟩ => by subst e; rfl
def t__law_far (P : PySem.Program) (w : PySem.World) (K : PySem.W.Frag) (mg : PySem.Str → Option PySem.Value) (E : XK) : TS :=
  (tSeq (tIfS (tTest (tOp rEq (tCall (sp__law_roll K mg) [] E (tCons (tVar 0) (tCons (tC (.int 2)) tNil))) (tC (.int 0))))
  (tRet (tOp rAddI (tC (.int 1)) (tCall (sp__law_roll K mg) [] E (tCons (tVar 0) (tCons (tC (.int 60)) tNil)))))
  tNext)
  (tRet (tOp rAddI (tC (.int 1)) (tOp rMulI (tCall (sp__law_roll K mg) [] E (tCons (tVar 0) (tCons (tOp rPowI (tC (.int 10)) (tC (.int 9))) tNil))) (tOp rAddI (tC (.int 1)) (tCall (sp__law_roll K mg) [] E (tCons (tVar 0) (tCons (tOp rSubI (tOp rPowI (tC (.int 10)) (tC (.int 9))) (tC (.int 1))) tNil))))))))

theorem pure__law_far : ∀ (vs : List V) (H : Hp) (Q : VK) (E : XK), sp__law_far K mg vs H Q E → t__law_far P w K mg E { nx := fun _ H' => Q .non H', rt := Q } (start ["dice"] vs) H := by
  rintro vs H Q E ⟨q, rfl, hq, k⟩
  show t__law_far P w K mg E _ [some (.ref q)] H
  unfold t__law_far
  walk_at "st"
  refine ⟨q, _, rfl, hq, by omega, by omega, fun H1 r0 c0 _ _ => ?_⟩
  walk_at "st"
  refine k_ite (fun z => ?_) fun z => ?_
  · walk_at "st"
    refine ⟨q, _, rfl, c0.2, by omega, by omega, fun H2 r c r1 r2 => ?_⟩
    walk_at "st"
    exact k _ _ (c0.trans c) (by omega) (by omega)
  · walk_at "st"
    refine ⟨q, _, rfl, c0.2, by omega, by omega, fun H2 r c r1 r2 => ?_⟩
    walk_at "st"
    refine ⟨q, _, rfl, c.2, by omega, by omega, fun H3 r' c' r3 r4 => ?_⟩
    walk_at "st"
    have h1 : 0 ≤ r * (1 + r') := Int.mul_nonneg r1 (by omega)
    have h2 : r * (1 + r') ≤ 999999999 * 999999999 := Int.mul_le_mul (by omega) (by omega) (by omega) (by omega)
    exact k _ _ (c0.trans (c.trans c')) (by omega) (by omega)
theorem k_far {H : Hp} {d : Addr} {Q : VK} {E : XK} (hd : IsDice H d) (k : ∀ H' n, Kq H H' → 1 ≤ n → n ≤ 1000000000000000000 → Q (.int n) H') : sp__law_far K mg [.ref d] H Q E := ⟨d, rfl, hd, fun H' n c => k H' n (kq_of hd c)⟩
theorem k_farC {H : Hp} {d : Addr} {Q : VK} {E : XK} (hd : IsDice H d) (k : ∀ H' n, Chg d H H' → 1 ≤ n → n ≤ 1000000000000000000 → Q (.int n) H') : sp__law_far K mg [.ref d] H Q E := ⟨d, rfl, hd, k⟩
end Fl
/-! FlE: sum of a tuple, enumerate of a tuple. -/
namespace Fl
open PySem L2 PySem.Spec PyProof.Rows
/-! ### sum(t) -/
def rSumT (K : PySem.W.Frag) : List V → Hp → VK → Prop := fun vs H Q => ∃ (p : Addr) (ms : List Int), vs = [V.ref p] ∧ SqT K H p (ms.map V.int) ∧ Q (.int ms.sum) H
theorem cr_sumT {X : Cx} (calm : X.calm = true) : CallR X (.builtin "sum") (rSumT X.K) := by
  intro pn s0 sl H0 as us Q0 J rl hyp
  obtain ⟨p, ms, rfl, hq, fin⟩ := hyp
  obtain ⟨its, rv, ht, _⟩ := J.tuple hq
  rw [Vals.ref1 rl]
  have hi := rv.ints
  obtain ⟨xs, ex⟩ := hi.allInts.items
  have hn : numsOf (intItems xs).toList = ms := by rw [← ex]; exact hi.numsOf
  rw [nums_intItems] at hn
  have ht2 : s0.heap.IsTuple p its.toArray := ht
  rw [ex] at ht2
  refine PySem.W.ktm_sumG (J.ok.hd calm) ht2 fun hh tk tt kp => ?_
  rw [preSum_eq, List.take_of_length_le (by simp), hn]
  exact ⟨.int _, H0, J.kept kp, ⟨_, rfl⟩, fin⟩
/-! ### enumerate(t): the library's part -/
section
variable {prog : Program} {w : World} {A : Around} {E : Value → Shared → Prop} {s : Shared}
theorem nextOf_tup {it t : Addr} {i : Nat} {arr : Array Value} {x : Value} {Q : Value → Shared → Prop} (hi : IsTupIter s.heap it t i) (ht : IsTup s.heap t arr) (hx : arr[i]? = some x)
    (k : ∀ h', IsTupIter h' it t (i + 1) → Heap.SameBut it s.heap h' → Q x { s with heap := h' }) : wpAny (model prog w) A (Builtin.SmallTypes.nextOf (.ref it)) Q E s := by
  unfold Builtin.SmallTypes.nextOf
  exact wpAny_bind (special_tup_item hi ht hx fun h' a b => wpAny_pure (k h' a b))
theorem nextOf_tupEnd {it t : Addr} {i : Nat} {arr : Array Value} {Q : Value → Shared → Prop} (hh : A.handled = none) (hi : IsTupIter s.heap it t i) (ht : IsTup s.heap t arr) (hx : arr[i]? = none)
    (k : ∀ h' e, Heap.ExtBut it s.heap h' → (∃ o, h'.get? e = some o ∧ o.cls = .type "StopIteration") → E (.ref e) { s with heap := h' }) : wpAny (model prog w) A (Builtin.SmallTypes.nextOf (.ref it)) Q E s := by
  unfold Builtin.SmallTypes.nextOf
  refine wpAny_bind (special_tup_end hh hi ht hx fun e h' sx eb => ?_)
  obtain ⟨a, o, vs, rfl, ha, hc, _, _⟩ := sx
  exact k h' a eb ⟨o, ha, hc⟩
end
theorem draws_tup {prog : Program} {w : World} {A : Around} (hh : A.handled = none) (it t : Addr) (ne : t ≠ it) (arr : Array Value) :
    Draws prog w A it [it, t] arr.size (fun i v => arr[i]? = some v) (fun i h => IsTupIter h it t i ∧ IsTup h t arr) where
  live := fun _ _ st => let ⟨o, ho, _⟩ := st.1; ⟨o, ho⟩
  frame := fun _ _ _ st hk => ⟨let ⟨o, ho, r⟩ := st.1; ⟨o, hk it (by simp) o ho, r⟩, let ⟨o, ho, r⟩ := st.2; ⟨o, hk t (by simp) o ho, r⟩⟩
  item := fun i s Q E hi st k => by
    refine nextOf_tup st.1 st.2 (x := arr[i]) (by simp [hi]) fun h' a b => ?_
    exact k _ h' s.toks (by simp [hi]) ⟨a, let ⟨o, ho, r⟩ := st.2; ⟨o, b.extBut t o ne ho, r⟩⟩ b
  done := fun s Q E st k => nextOf_tupEnd hh st.1 st.2 (by simp) k
theorem enum_newT (t : Addr) (arr : Array Value) (n : Nat) (dct : Option Addr) (sl : Array (Option Value)) :
    Meets (Builtin.«enumerate.__new__» ⟨[.type "enumerate", .ref t], []⟩) (fun _ R s => s.heap.get? t = some { cls := .type "tuple", dict := dct, data := .seq arr n, slots := sl } ∧
      R (.ok (.ret (.ref (s.heap.push { cls := .type "tuple_iterator", data := .fields #[.ref t, .int 0 0] }).objs.size)))
        { s with heap := (s.heap.push { cls := .type "tuple_iterator", data := .fields #[.ref t, .int 0 0] }).push { cls := .type "enumerate", data := .fields #[.none, .bool false, .ref s.heap.objs.size, rawInt 0, .none, .none] } }) :=
  .of_wp fun prog w A R s h => by
    obtain ⟨hp, g, d, tk, os⟩ := s
    obtain ⟨ht, h⟩ := h
    have hsub := sub_enumerate
    have hT : Heap.IsTuple (Shared.heap ⟨hp, g, d, tk, os⟩) t arr := ⟨_, ht, rfl, n, rfl⟩
    wp_walk using AutoSeq1.wpAny_loadPart' ht
    refine wpAny_stack_any fun st => wpAny_pure ?_
    split
    · rename_i c _ _ _ _ _
      cases (c == Value.type "enumerate")
      · wp_walk using AutoSeq1.wpAny_loadPart' ht, wpAny_pyIter_tuple hT
        exact ⟨_, rfl, h⟩
      · wp_walk using AutoSeq1.wpAny_loadPart' ht, wpAny_pyIter_tuple hT
        exact ⟨_, rfl, h⟩
    · wp_walk using AutoSeq1.wpAny_loadPart' ht, wpAny_pyIter_tuple hT
      exact ⟨_, rfl, h⟩
section
variable {prog : Program} {w : World} {A : Around} {E : Value → Shared → Prop} {s : Shared}
theorem call_enumT {t : Addr} {arr : Array Value} {Q : Value → Shared → Prop} (hT : s.heap.IsTuple t arr)
    (k : ∀ h', IsEnum h' (s.heap.objs.size + 1) s.heap.objs.size 0 .none → IsTupIter h' s.heap.objs.size t 0 → h'.objs.size = s.heap.objs.size + 2 → (∀ b o, s.heap.get? b = some o → h'.get? b = some o) → Q (.ref (s.heap.objs.size + 1)) { s with heap := h' }) :
    wpAny (model prog w) A (call (.type "enumerate") [.ref t]) Q E s := by
  obtain ⟨⟨c, dct, dt, sl⟩, hl, hc, n, hd⟩ := hT
  have hc' : c = .type "tuple" := hc
  have hd' : dt = .seq arr n := hd
  subst hc' hd'
  refine callType_new F.called_enumerate (by decide) (F.typeCall_enumerate_1 _) (F.newCall_enumerate_1 _) (fun obj => F.args_object_init_2 obj _) F.entry_enumerate_new (enum_newT t arr n dct sl) ⟨hl, ?_⟩
  generalize hi : s.heap.push { cls := .type "tuple_iterator", data := .fields #[.ref t, .int 0 0] } = h1
  have z1 : h1.objs.size = s.heap.objs.size + 1 := by rw [← hi]; exact Heap.size_push ..
  have g1 : h1.get? s.heap.objs.size = some { cls := .type "tuple_iterator", data := .fields #[.ref t, .int 0 0] } := by rw [← hi]; exact Heap.get?_push_size _ rfl
  have k1 : ∀ b o, s.heap.get? b = some o → h1.get? b = some o := fun b o x => by rw [← hi]; exact Heap.get?_push_of_some _ x
  show _ ∧ _
  rw [z1]
  have he : IsEnum (h1.push { cls := .type "enumerate", data := .fields #[.none, .bool false, .ref s.heap.objs.size, rawInt 0, .none, .none] }) (s.heap.objs.size + 1) s.heap.objs.size 0 .none := by
    have := Heap.get?_push_size h1 (o := { cls := .type "enumerate", data := .fields #[.none, .bool false, .ref s.heap.objs.size, rawInt 0, .none, .none] }) rfl
    rw [z1] at this
    exact this
  exact ⟨⟨_, he, rfl⟩, k _ he ⟨_, Heap.get?_push_of_some _ g1, rfl, rfl⟩ (by rw [Heap.size_push, z1]) fun b o x => Heap.get?_push_of_some _ (k1 b o x)⟩
end
/-! ### for i, x in enumerate(t) -/
def Iet (K : PySem.W.Frag) (p : Addr) : It :=
  ⟨fun i H => ∃ (xs : List V) (x : V), SqT K H p xs ∧ xs[i]? = some x, fun i H v H' => ∃ q x, v = .ref q ∧ H q = none ∧ H' = upd H q (.tup [.int (i : Nat), x]) ∧ ∀ xs, SqT K H p xs → xs[i]? = some x, fun i H => ∃ xs : List V, SqT K H p xs ∧ xs.length ≤ i⟩
theorem turn_enumT {P : Program} {w : World} {K : PySem.W.Frag} {elts : List Expr} {kk : Nat} {tp : Pos} (p e it : Addr) :
    Turn P w K (.Tuple elts kk tp) (Iet K p) [e, it] e (fun i h => (∃ old, IsEnum h e it ((i : Nat) : Int) old) ∧ IsTupIter h it p i ∧ e ≠ it) where
  mem := by simp
  obj := fun i h st b hb => by
    obtain ⟨⟨old, he⟩, ⟨o, ho, hc, hd⟩, _⟩ := st
    have ways : b = e ∨ b = it := by simpa using hb
    rcases ways with rfl | rfl
    · exact ⟨_, he, fun v q => nomatch q⟩
    · exact ⟨o, ho, fun v q => by rw [hd] at q; cases q⟩
  keep := fun i h h' st k => let ⟨⟨old, he⟩, ⟨o, ho, r⟩, hne⟩ := st; ⟨⟨old, k e (by simp) _ he⟩, ⟨o, k it (by simp) o ho, r⟩, hne⟩
  item := by
    intro X hP hw hK hc i pins s σ H E I hf st hg
    subst hP hw hK
    obtain ⟨⟨old, he⟩, hit, hne⟩ := st
    obtain ⟨xs, x, hq, hx⟩ := hg
    obtain ⟨its, rv, pt, hz⟩ := I.tuple hq
    obtain ⟨u, hu, ru⟩ := rv.get hx
    have hpt : IsTup s.heap p its.toArray := pt
    have hel : e < s.heap.objs.size := Heap.lt_size he
    have hil : it < s.heap.objs.size := by obtain ⟨_, q, _⟩ := hit; exact Heap.lt_size q
    have hpi : p ≠ it := fun z => by
      obtain ⟨o1, h1, c1, _⟩ := hit
      obtain ⟨o2, h2, c2, _⟩ := hpt
      rw [z, h1] at h2
      cases h2
      rw [c1] at c2
      exact absurd c2 (by decide)
    have hpe : p ≠ e := fun z => by
      obtain ⟨o2, h2, c2, _⟩ := hpt
      have h1 : s.heap.get? e = _ := he
      rw [z, h1] at h2
      cases h2
      exact absurd (show Value.type "enumerate" = Value.type "tuple" from c2) (by decide)
    have hlt : i < its.toArray.size := by
      have := (List.getElem?_eq_some_iff.mp hu).1
      simpa using this
    refine wpAny_pyNext_enum_itemD (draws_tup (A := X.A.in1) (by exact (I.ok.hd hc)) it p hpi its.toArray) he ⟨hit, hpt⟩ hlt hne (by simp [hne, Ne.symm hpe]) fun y h' tk hy ho hst hT hsz hk => ?_
    have ey : y = u := by
      have : its[i]? = some y := by simpa using hy
      rw [hu] at this
      exact (Option.some.inj this).symm
    subst ey
    refine ⟨_, rfl, wpAny_letOwnedTupleGo_enum (s := { s with heap := h', toks := tk + 1 }) ho fun h2 he2 sb => ?_⟩
    have hT2 : h2.get? s.heap.objs.size = some { cls := .type "tuple", data := .seq #[.int i tk, y] } := (sb.2 _ (Nat.ne_of_gt hel)).trans hT
    have new : ObjOk X.prog X.w (upd H s.heap.objs.size (.tup [.int (i : Nat), x])) h2 s.heap.objs.size (.tup [.int (i : Nat), x]) :=
      ⟨by show 2 ≤ sizeLine; decide, [.int i tk, y], .cons ⟨_, rfl⟩ (.cons ru .nil), ⟨_, hT2, rfl, _, rfl⟩⟩
    have I1 : Inv X pins σ (upd H s.heap.objs.size (.tup [.int (i : Nat), x])) { s with heap := h2, toks := tk + 1 } :=
      I.turnedNew (ch := [e, it]) (fun b ob hb q => (sb.2 b (fun z => hb (by simp [z]))).trans (hk b ob (fun z => hb (by simp [z])) (fun z => hb (by simp [z])) q)) hf (Nat.le_refl _) new
    refine ⟨.ref s.heap.objs.size, _, I1, rfl, ⟨_, x, rfl, I.hok.fresh (Nat.le_refl _), rfl, fun ys hy => by rw [I.tuple_inj hy hq]; exact hx⟩, ⟨⟨y, ?_⟩, ?_, hne⟩, fun b hb => ?_⟩
    · rw [show ((i + 1 : Nat) : Int) = (i : Int) + 1 by omega]
      exact he2
    · obtain ⟨o, ho2, r⟩ := hst.1
      exact ⟨o, (sb.2 it (Ne.symm hne)).trans ho2, r⟩
    · have ways : b = e ∨ b = it := by simpa using hb
      have hb2 : b < s.heap.objs.size := by rcases ways with rfl | rfl; exact hel; exact hil
      rw [upd_ne (Nat.ne_of_lt hb2)]
      exact (hf b hb).1
  done := by
    intro X hP hw hK hc i pins s σ H E I hf st hg
    subst hP hw hK
    obtain ⟨⟨old, he⟩, hit, hne⟩ := st
    obtain ⟨xs, hq, hx⟩ := hg
    obtain ⟨its, rv, pt, hz⟩ := I.tuple hq
    have hpt : IsTup s.heap p its.toArray := pt
    obtain ⟨f0, f1, f2, f3, f4, f5⟩ := hf it (by simp)
    have hl := rv.length
    have hpi : p ≠ it := fun z => by
      obtain ⟨o1, h1, c1, _⟩ := hit
      obtain ⟨o2, h2, c2, _⟩ := hpt
      rw [z, h1] at h2
      cases h2
      rw [c1] at c2
      exact absurd c2 (by decide)
    have D := draws_tup (prog := X.prog) (w := X.w) (A := X.A.in1) (by exact (I.ok.hd hc)) it p hpi its.toArray
    have hT : s.TypeIs (.ref e) "enumerate" := ⟨_, he, rfl⟩
    unfold pyNext
    refine wpAny_bind (wpAny_attempt (wpAny_callSpecial?_slot (name := Str.ofString "__next__") hT F.slot_enumerate_next
      (wpAny_call_entry F.slot_enumerate_next hT F.entry_enumerate_next ?_ (F.args_enumerate_next_1 _))))
    show wpAny _ _ (field (.ref e) 2 >>= _) _ _ _
    refine wpAny_bind (wpAny_field he rfl (x := .ref it) rfl ?_)
    refine wpAny_bind (nextOf_tupEnd (I.ok.hd hc) hit hpt (by simp; omega) fun h' x he' hx' => ?_)
    obtain ⟨o, ho, hcc⟩ := hx'
    refine wpAny_bind (wpAny_isInstance (T := "StopIteration") (b := true) ⟨o, ho, hcc⟩ isSubtype_stop ?_)
    exact wpAny_pure ⟨rfl, I.turned (t' := s.toks) (fun b o hb q => he' b o hb q) f0 f1 f3 f4 f5⟩
  self := fun A i s Q E st h => let ⟨⟨_, he⟩, _⟩ := st; wpAny_pyIter_enum he h
def iEnumT (K : PySem.W.Frag) (ta : TA) : TI := fun σ H R => ta σ H fun vs H1 => ∃ p xs, vs = [.ref p] ∧ SqT K H1 p xs ∧ R (Iet K p) H1
theorem pi_enumT {X : Cx} {e : Expr} {ta : TA} {p pos tp : Pos} {elts : List Expr} {kk : Nat} (hg : Gl X "enumerate") (hm : X.mg "enumerate" = none) (ha : PA X [e] ta) (hs : starEach [e] X.env = [(false, eval e X.env)] := by rfl) :
    PI X (.Tuple elts kk tp) (.Call (.Name "enumerate" p) [e] [] pos) (iEnumT X.K ta) := by
  refine ⟨fun pins s σ H R I h => ?_⟩
  refine Call_ (ld_blt I hg hm boot_enumerate (PyProof.Rows.callWith_type1 (thn (ha.run pos pins s σ H _ I h) fun us s1 ⟨vs, H1, I1, r1, q1⟩ => ?_) hs rfl))
  obtain ⟨t, xs, ex, hq, q⟩ := q1
  subst ex
  cases r1 with
  | cons r rr =>
    cases rr
    cases r
    obtain ⟨its, rv, pt, hz⟩ := I1.tuple hq
    refine call_enumT (show s1.heap.IsTuple t its.toArray from pt) fun h' he hit hsz hk => wpAny_pyIter_enum he ?_
    have I2 : Inv X pins σ H1 { s1 with heap := h' } := I1.kept (t' := s1.toks) hk
    refine ⟨s1.heap.objs.size + 1, [s1.heap.objs.size + 1, s1.heap.objs.size], _, _, H1, rfl, I2, turn_enumT t (s1.heap.objs.size + 1) s1.heap.objs.size, ⟨⟨.none, he⟩, hit, Nat.succ_ne_self _⟩, fun b hb => ?_, q⟩
    have ways : b = s1.heap.objs.size + 1 ∨ b = s1.heap.objs.size := by simpa using hb
    have hle : s1.heap.objs.size ≤ b := by rcases ways with rfl | rfl <;> omega
    exact I1.fpOk hle (I1.hok.fresh hle)
end Fl
/-! FlS: tuples of integers; steps. -/
namespace Fl
open PySem L2 PySem.Spec PyProof.Rows HotX L2H LamX
local macro_rules | `(tactic| walk_at "sc") => `(tactic| first
  | exact cm_l (by omega) (by omega) | exact cm_r (by omega) (by omega)
  | exact wide_div (b := 250) (by omega) (by omega) (by decide) (by decide)
  | omega | exact cpow (by omega) (by omega) (by omega))
local macro_rules | `(tactic| walk_at "st1") => `(tactic| with_reducible first
  | apply k_seq | apply k_next | apply k_asg | apply k_ret | apply k_drop | apply k_ifS | apply k_par | apply k_par2 | apply k_par3 | apply k_par33
  | (refine k_var rfl ?_) | apply k_c | apply k_op | apply k_un | apply k_I0 | apply k_p18 | apply k_p15 | apply k_p12 | apply k_p9 | apply k_p7 | apply k_p6 | apply k_p5
  | (refine k_I ?_ ?_; (focus walk_at "sc")) | apply k_U
  | apply k_eqI | apply k_neI | apply k_eqB | apply k_neB | apply k_isN | apply k_ntN
  | apply k_test | apply k_tB | apply k_bl | apply k_and | apply k_or | apply k_not | apply k_andV | apply k_orV | apply k_notV | apply k_if | apply k_chain
  | apply k_cb | apply k_call | apply k_nil | apply k_cons | apply k_tup | apply k_lst | apply k_abs | apply k_max2 | apply k_min2 | apply k_iteT | apply k_iteF | apply k_iteNT | apply k_iteNF | apply k_gsub | apply k_yes | apply k_lc | apply k_for | apply k_rng1 | apply k_rng2 | apply k_iList | apply k_iTup | apply k_bm
  | apply k_slice | apply k_nopart | apply k_part | apply k_someI | apply k_enumT | apply k_enumL | apply k_gcons | apply k_gnil | apply k_n0 | apply k_n1 | apply k_n2 | apply k_n3 | apply k_n4 | apply k_n5 | apply k_n6 | apply k_n7 | apply k_n8 | apply k_n9 | apply k_n10 | apply k_n11 | apply k_n12 | apply k_n13 | apply k_n14 | apply k_n15 | apply k_n16 | apply k_n17 | apply k_n18 | apply k_n19 | apply k_n20)
local macro_rules | `(tactic| walk_at "st") => `(tactic| repeat walk_at "st1")
local macro_rules | `(tactic| walk_at "nw") => `(tactic| (refine ⟨Nat.le_of_ble_eq_true rfl, fun p np => ?_⟩; generalize hH : upd _ p _ = H'; have s := new_same hH np; have e := new_at hH; clear hH))
local macro_rules | `(tactic| walk_at "kb") => `(tactic| first | exact kb_tup | exact kb_ref | (refine kb_len ?_; (first | decide | (intro z; simp at z; done) | (simp; omega))))
local macro_rules | `(tactic| walk_at "hp") => `(tactic| first
  | assumption
  | exact Same.refl _
  | (apply tup_of; walk_at "hp") | (apply lst_of; walk_at "hp")
  | (refine st_at (by assumption) ?_; walk_at "hp")
  | (refine kq_at2 (by assumption) ?_ ?_; (focus walk_at "hp"); walk_at "kb")
  | (refine xn_at2 (by assumption) ?_ ?_; (focus walk_at "hp"); (intro z; simp; done))
  | exact dp_int | exact dp_non | exact dp_bl | exact dp_str
  | (refine dp_rt ?_; walk_at "hp")
  | (refine st_trans (by assumption) ?_; walk_at "hp")
  | (refine st_dice (by assumption) ?_; walk_at "hp") | (refine kq_dice (by assumption) ?_; walk_at "hp") | (refine xn_dice (by assumption) ?_; walk_at "hp")
  | exact lw_dice (by assumption) | exact lw_tabs (by assumption)
  | exact kq_refl | (refine st_kq (by assumption) ?_; walk_at "hp") | (refine kq_kq (by assumption) ?_; walk_at "hp")
  | (refine st_tabs (by assumption) ?_; walk_at "hp") | (refine kq_tabs (by assumption) ?_; walk_at "hp")
  | (refine st_lw (by assumption) ?_; walk_at "hp") | (refine kq_lw (by assumption) ?_; walk_at "hp") | (refine xn_lw (by assumption) ?_ ?_; (focus walk_at "hp"); walk_at "hp")
  | (refine st_dp (by assumption) ?_; walk_at "hp") | (refine xn_dp (by assumption) ?_; walk_at "hp")
  | (refine same_tup (by assumption) ?_; walk_at "hp") | (refine xn_tup (by assumption) ?_; walk_at "hp"))
local macro_rules | `(tactic| walk_at "w1") => `(tactic| first
  | walk_at "st1"
  | walk_at "nw"
  | ((with_reducible refine gd_cat ?_); refine k_cat' (by walk_at "hp") (by walk_at "hp") (by first | (simp; done) | (simp; omega)) (fun p H' s e => ?_))
  | ((with_reducible refine gd_roll ?_); refine k_roll (by walk_at "hp") (by omega) (by omega) (fun H' r c r1 r2 => ?_))
  | ((with_reducible refine gd_strI ?_); refine k_strI (by omega) ?_)
  | ((with_reducible refine gd_catA ?_); refine k_catT (by walk_at "hp") (by walk_at "hp") (by first | (simp; done) | (simp; omega)) (fun H' p s e => ?_))
  | ((with_reducible refine gd_tupOf ?_); refine k_tupOf (by walk_at "hp") (fun H' p s e => ?_))
  | ((with_reducible refine gd_slL ?_); refine k_slL (by walk_at "hp") (fun H' p s n e => ?_))
  | ((with_reducible refine gd_slA ?_); refine k_slA (by walk_at "hp") (fun H' p s e => ?_))
  | ((with_reducible refine gd_len ?_); first | (refine k_lenL (by walk_at "hp") ?_) | (refine k_lenT (by walk_at "hp") ?_))
  | ((with_reducible refine gd_gtup4 ?_); refine k_gtup4 (by walk_at "hp") ?_)
  | ((with_reducible refine gd_gtup ?_); refine k_gtup (by walk_at "hp") (by rfl) ?_)
  | ((with_reducible refine gd_ixT ?_); refine k_ixT (by walk_at "hp") (by rfl) ?_)
  | ((with_reducible refine gd_ixL ?_); refine k_ixL (by walk_at "hp") (by rfl) ?_))
local macro_rules | `(tactic| walk_at "w") => `(tactic| repeat walk_at "w1")
local macro_rules | `(tactic| walk_at "dec") => `(tactic| first | refine k_pos (by omega) ?_ | refine k_neg (by omega) ?_ | refine k_npos (by omega) ?_ | refine k_nneg (by omega) ?_)
local macro_rules | `(tactic| walk_at "v") => `(tactic| repeat first | walk_at "w1" | walk_at "dec")
variable {P : Program} {w : World} {K : PySem.W.Frag} {mg : Str → Option Value}
/-! ### walks by enumerate -/
section
variable {p : Addr} {xs : List V}
theorem walk_enumT : Walk (Iet K p) xs.length (fun H => SqT K H p xs) (YPair (fun i => some (.int (i : Nat))) (fun i => xs[i]?)) :=
  ⟨fun i H hi h => ⟨xs, xs[i], h, List.getElem?_eq_getElem hi⟩, fun H h => ⟨xs, h, Nat.le_refl _⟩, fun i H v H' _ h ⟨q, x, e, n, u, k⟩ => ⟨q, _, x, e, n, u, rfl, k xs h⟩⟩
theorem for_pair {J : It} {n : Nat} {G : Hp → Prop} {f g' : Nat → Option V} (wk : Walk J n G (YPair f g')) {g : TG} {tb : TS} {D : Ends} {σ : L2.St} {H : Hp} (Pv : Nat → L2.St → Hp → Prop) (h0 : Pv 0 σ H) (hG : ∀ i σ H, i ≤ n → Pv i σ H → G H)
    (hs : ∀ i x y σ H H' q, i < n → f i = some x → g' i = some y → Pv i σ H → Same H H' → H' q = some (.tup [x, y]) → g (.ref q) σ H' fun σ2 H2 => tb { D with nx := Pv (i + 1), ct := Pv (i + 1), bk := D.nx } σ2 H2) (hd : ∀ σ H, Pv n σ H → D.nx σ H) :
    ∃ W : Nat → Nat → L2.St → Hp → Prop, (∃ m, W 0 m σ H) ∧ ∀ i m σ H, W i m σ H →
      (J.stop i H ∧ D.nx σ H) ∨ (J.go i H ∧ ∃ N : L2.St → Hp → Prop, (∀ σ' H', N σ' H' → ∃ m', m' < m ∧ W (i + 1) m' σ' H') ∧ ∀ x H', J.yld i H x H' → g x σ H' fun σ2 H2 => tb { D with nx := N, ct := N, bk := D.nx } σ2 H2) :=
  for_it wk Pv h0 hG (fun i v σ H H' hi pv ⟨q, x, y, e, n, u, h1, h2⟩ => by
    subst e
    subst u
    exact hs i x y σ H _ q hi h1 h2 pv (same_new n) upd_same) hd
/-- a comprehension over pairs -/
theorem lcm_pair {J : It} {n : Nat} {G : Hp → Prop} {f g' : Nat → Option V} (wk : Walk J n G (YPair f g')) {g : TG} {te : TE} {vs : List Nat} {σ : L2.St} {H1 : Hp} {D : Addr} {Qd : Hp → Prop} {ys : List V} (hG : ∀ H, Same H1 H → G H) (hD : H1 D = none) (hl : ys.length = n) (hz : ys.length < 100000)
    (t : ∀ (i : Nat) (x y z : V), f i = some x → g' i = some y → ys[i]? = some z → ∀ (H' : Hp) (q : Addr) (R : VK), Same H1 H' → H' q = some (.tup [x, y]) → (∀ H'', Same H' H'' → R z H'') → g (.ref q) (wipe σ vs) H' fun σ2 H2 => wipe σ2 vs = wipe σ vs ∧ te σ2 H2 R)
    (q : ∀ Hf, Same H1 Hf → Hf D = some (.lst ys) → Qd Hf) :
    ∃ W : Nat → Nat → Hp → Prop, (∃ m, W 0 m (upd H1 D (.lst []))) ∧ ∀ i m H, W i m H →
      (J.stop i H ∧ Qd H) ∨ (J.go i H ∧ ∃ Nx : Hp → Prop, (∀ H', Nx H' → ∃ m', m' < m ∧ W (i + 1) m' H') ∧ ∀ x H', J.yld i H x H' → g x (wipe σ vs) H' fun σ2 H2 => wipe σ2 vs = wipe σ vs ∧ tYes σ2 H2 fun b H3 =>
        if b = true then te σ2 H3 fun y H4 => ∃ acc, H4 D = some (.lst acc) ∧ acc.length < sizeLine ∧ Nx (upd H4 D (.lst (acc ++ [y]))) else Nx H3) :=
  lc_it wk (fun i H => Same H1 H ∧ H D = some (.lst (ys.take i))) ⟨same_new hD, upd_same⟩ (fun i H _ p => hG H p.1)
    (fun i v H H' hi p ⟨r, x, y, e, n, u, h1, h2⟩ => by
      subst e
      subst u
      have hy : ys[i]? = some ys[i] := List.getElem?_eq_getElem (by omega)
      have s := same_new (o := .tup [x, y]) n
      refine t i x y _ h1 h2 hy _ r (fun y H4 => ∃ acc, H4 D = some (.lst acc) ∧ acc.length < sizeLine ∧ (Same H1 (upd H4 D (.lst (acc ++ [y]))) ∧ (upd H4 D (.lst (acc ++ [y]))) D = some (.lst (ys.take (i + 1))))) (p.1.trans s) upd_same fun H'' s2 => ?_
      refine ⟨_, s2 _ _ (s _ _ p.2), small_lt (by rw [List.length_take]; omega), same_grow (p.1.trans (s.trans s2)) hD, ?_⟩
      rw [upd_same, List.take_add_one, hy]
      rfl)
    fun H p => q H p.1 (by rw [p.2, ← hl, List.take_length])
end
/-! ### tuples of integers -/
abbrev iV (ns : List Int) : List V := ns.map V.int
def tD (ns : List Int) : PyData := .tuple (ns.map PyData.int)
theorem dp_tD {H : Hp} {p : Addr} {ns : List Int} (h : H p = some (.tup (iV ns))) : Dp K H (.ref p) (tD ns) := .tup (tup_of h) (dpa_ints ns)
theorem shaped_tD {ns : List Int} : SeqAt.shaped (tD ns) = true := shaped_tup
theorem eqv_tD (ns ms : List Int) : PyData.eqv (tD ns) (tD ms) = decide (ns = ms) := eqv_ints ns ms
theorem k_neT {H : Hp} {p q : Addr} {ns ms : List Int} {Q : VK} (h1 : H p = some (.tup (iV ns))) (h2 : H q = some (.tup (iV ms))) (k : Q (.bl (!decide (ns = ms))) H) : rNeD K (.ref p) (.ref q) H Q :=
  ⟨_, _, dp_tD h1, dp_tD h2, shaped_tD, shaped_tD, by rw [eqv_tD]; exact k⟩
theorem k_eqT {H : Hp} {p q : Addr} {ns ms : List Int} {Q : VK} (h1 : H p = some (.tup (iV ns))) (h2 : H q = some (.tup (iV ms))) (k : Q (.bl (decide (ns = ms))) H) : rEqD K (.ref p) (.ref q) H Q :=
  ⟨_, _, dp_tD h1, dp_tD h2, shaped_tD, shaped_tD, by rw [eqv_tD]; exact k⟩
abbrev rTupOf (K : PySem.W.Frag) : List V → Hp → VK → Prop := fun xs H Q => ∃ p ys, xs = [.ref p] ∧ ((SqL K H p ys ∧ ∀ l, H l = none → Q (.ref l) (upd H l (.tup ys))) ∨ (SqT K H p ys ∧ Q (.ref p) H))
theorem k_tupOf {H : Hp} {p : Addr} {ys : List V} {Q : VK} (h : H p = some (.lst ys)) (k : ∀ H' q, Same H H' → H' q = some (.tup ys) → Q (.ref q) H') : rTupOf K [.ref p] H Q := ⟨p, ys, rfl, .inl ⟨lst_of h, fun l hl => k _ _ (same_new hl) upd_same⟩⟩
theorem k_sumT {H : Hp} {p : Addr} {ns : List Int} {Q : VK} (h : H p = some (.tup (iV ns))) (k : Q (.int ns.sum) H) : rSumT K [.ref p] H Q := ⟨p, ns, rfl, tup_of h, k⟩
theorem k_slice {r : V → Option Int → Option Int → Hp → VK → Prop} {te : TE} {tl th : TO} {σ : L2.St} {H : Hp} {Q : VK} (h : te σ H fun x H1 => tl σ H1 fun a H2 => th σ H2 fun b H3 => r x a b H3 Q) : L2.tSl r te tl th σ H Q := h
theorem k_nopart {σ : L2.St} {H : Hp} {Q : Option Int → Hp → Prop} (h : Q none H) : tNoPart σ H Q := h
theorem k_part {t : TE} {σ : L2.St} {H : Hp} {Q : Option Int → Hp → Prop} (h : t σ H fun x H1 => ∃ i, x = .int i ∧ Q (some i) H1) : tPart t σ H Q := h
theorem k_someI {i : Int} {S : Int → Prop} (h : S i) : ∃ j, V.int i = V.int j ∧ S j := ⟨i, rfl, h⟩
theorem cut_whole {xs : List V} {lo hi : Option Int} (h : HT.sIx xs.length 0 lo = 0 ∧ HT.sIx xs.length xs.length hi = xs.length) : cutV xs lo hi = xs := by
  unfold cutV
  rw [h.1, h.2]
  simp
theorem k_slA {H : Hp} {p : Addr} {xs : List V} {lo hi : Option Int} {Q : VK} (h : H p = some (.tup xs)) (k : ∀ H' q, Same H H' → H' q = some (.tup (cutV xs lo hi)) → Q (.ref q) H') : rSlA K (.ref p) lo hi H Q :=
  ⟨p, xs, rfl, tup_of h, fun z => k _ _ (Same.refl _) (by rw [cut_whole z]; exact h), fun _ q hq => k _ _ (same_new hq) upd_same⟩
theorem cut_to {xs : List V} {k : Nat} : cutV xs none (some (k : Int)) = xs.take k := by
  unfold cutV
  rw [HT.sIx_none, HT.sIx_nat]
  simp
theorem k_minus {i : Int} {Q : VK} {H : Hp} (h : Q (.int (-i)) H) : rNegI (.int i) H Q := ⟨i, rfl, h⟩
theorem inV_ints (i : Int) (ns : List Int) : inV (.int i) (iV ns) = decide (i ∈ ns) := by
  unfold inV iV
  induction ns with
  | nil => simp
  | cons n r ih =>
    simp only [List.map_cons, List.any_cons, ih]
    have e : eqV (V.int n) (V.int i) = decide (i = n) := by
      show (n == i) = _
      by_cases h : n = i
      · rw [h, decide_eq_true rfl]; exact beq_self_eq_true i
      · rw [decide_eq_false fun e => h e.symm]; exact beq_false_of_ne h
    rw [e]
    by_cases h : i = n <;> by_cases h2 : i ∈ r <;> simp [h, h2]
theorem flat_ints (ns : List Int) : (iV ns).all flatV = true := by
  unfold iV
  simp [flatV]
theorem k_inT {H : Hp} {p : Addr} {i : Int} {ns : List Int} {Q : VK} (h : H p = some (.tup (iV ns))) (k : Q (.bl (decide (i ∈ ns))) H) : rIn K false (.int i) (.ref p) H Q :=
  ⟨p, iV ns, rfl, .inr (tup_of h), rfl, flat_ints ns, by rw [inV_ints]; exact k⟩
theorem k_inL {H : Hp} {p : Addr} {i : Int} {ns : List Int} {Q : VK} (h : SqL K H p (iV ns)) (k : Q (.bl (decide (i ∈ ns))) H) : rIn K false (.int i) (.ref p) H Q :=
  ⟨p, iV ns, rfl, .inl h, rfl, flat_ints ns, by rw [inV_ints]; exact k⟩
theorem gd_tupOf {vs : List V} {H : Hp} {Q : VK} (h : rTupOf K vs H Q) : rTupOf K vs H Q := h
theorem k_slL {H : Hp} {p : Addr} {xs : List V} {lo hi : Option Int} {Q : VK} (h : H p = some (.lst xs)) (k : ∀ H' q, Same H H' → H q = none → H' q = some (.lst (cutV xs lo hi)) → Q (.ref q) H') : rSlL K (.ref p) lo hi H Q :=
  ⟨p, xs, rfl, lst_of h, fun q hq => k _ _ (same_new hq) hq upd_same⟩
theorem gd_slL {v : V} {lo hi : Option Int} {H : Hp} {Q : VK} (h : rSlL K v lo hi H Q) : rSlL K v lo hi H Q := h
theorem cut_from {xs : List V} {k : Nat} (h : k ≤ xs.length) : cutV xs (some (k : Int)) none = xs.drop k := by
  unfold cutV
  rw [HT.sIx_none, HT.sIx_nat, Nat.min_eq_left h]
  exact List.take_of_length_le (by simp)
theorem gd_slA {v : V} {lo hi : Option Int} {H : Hp} {Q : VK} (h : rSlA K v lo hi H Q) : rSlA K v lo hi H Q := h
theorem k_enumT {ta : TA} {σ : L2.St} {H : Hp} {R : It → Hp → Prop} (h : ta σ H fun vs H1 => ∃ p xs, vs = [.ref p] ∧ SqT K H1 p xs ∧ R (Iet K p) H1) : iEnumT K ta σ H R := h
theorem k_enumL {ta : TA} {σ : L2.St} {H : Hp} {R : It → Hp → Prop} (h : ta σ H fun vs H1 => ∃ p xs, vs = [.ref p] ∧ SqL K H1 p xs ∧ R (Ite K p) H1) : iEnum K ta σ H R := h
/-! ### steps -/
def stp (x : Rt) (n : Int) (m : Nat) : List Int := (List.range m).map fun i : Nat => x.fl (n + (i : Int) + 1) - x.fl (n + (i : Int))
theorem stp_len (x : Rt) (n : Int) (m : Nat) : (stp x n m).length = m := by simp [stp]
theorem stp_get {x : Rt} {n : Int} {m i : Nat} (h : i < m) : (stp x n m)[i]? = some (x.fl (n + (i : Int) + 1) - x.fl (n + (i : Int))) := by simp [stp, h]
theorem stp_succ (x : Rt) (n : Int) (m : Nat) : stp x n (m + 1) = stp x n m ++ [x.fl (n + (m : Int) + 1) - x.fl (n + (m : Int))] := by simp [stp, List.range_succ]
theorem stp_sum (x : Rt) (n : Int) : ∀ m : Nat, (stp x n m).sum = x.fl (n + m) - x.fl n
  | 0 => by simp [stp]
  | m + 1 => by
    rw [stp_succ, List.sum_append, stp_sum x n m]
    simp only [List.sum_cons, List.sum_nil]
    rw [show n + ((m + 1 : Nat) : Int) = n + m + 1 by omega]
    omega
theorem stp_take (x : Rt) (n : Int) (m k : Nat) : (stp x n m).take k = stp x n (min m k) := by
  unfold stp
  rw [← List.map_take, List.take_range, Nat.min_comm]
theorem stp_mem {x : Rt} (o : x.Ok) {n : Int} {m : Nat} (hn : 0 ≤ n) {i : Int} (h : i ∈ stp x n m) : i = x.fl 1 ∨ i = x.fl 1 + 1 := by
  unfold stp at h
  obtain ⟨j, _, rfl⟩ := List.mem_map.mp h
  have := fl_step o (n := n + (j : Int)) (by omega)
  omega
def sp_steps_from (K : PySem.W.Frag) (mg : Str → Option Value) : Sp := fun vs H Q _ => ∃ (p : Addr) (x : Rt) (n : Int) (m : Nat), vs = [.ref p, .int n, .int m] ∧ SqT K H p (rtV x) ∧ x.Ok ∧ x.Sm ∧ n.natAbs < 2 ^ 61 ∧ m ≤ 1000 ∧ ∀ H' q, Same H H' → H' q = some (.tup (iV (stp x n m))) → Q (.ref q) H'
theorem len_steps_from : ∀ vs H Q E, sp_steps_from K mg vs H Q E → vs.length = 3 := fun _ _ _ _ ⟨_, _, _, _, e, _⟩ => by subst e; rfl
def t_steps_from (P : PySem.Program) (w : PySem.World) (K : PySem.W.Frag) (mg : PySem.Str → Option PySem.Value) (E : XK) : TS :=
  (tRet (tCB (rTupOf K) (tCons (tLc (iRng2 (tCons (tVar 1) (tCons (tOp rAddI (tVar 1) (tVar 2)) tNil))) (gName 3) tYes (tOp rSubI (tCall (sp_entry_at K mg) [] E0 (tCons (tVar 0) (tCons (tOp rAddI (tVar 3) (tC (.int 1))) tNil))) (tCall (sp_entry_at K mg) [] E0 (tCons (tVar 0) (tCons (tVar 3) tNil)))) [3]) tNil)))

theorem pure_steps_from : ∀ (vs : List V) (H : Hp) (Q : VK) (E : XK), sp_steps_from K mg vs H Q E → t_steps_from P w K mg E { nx := fun _ H' => Q .non H', rt := Q } (start ["x", "n", "many", "place"] vs) H := by
  rintro vs H Q E ⟨p, x, n, m, rfl, hp, o, sm, hn, hm, q⟩
  show t_steps_from P w K mg E _ [some (.ref p), some (.int n), some (.int m), none] H
  unfold t_steps_from
  walk_at "w"
  refine ⟨_, _, rfl, ⟨by omega, by omega, by omega, by omega⟩, fun D hD => ?_⟩
  rw [show (n + (m : Int) - n).toNat = m by omega]
  refine lcm_range (ys := iV (stp x n m)) hD (by simp [stp_len]) (by simp [stp_len]; omega) (fun i y hi hy H' R s r => ?_) fun Hf sf hf => ?_
  · show gName 3 _ [_, _, _, _] H' _
    have hy2 : y = .int (x.fl (n + (i : Int) + 1) - x.fl (n + (i : Int))) := by
      rw [List.getElem?_map, stp_get hi] at hy
      exact (Option.some.inj hy).symm
    subst hy2
    walk_at "w"
    refine ⟨rfl, ?_⟩
    walk_at "w"
    refine ⟨p, x, _, rfl, same_tup s hp, o, sm, by omega, ?_⟩
    walk_at "w"
    refine ⟨p, x, _, rfl, same_tup s hp, o, sm, by omega, ?_⟩
    walk_at "w"
    exact r _ (Same.refl _)
  · walk_at "w"
    exact k_tupOf hf fun H2 q2 s2 e2 => q H2 q2 (sf.trans s2) e2
def sp_steps (K : PySem.W.Frag) (mg : Str → Option Value) : Sp := fun vs H Q E => ∃ (p : Addr) (x : Rt) (v u : V) (d e : PyData), vs = [.ref p, v, u] ∧ SqT K H p (rtV x) ∧ RW x ∧ Dp K H v d ∧ Dp K H u e ∧
  (whole d 0 1000000000000000000 = false ∨ whole e 0 100 = false → ∀ H', Same H H' → E (cE mg "InvalidCount") none H') ∧
  (∀ n m : Int, d = .int n → e = .int m → 0 ≤ n → n ≤ 1000000000000000000 → 0 ≤ m → m ≤ 100 → ∀ H' q, Same H H' → H' q = some (.tup (iV (stp x n m.toNat))) → Q (.ref q) H')
theorem len_steps : ∀ vs H Q E, sp_steps K mg vs H Q E → vs.length = 3 := fun _ _ _ _ ⟨_, _, _, _, _, _, e, _⟩ => by subst e; rfl
def t_steps (P : PySem.Program) (w : PySem.World) (K : PySem.W.Frag) (mg : PySem.Str → Option PySem.Value) (E : XK) : TS :=
  (tSeq (tDrop (tCall (sp_need_row K mg) [] E (tCons (tVar 0) tNil)))
  (tSeq (tDrop (tCall (sp_need_count K mg) [] E (tCons (tVar 1) (tCons (tC (.int 0)) (tCons (tOp rPowI (tC (.int 10)) (tC (.int 18))) tNil)))))
  (tSeq (tDrop (tCall (sp_need_count K mg) [] E (tCons (tVar 2) (tCons (tC (.int 0)) (tCons (tC (.int 100)) tNil)))))
  (tRet (tCall (sp_steps_from K mg) [] E (tCons (tVar 0) (tCons (tVar 1) (tCons (tVar 2) tNil))))))))

theorem k_needrow {H : Hp} {p : Addr} {x : Rt} {Q : VK} {E : XK} (h : SqT K H p (rtV x)) (r : RW x) (k : ∀ H', Same H H' → Q .non H') : sp_need_row K mg [.ref p] H Q E :=
  ⟨_, rtD x, rfl, dp_rt h, fun _ => k, fun z => (by rw [rowD_rt, decide_eq_true r] at z; cases z)⟩
theorem pure_steps : ∀ (vs : List V) (H : Hp) (Q : VK) (E : XK), sp_steps K mg vs H Q E → t_steps P w K mg E { nx := fun _ H' => Q .non H', rt := Q } (start ["x", "n", "many"] vs) H := by
  rintro vs H Q E ⟨p, x, v, u, d, e, rfl, hp, r, hv, hu, q1, q2⟩
  show t_steps P w K mg E _ [some (.ref p), some v, some u] H
  unfold t_steps
  walk_at "w"
  refine k_needrow hp r fun H1 s1 => ?_
  walk_at "w"
  refine ⟨v, d, _, _, rfl, same_dp s1 hv, fun w1 => ?_, fun w1 => q1 (.inl w1) _ s1⟩
  walk_at "w"
  refine ⟨u, e, _, _, rfl, same_dp s1 hu, fun w2 => ?_, fun w2 => q1 (.inr w2) _ s1⟩
  obtain ⟨n, rfl, n1, n2⟩ := whole_is w1
  obtain ⟨m, rfl, m1, m2⟩ := whole_is w2
  cases hv
  cases hu
  walk_at "w"
  refine ⟨p, x, n, m.toNat, by rw [show ((m.toNat : Nat) : Int) = m by omega]; rfl, same_tup s1 hp, r.rn.ok, r.rn.sm, by omega, by omega, fun H2 q s2 e2 => q2 n m rfl rfl n1 n2 m1 m2 H2 q (s1.trans s2) e2⟩
theorem k_steps {H : Hp} {p : Addr} {x : Rt} {n m : Int} {Q : VK} {E : XK} (h : H p = some (.tup (rtV x))) (r : RW x) (n1 : 0 ≤ n) (n2 : n ≤ 1000000000000000000) (m1 : 0 ≤ m) (m2 : m ≤ 100) (k : ∀ H' q, Same H H' → H' q = some (.tup (iV (stp x n m.toNat))) → Q (.ref q) H') : sp_steps K mg [.ref p, .int n, .int m] H Q E :=
  ⟨p, x, _, _, .int n, .int m, rfl, tup_of h, r, .int n, .int m, fun z => z.elim (fun z => by rw [whole_int n1 n2] at z; cases z) fun z => (by rw [whole_int m1 m2] at z; cases z), fun n' m' e1 e2 _ _ _ _ => by cases e1; cases e2; exact k⟩
theorem k_stepsBad {H : Hp} {p : Addr} {x : Rt} {v u : V} {d e : PyData} {Q : VK} {E : XK} (h : H p = some (.tup (rtV x))) (r : RW x) (hv : Dp K H v d) (hu : Dp K H u e) (b : whole d 0 1000000000000000000 = false ∨ whole e 0 100 = false) (k : ∀ H', Same H H' → E (cE mg "InvalidCount") none H') : sp_steps K mg [.ref p, v, u] H Q E :=
  ⟨p, x, v, u, d, e, rfl, tup_of h, r, hv, hu, fun _ => k, fun n m e1 e2 n1 n2 m1 m2 => by
    subst e1
    subst e2
    rcases b with z | z
    · rw [whole_int n1 n2] at z; cases z
    · rw [whole_int m1 m2] at z; cases z⟩
end Fl
/-! FlTx: rules for texts: t[1:].replace(..), text * int. -/
namespace Fl
open PySem L2 PySem.Spec PyProof.Rows
/-- an expression behind which a token is out -/
def PEk (X : Cx) (e : PySem.Expr) (t : TE) : Prop :=
  ∀ (pins : List (Addr × Obj)) (s : Shared) (σ : L2.St) (H : Hp) (Q : VK), Inv X pins σ H s → t σ H Q → wpAny (model X.prog X.w) X.A (eval e X.env) (fun v s1 => 1 ≤ s1.toks ∧ EP X pins σ Q v s1) X.xe s
section
variable {X : Cx} {e o : PySem.Expr} {te to : TE} {y z : Str} {i : Int} {j k : Nat} {p p2 pos apos c0 c1 : Pos}
theorem pe_ofk (h : PEk X e te) : PE X e te := ⟨fun pins s σ H Q I q => wpAny_mono (h pins s σ H Q I q) (fun _ _ z => z.2) fun _ _ z => z⟩
/-- e[i:] -/
theorem pek_from {r : V → Option Int → Option Int → Hp → VK → Prop} (hr : L2.SlR X r) (he : PE X e te) : PEk X (.Subscript e (.Slice (some (.Constant (.int i) j p)) none none p2) pos) (tSl r te (tPart (tC (.int i))) tNoPart) := by
  intro pins s σ H Q I h
  refine Subscript_ (thn (he.run pins s σ H _ I h) fun v s1 ⟨x, H1, I1, r1, q1⟩ => ?_)
  refine wpAny_Slice ?_
  rw [evalPart_some]
  refine wpAny_Constant_int ?_
  rw [evalPart_none]
  refine wpAny_pure (wpAny_pure ?_)
  obtain ⟨i', ei, q2⟩ := q1
  cases ei
  have I4 : Inv X pins σ H1 { s1 with heap := s1.heap.push { cls := .type "slice", data := .fields #[.int i s1.toks, .none, .none] }, toks := s1.toks + 1 } := I1.kept (t' := s1.toks + 1) fun b ob q => Heap.get?_push_of_some _ q
  obtain ⟨T, id, hT, ht, hg⟩ := hr pins _ σ H1 x v (.int i s1.toks) .none (some i) none s1.heap.objs.size Q I4 r1 (Heap.IsSliceOf.new ..) (.int i _) .none q2
  refine wpAny_mono (wpAny_toks_of (n := 1) (by show 1 ≤ s1.toks + 1; omega) (tail_any (ops := [.ref s1.heap.objs.size, v]) ht hT hg (by with_unfolding_all rfl))) (fun _ _ z => z) fun _ _ z => z.2
/-- e.replace(y, z) -/
theorem pek_repl (ho : PEk X o to) (hyz : (y == z) = false := by decide)
    (hst : starEach [.Constant (.str y) j c0, .Constant (.str z) k c1] X.env = [(false, eval (.Constant (.str y) j c0) X.env), (false, eval (.Constant (.str z) k c1) X.env)] := by rfl)
    (hbase : attributeBase o "replace" X.env (eval o X.env) = eval o X.env := by rfl) (hline : (apos.endLine == pos.line) = true := by rfl) :
    PEk X (.Call (.Attribute o "replace" apos) [.Constant (.str y) j c0, .Constant (.str z) k c1] [] pos) (CwR.tReplC to y z) := by
  intro pins s σ H Q I h
  refine PySem.Call_method2 hbase hst hline (wpAny_mono (ho pins s σ H _ I h) (fun v s1 q => ?_) fun _ _ z => z)
  obtain ⟨hk, v', H1, I1, r1, x, rfl, hb, q⟩ := q
  obtain ⟨tx, rfl⟩ := r1
  refine ⟨"str", _, PySem.F.plainAttrs_str, PySem.F.slot_str_replace, PySem.F.type_str_replace, typeIs_str _ _ _, (fun _ e => nomatch e), ?_⟩
  refine wpAny_mono (wpAny_toks_of (n := 1) hk (Q := EP X pins σ Q) (E := X.xe) (Calls.callWith_builtin rfl (Calls.evalArgs_plain (Calls.spliced_cons (Calls.Constant_str (Calls.spliced_cons (Calls.Constant_str (Calls.spliced_nil ?_)))))))) (fun _ _ z => z) fun _ _ z => z.2
  exact PySem.SC.replace (by show s1.toks ≠ 0; omega) (by show s1.toks + 1 ≠ 0; omega) (by show s1.toks ≠ s1.toks + 1; omega) hyz hb fun t' k => ⟨.str (Txt.replace x y z), H1, I1.tok k, ⟨t', rfl⟩, q⟩
theorem fold_rep (c : Nat) : ∀ (m : Nat) (acc : List Nat), (List.replicate m #[c]).foldl (fun x y => x ++ y) acc.toArray = (acc ++ List.replicate m c).toArray
  | 0, acc => by simp
  | m + 1, acc => by
    rw [List.replicate_succ, List.foldl_cons]
    have e : acc.toArray ++ #[c] = (acc ++ [c]).toArray := by simp
    rw [e, fold_rep c m, List.replicate_succ]
    simp
/-- text * int -/
def rRepS : R2 := fun x y H Q => ∃ (c : Nat) (n : Int), x = .str ⟨#[c]⟩ ∧ y = .int n ∧ 2 ≤ n ∧ n ≤ 100000 ∧ Q (.str ⟨(List.replicate n.toNat c).toArray⟩) H
theorem op_repS : OpR X (binaryOp .Mult) rRepS := by
  intro pins s σ H x y v u Q I rx ry h
  obtain ⟨c, n, rfl, rfl, h1, h2, q⟩ := h
  obtain ⟨t, rfl⟩ := rx
  obtain ⟨t2, rfl⟩ := ry
  have ha : (⟨#[c]⟩ : Str).length = 1 := rfl
  have e1 : (n == 1 || (⟨#[c]⟩ : Str).length == 0) = false := by
    rw [ha]
    simp
    omega
  have e2 : (List.replicate n.toNat #[c]).foldl (fun x y => x ++ y) #[] = (List.replicate n.toNat c).toArray := by
    have := fold_rep c n.toNat []
    simpa using this
  refine PySem.P.mul_str ?_ ?_ ?_ ?_
  · rw [decide_eq_false (by omega), decide_eq_false (by omega)]
    rfl
  · intro _ _
    rw [ha]
    have : (1 : Int) ≤ (2 ^ 63 - 1) / n := (Int.le_ediv_iff_mul_le (by omega)).mpr (by omega)
    omega
  · intro _ _
    show decide ((⟨#[c]⟩ : Str).length * n.toNat > sizeLine) = false
    rw [ha, sizeLine_eq]
    exact decide_eq_false (by omega)
  · rw [if_neg (by omega), e1, if_neg (by simp)]
    refine ⟨?_, .str _, H, I.tok _, ⟨_, rfl⟩, ?_⟩
    · show (((List.replicate n.toNat #[c]).foldl (fun x y => x ++ y) #[]).size) ≤ sizeLine
      rw [e2, sizeLine_eq]
      simp
      omega
    · rw [e2]
      exact q
end
end Fl
/-! FlTl: root numbers as texts, sign by sign. -/
namespace Fl
open PySem L2 PySem.Spec PyProof.Rows
/-- the signs of an integer -/
def numI (n : Int) : List Nat := if n < 0 then 45 :: TL.numL n.natAbs else TL.numL n.natAbs
theorem tl_int (i : Int) : TL.tl (Str.ofString (toString i)) = numI i := by
  cases i with
  | ofNat n =>
    have e : numI (Int.ofNat n) = TL.numL n := by
      unfold numI
      rw [if_neg (by simp)]
      rfl
    rw [e]
    exact TL.tl_num n
  | negSucc m =>
    have e : numI (Int.negSucc m) = 45 :: TL.numL (m + 1) := by
      unfold numI
      rw [if_pos (Int.negSucc_lt_zero m)]
      rfl
    have h := TL.tl_num (m + 1)
    rw [TL.tl_ofString] at h
    rw [e, TL.tl_ofString]
    have e2 : toString (Int.negSucc m) = "-" ++ toString (((m + 1 : Nat)) : Int) := rfl
    rw [e2, String.toList_append, List.map_append, h]
    rfl
theorem numI_free {n : Int} {s : Nat} (h : s < 48 ∨ 57 < s) (h5 : s ≠ 45) : s ∉ numI n := fun hm => by
  unfold numI at hm
  split at hm
  · rcases List.mem_cons.mp hm with z | z
    · exact h5 z
    · exact TL.numL_free h z
  · exact TL.numL_free h hm
/-! ### replace -/
section
open StrLaws
variable {s : Nat} {S z p r : List Nat}
theorem replL_free (h : s ∉ p) : replL (s :: S) z p = p := by
  have e := repl_none (y := s :: S) (z := z) (L := p) (a := 0) (fun k _ e => by
    have : s ∈ (p.drop k).take (s :: S).length := by rw [e]; simp
    exact h (List.mem_of_mem_drop (List.mem_of_mem_take this)))
  simpa using e
theorem replL_part : ∀ {p : List Nat}, s ∉ p → replL (s :: S) z (p ++ (s :: S ++ r)) = p ++ (z ++ replL (s :: S) z r)
  | [], _ => by
    show replL (s :: S) z (s :: (S ++ r)) = _
    rw [replL_hit (by simp) (by simp)]
    simp
  | c :: p, h => by
    have hc : c ≠ s := fun e => h (by simp [e])
    show replL (s :: S) z (c :: (p ++ (s :: S ++ r))) = _
    rw [replL_miss (fun e => hc (by simpa using congrArg List.head? e)), replL_part (fun e => h (List.mem_cons_of_mem _ e))]
    rfl
end
/-! ### words that are numbers -/
def wBody (w : List Nat) : List Nat := if w.take 1 = [45] then w.drop 1 else w
def isNm (w : List Nat) : Bool := decide (1 ≤ (wBody w).length) && decide ((wBody w).length ≤ 2) && (wBody w).all fun c => decide (c ∈ [48, 49, 50, 51, 52, 53, 54, 55, 56, 57])
def numV (w : List Nat) : Int := if w.take 1 = [45] then -((NumText.digitsVal (wBody w) : Nat) : Int) else ((NumText.digitsVal (wBody w) : Nat) : Int)
def numOf (w : List Nat) : Option Int := if isNm w then some (numV w) else none
theorem take1 {w : List Nat} {c : Nat} (h : w.take 1 = [c]) : w = c :: w.drop 1 := by
  cases w with
  | nil => simp at h
  | cons a r => simp at h; simp [h]
theorem int_word {x : Str} (h : isNm (TL.tl x) = true) : intText? x = some (numV (TL.tl x)) := by
  unfold isNm at h
  simp only [Bool.and_eq_true, decide_eq_true_eq, List.all_eq_true] at h
  obtain ⟨⟨h1, h2⟩, h3⟩ := h
  have ad : NumText.AllDigits (wBody (TL.tl x)) := fun c hc => by
    have := h3 c hc
    simp at this
    omega
  have ne : wBody (TL.tl x) ≠ [] := fun e => by rw [e] at h1; simp at h1
  unfold numV
  by_cases hm : (TL.tl x).take 1 = [45]
  · rw [if_pos hm]
    have eb : wBody (TL.tl x) = (TL.tl x).drop 1 := by unfold wBody; rw [if_pos hm]
    rw [eb] at ad ne h2 ⊢
    have ex := take1 hm
    have hl : x.length ≤ 4300 := by
      rw [TL.len_tl, ex, List.length_cons]
      omega
    exact PySem.intText_neg ex ad ne hl
  · rw [if_neg hm]
    have eb : wBody (TL.tl x) = TL.tl x := by unfold wBody; rw [if_neg hm]
    rw [eb] at ad ne h2 ⊢
    exact PySem.intText_digits ad ne (by rw [TL.len_tl]; omega)
theorem num_back : ∀ n, n < 100 → numOf (TL.numL n) = some (n : Int) ∧ numOf (45 :: TL.numL n) = some (-(n : Int)) := by decide +kernel
theorem numI_back {n : Int} (h1 : -99 ≤ n) (h2 : n ≤ 99) : numOf (numI n) = some n := by
  obtain ⟨a, b⟩ := num_back n.natAbs (by omega)
  unfold numI
  split
  · rw [b]
    congr 1
    omega
  · rw [a]
    congr 1
    omega
theorem numV_bd {w : List Nat} (h : isNm w = true) : -99 ≤ numV w ∧ numV w ≤ 99 := by
  unfold isNm at h
  simp only [Bool.and_eq_true, decide_eq_true_eq, List.all_eq_true] at h
  obtain ⟨⟨h1, h2⟩, h3⟩ := h
  have hv : NumText.digitsVal (wBody w) ≤ 99 := by
    generalize wBody w = l at h1 h2 h3
    have hd : ∀ c ∈ l, 48 ≤ c ∧ c ≤ 57 := fun c hc => by
      have := h3 c hc
      simp at this
      omega
    match l, h1, h2, hd with
    | [a], _, _, hd =>
      have := hd a (by simp)
      show 0 * 10 + (a - 48) ≤ 99
      omega
    | [a, b], _, _, hd =>
      have := hd a (by simp)
      have := hd b (by simp)
      show (0 * 10 + (a - 48)) * 10 + (b - 48) ≤ 99
      omega
  unfold numV
  split <;> omega
/-! ### root numbers -/
def sgL (b : Int) : List Nat := if 0 < b then [32, 43, 32] else [32, 45, 32]
def wrL (x : Rt) : List Nat := 40 :: (numI x.a ++ (sgL x.b ++ (numI (if x.b < 0 then -x.b else x.b) ++ ([42, 114, 40] ++ (numI x.d ++ ([41, 41, 47] ++ numI x.c))))))
def sgS (b : Int) : Str := if 0 < b then " + " else " - "
/-- the text of a root number -/
def wr (x : Rt) : Str := (((((("(" ++ Str.ofString (toString x.a)) ++ sgS x.b) ++ Str.ofString (toString (if x.b < 0 then -x.b else x.b))) ++ "*r(") ++ Str.ofString (toString x.d)) ++ "))/") ++ Str.ofString (toString x.c)
theorem tl_wr (x : Rt) : TL.tl (wr x) = wrL x := by
  unfold wr wrL
  have e : TL.tl (sgS x.b) = sgL x.b := by
    unfold sgS sgL
    split <;> rfl
  simp only [TL.tl_append, tl_int, e]
  simp only [List.append_assoc]
  rfl
def wdsL (l : List Nat) : List (List Nat) := TL.spl [32] 0 [] (StrLaws.replL [41, 41, 47] [32] (StrLaws.replL [42, 114, 40] [32] (l.drop 1)))
def chk (l : List Nat) (y : Rt) : Option Rt := if RN y ∧ wrL y = l then some y else none
def rtOf (l : List Nat) (w0 w1 w2 w3 w4 : List Nat) : Option Rt :=
  match numOf w0, numOf w2, numOf w3, numOf w4 with
  | some a, some b, some d, some c => chk l ⟨a, if w1 = [43] then b else -b, d, c⟩
  | _, _, _, _ => none
def prsL (l : List Nat) : Option Rt :=
  if l.take 1 = [40] then
    match wdsL l with
    | [w0, w1, w2, w3, w4] => if w1 = [43] ∨ w1 = [45] then rtOf l w0 w1 w2 w3 w4 else none
    | _ => none
  else none
theorem wds_wr (x : Rt) : wdsL (wrL x) = [numI x.a, if 0 < x.b then [43] else [45], numI (if x.b < 0 then -x.b else x.b), numI x.d, numI x.c] := by
  have sf : ∀ {s : Nat}, (s = 41 ∨ s = 42) → s ∉ sgL x.b := fun hs => by
    unfold sgL
    split <;> rcases hs with rfl | rfl <;> decide
  have e1 : StrLaws.replL [42, 114, 40] [32] ((wrL x).drop 1) = numI x.a ++ (sgL x.b ++ (numI (if x.b < 0 then -x.b else x.b) ++ ([32] ++ (numI x.d ++ ([41, 41, 47] ++ numI x.c))))) := by
    have e : (wrL x).drop 1 = (numI x.a ++ (sgL x.b ++ numI (if x.b < 0 then -x.b else x.b))) ++ (42 :: [114, 40] ++ (numI x.d ++ ([41, 41, 47] ++ numI x.c))) := by
      unfold wrL
      simp [List.append_assoc]
    rw [e, replL_part, replL_free]
    · simp only [List.append_assoc]
    · simp only [List.mem_append, not_or]
      exact ⟨numI_free (by decide) (by decide), by decide, numI_free (by decide) (by decide)⟩
    · simp only [List.mem_append, not_or]
      exact ⟨numI_free (by decide) (by decide), sf (.inr rfl), numI_free (by decide) (by decide)⟩
  have e2 : StrLaws.replL [41, 41, 47] [32] (numI x.a ++ (sgL x.b ++ (numI (if x.b < 0 then -x.b else x.b) ++ ([32] ++ (numI x.d ++ ([41, 41, 47] ++ numI x.c)))))) = numI x.a ++ (sgL x.b ++ (numI (if x.b < 0 then -x.b else x.b) ++ ([32] ++ (numI x.d ++ ([32] ++ numI x.c))))) := by
    have e : numI x.a ++ (sgL x.b ++ (numI (if x.b < 0 then -x.b else x.b) ++ ([32] ++ (numI x.d ++ ([41, 41, 47] ++ numI x.c))))) = (numI x.a ++ (sgL x.b ++ (numI (if x.b < 0 then -x.b else x.b) ++ ([32] ++ numI x.d)))) ++ (41 :: [41, 47] ++ numI x.c) := by
      simp [List.append_assoc]
    rw [e, replL_part, replL_free]
    · simp only [List.append_assoc]
    · exact numI_free (by decide) (by decide)
    · simp only [List.mem_append, not_or]
      exact ⟨numI_free (by decide) (by decide), sf (.inl rfl), numI_free (by decide) (by decide), by decide, numI_free (by decide) (by decide)⟩
  unfold wdsL
  rw [e1, e2]
  have f : ∀ n : Int, 32 ∉ numI n := fun n => numI_free (by decide) (by decide)
  have key : ∀ t : Nat, t ≠ 32 → TL.spl [32] 0 [] (numI x.a ++ ([32, t, 32] ++ (numI (if x.b < 0 then -x.b else x.b) ++ ([32] ++ (numI x.d ++ ([32] ++ numI x.c)))))) = [numI x.a, [t], numI (if x.b < 0 then -x.b else x.b), numI x.d, numI x.c] := fun t ht => by
    have e : numI x.a ++ ([32, t, 32] ++ (numI (if x.b < 0 then -x.b else x.b) ++ ([32] ++ (numI x.d ++ ([32] ++ numI x.c))))) = numI x.a ++ (32 :: [] ++ ([t] ++ (32 :: [] ++ (numI (if x.b < 0 then -x.b else x.b) ++ (32 :: [] ++ (numI x.d ++ (32 :: [] ++ numI x.c))))))) := rfl
    rw [e, TL.spl_part1 (f _), TL.spl_part1 (by simp; exact fun z => ht z.symm), TL.spl_part1 (f _), TL.spl_part1 (f _), TL.spl_last1 (f _)]
    rfl
  unfold sgL
  split
  · exact key 43 (by decide)
  · exact key 45 (by decide)
theorem prs_wr {x : Rt} (h : RN x) : prsL (wrL x) = some x := by
  have ht : (wrL x).take 1 = [40] := rfl
  unfold prsL
  rw [if_pos ht, wds_wr]
  show (if (if 0 < x.b then [43] else [45]) = [43] ∨ (if 0 < x.b then [43] else [45]) = [45] then _ else _) = some x
  have h1 := h.a1
  have h2 := h.a2
  have h3 := h.b1
  have h4 := h.b2
  have h5 := h.d1
  have h6 := h.d2
  have h7 := h.c1
  have h8 := h.c2
  rw [if_pos (by split <;> simp)]
  unfold rtOf
  rw [numI_back (n := x.a) (by omega) (by omega), numI_back (n := if x.b < 0 then -x.b else x.b) (by split <;> omega) (by split <;> omega), numI_back (n := x.d) (by omega) (by omega), numI_back (n := x.c) (by omega) (by omega)]
  have e : (⟨x.a, if (if 0 < x.b then [43] else [45]) = ([43] : List Nat) then (if x.b < 0 then -x.b else x.b) else -(if x.b < 0 then -x.b else x.b), x.d, x.c⟩ : Rt) = x := by
    have eb : (if (if 0 < x.b then [43] else [45]) = ([43] : List Nat) then (if x.b < 0 then -x.b else x.b) else -(if x.b < 0 then -x.b else x.b)) = x.b := by
      by_cases hb : 0 < x.b
      · simp [hb]
        omega
      · simp [hb]
        omega
    rw [eb]
  show chk (wrL x) ⟨x.a, if (if 0 < x.b then [43] else [45]) = ([43] : List Nat) then (if x.b < 0 then -x.b else x.b) else -(if x.b < 0 then -x.b else x.b), x.d, x.c⟩ = some x
  rw [e]
  unfold chk
  rw [if_pos ⟨h, rfl⟩]
theorem rtOf_some {l w0 w1 w2 w3 w4 : List Nat} {x : Rt} (h : rtOf l w0 w1 w2 w3 w4 = some x) : RN x ∧ wrL x = l := by
  unfold rtOf at h
  split at h
  · unfold chk at h
    generalize (⟨_, _, _, _⟩ : Rt) = y at h
    by_cases hh : RN y ∧ wrL y = l
    · rw [if_pos hh] at h
      cases h
      exact hh
    · rw [if_neg hh] at h
      cases h
  · cases h
theorem prs_some {l : List Nat} {x : Rt} (h : prsL l = some x) : RN x ∧ wrL x = l := by
  unfold prsL at h
  split at h
  · split at h
    · split at h
      · exact rtOf_some h
      · cases h
    · cases h
  · cases h
theorem wr_len {x : Rt} (h : RN x) : (wr x).length ≤ 40 := by
  have hl : ∀ n : Int, -99 ≤ n → n ≤ 99 → (numI n).length ≤ 3 := fun n h1 h2 => by
    have := TL.numL_len (n := n.natAbs) (k := 2) (by decide) (by omega)
    unfold numI
    split
    · rw [List.length_cons]; omega
    · omega
  have h1 := h.a1
  have h2 := h.a2
  have h3 := h.b1
  have h4 := h.b2
  have h5 := h.d1
  have h6 := h.d2
  have h7 := h.c1
  have h8 := h.c2
  rw [TL.len_tl, tl_wr]
  unfold wrL
  have a := hl x.a (by omega) (by omega)
  have b := hl (if x.b < 0 then -x.b else x.b) (by split <;> omega) (by split <;> omega)
  have c := hl x.d (by omega) (by omega)
  have d := hl x.c (by omega) (by omega)
  have e : (sgL x.b).length = 3 := by unfold sgL; split <;> rfl
  simp only [List.length_cons, List.length_append, e, List.length_nil]
  omega
/-! ### texts -/
def prs (s : Str) : Option Rt := prsL (TL.tl s)
theorem prs_ok {x : Rt} (h : RN x) : prs (wr x) = some x := by
  unfold prs
  rw [tl_wr]
  exact prs_wr h
theorem prs_is {s : Str} {x : Rt} (h : prs s = some x) : RN x ∧ wr x = s := by
  obtain ⟨a, b⟩ := prs_some h
  exact ⟨a, TL.ext_tl (by rw [tl_wr]; exact b)⟩
end Fl
/-! FlLx: [f(x) for x in ..] where f may raise. -/
namespace Fl
open PySem L2 PySem.Spec PyProof.Rows
section
variable {M : Model} {A : Around} {E : Value → Shared → Prop} {s : Shared} {env : Env}
/-- what comes of a comprehension's block: its list, or an exception that goes on -/
def cPost (M : Model) (A : Around) (E : Value → Shared → Prop) (Q : Value → Shared → Prop) (acc : Value) (cenv : Env) (r : Result) (s' : Shared) : Prop := match r with
  | .ok _ => ∃ m, s'.heap.Ns cenv.locals m ∧ ∀ h', Heap.SameBut cenv.locals s'.heap h' → Q acc { s' with heap := h' }
  | .error x => ∃ m, s'.heap.Ns cenv.locals m ∧ ∀ h', Heap.SameBut cenv.locals s'.heap h' → wpAny M A (passOn "comprehension.variables-let-go" x cenv : Sem Value) (fun _ _ => False) E { s' with heap := h' }
theorem comp_free {e : PySem.Expr} {scope : Scope} {pos : Pos} {newAcc first : Sem Value} {g : Comprehension} {gs : List Comprehension} {cl : List (Str × Addr)} {Q : Value → Shared → Prop}
    (hcl : clausesOf e = g :: gs) (hs : ∀ x, foldedSetIterable g.iter env x = pure x) (hclos : closureFor scope env = pure cl) (hkind : scope.kind = .function) (hnames : ∀ x ∈ scope.names, x.2 = .local → scope.names.lookup x.1 = some .local)
    (h : wpAny M A first (fun x s1 => wpAny M A (pyIter x) (fun it s2 => wpAny M A newAcc (fun acc s3 => wpAny M A (newFunctionEnv scope env.globals cl [] env.qual none .none (some env)) (fun cenv s4 =>
      codeAny M A (.compStart e 0 it acc { cenv with scope := relabel scope env }) (cPost M A E Q acc { cenv with scope := relabel scope env }) s4) E s3) E s2) E s1) E s) :
    wpAny M A (comprehension e scope env pos newAcc false first none) Q E s := by
  unfold comprehension
  rw [hclos, hcl]
  have up : ∀ {P : Value → Shared → Prop} (e : Value) (s : Shared), P e s → P e s := fun _ _ h => h
  refine wpAny_bind (wpAny_mono h (fun x s1 h1 => ?_) up)
  refine wpAny_bind (wpAny_standAt (wpAny_bind (wpAny_of_eq (hs x) (wpAny_bind (wpAny_holding (wpAny_mono h1 (fun it s2 h2 => ?_) up))))))
  refine wpAny_standIf (wpAny_bind (wpAny_mono h2 (fun acc s3 h3 => wpAny_bind (wpAny_pure (wpAny_bind (wpAny_mono h3 (fun cenv s4 h4 => ?_) up)))) up))
  dsimp only
  have hv : ∀ x ∈ (scope.names.filter fun x => (x.2 == .local || x.2 == .cell) && x.1 != (".0" : Str)).reverse, x.2 = .local → Env.kindOf { cenv with scope := relabel scope env } x.1 = some .local :=
    fun x hx hl => lookup_relabel_local (hnames x (List.mem_filter.mp (List.mem_reverse.mp hx)).1 hl)
  refine wpAny_holding (wpAny_bind (wpAny_attempt (wpAny_holding (wpAny_run (codeAny_mono h4 fun r s' hr => ?_)))))
  cases r with
  | ok f =>
    obtain ⟨m, hn, hr⟩ := hr
    exact wpAny_bind (wpAny_holding (wpAny_comp_letGo (cenv := { cenv with scope := relabel scope env }) hkind _ s' m hv hn fun h' _ _ hs' => wpAny_pure (hr h' hs')))
  | error x =>
    obtain ⟨m, hn, hr⟩ := hr
    exact wpAny_bind (wpAny_holding (wpAny_comp_letGo (cenv := { cenv with scope := relabel scope env }) hkind _ s' m hv hn fun h' _ _ hs' => wpAny_mono (hr h' hs') (fun _ _ f => f.elim) fun _ _ y => y))
end
/-- an exception is noted: held at the frame -/
theorem sky_note {M : Model} {A : Around} {E : Value → Shared → Prop} {s : Shared} {B : Heap} {env : Env} {outer : List Env} {L a : Addr} {Z : Obj → Prop} {Q : Unit → Shared → Prop} (hZ : PXN.Steady1 Z) (hfr : A.frames = some (env :: outer)) (hf : env.frame = some L)
    (x : Sky B (env :: outer) a Z L s.heap) (hQ : ∀ h', HandSPX.HeldZ B (env :: outer) a Z L h' → s.heap.UpToSlots h' → Q () { s with heap := h' }) : wpAny M A (noteFrame (.ref a) env) Q E s := by
  rcases x with ⟨hB, hn, hl, oe, vs, he, hz, hd, h1⟩ | fl | hh
  · exact PXN.look_newZ hZ hfr hl hf he hB hn hd h1 hz hQ
  · exact PXN.looks_onZ hZ hfr hf fl hQ
  · exact HandSPX.againZ hf hh.2.2.2 (hQ s.heap hh (Heap.UpToSlots.refl _))
theorem note_frame {e : Value} {c env : Env} (h : c.frame = env.frame) : noteFrame e c = noteFrame e env := by
  unfold noteFrame PySem.frameOf
  rw [h]
theorem frames_move {h h' base base' : Heap} : ∀ {l : List Env}, h.FunFrames base l → (∀ b ∈ l.filterMap (·.frame), h'.get? b = h.get? b) → (∀ b, base.get? b = none → base'.get? b = none) → h'.FunFrames base' l
  | [], hl, _, _ => hl
  | env :: rest, hl, hk, hb => by
    obtain ⟨h1, ⟨L, o, hL, n, g, nf⟩, h2⟩ := hl
    refine ⟨h1, ⟨L, o, hL, hb L n, (hk L ?_).trans g, nf⟩, frames_move h2 (fun b hm => hk b ?_) hb⟩
    · simp [hL]
    · simp only [List.filterMap_cons, hL, List.mem_cons]
      exact .inr hm
section
variable {X : Cx} {pins : List (Addr × Obj)} {σ : L2.St} {H3 H' : Hp} {s3 s' s'' : Shared} {W : L2.WX} {E : XK}
theorem raise_out {C : Addr} {ce : Env} {m : Str → Option Value} {e acc : Value} {Qf : Value → Shared → Prop} (hst : X.stack = X.env :: X.outer) (hfm : X.env.frame = some X.env.locals) (hpn : X.pn = []) (tk : L2N.Takes X W) (hW : ∀ cls d σ H, E cls d H → W cls d σ H) (hcf : ce.frame = X.env.frame) (hcl : ce.locals = C)
    (I3 : Inv X pins σ H3 s3) (hlt : s3.heap.objs.size ≤ C) (J : Inv X pins σ H' s') (hn : s'.heap.Ns C m) (nC : H' C = none) (c : L2N.CX X.prog X.w X.stack H' s' E e s'') :
    notedBy (model X.prog X.w) X.A ce (fun x s => cPost (model X.prog X.w) X.A X.xe Qf acc ce (.error x) s) e s'' := by
  obtain ⟨a, B, H2, cls, d, rfl, fl, hok, ub, na, os, ag, hE⟩ := c
  obtain ⟨oC, es, ep, hC, hCd, hCr⟩ := id hn
  have fC := I3.fpOk hlt nC
  have nfC : C ∉ frs X.stack := fun hm => by
    rcases List.mem_cons.mp (I3.stkSub C hm) with z | z
    · exact fC.2.1 z
    · exact fC.2.2.1 z
  have hB : B.get? C = some oC := ub.keep C oC hC nC nfC
  have h2C : H2 C = none := ub.free C oC hC nC
  have c' : L2N.CX X.prog X.w X.stack H' s' (fun cls d H => E cls d H ∧ H C = none) (.ref a) s'' := ⟨a, B, H2, cls, d, rfl, fl, hok, ub, na, os, ag, hE, h2C⟩
  obtain ⟨a', B', sI, pI, σI, HI, cls', d', ea, JI, nb, up, sky, na', os', ag', hEI, hIC⟩ := L2N.XE.of_call (W := fun cls d _ H => E cls d H ∧ H C = none) J (fun _ _ _ h => h) c'
  cases ea
  have hsC : s''.heap.get? C = some oC := fl.1 C oC hB
  have hfr : X.A.frames = some (X.env :: X.outer) := by rw [J.ok.frames, hst]
  rw [hst] at sky
  unfold notedBy
  rw [note_frame hcf]
  refine sky_note L2N.Zn.steady hfr hfm sky fun h3 hd3 up3 => ?_
  obtain ⟨sl, h3C⟩ := up3 C oC hsC (fun vs z => by rw [hCd] at z; cases z)
  refine ⟨m, ?_, fun h4 sb => ?_⟩
  · rw [hcl]
    exact ⟨_, es, ep, h3C, hCd, hCr⟩
  · rw [hcl] at sb
    obtain ⟨k1, k2, k3, oe, vs, T, oT, ts, he, hz, hd, h1, hnT, hTe, hT, hdT, hfl⟩ := hd3
    have neC : ∀ b o us, h3.get? b = some o → o.data = .fields us → b ≠ C := fun b o us e hu z => by
      rw [z, h3C] at e
      cases e
      have hu : oC.data = .fields us := hu
      rw [hCd] at hu
      cases hu
    have aC := neC a oe vs he hd
    have tC := neC T oT ts hT hdT
    obtain ⟨B2, b1, b2⟩ := restrict B' fun b => decide (b ≠ C)
    obtain ⟨G, g1, g2⟩ := restrict sI.heap fun b => decide (b ≠ C)
    have bOf : ∀ b o, B2.get? b = some o → b ≠ C ∧ B'.get? b = some o := fun b o e => by
      by_cases z : b = C
      · rw [b2 b (decide_eq_false fun q => q z)] at e
        cases e
      · exact ⟨z, by rw [← b1 b (decide_eq_true z)]; exact e⟩
    have gOf : ∀ b o, G.get? b = some o → b ≠ C ∧ sI.heap.get? b = some o := fun b o e => by
      by_cases z : b = C
      · rw [g2 b (decide_eq_false fun q => q z)] at e
        cases e
      · exact ⟨z, by rw [← g1 b (decide_eq_true z)]; exact e⟩
    have bNo : ∀ b, B'.get? b = none → B2.get? b = none := fun b e => by
      cases q : B2.get? b with
      | none => rfl
      | some o => rw [(bOf b o q).2] at e; cases e
    have st2 : B2.StaysIn h4 := fun b o e => (sb.2 b (bOf b o e).1).trans (k1 b o (bOf b o e).2)
    have fr2 : h4.FunFrames B2 (X.env :: X.outer) := frames_move k3 (fun b hm => sb.2 b fun z => nfC (by rw [hst, ← z]; exact hm)) bNo
    have tr2 : HandSPX.TracedZ h4 B2 a (L2N.Zn cls' d') (rawInt X.env.locals) := ⟨oe, vs, T, oT, ts, (sb.2 a aC).trans he, hz, hd, h1, bNo T hnT, hTe, (sb.2 T tC).trans hT, hdT, hfl⟩
    have fin : wpAny (model X.prog X.w) X.A (setFlight (.ref a) ce.frame) (fun _ s5 => wpAny (model X.prog X.w) X.A (throw (.ref a) : Sem Value) (fun _ _ => False) X.xe s5) X.xe { s'' with heap := h4 } := by
      rw [hcf, hfm]
      refine HandSPX.setFlight_anyZ st2 fr2 tr2 fun h5 st5 fr5 tr5 up5 => wpAny_throw (tk _ _ ?_)
      have J0 : Inv X [] σI HI sI := ⟨JI.ok, JI.os, JI.bare, JI.base, JI.loc, JI.cell, JI.free, JI.freeC, fun p hp => (by rw [hpn] at hp; cases hp), JI.hok, JI.len⟩
      have J1 : Inv X [] σI HI { sI with heap := G, toks := sI.toks } := J0.turned (it := C) (fun b o hb e => by rw [g1 b (decide_eq_true hb)]; exact e) hIC fC.2.1 fC.2.2.2.1 fC.2.2.2.2.1 (fun p hp => (by rw [hpn] at hp; cases hp))
      refine ⟨a, B2, { sI with heap := G, toks := sI.toks }, [], σI, HI, cls', d', rfl, J1, fun b o e hb => ?_, fun b o e hnf => ?_, .inr (.inr ⟨st5, bNo a k2, by rw [hst]; exact fr5, tr5⟩), na', os', ag', hW _ _ _ _ hEI⟩
      · obtain ⟨n1, n2⟩ := gOf b o e
        rw [b1 b (decide_eq_true n1)]
        exact nb b o n2 hb
      · obtain ⟨n1, n2⟩ := gOf b o e
        obtain ⟨t1, q1⟩ := up b o n2 hnf
        obtain ⟨t2, q2⟩ := up3 b _ q1 hnf
        exact up5 b { o with slots := t2 } ((sb.2 b n1).trans q2) hnf
    unfold PySem.passOn
    refine wpAny_bind (wpAny_field ((sb.2 a aC).trans he) hd h1 ?_)
    rw [if_neg (show ¬ ((Value.ref T == Value.none) = true) from by simp)]
    first
      | exact wpAny_bind (wpAny_pure (wpAny_bind fin))
      | exact wpAny_bind fin
end
/-- the block's context, with what it lets out -/
abbrev blkX (X : Cx) (s : Shared) (H : Hp) (scope : Scope) (cenv : Env) (fp : List Addr) (xe : Value → Shared → Prop) : Cx := { X.blk s H scope cenv fp with xe := xe }
section
variable {X : Cx}
theorem pe_lcX {elt tg iter : PySem.Expr} {scope : Scope} {own : List (Str × Nat)} {pos : Pos} {wi : TI} {g : TG} {te : TE} {W : L2.WX} {E : XK} (hc : X.calm = true) (hst : X.stack = X.env :: X.outer) (hfm : X.env.frame = some X.env.locals) (hpn : X.pn = []) (tk : L2N.Takes X W) (hW : ∀ cls d σ H, E cls d H → W cls d σ H) (hN : X.N.Nodup) (hi : PI X tg iter wi) (ok : BlkOk X.N X.env.scope scope own)
    (hg : ∀ (s : Shared) (H : Hp) (C : Addr) (cl : List (Str × Addr)) (fp : List Addr) (xe : Value → Shared → Prop), PG (blkX X s H scope (compEnvC scope cl C X.env) fp xe) tg g)
    (he : ∀ (s : Shared) (H : Hp) (C : Addr) (cl : List (Str × Addr)) (fp : List Addr) (xe : Value → Shared → Prop), Passes (L2N.CX X.prog X.w) (blkX X s H scope (compEnvC scope cl C X.env) fp xe) E → PE (blkX X s H scope (compEnvC scope cl C X.env) fp xe) elt te) (hs : ∀ x, foldedSetIterable iter X.env x = pure x := by intro _; rfl) :
    PE X (.ListComp elt [⟨tg, iter, [], 0⟩] scope pos) (tLc wi g tYes te (own.map (·.2))) := by
  refine ⟨fun pins s σ H Q I h => ?_⟩
  rw [eval_ListComp]
  have hfree : ∀ y ∈ scope.names, y.2 = .free → ∃ c, X.env.cells.lookup y.1 = some c := fun y hy e => (ok.free y hy e).elim (fun k => I.ok.has _ (.inl k)) fun k => I.ok.has _ (.inr k)
  refine comp_free rfl hs (closure_ok hfree) ok.kind (fun y hy e => by rw [ok.uniq y hy, e]) (thn (hi.run pins s σ H _ I h) fun xv s1 hx => thn hx fun itv s2 h2 => ?_)
  obtain ⟨it, fp, tn, J, H2, e, I2, T, st2, f2, q⟩ := h2
  subst e
  refine wpAny_newObj_type (newEnv_comp ?_) (by show 0 ≤ sizeLine; decide)
  generalize hD : s2.heap.objs.size = D
  have hDn : H2 D = none := I2.hok.fresh (Nat.le_of_eq hD)
  obtain ⟨W', ⟨m0, w0⟩, turn⟩ := q D hDn
  generalize hs3 : ({ s2 with heap := s2.heap.push { cls := .type "list", data := .seq ([] : List Value).toArray } } : Shared) = s3
  have h3 : s3.heap = s2.heap.push { cls := .type "list", data := .seq ([] : List Value).toArray } := by rw [← hs3]
  have I3 : Inv X pins σ (upd H2 D (.lst [])) s3 := by
    rw [← hs3]
    refine I2.laid (t' := s2.toks) (fun b o e => Heap.get?_push_of_some _ e) (Nat.le_of_eq hD) ⟨Nat.zero_le _, [], 0, .nil, ?_⟩
    rw [← hD]
    exact Heap.get?_push_size _ rfl
  have sz : ∀ b ∈ fp, b < s2.heap.objs.size := fun b hb => by
    obtain ⟨o, e, _⟩ := T.obj _ _ st2 b hb
    exact Heap.lt_size e
  have f3 : ∀ b ∈ fp, FpOk X pins (upd H2 D (.lst [])) b ∧ b < s3.heap.objs.size := fun b hb => by
    refine ⟨⟨?_, (f2 b hb).2⟩, by rw [h3, Heap.size_push]; exact Nat.lt_succ_of_lt (sz b hb)⟩
    rw [upd_ne (by rw [← hD]; exact Nat.ne_of_lt (sz b hb))]
    exact (f2 b hb).1
  have st3 : tn 0 s3.heap := T.keep _ _ _ st2 fun b _ o e => by rw [h3]; exact Heap.get?_push_of_some _ e
  have I4a := block_start I3 ok hN f3
  have pg := hg s3 (upd H2 D (.lst [])) s3.heap.objs.size (cellsFrom (s3.heap.objs.size + 1) scope.names (cloFrom X.env.cells scope.names [])) fp
  have pe := he s3 (upd H2 D (.lst [])) s3.heap.objs.size (cellsFrom (s3.heap.objs.size + 1) scope.names (cloFrom X.env.cells scope.names [])) fp
  show codeAny _ _ (.compStart (.ListComp elt [⟨tg, iter, [], 0⟩] scope pos) 0 (.ref it) (.ref D) (compEnvC scope (cellsFrom (s3.heap.objs.size + 1) scope.names (cloFrom X.env.cells scope.names [])) s3.heap.objs.size X.env)) (cPost (model X.prog X.w) X.A X.xe (EP X pins σ Q) (.ref D) (compEnvC scope (cellsFrom (s3.heap.objs.size + 1) scope.names (cloFrom X.env.cells scope.names [])) s3.heap.objs.size X.env)) { s3 with heap := pushCells (s3.heap.push { cls := .type "dict", data := .dict #[] }) scope.names }
  have nfp : ∀ b ∈ fp, (upd H2 D (.lst [])) b = none := fun b hb => (f3 b hb).1.1
  generalize hce : compEnvC scope (cellsFrom (s3.heap.objs.size + 1) scope.names (cloFrom X.env.cells scope.names [])) s3.heap.objs.size X.env = ce at I4a pg pe ⊢
  have cL : ce.locals = s3.heap.objs.size := by subst hce; rfl
  have cF : ce.frame = X.env.frame := by subst hce; rfl
  generalize hH3 : upd H2 D (.lst []) = H3 at I3 I4a pg pe w0 nfp f3
  generalize hs4 : ({ s3 with heap := pushCells (s3.heap.push { cls := .type "dict", data := .dict #[] }) scope.names } : Shared) = s4 at I4a ⊢
  have k34 : ∀ b o, s3.heap.get? b = some o → s4.heap.get? b = some o := fun b o e => by rw [← hs4]; exact pushCells_keeps _ _ _ _ (Heap.get?_push_of_some _ e)
  generalize hxe : (notedBy (model X.prog X.w) X.A ce fun e s' => cPost (model X.prog X.w) X.A X.xe (EP X pins σ Q) (.ref D) ce (.error e) s') = xe
  have pg := pg xe
  -- the block's context
  have I4 : Inv (blkX X s3 H3 scope ce fp xe) [] (wipe σ (own.map (·.2))) H3 s4 :=
    ⟨⟨I4a.ok.mod, I4a.ok.kind, I4a.ok.glob, I4a.ok.blt, I4a.ok.above, I4a.ok.inj, I4a.ok.has, I4a.ok.cab, I4a.ok.hd, I4a.ok.frames, I4a.ok.stk, I4a.ok.exf, I4a.ok.bs, I4a.ok.bsz, I4a.ok.noex, I4a.ok.exfs, I4a.ok.funs, I4a.ok.frf⟩, I4a.os, I4a.bare, I4a.base, I4a.loc, I4a.cell, I4a.free, I4a.freeC, I4a.pin, I4a.hok, I4a.len⟩
  have st4 : tn 0 s4.heap := T.keep _ _ _ st3 fun b _ o e => k34 b o e
  have stat : ∀ {σ' : L2.St} {H' : Hp} {s' : Shared}, Inv (blkX X s3 H3 scope ce fp xe) [] σ' H' s' → (∀ b ∈ fp, H' b = none) → ∀ b ∈ fp, FpOk (blkX X s3 H3 scope ce fp xe) [] H' b := fun {σ' H' s'} I' hn b hb =>
    ⟨hn b hb, (I'.ok.exf b hb).1, I'.ok.exfs b hb, .inl hb, fun x c e => (I'.ok.exf b hb).2 x c e, fun p hp => absurd (show p ∈ ([] : List (Addr × Obj)) ++ [] from hp) (by simp)⟩
  -- back in the def's context
  have back : ∀ {pins' : List (Addr × Obj)} {σ' : L2.St} {H' : Hp} {s' : Shared}, Inv (blkX X s3 H3 scope ce fp xe) pins' σ' H' s' → Inv X pins σ H' s' ∧ H' s3.heap.objs.size = none ∧ ∃ m, s'.heap.Ns ce.locals m := fun {pins' σ' H' s'} I6 => by
    refine ⟨I3.call' (ch := fp) I6.os I6.base I6.hok I6.bare fun b hb => ⟨(f3 b hb).1.2.2.2.1, (f3 b hb).1.2.1, (f3 b hb).1.2.2.2.2.1, (f3 b hb).1.2.2.2.2.2⟩, ?_, ?_⟩
    · have z : H' ce.locals = none := I6.free
      rwa [cL] at z
    · obtain ⟨m, hn, _⟩ := I6.loc
      exact ⟨m, hn⟩
  have px : Passes (L2N.CX X.prog X.w) (blkX X s3 H3 scope ce fp xe) E := by
    intro pins' σ' H' s' e s'' I' c
    obtain ⟨b1, b2, m, b3⟩ := back I'
    show xe e s''
    rw [← hxe]
    rw [cL] at b3
    exact raise_out hst hfm hpn tk hW cF cL I3 (Nat.le_refl _) b1 b3 b2 c
  have pe := pe xe px
  have loop : codeAny (model X.prog X.w) X.A (.compLoop (.ListComp elt [⟨tg, iter, [], 0⟩] scope pos) 0 (.ref it) (.ref D) ce) (cPost (model X.prog X.w) X.A X.xe (EP X pins σ Q) (.ref D) ce) s4 := by
    refine compLoop_any (fun n s' => ∃ i H', Inv (blkX X s3 H3 scope ce fp xe) [] (wipe σ (own.map (·.2))) H' s' ∧ tn i s'.heap ∧ (∀ b ∈ fp, H' b = none) ∧ W' i n H') ?_ m0 ⟨0, H3, I4, st4, nfp, w0⟩
    rintro n s5 ⟨i, H5, I5, st5, n5, w5⟩
    rw [hxe]
    rcases turn i n H5 w5 with ⟨stop, qq⟩ | ⟨go, Nx, hNx, step⟩
    · refine thnF (T.done (blkX X s3 H3 scope ce fp xe) rfl rfl rfl hc i [] s5 _ H5 (fun _ _ => False) I5 (stat I5 n5) st5 stop) fun r s6 ⟨hr, I6⟩ => ?_
      subst hr
      obtain ⟨I7, nC, m, hn⟩ := back I6
      obtain ⟨g0, g1, g2, g3, g4, g5⟩ := I3.fpOk (Nat.le_refl _) nC
      exact ⟨m, hn, fun h'' sb => ⟨.ref D, H5, I7.turned (t' := s6.toks) (fun b o hb e => (sb.2 b (by rw [cL]; exact hb)).trans e) g0 g1 g3 g4 g5, rfl, qq⟩⟩
    · refine thnF (T.item (blkX X s3 H3 scope ce fp xe) rfl rfl rfl hc i [] s5 _ H5 (fun _ _ => False) I5 (stat I5 n5) st5 go) fun r s6 ⟨u, hr, h6⟩ => ?_
      subst hr
      refine thnF h6 fun _ s7 ⟨x, H7, I7, r7, y7, st7, n7⟩ => ?_
      have I7' := I7.pinned (stat I7 n7) (T.obj _ _ st7)
      refine thn (pg.run _ s7 _ H7 x u _ I7' r7 (step x H7 y7)) fun _ s8 ⟨σ8, H8, I8, hw8, q8⟩ => ?_
      refine wpAny_tests_nil ?_
      have fin : ∀ {s' : Shared} {H' : Hp}, Inv (blkX X s3 H3 scope ce fp xe) ([] ++ pinsAt fp s7.heap) σ8 H' s' → Nx H' → ∃ m, m < n ∧ ∃ i H', Inv (blkX X s3 H3 scope ce fp xe) [] (wipe σ (own.map (·.2))) H' s' ∧ tn i s'.heap ∧ (∀ b ∈ fp, H' b = none) ∧ W' i m H' := fun {s' H'} I' nx => by
        obtain ⟨m', hm, w'⟩ := hNx H' nx
        have pin' : ∀ b ∈ fp, ∀ o, s7.heap.get? b = some o → s'.heap.get? b = some o ∧ H' b = none := fun b hb o e =>
          let z := I'.pin (b, o) (List.mem_append_right _ (List.mem_append_right _ (mem_pinsAt hb e)))
          ⟨z.1, z.2.1⟩
        have hl : (wipe σ (own.map (·.2))).length = σ8.length := by rw [← hw8, wipe_length]
        refine ⟨m', hm, i + 1, H', (I'.unpinned (pins := [])).weak hl (fun j v e => ?_), T.keep _ _ _ st7 fun b hb o e => (pin' b hb o e).1, fun b hb => ?_, w'⟩
        · rw [← hw8] at e
          exact (wipe_some e).1
        · obtain ⟨o, e, _⟩ := T.obj _ _ st7 b hb
          exact (pin' b hb o e).2
      have q9 : te σ8 H8 fun y H4 => ∃ acc, H4 D = some (.lst acc) ∧ acc.length < sizeLine ∧ Nx (upd H4 D (.lst (acc ++ [y]))) := by
        have z : (if true = true then te σ8 H8 fun y H4 => ∃ acc, H4 D = some (.lst acc) ∧ acc.length < sizeLine ∧ Nx (upd H4 D (.lst (acc ++ [y]))) else Nx H8) := q8
        rwa [if_pos rfl] at z
      simp only [if_true]
      refine thn (pe.run _ s8 σ8 H8 _ I8 q9) fun z s10 ⟨yv, H10, I10, r10, acc, hD10, hz10, nx⟩ => ?_
      exact app_ok (X := blkX X s3 H3 scope ce fp xe) I10 hD10 hz10 r10 fun s11 I11 => fin I11 nx
  exact codeAny_compStart_list loop (T.self X.A 0 _ _ _ st4 loop)
end
end Fl
/-! FlTw: root numbers as texts: written, number_of, parse_number. -/
namespace Fl
open PySem L2 PySem.Spec PyProof.Rows HotX L2H LamX
local macro_rules | `(tactic| walk_at "sc") => `(tactic| first
  | exact cm_l (by omega) (by omega) | exact cm_r (by omega) (by omega)
  | exact wide_div (b := 250) (by omega) (by omega) (by decide) (by decide)
  | omega | exact cpow (by omega) (by omega) (by omega))
local macro_rules | `(tactic| walk_at "st1") => `(tactic| with_reducible first
  | apply k_seq | apply k_next | apply k_asg | apply k_ret | apply k_drop | apply k_ifS | apply k_par | apply k_par2 | apply k_par3 | apply k_par33
  | (refine k_var rfl ?_) | apply k_c | apply k_op | apply k_un | apply k_I0 | apply k_p18 | apply k_p15 | apply k_p12 | apply k_p9 | apply k_p7 | apply k_p6 | apply k_p5
  | (refine k_I ?_ ?_; (focus walk_at "sc")) | apply k_U
  | apply k_eqI | apply k_neI | apply k_eqB | apply k_neB | apply k_isN | apply k_ntN
  | apply k_test | apply k_tB | apply k_bl | apply k_and | apply k_or | apply k_not | apply k_andV | apply k_orV | apply k_notV | apply k_if | apply k_chain
  | apply k_cb | apply k_call | apply k_nil | apply k_cons | apply k_tup | apply k_lst | apply k_abs | apply k_max2 | apply k_min2 | apply k_iteT | apply k_iteF | apply k_iteNT | apply k_iteNF | apply k_gsub | apply k_yes | apply k_lc | apply k_for | apply k_rng1 | apply k_rng2 | apply k_iList | apply k_iTup | apply k_bm
  | apply k_slice | apply k_nopart | apply k_part | apply k_someI | apply k_enumT | apply k_enumL | apply k_gcons | apply k_gnil | apply k_n0 | apply k_n1 | apply k_n2 | apply k_n3 | apply k_n4 | apply k_n5 | apply k_n6 | apply k_n7 | apply k_n8 | apply k_n9 | apply k_n10 | apply k_n11 | apply k_n12 | apply k_n13 | apply k_n14 | apply k_n15 | apply k_n16 | apply k_n17 | apply k_n18 | apply k_n19 | apply k_n20)
local macro_rules | `(tactic| walk_at "st") => `(tactic| repeat walk_at "st1")
local macro_rules | `(tactic| walk_at "nw") => `(tactic| (refine ⟨Nat.le_of_ble_eq_true rfl, fun p np => ?_⟩; generalize hH : upd _ p _ = H'; have s := new_same hH np; have e := new_at hH; clear hH))
local macro_rules | `(tactic| walk_at "kb") => `(tactic| first | exact kb_tup | exact kb_ref | (refine kb_len ?_; (first | decide | (intro z; simp at z; done) | (simp; omega))))
local macro_rules | `(tactic| walk_at "hp") => `(tactic| first
  | assumption
  | exact Same.refl _
  | (apply tup_of; walk_at "hp") | (apply lst_of; walk_at "hp")
  | (refine st_at (by assumption) ?_; walk_at "hp")
  | (refine kq_at2 (by assumption) ?_ ?_; (focus walk_at "hp"); walk_at "kb")
  | (refine xn_at2 (by assumption) ?_ ?_; (focus walk_at "hp"); (intro z; simp; done))
  | exact dp_int | exact dp_non | exact dp_bl | exact dp_str
  | (refine dp_rt ?_; walk_at "hp")
  | (refine st_trans (by assumption) ?_; walk_at "hp")
  | (refine st_dice (by assumption) ?_; walk_at "hp") | (refine kq_dice (by assumption) ?_; walk_at "hp") | (refine xn_dice (by assumption) ?_; walk_at "hp")
  | exact lw_dice (by assumption) | exact lw_tabs (by assumption)
  | exact kq_refl | (refine st_kq (by assumption) ?_; walk_at "hp") | (refine kq_kq (by assumption) ?_; walk_at "hp")
  | (refine st_tabs (by assumption) ?_; walk_at "hp") | (refine kq_tabs (by assumption) ?_; walk_at "hp")
  | (refine st_lw (by assumption) ?_; walk_at "hp") | (refine kq_lw (by assumption) ?_; walk_at "hp") | (refine xn_lw (by assumption) ?_ ?_; (focus walk_at "hp"); walk_at "hp")
  | (refine st_dp (by assumption) ?_; walk_at "hp") | (refine xn_dp (by assumption) ?_; walk_at "hp")
  | (refine same_tup (by assumption) ?_; walk_at "hp") | (refine xn_tup (by assumption) ?_; walk_at "hp"))
local macro_rules | `(tactic| walk_at "w1") => `(tactic| first
  | walk_at "st1"
  | walk_at "nw"
  | ((with_reducible refine gd_cat ?_); refine k_cat' (by walk_at "hp") (by walk_at "hp") (by first | (simp; done) | (simp; omega)) (fun p H' s e => ?_))
  | ((with_reducible refine gd_roll ?_); refine k_roll (by walk_at "hp") (by omega) (by omega) (fun H' r c r1 r2 => ?_))
  | ((with_reducible refine gd_strI ?_); refine k_strI (by omega) ?_)
  | ((with_reducible refine gd_catA ?_); refine k_catT (by walk_at "hp") (by walk_at "hp") (by first | (simp; done) | (simp; omega)) (fun H' p s e => ?_))
  | ((with_reducible refine gd_tupOf ?_); refine k_tupOf (by walk_at "hp") (fun H' p s e => ?_))
  | ((with_reducible refine gd_slL ?_); refine k_slL (by walk_at "hp") (fun H' p s n e => ?_))
  | ((with_reducible refine gd_slA ?_); refine k_slA (by walk_at "hp") (fun H' p s e => ?_))
  | ((with_reducible refine gd_len ?_); first | (refine k_lenL (by walk_at "hp") ?_) | (refine k_lenT (by walk_at "hp") ?_))
  | ((with_reducible refine gd_gtup4 ?_); refine k_gtup4 (by walk_at "hp") ?_)
  | ((with_reducible refine gd_gtup ?_); refine k_gtup (by walk_at "hp") (by rfl) ?_)
  | ((with_reducible refine gd_ixT ?_); refine k_ixT (by walk_at "hp") (by rfl) ?_)
  | ((with_reducible refine gd_ixL ?_); refine k_ixL (by walk_at "hp") (by rfl) ?_))
local macro_rules | `(tactic| walk_at "w") => `(tactic| repeat walk_at "w1")
local macro_rules | `(tactic| walk_at "dec") => `(tactic| first | refine k_pos (by omega) ?_ | refine k_neg (by omega) ?_ | refine k_npos (by omega) ?_ | refine k_nneg (by omega) ?_)
local macro_rules | `(tactic| walk_at "v") => `(tactic| repeat first | walk_at "w1" | walk_at "dec")
variable {P : Program} {w : World} {K : PySem.W.Frag} {mg : Str → Option Value}
/-! ### rules -/
abbrev rAddX : V → V → Hp → VK → Prop := fun x y H Q => ∃ i j, x = .str i ∧ y = .str j ∧ i.length + j.length ≤ sizeLine ∧ Q (.str (i ++ j)) H
abbrev rLenX : List V → Hp → VK → Prop := fun xs H Q => ∃ z, xs = [.str z] ∧ z.length ≤ sizeLine ∧ Q (.int z.length) H
abbrev rInSg : V → V → Hp → VK → Prop := fun x y H Q => ∃ (c : Nat) (z : Str), x = .str ⟨#[c]⟩ ∧ y = .str z ∧ Q (.bl (decide (c ∈ z.cps.toList))) H
abbrev rIntS : List V → Hp → VK → Prop := fun xs H Q => ∃ a n, xs = [.str a] ∧ PySem.intText? a = some n ∧ a.length ≤ 640 ∧ Q (.int n) H
abbrev rSplit : V → List V → Hp → VK → Prop := fun x xs H Q => ∃ a b, x = .str a ∧ xs = [.str b] ∧ (b.length == 0) = false ∧ a.length + 2 ≤ sizeLine ∧ rNewStrs (Txt.split a b) H Q
def rRepl (y z : Str) (v : V) (H1 : Hp) (Q : VK) : Prop := ∃ x, v = .str x ∧ x.length + (x.length + 1) * z.length ≤ 16777216 ∧ Q (.str (Txt.replace x y z)) H1
section
variable {H : Hp} {Q : VK} {σ : L2.St} {a b : Str}
theorem k_replC {to : TE} {y z : Str} (h : to σ H fun v H1 => rRepl y z v H1 Q) : CwR.tReplC to y z σ H Q := h
theorem k_neS1 (e : a = b) (k : Q (.bl false) H) : rNe (.str a) (.str b) H Q := ⟨rfl, by rw [decide_eq_true (congrArg V.str e)]; exact k⟩
theorem k_neS0 (h : a ≠ b) (k : Q (.bl true) H) : rNe (.str a) (.str b) H Q := ⟨rfl, by rw [decide_eq_false (fun z => h (V.str.inj z))]; exact k⟩
theorem k_eqS1 (e : a = b) (k : Q (.bl true) H) : rEq (.str a) (.str b) H Q := ⟨rfl, by rw [decide_eq_true (congrArg V.str e)]; exact k⟩
theorem k_eqS0 (h : a ≠ b) (k : Q (.bl false) H) : rEq (.str a) (.str b) H Q := ⟨rfl, by rw [decide_eq_false (fun z => h (V.str.inj z))]; exact k⟩
theorem k_eqS (k : Q (.bl (decide (a = b))) H) : rEq (.str a) (.str b) H Q := ⟨rfl, by
  have e : decide (V.str a = V.str b) = decide (a = b) := decide_eq_decide.mpr ⟨V.str.inj, congrArg V.str⟩
  rw [e]
  exact k⟩
theorem k_addX (h1 : a.length ≤ 100000) (h2 : b.length ≤ 100000) (k : Q (.str (a ++ b)) H) : rAddX (.str a) (.str b) H Q := ⟨a, b, rfl, rfl, by rw [sizeLine_eq]; omega, k⟩
theorem k_lenX (h1 : a.length ≤ 100000) (k : Q (.int a.length) H) : rLenX [.str a] H Q := ⟨a, rfl, by rw [sizeLine_eq]; omega, k⟩
theorem k_slS {lo hi : Option Int} (h1 : a.length ≤ 100000) (k : Q (.str (cutS a lo hi)) H) : rSlS (.str a) lo hi H Q := ⟨a, rfl, by rw [sizeLine_eq]; omega, k⟩
end
/-! ### parts of texts -/
theorem tl_cutL {z : Str} {n : Nat} : TL.tl (cutS z none (some (n : Int))) = (TL.tl z).take n := by
  show ((TL.tl z).drop (HT.sIx z.length 0 none)).take (HT.sIx z.length z.length (some (n : Int)) - HT.sIx z.length 0 none) = _
  rw [HT.sIx_none, HT.sIx_nat]
  rw [TL.len_tl]
  simp [List.take_eq_take_iff]
theorem tl_cutR {z : Str} {n : Nat} : TL.tl (cutS z (some (n : Int)) none) = (TL.tl z).drop n := by
  show ((TL.tl z).drop (HT.sIx z.length 0 (some (n : Int)))).take (HT.sIx z.length z.length none - HT.sIx z.length 0 (some (n : Int))) = _
  rw [HT.sIx_none, HT.sIx_nat]
  rw [TL.len_tl]
  rcases Nat.lt_or_ge n (TL.tl z).length with h | h
  · rw [Nat.min_eq_left (by omega)]
    apply List.take_of_length_le
    rw [List.length_drop]
    omega
  · rw [Nat.min_eq_right (by omega), List.drop_eq_nil_of_le h]
    simp
theorem replL_len {y z : List Nat} (hy : y ≠ []) (hz : z.length ≤ y.length) : ∀ (n : Nat) (l : List Nat), l.length ≤ n → (StrLaws.replL y z l).length ≤ l.length
  | _, [], _ => by rw [StrLaws.replL_nil]; exact Nat.le_refl _
  | 0, c :: r, h => by simp at h
  | n + 1, c :: r, h => by
    by_cases e : (c :: r).take y.length = y
    · have ly : 1 ≤ y.length := by
        cases y with
        | nil => exact absurd rfl hy
        | cons a b => simp
      have le : y.length ≤ (c :: r).length := by
        have := congrArg List.length e
        rw [List.length_take] at this
        omega
      rw [StrLaws.replL_hit hy e, List.length_append]
      have ih := replL_len hy hz n ((c :: r).drop y.length) (by rw [List.length_drop]; simp at h ⊢; omega)
      rw [List.length_drop] at ih
      omega
    · rw [StrLaws.replL_miss e, List.length_cons, List.length_cons]
      have ih := replL_len hy hz n r (by simp at h; omega)
      omega
theorem tl_repl {x y z : Str} (hy : 1 ≤ y.length) : TL.tl (Txt.replace x y z) = StrLaws.replL (TL.tl y) (TL.tl z) (TL.tl x) := StrLaws.replace_list hy
theorem len_repl {x y z : Str} (hy : 1 ≤ y.length) (hz : z.length ≤ y.length) : (Txt.replace x y z).length ≤ x.length := by
  rw [TL.len_tl, TL.len_tl x, tl_repl hy]
  exact replL_len (fun e => by rw [TL.len_tl, e] at hy; simp at hy) (by rw [← TL.len_tl, ← TL.len_tl]; exact hz) _ _ (Nat.le_refl _)
/-! ### comprehensions -/
section
variable {σ : L2.St} {H1 : Hp} {D : Addr} {Qd : Hp → Prop} {g : TG} {te : TE} {vs : List Nat}
theorem lcm_str {z : Str} {ys : List V} (hD : H1 D = none) (hl : ys.length = z.cps.size) (hz : ys.length < 100000) (t : ∀ (i c : Nat) (y : V), z.cps[i]? = some c → ys[i]? = some y → LcTurn H1 g te σ vs (.str ⟨#[c]⟩) y)
    (q : ∀ Hf, Same H1 Hf → Hf D = some (.lst ys) → Qd Hf) :
    ∃ W : Nat → Nat → Hp → Prop, (∃ m, W 0 m (upd H1 D (.lst []))) ∧ ∀ i m H, W i m H →
      ((Its z).stop i H ∧ Qd H) ∨ ((Its z).go i H ∧ ∃ Nx : Hp → Prop, (∀ H', Nx H' → ∃ m', m' < m ∧ W (i + 1) m' H') ∧ ∀ x H', (Its z).yld i H x H' → g x (wipe σ vs) H' fun σ2 H2 => wipe σ2 vs = wipe σ vs ∧ tYes σ2 H2 fun b H3 =>
        if b = true then te σ2 H3 fun y H4 => ∃ acc, H4 D = some (.lst acc) ∧ acc.length < sizeLine ∧ Nx (upd H4 D (.lst (acc ++ [y]))) else Nx H3) :=
  lc_it walk_str (fun i H => Same H1 H ∧ H D = some (.lst (ys.take i))) ⟨same_new hD, upd_same⟩ (fun _ _ _ _ => trivial)
    (fun i x H H' hi p y => by
      obtain ⟨rfl, c, hc, rfl⟩ := y
      have hy : ys[i]? = some ys[i] := List.getElem?_eq_getElem (by omega)
      exact lc_step hD hz hy (t i c _ hc hy) p.1 p.2)
    fun H p => q H p.1 (by rw [p.2, ← hl, List.take_length])
/-- where a turn may raise: Gd i holds once turn i has ended -/
theorem lcx_list {a : Addr} {xs ys : List V} (Gd : Nat → Prop) (hs : SqL K H1 a xs) (hD : H1 D = none) (hl : ys.length = xs.length) (hz : ys.length < 100000)
    (t : ∀ (n : Nat) (x y : V), xs[n]? = some x → ys[n]? = some y → ∀ (H' : Hp) (R : VK), Same H1 H' → (Gd n → ∀ H'', Same H' H'' → R y H'') → g x (wipe σ vs) H' fun σ2 H2 => wipe σ2 vs = wipe σ vs ∧ te σ2 H2 R)
    (q : (∀ j, j < xs.length → Gd j) → ∀ Hf, Same H1 Hf → Hf D = some (.lst ys) → Qd Hf) :
    ∃ W : Nat → Nat → Hp → Prop, (∃ m, W 0 m (upd H1 D (.lst []))) ∧ ∀ i m H, W i m H →
      ((Itl K a).stop i H ∧ Qd H) ∨ ((Itl K a).go i H ∧ ∃ Nx : Hp → Prop, (∀ H', Nx H' → ∃ m', m' < m ∧ W (i + 1) m' H') ∧ ∀ x H', (Itl K a).yld i H x H' → g x (wipe σ vs) H' fun σ2 H2 => wipe σ2 vs = wipe σ vs ∧ tYes σ2 H2 fun b H3 =>
        if b = true then te σ2 H3 fun y H4 => ∃ acc, H4 D = some (.lst acc) ∧ acc.length < sizeLine ∧ Nx (upd H4 D (.lst (acc ++ [y]))) else Nx H3) :=
  lc_list (xs := xs) (fun i H => (Same H1 H ∧ H D = some (.lst (ys.take i))) ∧ ∀ j, j < i → Gd j) ⟨⟨same_new hD, upd_same⟩, fun j h => (by omega)⟩ (fun i H _ p => p.1.1.seq hs)
    (fun i x H hx p => by
      have hi : i < xs.length := (List.getElem?_eq_some_iff.mp hx).1
      have hy : ys[i]? = some ys[i] := List.getElem?_eq_getElem (by omega)
      refine t i x _ hx hy H (fun y H4 => ∃ acc, H4 D = some (.lst acc) ∧ acc.length < sizeLine ∧ ((Same H1 (upd H4 D (.lst (acc ++ [y]))) ∧ (upd H4 D (.lst (acc ++ [y]))) D = some (.lst (ys.take (i + 1)))) ∧ ∀ j, j < i + 1 → Gd j)) p.1.1 fun hg H'' s2 => ?_
      refine ⟨_, s2 _ _ p.1.2, small_lt (by rw [List.length_take]; omega), ⟨same_grow (p.1.1.trans s2) hD, ?_⟩, fun j hj => ?_⟩
      · rw [upd_same, List.take_add_one, hy]
        rfl
      · rcases Nat.lt_or_ge j i with h | h
        · exact p.2 j h
        · obtain rfl : j = i := by omega
          exact hg)
    fun H p => q p.2 H p.1.1 (by rw [p.1.2, ← hl, List.take_length])
end
/-! ### written -/
theorem len_num {i : Int} (h1 : -999 ≤ i) (h2 : i ≤ 999) : (Str.ofString (toString i)).length ≤ 4 := by
  rw [TL.len_tl, tl_int]
  have := TL.numL_len (n := i.natAbs) (k := 3) (by decide) (by omega)
  unfold numI
  split
  · rw [List.length_cons]; omega
  · omega
theorem len_app {a b : Str} : (a ++ b).length = a.length + b.length := by
  rw [TL.len_tl, TL.tl_append, List.length_append, ← TL.len_tl, ← TL.len_tl]
def sp_written (K : PySem.W.Frag) (mg : Str → Option Value) : Sp := fun vs H Q _ => ∃ (p : Addr) (x : Rt), vs = [.ref p] ∧ SqT K H p (rtV x) ∧ RN x ∧ Q (.str (wr x)) H
theorem len_written : ∀ vs H Q E, sp_written K mg vs H Q E → vs.length = 1 := fun _ _ _ _ ⟨_, _, e, _⟩ => by subst e; rfl
/-- the text, part by part -/
theorem k_wr {H : Hp} {Q : VK} {σ : L2.St} {x : Rt} {t1 t3 t5 t7 : TE} {ts : TE} (r : RN x) (h1 : ∀ Q : VK, Q (.int x.a) H → t1 σ H Q) (h3 : ∀ Q : VK, Q (.int x.b) H → t3 σ H Q) (h5 : ∀ Q : VK, Q (.int x.d) H → t5 σ H Q) (h7 : ∀ Q : VK, Q (.int x.c) H → t7 σ H Q) (hs : ∀ Q : VK, Q (.str (sgS x.b)) H → ts σ H Q)
    (k : Q (.str (wr x)) H) : tOp rAddX (tOp rAddX (tOp rAddX (tOp rAddX (tOp rAddX (tOp rAddX (tOp rAddX (tC (.str "(")) (tCB rStrI (tCons t1 tNil))) ts) (tCB rStrI (tCons (tCB rAbs (tCons t3 tNil)) tNil))) (tC (.str "*r("))) (tCB rStrI (tCons t5 tNil))) (tC (.str "))/"))) (tCB rStrI (tCons t7 tNil)) σ H Q := by
  have a1 := r.a1
  have a2 := r.a2
  have b1 := r.b1
  have b2 := r.b2
  have d1 := r.d1
  have d2 := r.d2
  have c1 := r.c1
  have c2 := r.c2
  have l1 := len_num (i := x.a) (by omega) (by omega)
  have l3 := len_num (i := if x.b < 0 then -x.b else x.b) (by split <;> omega) (by split <;> omega)
  have l5 := len_num (i := x.d) (by omega) (by omega)
  have l7 := len_num (i := x.c) (by omega) (by omega)
  have ls : (sgS x.b).length = 3 := by unfold sgS; split <;> rfl
  have lp : ("(" : Str).length = 1 := rfl
  have lq : ("*r(" : Str).length = 3 := rfl
  have lr : ("))/" : Str).length = 3 := rfl
  walk_at "st"
  refine h1 _ ?_
  walk_at "st"
  refine k_strI (by omega) ?_
  refine k_addX (by omega) (by omega) ?_
  refine hs _ ?_
  refine k_addX (by simp only [len_app]; omega) (by omega) ?_
  walk_at "st"
  refine h3 _ ?_
  walk_at "st"
  refine k_strI (by split <;> omega) ?_
  refine k_addX (by simp only [len_app]; omega) (by omega) ?_
  walk_at "st"
  refine k_addX (by simp only [len_app]; omega) (by omega) ?_
  walk_at "st"
  refine h5 _ ?_
  walk_at "st"
  refine k_strI (by omega) ?_
  refine k_addX (by simp only [len_app]; omega) (by omega) ?_
  walk_at "st"
  refine k_addX (by simp only [len_app]; omega) (by omega) ?_
  walk_at "st"
  refine h7 _ ?_
  walk_at "st"
  refine k_strI (by omega) ?_
  exact k_addX (by simp only [len_app]; omega) (by omega) k
def t_written (P : PySem.Program) (w : PySem.World) (K : PySem.W.Frag) (mg : PySem.Str → Option PySem.Value) (E : XK) : TS :=
  (tSeq (tAsg (tVar 0) (gTup K 4 (gCons (gName 1) (gCons (gName 2) (gCons (gName 3) (gCons (gName 4) gNil))))))
  (tSeq (tAsg (tIf (tTest (tOp rGtI (tVar 2) (tC (.int 0)))) (tC (.str " + ")) (tC (.str " - "))) (gName 5))
  (tRet (tOp rAddX (tOp rAddX (tOp rAddX (tOp rAddX (tOp rAddX (tOp rAddX (tOp rAddX (tC (.str "(")) (tCB rStrI (tCons (tVar 1) tNil))) (tVar 5)) (tCB rStrI (tCons (tCB rAbs (tCons (tVar 2) tNil)) tNil))) (tC (.str "*r("))) (tCB rStrI (tCons (tVar 3) tNil))) (tC (.str "))/"))) (tCB rStrI (tCons (tVar 4) tNil))))))

theorem pure_written : ∀ (vs : List V) (H : Hp) (Q : VK) (E : XK), sp_written K mg vs H Q E → t_written P w K mg E { nx := fun _ H' => Q .non H', rt := Q } (start ["x", "a", "b", "d", "c", "sign"] vs) H := by
  rintro vs H Q E ⟨p, x, rfl, hp, r, q⟩
  show t_written P w K mg E _ [some (.ref p), none, none, none, none, none] H
  unfold t_written
  walk_at "st"
  refine k_gtup4 hp ?_
  walk_at "st"
  refine k_joinV (fun v H' => v = .str (sgS x.b) ∧ H' = H) ?_ ?_
  case refine_2 =>
    intro X hX
    refine k_ite (fun z => ?_) fun z => ?_
    · walk_at "st"
      exact hX _ _ ⟨by unfold sgS; rw [if_pos (show 0 < x.b by omega)], rfl⟩
    · walk_at "st"
      exact hX _ _ ⟨by unfold sgS; rw [if_neg (show ¬ 0 < x.b by omega)], rfl⟩
  rintro v H1 ⟨rfl, rfl⟩
  with_reducible apply k_n5
  with_reducible apply k_ret
  exact k_wr r (fun Q h => k_var rfl h) (fun Q h => k_var rfl h) (fun Q h => k_var rfl h) (fun Q h => k_var rfl h) (fun Q h => k_var rfl h) q
def sp_format_number (K : PySem.W.Frag) (mg : Str → Option Value) : Sp := fun vs H Q _ => ∃ (p : Addr) (x : Rt), vs = [.ref p] ∧ H p = some (.tup (rtV x)) ∧ RN x ∧ ∀ H', Same H H' → Q (.str (wr x)) H'
theorem len_format_number : ∀ vs H Q E, sp_format_number K mg vs H Q E → vs.length = 1 := fun _ _ _ _ ⟨_, _, e, _⟩ => by subst e; rfl
def t_format_number (P : PySem.Program) (w : PySem.World) (K : PySem.W.Frag) (mg : PySem.Str → Option PySem.Value) (E : XK) : TS :=
  (tSeq (tDrop (tCall (sp_need_number K mg) [] E (tCons (tVar 0) tNil)))
  (tRet (tCall (sp_written K mg) [] E (tCons (tVar 0) tNil))))

theorem pure_format_number : ∀ (vs : List V) (H : Hp) (Q : VK) (E : XK), sp_format_number K mg vs H Q E → t_format_number P w K mg E { nx := fun _ H' => Q .non H', rt := Q } (start ["x"] vs) H := by
  rintro vs H Q E ⟨p, x, rfl, hp, r, q⟩
  show t_format_number P w K mg E _ [some (.ref p)] H
  unfold t_format_number
  walk_at "st"
  refine ⟨_, rtD x, rfl, dp_rt (tup_of hp), fun _ H1 s1 => ?_, fun z => ?_⟩
  · walk_at "st"
    exact ⟨p, x, rfl, tup_of (s1 _ _ hp), r, q _ s1⟩
  · rw [rnD_rt, decide_eq_true r] at z
    cases z
theorem k_iStr {te : TE} {σ : L2.St} {H : Hp} {R : It → Hp → Prop} (h : te σ H fun v H1 => ∃ x, v = .str x ∧ R (Its x) H1) : iStr te σ H R := h
theorem k_joinE {t : TE} {σ : L2.St} {H : Hp} {Q : VK} (N : V → Hp → Prop) (hN : ∀ v H', N v H' → Q v H') (h : ∀ X : VK, (∀ v H', N v H' → X v H') → t σ H X) : t σ H Q := h _ hN
/-! ### number_of -/
def sp_number_of (K : PySem.W.Frag) (mg : Str → Option Value) : Sp := fun vs H Q E => ∃ s : Str, vs = [.str s] ∧ s.length ≤ 1000 ∧ (∀ n, numOf (TL.tl s) = some n → ∀ H', Same H H' → Q (.int n) H') ∧ (numOf (TL.tl s) = none → ∀ H', Same H H' → E (cE mg "InvalidText") none H')
theorem len_number_of : ∀ vs H Q E, sp_number_of K mg vs H Q E → vs.length = 1 := fun _ _ _ _ ⟨_, e, _⟩ => by subst e; rfl
def t_number_of (P : PySem.Program) (w : PySem.World) (K : PySem.W.Frag) (mg : PySem.Str → Option PySem.Value) (E : XK) : TS :=
  (tSeq (tAsg (tIf (tTest (tOp rEq (tSl rSlS (tVar 0) tNoPart (tPart (tC (.int 1)))) (tC (.str "-")))) (tSl rSlS (tVar 0) (tPart (tC (.int 1))) tNoPart) (tVar 0)) (gName 1))
  (tSeq (tIfS (tOr (tNot (tTest (tChain rLeI rLeI (tC (.int 1)) (tCB rLenX (tCons (tVar 1) tNil)) (tC (.int 2))))) (tNot (tB (tCB (rAll K) (tCons (tLc (iStr (tVar 1)) (gName 2) tYes (tOp rInSg (tVar 2) (tC (.str "0123456789"))) [2]) tNil)))))
  (tRaise E (cE mg "InvalidText"))
  tNext)
  (tRet (tCB rIntS (tCons (tVar 0) tNil)))))

def isDg (c : Nat) : Bool := decide (c ∈ [48, 49, 50, 51, 52, 53, 54, 55, 56, 57])
theorem pure_number_of : ∀ (vs : List V) (H : Hp) (Q : VK) (E : XK), sp_number_of K mg vs H Q E → t_number_of P w K mg E { nx := fun _ H' => Q .non H', rt := Q } (start ["word", "digits", "sign"] vs) H := by
  rintro vs H Q E ⟨s, rfl, hl, q1, q2⟩
  show t_number_of P w K mg E _ [some (.str s), none, none] H
  unfold t_number_of
  with_reducible apply k_seq
  with_reducible apply k_asg
  refine k_joinE (fun v H' => ∃ dg, v = .str dg ∧ TL.tl dg = wBody (TL.tl s) ∧ H' = H) ?_ ?_
  case refine_2 =>
    intro X hX
    walk_at "st"
    refine k_slS (by omega) ?_
    walk_at "st"
    have e1 : TL.tl (cutS s none (some 1)) = (TL.tl s).take 1 := tl_cutL (n := 1)
    have e2 : TL.tl (cutS s (some 1) none) = (TL.tl s).drop 1 := tl_cutR (n := 1)
    by_cases hm : (TL.tl s).take 1 = [45]
    · refine k_eqS1 (TL.ext_tl (by rw [e1, hm]; rfl)) ?_
      walk_at "st"
      refine k_slS (by omega) ?_
      exact hX _ _ ⟨_, rfl, by rw [e2]; unfold wBody; rw [if_pos hm], rfl⟩
    · refine k_eqS0 (fun z => hm (by rw [← e1, z]; rfl)) ?_
      walk_at "st"
      exact hX _ _ ⟨_, rfl, by unfold wBody; rw [if_neg hm], rfl⟩
  rintro v H1 ⟨dg, rfl, hd, rfl⟩
  have ll : dg.length ≤ 1000 := by
    rw [TL.len_tl, hd]
    rw [TL.len_tl] at hl
    unfold wBody
    split
    · rw [List.length_drop]; omega
    · exact hl
  have ld : dg.length = (wBody (TL.tl s)).length := by rw [TL.len_tl, hd]
  walk_at "st"
  refine k_lenX (by omega) ?_
  walk_at "st"
  have bad : isNm (TL.tl s) = false → numOf (TL.tl s) = none := fun h => by unfold numOf; rw [if_neg (by rw [h]; exact Bool.false_ne_true)]
  refine k_ite (fun z1 => ?_) fun z1 => ?_
  case refine_2 =>
    walk_at "st"
    refine q2 (bad ?_) _ (Same.refl _)
    unfold isNm
    rw [decide_eq_false (by omega)]
    rfl
  walk_at "st"
  by_cases z2 : (dg.length : Int) ≤ 2
  case neg =>
    rw [decide_eq_false z2]
    walk_at "st"
    refine q2 (bad ?_) _ (Same.refl _)
    unfold isNm
    rw [decide_eq_false (show ¬ (wBody (TL.tl s)).length ≤ 2 by omega), Bool.and_false]
    rfl
  rw [decide_eq_true z2]
  walk_at "st"
  have hsz : dg.cps.size = (TL.tl dg).length := by simp [TL.tl]
  refine k_iStr ?_
  walk_at "st"
  refine ⟨_, rfl, fun F hF => lcm_str (ys := ((TL.tl dg).map isDg).map V.bl) hF (by rw [List.length_map, List.length_map, hsz]) (by rw [List.length_map, List.length_map, ← TL.len_tl]; omega) (fun i c y hc hy H' R' s' r' => ?_) fun H3 s3 e3 => ?_⟩
  · have hy2 : y = .bl (isDg c) := by
      have hc2 : (TL.tl dg)[i]? = some c := by rw [Array.getElem?_toList]; exact hc
      rw [List.getElem?_map, List.getElem?_map, hc2] at hy
      cases hy
      rfl
    subst hy2
    walk_at "st"
    refine ⟨rfl, ?_⟩
    walk_at "st"
    refine ⟨c, _, rfl, rfl, ?_⟩
    exact r' _ (Same.refl _)
  walk_at "st"
  refine k_all (lst_of e3) ?_
  have ea : ((TL.tl dg).map isDg).all id = (wBody (TL.tl s)).all isDg := by rw [hd]; simp [List.all_map]
  rw [ea]
  cases hz : (wBody (TL.tl s)).all isDg with
  | false =>
    walk_at "st"
    refine q2 (bad ?_) _ s3
    unfold isNm
    show (_ && (wBody (TL.tl s)).all isDg) = false
    rw [hz, Bool.and_false]
  | true =>
    walk_at "st"
    have hn : isNm (TL.tl s) = true := by
      unfold isNm
      show (_ && (wBody (TL.tl s)).all isDg) = true
      rw [hz, decide_eq_true (show 1 ≤ (wBody (TL.tl s)).length by omega), decide_eq_true (show (wBody (TL.tl s)).length ≤ 2 by omega)]
      rfl
    have ls : s.length ≤ 640 := by
      have h : (TL.tl s).length ≤ (wBody (TL.tl s)).length + 1 := by
        unfold wBody
        split
        · rw [List.length_drop]; omega
        · omega
      rw [TL.len_tl]
      omega
    refine ⟨s, _, rfl, int_word hn, ls, q1 _ ?_ _ s3⟩
    unfold numOf
    rw [if_pos hn]
/-! ### parse_number -/
def isS : PyData → Bool
  | .str _ => true
  | _ => false
theorem kit_str (d : PyData) : kitB (tyD d) "str" = some (isS d) := by
  cases d <;> dsimp only [tyD, isS] <;> decide +kernel
def prsD : PyData → Option Rt
  | .str s => prs s
  | _ => none
def shortD : PyData → Prop
  | .str s => s.length ≤ 1000
  | _ => True
def sp_parse_number (K : PySem.W.Frag) (mg : Str → Option Value) : Sp := fun vs H Q E => ∃ (v : V) (d : PyData), vs = [v] ∧ Dp K H v d ∧ shortD d ∧ (∀ x, prsD d = some x → ∀ H' p, Same H H' → H' p = some (.tup (rtV x)) → Q (.ref p) H') ∧ (prsD d = none → ∀ H', Same H H' → E (cE mg "InvalidText") none H')
theorem len_parse_number : ∀ vs H Q E, sp_parse_number K mg vs H Q E → vs.length = 1 := fun _ _ _ _ ⟨_, _, e, _⟩ => by subst e; rfl
def t_parse_number (P : PySem.Program) (w : PySem.World) (K : PySem.W.Frag) (mg : PySem.Str → Option PySem.Value) (E : XK) : TS :=
  (tSeq (tIfS (tOr (tNot (tB (tCB (rIsi K) (tCons (tVar 0) (tCons (tC (.ty "str")) tNil))))) (tTest (tOp rNe (tSl rSlS (tVar 0) tNoPart (tPart (tC (.int 1)))) (tC (.str "(")))))
  (tRaise E (cE mg "InvalidText"))
  tNext)
  (tSeq (tAsg (tBM K "str" rSplit (CwR.tReplC (CwR.tReplC (tSl rSlS (tVar 0) (tPart (tC (.int 1))) tNoPart) "*r(" " ") "))/" " ") (tCons (tC (.str " ")) tNil)) (gName 1))
  (tSeq (tIfS (tOr (tTest (tOp rNe (tCB (rLenQ K) (tCons (tVar 1) tNil)) (tC (.int 5)))) (tTest (tOp (rIn K true) (tOp (rIxL K) (tVar 1) (tC (.int 1))) (tTup (tCons (tC (.str "+")) (tCons (tC (.str "-")) tNil))))))
  (tRaise E (cE mg "InvalidText"))
  tNext)
  (tSeq (tAsg (tLc (iList K (tOp rCat (tSl (rSlL K) (tVar 1) tNoPart (tPart (tC (.int 1)))) (tSl (rSlL K) (tVar 1) (tPart (tC (.int 2))) tNoPart))) (gName 7) tYes (tCall (sp_number_of K mg) [] E (tCons (tVar 7) tNil)) [7]) (gLst K 4 (gCons (gName 2) (gCons (gName 3) (gCons (gName 4) (gCons (gName 5) gNil))))))
  (tSeq (tAsg (tTup (tCons (tVar 2) (tCons (tIf (tTest (tOp rEq (tOp (rIxL K) (tVar 1) (tC (.int 1))) (tC (.str "+")))) (tVar 3) (tUn rNegI (tVar 3))) (tCons (tVar 4) (tCons (tVar 5) tNil))))) (gName 6))
  (tSeq (tIfS (tOr (tNot (tB (tCall (sp_is_root_number K mg) [] E (tCons (tVar 6) tNil)))) (tTest (tOp rNe (tCall (sp_written K mg) [] E (tCons (tVar 6) tNil)) (tVar 0))))
  (tRaise E (cE mg "InvalidText"))
  tNext)
  (tRet (tVar 6))))))))

theorem dp_isS {H : Hp} {v : V} {d : PyData} (h : Dp K H v d) (hs : isS d = true) : ∃ s, v = .str s ∧ d = .str s := by
  cases h <;> first | (exact ⟨_, rfl, rfl⟩) | (cases hs)
theorem spl_len (S : List Nat) : ∀ (l : List Nat) (k : Nat) (acc : List Nat), ∀ p ∈ TL.spl S k acc l, p.length ≤ acc.length + l.length
  | [], k, acc, p, h => by
    rw [TL.spl_nil] at h
    rw [List.mem_singleton.mp h]
    omega
  | c :: r, 0, acc, p, h => by
    cases z : TL.pre S (c :: r) with
    | true =>
      rw [TL.spl_hit z] at h
      rcases List.mem_cons.mp h with rfl | h
      · omega
      · have := spl_len S r _ _ p h
        simp at this ⊢
        omega
    | false =>
      rw [TL.spl_miss z] at h
      have := spl_len S r _ _ p h
      simp at this ⊢
      omega
  | c :: r, k + 1, acc, p, h => by
    have := spl_len S r k acc p h
    simp at this ⊢
    omega
theorem rtOf_none {l w0 w1 w2 w3 w4 u : List Nat} (hu : u ∈ [w0, w2, w3, w4]) (hn : numOf u = none) : rtOf l w0 w1 w2 w3 w4 = none := by
  unfold rtOf
  simp only [List.mem_cons, List.not_mem_nil, or_false] at hu
  rcases hu with rfl | rfl | rfl | rfl <;> split <;> first | rfl | (simp_all)
theorem in_pm1 {b : Str} (h : TL.tl b = [43] ∨ TL.tl b = [45]) : inV (.str b) [.str "+", .str "-"] = true := by
  have e : b = "+" ∨ b = "-" := h.imp (fun z => TL.ext_tl z) fun z => TL.ext_tl z
  rcases e with rfl | rfl <;> decide +kernel
theorem in_pm0 {b : Str} (h : ¬ (TL.tl b = [43] ∨ TL.tl b = [45])) : inV (.str b) [.str "+", .str "-"] = false := by
  have n1 : ¬ (("+" : Str) == b) = true := fun z => h (.inl (by rw [← eq_of_beq z]; rfl))
  have n2 : ¬ (("-" : Str) == b) = true := fun z => h (.inr (by rw [← eq_of_beq z]; rfl))
  show (("+" : Str) == b || (("-" : Str) == b || false)) = false
  rw [Bool.eq_false_iff.mpr n1, Bool.eq_false_iff.mpr n2]
  rfl
theorem k_notIn {H : Hp} {p : Addr} {x : V} {xs : List V} {b : Bool} {Q : VK} (hi : inV x xs = b) (h : H p = some (.tup xs)) (f1 : flatV x = true) (f2 : xs.all flatV = true) (k : Q (.bl !b) H) : rIn K true x (.ref p) H Q := ⟨p, xs, rfl, .inr (tup_of h), f1, f2, by rw [hi]; exact k⟩
theorem five {α : Type} {l : List α} (h : l.length = 5) : ∃ a b c d e, l = [a, b, c, d, e] := by
  match l, h with
  | [a, b, c, d, e], _ => exact ⟨a, b, c, d, e, rfl⟩
theorem pure_parse_number : ∀ (vs : List V) (H : Hp) (Q : VK) (E : XK), sp_parse_number K mg vs H Q E → t_parse_number P w K mg E { nx := fun _ H' => Q .non H', rt := Q } (start ["text", "words", "a", "b", "d", "c", "x", "word"] vs) H := by
  rintro vs H Q E ⟨v, d, rfl, hd, sh, q1, q2⟩
  show t_parse_number P w K mg E _ [some v, none, none, none, none, none, none, none] H
  unfold t_parse_number
  walk_at "st"
  refine k_isi hd (kit_str d) ?_
  cases hS : isS d with
  | false =>
    walk_at "st"
    refine q2 ?_ _ (Same.refl _)
    cases d <;> first | rfl | cases hS
  | true =>
  obtain ⟨s, rfl, rfl⟩ := dp_isS hd hS
  have hl : s.length ≤ 1000 := sh
  replace q1 : ∀ x, prs s = some x → ∀ H' p, Same H H' → H' p = some (.tup (rtV x)) → Q (.ref p) H' := q1
  replace q2 : prs s = none → ∀ H', Same H H' → E (cE mg "InvalidText") none H' := q2
  have e1 : TL.tl (cutS s none (some 1)) = (TL.tl s).take 1 := tl_cutL (n := 1)
  have e2 : TL.tl (cutS s (some 1) none) = (TL.tl s).drop 1 := tl_cutR (n := 1)
  walk_at "st"
  refine k_slS (by omega) ?_
  walk_at "st"
  by_cases h1 : (TL.tl s).take 1 = [40]
  case neg =>
    refine k_neS0 (fun z => h1 (by rw [← e1, z]; rfl)) ?_
    walk_at "st"
    refine q2 ?_ _ (Same.refl _)
    unfold prs prsL
    rw [if_neg h1]
  refine k_neS1 (TL.ext_tl (by rw [e1, h1]; rfl)) ?_
  walk_at "st"
  refine k_replC ?_
  refine k_replC ?_
  walk_at "st"
  refine k_slS (by omega) ?_
  have l1 : (cutS s (some 1) none).length ≤ 1000 := Nat.le_trans (cutS_length _ _ _) hl
  have l2 : (Txt.replace (cutS s (some 1) none) "*r(" " ").length ≤ 1000 := Nat.le_trans (len_repl (by decide) (by decide)) l1
  have l3 : (Txt.replace (Txt.replace (cutS s (some 1) none) "*r(" " ") "))/" " ").length ≤ 1000 := Nat.le_trans (len_repl (by decide) (by decide)) l2
  refine ⟨_, rfl, ?_, ?_⟩
  · show _ + (_ + 1) * 1 ≤ 16777216
    omega
  refine ⟨_, rfl, ?_, ?_⟩
  · show _ + (_ + 1) * 1 ≤ 16777216
    omega
  have ew : (Txt.split (Txt.replace (Txt.replace (cutS s (some 1) none) "*r(" " ") "))/" " ") " ").map TL.tl = wdsL (TL.tl s) := by
    rw [TL.split_spl _ _ (by decide) (TL.kind_ok (by decide +kernel)), tl_repl (by decide), tl_repl (by decide), e2]
    rfl
  generalize Txt.replace (Txt.replace (cutS s (some 1) none) "*r(" " ") "))/" " " = rs at l3 ew
  refine ⟨?_, ?_⟩
  · first | trivial | rfl | exact ⟨_, rfl⟩
  walk_at "st"
  refine ⟨_, _, rfl, rfl, rfl, by rw [sizeLine_eq]; omega, fun p np => ?_⟩
  have ew0 := TL.split_spl rs " " (by decide) (TL.kind_ok (by decide +kernel))
  generalize Txt.split rs " " = ws at ew ew0
  generalize hH : upd _ p _ = H1
  have s1 := new_same hH np
  have ep := new_at hH
  clear hH
  have lw : ∀ u ∈ ws, u.length ≤ 1000 := fun u hu => by
    have h := List.mem_map_of_mem (f := TL.tl) hu
    rw [ew0] at h
    have := spl_len _ _ _ _ _ h
    rw [List.length_nil, Nat.zero_add, ← TL.len_tl, ← TL.len_tl] at this
    omega
  clear ew0
  walk_at "w"
  rw [List.length_map]
  by_cases h5 : ws.length = 5
  case neg =>
    rw [decide_eq_false (by omega)]
    walk_at "st"
    refine q2 ?_ _ s1
    unfold prs prsL
    rw [if_pos h1]
    split
    · rename_i hw
      rw [← ew] at hw
      have := congrArg List.length hw
      rw [List.length_map] at this
      exact absurd this h5
    · rfl
  rw [decide_eq_true (by omega)]
  obtain ⟨a, b, c, dd, e, rfl⟩ := five h5
  have pr : prs s = if TL.tl b = [43] ∨ TL.tl b = [45] then rtOf (TL.tl s) (TL.tl a) (TL.tl b) (TL.tl c) (TL.tl dd) (TL.tl e) else none := by
    unfold prs prsL
    rw [if_pos h1, ← ew]
    rfl
  walk_at "w"
  rename_i pt _ H2 s2 e2'
  by_cases hb : TL.tl b = [43] ∨ TL.tl b = [45]
  case neg =>
    have hi : inV (.str b) [.str "+", .str "-"] = false := in_pm0 hb
    refine k_notIn hi e2' rfl rfl ?_
    walk_at "st"
    refine q2 ?_ _ (s1.trans s2)
    rw [pr, if_neg hb]
  rw [if_pos hb] at pr
  have hi : inV (.str b) [.str "+", .str "-"] = true := in_pm1 hb
  refine k_notIn hi e2' rfl rfl ?_
  have ep2 : H2 p = some (.lst [.str a, .str b, .str c, .str dd, .str e]) := s2 _ _ ep
  have s02 := s1.trans s2
  clear s2 e2' hi s1 ep
  have hbl : (!true) = false := rfl
  rw [hbl]
  walk_at "w"
  rename_i H3 p3 s3 _ e3 H4 p4 s4 _ e4
  have c3 : cutV [V.str a, V.str b, V.str c, V.str dd, V.str e] none (some 1) = [.str a] := rfl
  have c4 : cutV [V.str a, V.str b, V.str c, V.str dd, V.str e] (some 2) none = [.str c, .str dd, .str e] := rfl
  rw [c3] at e3
  rw [c4] at e4
  refine k_cat' (s4 _ _ e3) e4 (by simp) fun p5 H5 s5 e5 => ?_
  have s05 := ((s02.trans s3).trans s4).trans s5
  have ep5 : H5 p = some (.lst [.str a, .str b, .str c, .str dd, .str e]) := s5 _ _ (s4 _ _ (s3 _ _ ep2))
  replace e5 : H5 p5 = some (.lst [.str a, .str c, .str dd, .str e]) := e5
  clear s5 s4 s3 e3 e4 s02 ep2 c3 c4 hbl
  have get4 : ∀ (n : Nat) (v : V), [V.str a, V.str c, V.str dd, V.str e][n]? = some v → ∃ u, [a, c, dd, e][n]? = some u ∧ v = .str u := fun n v h => by
    have h2 : ([a, c, dd, e].map V.str)[n]? = some v := h
    rw [List.getElem?_map] at h2
    cases h3 : [a, c, dd, e][n]? with
    | none => rw [h3] at h2; cases h2
    | some u => rw [h3] at h2; cases h2; exact ⟨u, rfl, rfl⟩
  refine ⟨p5, rfl, ⟨_, lst_of e5⟩, fun F hF => lcx_list (ys := [a, c, dd, e].map fun u => V.int ((numOf (TL.tl u)).getD 0)) (fun j => ∀ u, [a, c, dd, e][j]? = some u → numOf (TL.tl u) ≠ none) (lst_of e5) hF (by simp) (by simp) (fun n x y hx hy H' R' s' r' => ?_) fun hall H6 s6 e6 => ?_⟩
  · obtain ⟨u, hu, rfl⟩ := get4 n x hx
    have hy2 : y = .int ((numOf (TL.tl u)).getD 0) := by
      rw [List.getElem?_map, hu] at hy
      cases hy
      rfl
    subst hy2
    have mu : u ∈ [a, c, dd, e] := List.mem_of_getElem? hu
    show gName 7 _ [_, _, _, _, _, _, _, _] H' _
    walk_at "st"
    refine ⟨rfl, ?_⟩
    walk_at "st"
    refine ⟨u, rfl, lw u (by simp only [List.mem_cons, List.not_mem_nil, or_false] at mu ⊢; rcases mu with h | h | h | h <;> simp [h]), fun m hm H'' s'' => ?_, fun hm H'' s'' => ?_⟩
    · have := r' (fun v hv => by rw [hu] at hv; cases hv; rw [hm]; exact fun z => nomatch z) H'' s''
      rw [hm] at this
      exact this
    · refine q2 ?_ _ ((s05.trans s').trans s'')
      rw [pr]
      exact rtOf_none (u := TL.tl u) (by simp only [List.mem_cons, List.not_mem_nil, or_false] at mu ⊢; rcases mu with h | h | h | h <;> simp [h]) hm
  have some4 : ∀ (j : Nat) (u : Str), [a, c, dd, e][j]? = some u → ∃ n, numOf (TL.tl u) = some n := fun j u hu => by
    have := hall j (List.getElem?_eq_some_iff.mp hu).1 u hu
    cases h : numOf (TL.tl u) with
    | none => exact absurd h this
    | some n => exact ⟨n, rfl⟩
  obtain ⟨na, ha⟩ := some4 0 a rfl
  obtain ⟨nb, hc⟩ := some4 1 c rfl
  obtain ⟨nd, hdd⟩ := some4 2 dd rfl
  obtain ⟨nc, he⟩ := some4 3 e rfl
  have ey : ([a, c, dd, e].map fun u => V.int ((numOf (TL.tl u)).getD 0)) = [.int na, .int nb, .int nd, .int nc] := by
    simp [ha, hc, hdd, he]
  rw [ey] at e6
  have pr2 : prs s = chk (TL.tl s) ⟨na, if TL.tl b = [43] then nb else -nb, nd, nc⟩ := by
    rw [pr]
    unfold rtOf
    rw [ha, hc, hdd, he]
  clear pr ey some4 hall get4 ha hc hdd he
  have ep6 := s6 _ _ ep5
  have s06 := s05.trans s6
  clear ep5 s05 s6 e5
  refine k_glst (lst_of e6) rfl ?_
  walk_at "w"
  refine k_eqS ?_
  walk_at "st"
  refine k_joinV (fun v H' => v = .int (if TL.tl b = [43] then nb else -nb) ∧ H' = H6) ?_ ?_
  case refine_2 =>
    intro X hX
    refine k_ite (fun h43 => ?_) fun h43 => ?_
    · walk_at "w"
      exact hX _ _ ⟨by rw [if_pos (by rw [h43]; rfl)], rfl⟩
    · walk_at "w"
      exact hX _ _ ⟨by rw [if_neg (show ¬ TL.tl b = [43] from fun z => h43 (TL.ext_tl z))], rfl⟩
  rintro v H7 ⟨rfl, rfl⟩
  generalize (if TL.tl b = [43] then nb else -nb) = nb' at pr2
  walk_at "w"
  rename_i p8 _ H8 s8 e8
  have s08 := s06.trans s8
  replace e8 : H8 p8 = some (.tup (rtV ⟨na, nb', nd, nc⟩)) := e8
  generalize (⟨na, nb', nd, nc⟩ : Rt) = y at pr2 e8
  refine ⟨_, rtD y, rfl, dp_rt (tup_of e8), fun H9 s9 => ?_⟩
  rw [rnD_rt]
  have s09 := s08.trans s9
  have e9 := s9 _ _ e8
  by_cases ry : RN y
  case neg =>
    rw [decide_eq_false ry]
    walk_at "st"
    refine q2 ?_ _ s09
    rw [pr2]
    unfold chk
    rw [if_neg (fun z => ry z.1)]
  rw [decide_eq_true ry]
  walk_at "st"
  refine ⟨p8, y, rfl, tup_of e9, ry, ?_⟩
  walk_at "st"
  by_cases hw : wr y = s
  · refine k_neS1 hw ?_
    walk_at "st"
    refine q1 y ?_ _ _ s09 e9
    rw [pr2]
    unfold chk
    rw [if_pos ⟨ry, by rw [← tl_wr, hw]⟩]
  · refine k_neS0 hw ?_
    walk_at "st"
    refine q2 ?_ _ s09
    rw [pr2]
    unfold chk
    rw [if_neg (fun z => hw (TL.ext_tl (by rw [tl_wr, z.2])))]
end Fl
/-! K20: the law of the texts. -/
namespace Fl
open PySem L2 PySem.Spec PyProof.Rows HotX L2H LamX
local macro_rules | `(tactic| walk_at "sc") => `(tactic| first
  | exact cm_l (by omega) (by omega) | exact cm_r (by omega) (by omega)
  | exact wide_div (b := 250) (by omega) (by omega) (by decide) (by decide)
  | omega | exact cpow (by omega) (by omega) (by omega))
local macro_rules | `(tactic| walk_at "st1") => `(tactic| with_reducible first
  | apply k_seq | apply k_next | apply k_asg | apply k_ret | apply k_drop | apply k_ifS | apply k_par | apply k_par2 | apply k_par3 | apply k_par33
  | (refine k_var rfl ?_) | apply k_c | apply k_op | apply k_un | apply k_I0 | apply k_p18 | apply k_p15 | apply k_p12 | apply k_p9 | apply k_p7 | apply k_p6 | apply k_p5
  | (refine k_I ?_ ?_; (focus walk_at "sc")) | apply k_U
  | apply k_eqI | apply k_neI | apply k_eqB | apply k_neB | apply k_isN | apply k_ntN
  | apply k_test | apply k_tB | apply k_bl | apply k_and | apply k_or | apply k_not | apply k_andV | apply k_orV | apply k_notV | apply k_if | apply k_chain
  | apply k_cb | apply k_call | apply k_nil | apply k_cons | apply k_tup | apply k_lst | apply k_abs | apply k_max2 | apply k_min2 | apply k_iteT | apply k_iteF | apply k_iteNT | apply k_iteNF | apply k_gsub | apply k_yes | apply k_lc | apply k_for | apply k_rng1 | apply k_rng2 | apply k_iList | apply k_iTup | apply k_bm
  | apply k_slice | apply k_nopart | apply k_part | apply k_someI | apply k_enumT | apply k_enumL | apply k_gcons | apply k_gnil | apply k_n0 | apply k_n1 | apply k_n2 | apply k_n3 | apply k_n4 | apply k_n5 | apply k_n6 | apply k_n7 | apply k_n8 | apply k_n9 | apply k_n10 | apply k_n11 | apply k_n12 | apply k_n13 | apply k_n14 | apply k_n15 | apply k_n16 | apply k_n17 | apply k_n18 | apply k_n19 | apply k_n20)
local macro_rules | `(tactic| walk_at "st") => `(tactic| repeat walk_at "st1")
local macro_rules | `(tactic| walk_at "nw") => `(tactic| (refine ⟨Nat.le_of_ble_eq_true rfl, fun p np => ?_⟩; generalize hH : upd _ p _ = H'; have s := new_same hH np; have e := new_at hH; clear hH))
local macro_rules | `(tactic| walk_at "kb") => `(tactic| first | exact kb_tup | exact kb_ref | (refine kb_len ?_; (first | decide | (intro z; simp at z; done) | (simp; omega))))
local macro_rules | `(tactic| walk_at "hp") => `(tactic| first
  | assumption
  | exact Same.refl _
  | (apply tup_of; walk_at "hp") | (apply lst_of; walk_at "hp")
  | (refine st_at (by assumption) ?_; walk_at "hp")
  | (refine kq_at2 (by assumption) ?_ ?_; (focus walk_at "hp"); walk_at "kb")
  | (refine xn_at2 (by assumption) ?_ ?_; (focus walk_at "hp"); (intro z; simp; done))
  | exact dp_int | exact dp_non | exact dp_bl | exact dp_str
  | (refine dp_rt ?_; walk_at "hp")
  | (refine st_trans (by assumption) ?_; walk_at "hp")
  | (refine st_dice (by assumption) ?_; walk_at "hp") | (refine kq_dice (by assumption) ?_; walk_at "hp") | (refine xn_dice (by assumption) ?_; walk_at "hp")
  | exact lw_dice (by assumption) | exact lw_tabs (by assumption)
  | exact kq_refl | (refine st_kq (by assumption) ?_; walk_at "hp") | (refine kq_kq (by assumption) ?_; walk_at "hp")
  | (refine st_tabs (by assumption) ?_; walk_at "hp") | (refine kq_tabs (by assumption) ?_; walk_at "hp")
  | (refine st_lw (by assumption) ?_; walk_at "hp") | (refine kq_lw (by assumption) ?_; walk_at "hp") | (refine xn_lw (by assumption) ?_ ?_; (focus walk_at "hp"); walk_at "hp")
  | (refine st_dp (by assumption) ?_; walk_at "hp") | (refine xn_dp (by assumption) ?_; walk_at "hp")
  | (refine same_tup (by assumption) ?_; walk_at "hp") | (refine xn_tup (by assumption) ?_; walk_at "hp"))
local macro_rules | `(tactic| walk_at "w1") => `(tactic| first
  | walk_at "st1"
  | walk_at "nw"
  | ((with_reducible refine gd_cat ?_); refine k_cat' (by walk_at "hp") (by walk_at "hp") (by first | (simp; done) | (simp; omega)) (fun p H' s e => ?_))
  | ((with_reducible refine gd_roll ?_); refine k_roll (by walk_at "hp") (by omega) (by omega) (fun H' r c r1 r2 => ?_))
  | ((with_reducible refine gd_strI ?_); refine k_strI (by omega) ?_)
  | ((with_reducible refine gd_catA ?_); refine k_catT (by walk_at "hp") (by walk_at "hp") (by first | (simp; done) | (simp; omega)) (fun H' p s e => ?_))
  | ((with_reducible refine gd_tupOf ?_); refine k_tupOf (by walk_at "hp") (fun H' p s e => ?_))
  | ((with_reducible refine gd_slL ?_); refine k_slL (by walk_at "hp") (fun H' p s n e => ?_))
  | ((with_reducible refine gd_slA ?_); refine k_slA (by walk_at "hp") (fun H' p s e => ?_))
  | ((with_reducible refine gd_len ?_); first | (refine k_lenL (by walk_at "hp") ?_) | (refine k_lenT (by walk_at "hp") ?_))
  | ((with_reducible refine gd_gtup4 ?_); refine k_gtup4 (by walk_at "hp") ?_)
  | ((with_reducible refine gd_gtup ?_); refine k_gtup (by walk_at "hp") (by rfl) ?_)
  | ((with_reducible refine gd_ixT ?_); refine k_ixT (by walk_at "hp") (by rfl) ?_)
  | ((with_reducible refine gd_ixL ?_); refine k_ixL (by walk_at "hp") (by rfl) ?_))
local macro_rules | `(tactic| walk_at "w") => `(tactic| repeat walk_at "w1")
local macro_rules | `(tactic| walk_at "dec") => `(tactic| first | refine k_pos (by omega) ?_ | refine k_neg (by omega) ?_ | refine k_npos (by omega) ?_ | refine k_nneg (by omega) ?_)
local macro_rules | `(tactic| walk_at "v") => `(tactic| repeat first | walk_at "w1" | walk_at "dec")
variable {P : Program} {w : World} {K : PySem.W.Frag} {mg : Str → Option Value} {T : List (Addr × Str)}
theorem k_neRE {H : Hp} {p q : Addr} {x : Rt} {a b : Str} {Q : VK} (h1 : H p = some (.tup (rtV x))) (h2 : H q = some (.tup [.str a, .str b])) (oa : PyData.strOk a = true) (ob : PyData.strOk b = true) (k : Q (.bl true) H) : rNeD K (.ref p) (.ref q) H Q :=
  ⟨_, _, dp_rt (tup_of h1), dp_err h2, shaped_rt, shaped_err oa ob, by
    have e : PyData.eqv (rtD x) (.tuple [.str a, .str b]) = false := by simp [rtD, PyData.eqv, PyData.eqvAll]
    rw [e]; exact k⟩
/-- parse_number of a text that is one -/
theorem prs_yes {H : Hp} {Q : VK} {E : XK} {s : Str} {x : Rt} (hl : s.length ≤ 1000) (h : prs s = some x) (k : ∀ H' p, Same H H' → H' p = some (.tup (rtV x)) → Q (.ref p) H') : sp_parse_number K mg [.str s] H Q E :=
  ⟨_, .str s, rfl, dp_str, hl, fun y hy => by
    have e : prs s = some y := hy
    rw [h] at e
    cases e
    exact k, fun hn => by
    have e : prs s = none := hn
    rw [h] at e
    cases e⟩
/-- parse_number of what is none -/
theorem prs_no {H : Hp} {Q : VK} {E : XK} {v : V} {d : PyData} (hd : Dp K H v d) (hl : shortD d) (h : prsD d = none) (k : ∀ H', Same H H' → E (cE mg "InvalidText") none H') : sp_parse_number K mg [v] H Q E :=
  ⟨v, d, rfl, hd, hl, fun y hy => (by rw [h] at hy; cases hy), fun _ => k⟩
theorem at_anyN {xs : List Nat} {r : Int} (h0 : 0 ≤ r) (h1 : r < xs.length) : ∃ v ∈ xs, atI xs r = some v := by
  have hl : r.toNat < xs.length := by omega
  refine ⟨xs[r.toNat], List.getElem_mem _, ?_⟩
  have e := atI_nat (j := r.toNat) (List.getElem?_eq_getElem hl)
  rwa [show ((r.toNat : Nat) : Int) = r by omega] at e
theorem shS {s : Str} (h : decide (s.length ≤ 1000) = true) : shortD (.str s) := show s.length ≤ 1000 from of_decide_eq_true h
theorem prN {s : Str} (h : (prs s).isNone = true) : prsD (.str s) = none := Option.isNone_iff_eq_none.mp h
def met : List Str := ["InvalidText"]
def spLaw (K : PySem.W.Frag) (T : List (Addr × Str)) : Sp := fun vs H Q _ => ∃ (a : Addr) (ns : List Int), vs = [.ref a] ∧ ns.length ≤ 63 ∧ SqL K H a (ns.map V.int) ∧ Tabs T H ∧ ∀ H', Q (.bl true) H'
theorem len_law {T : List (Addr × Str)} : ∀ vs H Q E, spLaw K T vs H Q E → vs.length = 1 := fun _ _ _ _ ⟨_, _, e, _⟩ => by subst e; rfl
def t_body (P : PySem.Program) (w : PySem.World) (K : PySem.W.Frag) (mg : PySem.Str → Option PySem.Value) (T : List (Addr × Str)) (met : List Str) (E : XK) : TS :=
  (tSeq (tAsg (tCall (sp__law_any_number K mg) [] E (tCons (tVar 1) tNil)) (gName 2))
  (tSeq (tAsg (tVar 2) (gTup K 4 (gCons (gName 3) (gCons (gName 4) (gCons (gName 5) (gCons (gName 6) gNil))))))
  (tSeq (tAsg (tOp rAddX (tOp rAddX (tOp rAddX (tOp rAddX (tOp rAddX (tOp rAddX (tOp rAddX (tC (.str "(")) (tCB rStrI (tCons (tVar 3) tNil))) (tIf (tTest (tOp rGtI (tVar 4) (tC (.int 0)))) (tC (.str " + ")) (tC (.str " - ")))) (tCB rStrI (tCons (tCB rAbs (tCons (tVar 4) tNil)) tNil))) (tC (.str "*r("))) (tCB rStrI (tCons (tVar 5) tNil))) (tC (.str "))/"))) (tCB rStrI (tCons (tVar 6) tNil))) (gName 7))
  (tSeq (tIfS (tOr (tTest (tOp rNe (tCall (sp_format_number K mg) [] E (tCons (tVar 2) tNil)) (tVar 7))) (tTest (tOp (rNeD K) (tTold T mg met (fun E => (tCall (sp_parse_number K mg) [] E (tCons (tVar 7) tNil)))) (tVar 2))))
  (tRet (tC (.bl false)))
  tNext)
  (tSeq (tFor (iRng1 (tCons (tC (.int 10)) tNil)) (gName 8)
  (tSeq (tPar 9 10 (tCons (tCall (sp__law_roll K mg) [] E (tCons (tVar 1) (tCons (tOp rAddI (tCB rLenX (tCons (tVar 7) tNil)) (tC (.int 1))) tNil))) (tCons (tOp rIxS (tC (.str " ()+-*r/019")) (tCall (sp__law_roll K mg) [] E (tCons (tVar 1) (tCons (tC (.int 11)) tNil)))) tNil)))
  (tSeq (tAsg (tOp (rIxL K) (tLst (tCons (tOp rAddX (tSl rSlS (tVar 7) tNoPart (tPart (tVar 9))) (tSl rSlS (tVar 7) (tPart (tOp rAddI (tVar 9) (tC (.int 1)))) tNoPart)) (tCons (tOp rAddX (tOp rAddX (tSl rSlS (tVar 7) tNoPart (tPart (tVar 9))) (tVar 10)) (tSl rSlS (tVar 7) (tPart (tVar 9)) tNoPart)) (tCons (tOp rAddX (tVar 7) (tVar 10)) (tCons (tSl rSlS (tVar 7) tNoPart (tPart (tVar 9))) tNil))))) (tOp rModI (tVar 8) (tC (.int 4)))) (gName 11))
  (tSeq (tAsg (tTold T mg met (fun E => (tCall (sp_parse_number K mg) [] E (tCons (tVar 11) tNil)))) (gName 12))
  (tIfS (tTest (tOp (rNeD K) (tVar 12) (tTup (tCons (tC (.str "error")) (tCons (tC (.str "InvalidText")) tNil)))))
  (tIfS (tOr (tNot (tB (tCall (sp_is_root_number K mg) [] E (tCons (tVar 12) tNil)))) (tTest (tOp rNe (tCall (sp_format_number K mg) [] E (tCons (tVar 12) tNil)) (tVar 11))))
  (tRet (tC (.bl false)))
  tNext)
  tNext)))))
  (tSeq (tAsg (tLst (tCons (tC (.str "")) (tCons (tC .non) (tCons (tC (.int 5)) (tCons (tC (.str "(1 + 1*r(4))/2")) (tCons (tC (.str "(2 + 2*r(5))/2")) (tCons (tC (.str "(1 + 0*r(5))/2")) tNil))))))) (gName 13))
  (tSeq (tAsg (tOp rCat (tVar 13) (tLst (tCons (tC (.str "(1 + -1*r(5))/2")) (tCons (tC (.str "1 + 1*r(5)")) (tCons (tLst (tCons (tVar 7) tNil)) tNil))))) (gName 13))
  (tSeq (tFor (iList K (tVar 13)) (gName 14)
  (tIfS (tTest (tOp (rNeD K) (tTold T mg met (fun E => (tCall (sp_parse_number K mg) [] E (tCons (tVar 14) tNil)))) (tTup (tCons (tC (.str "error")) (tCons (tC (.str "InvalidText")) tNil)))))
  (tRet (tC (.bl false)))
  tNext))
  (tSeq (tAsg (tLst (tCons (tC (.str "(1 1*r(5))/2")) (tCons (tC (.str "(01 + 1*r(5))/2")) (tCons (tC (.str "(-0 + 1*r(5))/2")) (tCons (tC (.str "(1 + 1*r(5))/0")) tNil))))) (gName 13))
  (tSeq (tAsg (tOp rCat (tVar 13) (tLst (tCons (tC (.str "(1+1*r(5))/2")) (tCons (tC (.str "(51 + 1*r(5))/2")) tNil)))) (gName 13))
  (tFor (iList K (tVar 13)) (gName 14)
  (tIfS (tTest (tOp (rNeD K) (tTold T mg met (fun E => (tCall (sp_parse_number K mg) [] E (tCons (tVar 14) tNil)))) (tTup (tCons (tC (.str "error")) (tCons (tC (.str "InvalidText")) tNil)))))
  (tRet (tC (.bl false)))
  tNext))))))))))))
def t_law (P : PySem.Program) (w : PySem.World) (K : PySem.W.Frag) (mg : PySem.Str → Option PySem.Value) (T : List (Addr × Str)) (met : List Str) (E : XK) : TS :=
  (tSeq (tFor (iList K (tCall (sp__law_rounds K mg) [] E (tCons (tVar 0) (tCons (tC (.int 5)) tNil)))) (gName 1) (t_body P w K mg T met E))
  (tRet (tC (.bl true))))

theorem body_ok {E : XK} {D : Ends} {s d R : Addr} {qs : List Addr} {H : Hp} {y2 y3 y4 y5 y6 y7 y8 y9 y10 y11 y12 y13 y14 : Option V} (l : Lw T R qs d H) (k : ∀ y' r' H', r'.length = 13 → Lw T R qs d H' → D.nx (some (.ref s) :: y' :: r') H') :
    t_body P w K mg T met E D [some (.ref s), some (.ref d), y2, y3, y4, y5, y6, y7, y8, y9, y10, y11, y12, y13, y14] H := by
  unfold t_body
  walk_at "w"
  refine k_any_number (by walk_at "hp") fun H1 p x c1 e1 r => ?_
  with_reducible apply k_n2
  with_reducible apply k_seq
  with_reducible apply k_asg
  refine k_var rfl ?_
  refine k_gtup4 (tup_of e1) ?_
  repeat (with_reducible first | apply k_gcons | apply k_n3 | apply k_n4 | apply k_n5 | apply k_n6 | apply k_gnil)
  with_reducible apply k_seq
  with_reducible apply k_asg
  refine k_wr r (fun Q h => k_var rfl h) (fun Q h => k_var rfl h) (fun Q h => k_var rfl h) (fun Q h => k_var rfl h) (fun Q h => ?_) ?_
  · walk_at "st"
    unfold sgS at h
    by_cases hb : 0 < x.b
    · rw [if_pos hb] at h
      refine k_pos hb ?_
      walk_at "st"
      exact h
    · rw [if_neg hb] at h
      refine k_neg hb ?_
      walk_at "st"
      exact h
  have hl := wr_len r
  walk_at "w"
  refine ⟨p, x, rfl, by walk_at "hp", r, fun H2 s2 => ?_⟩
  walk_at "w"
  refine k_neS1 rfl ?_
  walk_at "w"
  refine told_val (by walk_at "hp") fun E2 H3 e3 T3 => ?_
  walk_at "w"
  refine prs_yes (by omega) (prs_ok r) fun H4 p4 s4 e4 => ?_
  have l4 : Lw T R qs d H4 := by walk_at "hp"
  have x4 : H4 p = some (.tup (rtV x)) := by walk_at "hp"
  clear c1 e1 s2 e3 T3 s4 l
  walk_at "w"
  refine k_neRt e4 x4 ?_
  clear e4
  walk_at "w"
  refine k_npos rfl ?_
  walk_at "w"
  refine ⟨_, rfl, by omega, by omega, for_range (fun _ σ H' => ∃ y8 y9 y10 y11 y12, σ = [some (.ref s), some (.ref d), some (.ref p), some (.int x.a), some (.int x.b), some (.int x.d), some (.int x.c), some (.str (wr x)), y8, y9, y10, y11, y12, y13, y14] ∧ Lw T R qs d H' ∧ H' p = some (.tup (rtV x))) ⟨y8, y9, y10, y11, y12, rfl, l4, x4⟩ ?_ ?_⟩
  · clear k l4 x4
    rintro n σ H5 hn ⟨y8, y9, y10, y11, y12, rfl, l5, x5⟩
    walk_at "w"
    refine k_lenX (by omega) ?_
    walk_at "w"
    rename_i H6 r6 c6 r61 r62 H7 r7 c7 r71 r72
    obtain ⟨cs, _, hcs⟩ := at_anyN (xs := TL.tl " ()+-*r/019") r71 r72
    refine ⟨_, _, cs, rfl, rfl, by decide, hcs, ?_⟩
    walk_at "w"
    have cl : ∀ (lo hi : Option Int), (cutS (wr x) lo hi).length ≤ 40 := fun lo hi => Nat.le_trans (cutS_length _ _ _) hl
    have sl : (⟨#[cs]⟩ : Str).length = 1 := rfl
    refine k_slS (by omega) ?_
    walk_at "w"
    refine k_slS (by omega) ?_
    refine k_addX (by have := cl none (some r6); omega) (by have := cl (some (r6 + 1)) none; omega) ?_
    walk_at "w"
    refine k_slS (by omega) ?_
    walk_at "w"
    refine k_addX (by have := cl none (some r6); omega) (by omega) ?_
    walk_at "w"
    refine k_slS (by omega) ?_
    refine k_addX (by rw [len_app]; have := cl none (some r6); omega) (by have := cl (some r6) none; omega) ?_
    walk_at "w"
    refine k_addX (by omega) (by omega) ?_
    walk_at "w"
    refine k_slS (by omega) ?_
    walk_at "w"
    rename_i p8 _ H8 s8 e8
    obtain ⟨v, hv, ev⟩ := at_any (xs := [V.str (cutS (wr x) none (some r6) ++ cutS (wr x) (some (r6 + 1)) none), V.str (cutS (wr x) none (some r6) ++ ⟨#[cs]⟩ ++ cutS (wr x) (some r6) none), V.str (wr x ++ ⟨#[cs]⟩), V.str (cutS (wr x) none (some r6))]) (r := (0 + (n : Int)) % 4) (by omega) (by simp; omega)
    refine k_ixL (lst_of e8) ev ?_
    obtain ⟨bt, rfl, hbt⟩ : ∃ bt : Str, v = .str bt ∧ bt.length ≤ 1000 := by
      have h1 := cl none (some r6)
      have h2 := cl (some (r6 + 1)) none
      have h3 := cl (some r6) none
      simp only [List.mem_cons, List.not_mem_nil, or_false] at hv
      rcases hv with rfl | rfl | rfl | rfl
      · exact ⟨_, rfl, by rw [len_app]; omega⟩
      · exact ⟨_, rfl, by rw [len_app, len_app]; omega⟩
      · exact ⟨_, rfl, by rw [len_app]; omega⟩
      · exact ⟨_, rfl, by omega⟩
    have l8 : Lw T R qs d H8 := by walk_at "hp"
    have x8 : H8 p = some (.tup (rtV x)) := by walk_at "hp"
    clear e8 s8 c7 c6 l5 x5 hv ev
    walk_at "w"
    cases hp : prs bt with
    | none =>
      refine told_raise (x := "InvalidText") (by decide) (lw_tabs l8) (fun E Q' H9 e9 T9 hE => ?_) fun H9 q9 e9 T9 h9 => ?_
      · walk_at "w"
        exact prs_no (d := .str bt) dp_str hbt hp hE
      · walk_at "w"
        rename_i qa _ Ha sa ea
        refine k_neerr (sa _ _ h9) ea (by decide +kernel) ?_
        walk_at "w"
        exact ⟨_, _, _, _, _, rfl, by walk_at "hp", by walk_at "hp"⟩
    | some y =>
      obtain ⟨ry, ey⟩ := prs_is hp
      refine told_val (lw_tabs l8) fun E9 H9 e9 T9 => ?_
      walk_at "w"
      refine prs_yes hbt hp fun Ha qa sa ea => ?_
      walk_at "w"
      rename_i qb _ Hb sb eb
      refine k_neRE (sb _ _ ea) eb (by decide +kernel) (by decide +kernel) ?_
      walk_at "w"
      refine k_is_rn (sb _ _ ea) ry fun Hc sc => ?_
      walk_at "w"
      refine ⟨qa, y, rfl, by walk_at "hp", ry, fun Hd sd => ?_⟩
      walk_at "w"
      refine k_neS1 ey ?_
      walk_at "w"
      exact ⟨_, _, _, _, _, rfl, by walk_at "hp", by walk_at "hp"⟩
  · clear l4 x4
    rintro σ H5 ⟨y8, y9, y10, y11, y12, rfl, l5, x5⟩
    walk_at "w"
    rename_i p6 _ H6 s6 e6 p7 _ H7 s7 e7 p8 _ H8 s8 e8 p9 H9 s9 e9
    have e79 : H9 p7 = some (.lst [.str (wr x)]) := by walk_at "hp"
    have l9 : Lw T R qs d H9 := by walk_at "hp"
    clear e8 s8 e7 s7 e6 s6 l5 x5 s9
    refine for_bad (T := T) (fun z => [some (.ref s), some (.ref d), some (.ref p), some (.int x.a), some (.int x.b), some (.int x.d), some (.int x.c), some (.str (wr x)), y8, y9, y10, y11, y12, some (.ref p9), z]) e9 (lw_tabs l9) (fun v hv Ha Da ea Ta ka => ?_) (fun z Ha ea Ta => ?_)
    · obtain ⟨dv, h1, h2, h3⟩ : ∃ dv, Dp K Ha v dv ∧ shortD dv ∧ prsD dv = none := by
        have e7a : Ha p7 = some (.lst [.str (wr x)]) := ea _ _ e79 (by simp)
        simp only [List.cons_append, List.nil_append, List.mem_cons, List.not_mem_nil, or_false] at hv
        rcases hv with rfl | rfl | rfl | rfl | rfl | rfl | rfl | rfl | rfl
        · exact ⟨_, dp_str, shS (by decide +kernel), prN (by decide +kernel)⟩
        · exact ⟨_, dp_non, trivial, rfl⟩
        · exact ⟨_, dp_int, trivial, rfl⟩
        · exact ⟨_, dp_str, shS (by decide +kernel), prN (by decide +kernel)⟩
        · exact ⟨_, dp_str, shS (by decide +kernel), prN (by decide +kernel)⟩
        · exact ⟨_, dp_str, shS (by decide +kernel), prN (by decide +kernel)⟩
        · exact ⟨_, dp_str, shS (by decide +kernel), prN (by decide +kernel)⟩
        · exact ⟨_, dp_str, shS (by decide +kernel), prN (by decide +kernel)⟩
        · exact ⟨_, .lst (lst_of e7a) (.cons dp_str .nil), trivial, rfl⟩
      walk_at "w"
      refine told_ne (by decide) Ta (fun E Q' Hb eb Tb hE => ?_) fun Hb eb Tb => ?_
      · walk_at "w"
        exact prs_no (by walk_at "hp") h2 h3 hE
      · walk_at "w"
        exact ka Hb (ea.trans eb) Tb
    · have la : Lw T R qs d Ha := by walk_at "hp"
      clear ea e9 e79 l9
      walk_at "w"
      rename_i p10 _ H10 s10 e10 p11 _ H11 s11 e11 p12 H12 s12 e12
      have l12 : Lw T R qs d H12 := by walk_at "hp"
      clear s10 e10 s11 e11 s12 la Ta
      refine for_bad (T := T) (fun z => [some (.ref s), some (.ref d), some (.ref p), some (.int x.a), some (.int x.b), some (.int x.d), some (.int x.c), some (.str (wr x)), y8, y9, y10, y11, y12, some (.ref p12), z]) e12 (lw_tabs l12) (fun v hv Ha Da ea Ta ka => ?_) (fun z Ha ea Ta => ?_)
      · obtain ⟨dv, h1, h2, h3⟩ : ∃ dv, Dp K Ha v dv ∧ shortD dv ∧ prsD dv = none := by
          simp only [List.cons_append, List.nil_append, List.mem_cons, List.not_mem_nil, or_false] at hv
          rcases hv with rfl | rfl | rfl | rfl | rfl | rfl <;> exact ⟨_, dp_str, shS (by decide +kernel), prN (by decide +kernel)⟩
        walk_at "w"
        refine told_ne (by decide) Ta (fun E Q' Hb eb Tb hE => ?_) fun Hb eb Tb => ?_
        · walk_at "w"
          exact prs_no (by walk_at "hp") h2 h3 hE
        · walk_at "w"
          exact ka Hb (ea.trans eb) Tb
      · walk_at "w"
        exact k _ _ _ rfl (by walk_at "hp")
theorem pure_law : ∀ (vs : List V) (H : Hp) (Q : VK) (E : XK), spLaw K T vs H Q E → t_law P w K mg T met E { nx := fun _ H' => Q .non H', rt := Q } (start ["script", "dice", "x", "a", "b", "d", "c", "text", "turn", "at", "sign", "bent", "made", "cases", "bad"] vs) H := by
  rintro vs H Q E ⟨a, ns, rfl, hl, hs, hT, q⟩
  unfold t_law
  refine law_top (T := T) (n := 13) hs hl hT rfl (by decide) (by decide) (fun D d R qs r H1 hr l k => ?_) q
  obtain ⟨y2, y3, y4, y5, y6, y7, y8, y9, y10, y11, y12, y13, y14, rfl⟩ := ex_13 hr
  exact body_ok l k
end Fl
namespace Fl
open PySem L2 PySem.Spec PyProof.Rows HotX L2H LamX
def topS (i : Nat) : Stmt := PySem.Challenge.pw_floorrows_k20_whole_texts.main.body.getD i (.Pass ⟨0, 0, 0, 0⟩)
abbrev s_is_whole : Stmt := topS 12
abbrev s_divisor : Stmt := topS 13
abbrev s_is_free : Stmt := topS 14
abbrev s_is_root_number : Stmt := topS 15
abbrev s_need_number : Stmt := topS 16
abbrev s_written : Stmt := topS 18
abbrev s_format_number : Stmt := topS 19
abbrev s_number_of : Stmt := topS 20
abbrev s_parse_number : Stmt := topS 21
abbrev s__law_cell : Stmt := topS 23
abbrev s__law_drawn : Stmt := topS 24
abbrev s__law_roll : Stmt := topS 25
abbrev s__law_rounds : Stmt := topS 26
abbrev s__law_term : Stmt := topS 27
abbrev s__law_told : Stmt := topS 28
abbrev s__law_divisor : Stmt := topS 29
abbrev s__law_lowest : Stmt := topS 30
abbrev s__law_any_number : Stmt := topS 31
abbrev s_law : Stmt := topS 32

theorem sc_is_whole : FnScope ["value", "low", "high"] ["value", "low", "high"] (defScope s_is_whole) := ⟨rfl, rfl, rfl, by decide +kernel, rfl, by decide +kernel, by decide +kernel⟩
theorem ok_is_whole {P : Program} {w : World} {K : PySem.W.Frag} {mg : Str → Option Value} {base : Heap} {f : Addr} {fd : FuncData} (B : Bt mg)
    (F : Fun K "is_whole" "is_whole" s_is_whole f fd) (g : mg "is_whole" = some (.ref f)) : Cal P w K mg base 1 "is_whole" ["value", "low", "high"] (sp_is_whole K mg) :=
  cal_of F g sc_is_whole (fun _ _ _ _ _ _ us hl => match us, hl with | [_, _, _], _ => rfl) len_is_whole (t_is_whole P w K mg)
    (fun cdv A outer s H E hr => by
      unfold t_is_whole
      exact (pss_one (ps_ret (pe_and (pe_callB call_isi (by rfl) B.isinstance (by decide +kernel) (pa_cons (pv 0) (pa_cons (pe_bltn (v := .ty "int") rfl B.int (by decide +kernel) rfl) pa_nil))) (pe_and (pe_not (pe_callB call_isi (by rfl) B.isinstance (by decide +kernel) (pa_cons (pv 0) (pa_cons (pe_bltn (v := .ty "bool") rfl B.bool (by decide +kernel) rfl) pa_nil)))) (pe_one (pe_chain op_le op_le (pv 1) (pv 0) (pv 2)))))))) pure_is_whole

theorem sc_divisor : FnScope ["one", "other"] ["one", "other"] (defScope s_divisor) := ⟨rfl, rfl, rfl, by decide +kernel, rfl, by decide +kernel, by decide +kernel⟩
theorem ok_divisor {P : Program} {w : World} {K : PySem.W.Frag} {mg : Str → Option Value} {base : Heap} {f : Addr} {fd : FuncData} (B : Bt mg)
    (F : Fun K "divisor" "divisor" s_divisor f fd) (g : mg "divisor" = some (.ref f)) : Cal P w K mg base 1 "divisor" ["one", "other"] (sp_divisor K mg) :=
  cal_of F g sc_divisor (fun _ _ _ _ _ _ us hl => match us, hl with | [_, _], _ => rfl) len_divisor (t_divisor P w K mg)
    (fun cdv A outer s H E hr => by
      unfold t_divisor
      exact (pss_cons (ps_par (i := 0) (j := 1) rfl sc_divisor.nd rfl rfl (by decide) rfl rfl (pa_cons (pe_callB call_abs (by rfl) B.abs (by decide +kernel) (pa_cons (pv 0) pa_nil)) (pa_cons (pe_callB call_abs (by rfl) B.abs (by decide +kernel) (pa_cons (pv 1) pa_nil)) pa_nil)) (by rfl))
        (pss_cons (ps_while (passes_of rfl) (pt_truth (pv 1) (by intro _; rfl))
        (pss_one (ps_par (i := 0) (j := 1) rfl sc_divisor.nd rfl rfl (by decide) rfl rfl (pa_cons (pv 1) (pa_cons (pe_op op_mod (pv 0) (pv 1)) pa_nil)) (by rfl))))
        (pss_one (ps_ret (pv 0)))))) pure_divisor

theorem sc_is_free : FnScope ["d", "one"] ["d"] (defScope s_is_free) := ⟨rfl, rfl, rfl, by decide +kernel, rfl, by decide +kernel, by decide +kernel⟩
theorem ok_is_free {P : Program} {w : World} {K : PySem.W.Frag} {mg : Str → Option Value} {base : Heap} {f : Addr} {fd : FuncData} (B : Bt mg)
    (F : Fun K "is_free" "is_free" s_is_free f fd) (g : mg "is_free" = some (.ref f)) : Cal P w K mg base 1 "is_free" ["d"] (sp_is_free K mg) :=
  cal_of F g sc_is_free (fun _ _ _ _ _ _ us hl => match us, hl with | [_], _ => rfl) len_is_free (t_is_free P w K mg)
    (fun cdv A outer s H E hr => by
      unfold t_is_free
      exact (pss_one (ps_ret (pe_callB (cr_all rfl) (by rfl) B.all (by decide +kernel) (pa_cons (pe_lc (own := [("one", 1)]) (g := (gName 1)) (tt := tYes) (te := (tOp rNe (tOp rModI (tVar 0) (tOp rMulI (tVar 1) (tVar 1))) (tC (.int 0)))) (hc := rfl) (hN := sc_is_free.nd) (hi := (pi_tup (pe_tup (pa_cons pe_int (pa_cons pe_int (pa_cons pe_int pa_nil)))))) (ok := blkOk_by (N := ["d", "one"]) (sc := (defScope s_is_free)) (by decide +kernel)) (hg := fun _ _ _ _ _ => (pg_name (i := 1) sc_is_free.nd rfl (Or.inl rfl))) (ht := fun _ _ _ _ _ => pts_nil) (he := fun _ _ _ _ _ => (pe_cmpR op_ne (pe_op op_mod (pv 0) (pe_op op_mul (pv 1) (pv 1))) pe_int (nomark _)))) pa_nil))))) pure_is_free

theorem sc_is_root_number : FnScope ["value", "a", "b", "d", "c", "one"] ["value"] (defScope s_is_root_number) := ⟨rfl, rfl, rfl, by decide +kernel, rfl, by decide +kernel, by decide +kernel⟩
theorem ok_is_root_number {P : Program} {w : World} {K : PySem.W.Frag} {mg : Str → Option Value} {base : Heap} {f : Addr} {fd : FuncData} (B : Bt mg) (C_divisor : Cal P w K mg base 1 "divisor" ["one", "other"] (sp_divisor K mg)) (C_is_free : Cal P w K mg base 1 "is_free" ["d"] (sp_is_free K mg)) (C_is_whole : Cal P w K mg base 1 "is_whole" ["value", "low", "high"] (sp_is_whole K mg))
    (F : Fun K "is_root_number" "is_root_number" s_is_root_number f fd) (g : mg "is_root_number" = some (.ref f)) : Cal P w K mg base 2 "is_root_number" ["value"] (sp_is_root_number K mg) :=
  cal_of F g sc_is_root_number (fun _ _ _ _ _ _ us hl => match us, hl with | [_], _ => rfl) len_is_root_number (t_is_root_number P w K mg)
    (fun cdv A outer s H E hr => by
      unfold t_is_root_number
      exact (pss_cons (ps_if (PW.pt (pw_or (pt_not (pt_val (pe_callB call_isi (by rfl) B.isinstance (by decide +kernel) (pa_cons (pv 0) (pa_cons (pe_bltn (v := .ty "tuple") rfl B.tuple (by decide +kernel) rfl) pa_nil))))) (pw_or (pt_cmpR op_ne (pe_callB call_len_seq (by rfl) B.len (by decide +kernel) (pa_cons (pv 0) pa_nil)) pe_int (nomark _)) (pw_or1 (pt_not (pt_val (pe_callB (cr_all rfl) (by rfl) B.all (by decide +kernel) (pa_cons (pe_lc (own := [("one", 5)]) (g := (gName 5)) (tt := tYes) (te := (tCall (sp_is_whole K mg) [] E0 (tCons (tVar 5) (tCons (tUn rNegI (tC (.int 50))) (tCons (tC (.int 50)) tNil))))) (hc := rfl) (hN := sc_is_root_number.nd) (hi := (pi_tup (pv 0))) (ok := blkOk_by (N := ["value", "a", "b", "d", "c", "one"]) (sc := (defScope s_is_root_number)) (by decide +kernel)) (hg := fun _ _ _ _ _ => (pg_name (i := 5) sc_is_root_number.nd rfl (Or.inl rfl))) (ht := fun _ _ _ _ _ => pts_nil) (he := fun _ _ _ _ _ => (pe_cl C_is_whole (hr.mono (by decide)) pas0 (pa_cons (pv 5) (pa_cons (pe_un un_neg pe_int) (pa_cons pe_int pa_nil)))))) pa_nil))))))))
        (pss_one (ps_ret pe_bl))
        pss_nil)
        (pss_cons (ps_asg (pv 0) (pg_tup rfl (pgs_cons (pg_name (i := 1) sc_is_root_number.nd rfl (Or.inl rfl)) (pgs_cons (pg_name (i := 2) sc_is_root_number.nd rfl (Or.inl rfl)) (pgs_cons (pg_name (i := 3) sc_is_root_number.nd rfl (Or.inl rfl)) (pgs_cons (pg_name (i := 4) sc_is_root_number.nd rfl (Or.inl rfl)) pgs_nil))))))
        (pss_cons (ps_if (PW.pt (pw_or (pt_not (pt_chain op_le op_le pe_int (pv 3) pe_int)) (pw_or (pt_not (pt_val (pe_cl C_is_free (hr.mono (by decide)) pasE (pa_cons (pv 3) pa_nil)))) (pw_or (pt_cmpR op_eq (pv 2) pe_int (nomark _)) (pw_or1 (pt_cmpR op_lt (pv 4) pe_int (nomark _)))))))
        (pss_one (ps_ret pe_bl))
        pss_nil)
        (pss_one (ps_ret (pe_cmpR op_eq (pe_cl C_divisor (hr.mono (by decide)) pasE (pa_cons (pe_cl C_divisor (hr.mono (by decide)) pasE (pa_cons (pv 1) (pa_cons (pv 2) pa_nil))) (pa_cons (pv 4) pa_nil))) pe_int (nomark _)))))))) pure_is_root_number

theorem sc_need_number : FnScope ["x"] ["x"] (defScope s_need_number) := ⟨rfl, rfl, rfl, by decide +kernel, rfl, by decide +kernel, by decide +kernel⟩
theorem ok_need_number {P : Program} {w : World} {K : PySem.W.Frag} {mg : Str → Option Value} {base : Heap} {f : Addr} {fd : FuncData} (B : Bt mg) (X_InvalidNumber : Xc K mg "InvalidNumber") (C_is_root_number : Cal P w K mg base 2 "is_root_number" ["value"] (sp_is_root_number K mg))
    (F : Fun K "need_number" "need_number" s_need_number f fd) (g : mg "need_number" = some (.ref f)) : Cal P w K mg base 3 "need_number" ["x"] (sp_need_number K mg) :=
  cal_of F g sc_need_number (fun _ _ _ _ _ _ us hl => match us, hl with | [_], _ => rfl) len_need_number (t_need_number P w K mg)
    (fun cdv A outer s H E hr => by
      unfold t_need_number
      exact (pss_one (ps_if (pt_not (pt_val (pe_cl C_is_root_number (hr.mono (by decide)) pasE (pa_cons (pv 0) pa_nil))))
        (pss_one (ps_rs rfl (L2N.takes_of rfl rfl rfl rfl) X_InvalidNumber))
        pss_nil))) pure_need_number

theorem sc_written : FnScope ["x", "a", "b", "d", "c", "sign"] ["x"] (defScope s_written) := ⟨rfl, rfl, rfl, by decide +kernel, rfl, by decide +kernel, by decide +kernel⟩
theorem ok_written {P : Program} {w : World} {K : PySem.W.Frag} {mg : Str → Option Value} {base : Heap} {f : Addr} {fd : FuncData} (B : Bt mg)
    (F : Fun K "written" "written" s_written f fd) (g : mg "written" = some (.ref f)) : Cal P w K mg base 1 "written" ["x"] (sp_written K mg) :=
  cal_of F g sc_written (fun _ _ _ _ _ _ us hl => match us, hl with | [_], _ => rfl) len_written (t_written P w K mg)
    (fun cdv A outer s H E hr => by
      unfold t_written
      exact (pss_cons (ps_asg (pv 0) (pg_tup rfl (pgs_cons (pg_name (i := 1) sc_written.nd rfl (Or.inl rfl)) (pgs_cons (pg_name (i := 2) sc_written.nd rfl (Or.inl rfl)) (pgs_cons (pg_name (i := 3) sc_written.nd rfl (Or.inl rfl)) (pgs_cons (pg_name (i := 4) sc_written.nd rfl (Or.inl rfl)) pgs_nil))))))
        (pss_cons (ps_set (i := 5) sc_written.nd rfl (Or.inl rfl) (pe_ifExp (pt_cmpR op_gt (pv 2) pe_int (nomark _)) pe_str pe_str))
        (pss_one (ps_ret (pe_op op_add_str (pe_op op_add_str (pe_op op_add_str (pe_op op_add_str (pe_op op_add_str (pe_op op_add_str (pe_op op_add_str pe_str (pe_callTy call_str_int (by rfl) B.str (by decide +kernel) (pa_cons (pv 1) pa_nil))) (pv 5)) (pe_callTy call_str_int (by rfl) B.str (by decide +kernel) (pa_cons (pe_callB call_abs (by rfl) B.abs (by decide +kernel) (pa_cons (pv 2) pa_nil)) pa_nil))) pe_str) (pe_callTy call_str_int (by rfl) B.str (by decide +kernel) (pa_cons (pv 3) pa_nil))) pe_str) (pe_callTy call_str_int (by rfl) B.str (by decide +kernel) (pa_cons (pv 4) pa_nil)))))))) pure_written

theorem sc_format_number : FnScope ["x"] ["x"] (defScope s_format_number) := ⟨rfl, rfl, rfl, by decide +kernel, rfl, by decide +kernel, by decide +kernel⟩
theorem ok_format_number {P : Program} {w : World} {K : PySem.W.Frag} {mg : Str → Option Value} {base : Heap} {f : Addr} {fd : FuncData} (B : Bt mg) (C_need_number : Cal P w K mg base 3 "need_number" ["x"] (sp_need_number K mg)) (C_written : Cal P w K mg base 1 "written" ["x"] (sp_written K mg))
    (F : Fun K "format_number" "format_number" s_format_number f fd) (g : mg "format_number" = some (.ref f)) : Cal P w K mg base 4 "format_number" ["x"] (sp_format_number K mg) :=
  cal_of F g sc_format_number (fun _ _ _ _ _ _ us hl => match us, hl with | [_], _ => rfl) len_format_number (t_format_number P w K mg)
    (fun cdv A outer s H E hr => by
      unfold t_format_number
      exact (pss_cons (ps_expr (pe_cl C_need_number (hr.mono (by decide)) pasE (pa_cons (pv 0) pa_nil)))
        (pss_one (ps_ret (pe_cl C_written (hr.mono (by decide)) pasE (pa_cons (pv 0) pa_nil)))))) pure_format_number

theorem sc_number_of : FnScope ["word", "digits", "sign"] ["word"] (defScope s_number_of) := ⟨rfl, rfl, rfl, by decide +kernel, rfl, by decide +kernel, by decide +kernel⟩
theorem ok_number_of {P : Program} {w : World} {K : PySem.W.Frag} {mg : Str → Option Value} {base : Heap} {f : Addr} {fd : FuncData} (B : Bt mg) (X_InvalidText : Xc K mg "InvalidText")
    (F : Fun K "number_of" "number_of" s_number_of f fd) (g : mg "number_of" = some (.ref f)) : Cal P w K mg base 1 "number_of" ["word"] (sp_number_of K mg) :=
  cal_of F g sc_number_of (fun _ _ _ _ _ _ us hl => match us, hl with | [_], _ => rfl) len_number_of (t_number_of P w K mg)
    (fun cdv A outer s H E hr => by
      unfold t_number_of
      exact (pss_cons (ps_set (i := 1) sc_number_of.nd rfl (Or.inl rfl) (pe_ifExp (pt_cmpR op_eq (pe_slice sl_str (pv 0) po_none (po_some pe_int)) pe_str (nomark _)) (pe_slice sl_str (pv 0) (po_some pe_int) po_none) (pv 0)))
        (pss_cons (ps_if (PW.pt (pw_or (pt_not (pt_chain op_le op_le pe_int (pe_callB call_len_str (by rfl) B.len (by decide +kernel) (pa_cons (pv 1) pa_nil)) pe_int)) (pw_or1 (pt_not (pt_val (pe_callB (cr_all rfl) (by rfl) B.all (by decide +kernel) (pa_cons (pe_lc (own := [("sign", 2)]) (g := (gName 2)) (tt := tYes) (te := (tOp rInSg (tVar 2) (tC (.str "0123456789")))) (hc := rfl) (hN := sc_number_of.nd) (hi := (pi_str (pv 1))) (ok := blkOk_by (N := ["word", "digits", "sign"]) (sc := (defScope s_number_of)) (by decide +kernel)) (hg := fun _ _ _ _ _ => (pg_name (i := 2) sc_number_of.nd rfl (Or.inl rfl))) (ht := fun _ _ _ _ _ => pts_nil) (he := fun _ _ _ _ _ => (pe_cmpR op_in_sign (pv 2) pe_str (by rfl)))) pa_nil)))))))
        (pss_one (ps_rs rfl (L2N.takes_of rfl rfl rfl rfl) X_InvalidText))
        pss_nil)
        (pss_one (ps_ret (pe_callTy call_int_str (by rfl) B.int (by decide +kernel) (pa_cons (pv 0) pa_nil))))))) pure_number_of

theorem sc_parse_number : FnScope ["text", "words", "a", "b", "d", "c", "x", "word"] ["text"] (defScope s_parse_number) := ⟨rfl, rfl, rfl, by decide +kernel, rfl, by decide +kernel, by decide +kernel⟩
theorem ok_parse_number {P : Program} {w : World} {K : PySem.W.Frag} {mg : Str → Option Value} {base : Heap} {f : Addr} {fd : FuncData} (B : Bt mg) (X_InvalidText : Xc K mg "InvalidText") (C_is_root_number : Cal P w K mg base 2 "is_root_number" ["value"] (sp_is_root_number K mg)) (C_number_of : Cal P w K mg base 1 "number_of" ["word"] (sp_number_of K mg)) (C_written : Cal P w K mg base 1 "written" ["x"] (sp_written K mg))
    (F : Fun K "parse_number" "parse_number" s_parse_number f fd) (g : mg "parse_number" = some (.ref f)) : Cal P w K mg base 3 "parse_number" ["text"] (sp_parse_number K mg) :=
  cal_of F g sc_parse_number (fun _ _ _ _ _ _ us hl => match us, hl with | [_], _ => rfl) len_parse_number (t_parse_number P w K mg)
    (fun cdv A outer s H E hr => by
      unfold t_parse_number
      exact (pss_cons (ps_if (PW.pt (pw_or (pt_not (pt_val (pe_callB call_isi (by rfl) B.isinstance (by decide +kernel) (pa_cons (pv 0) (pa_cons (pe_bltn (v := .ty "str") rfl B.str (by decide +kernel) rfl) pa_nil))))) (pw_or1 (pt_cmpR op_ne (pe_slice sl_str (pv 0) po_none (po_some pe_int)) pe_str (nomark _)))))
        (pss_one (ps_rs rfl (L2N.takes_of rfl rfl rfl rfl) X_InvalidText))
        pss_nil)
        (pss_cons (ps_set (i := 1) sc_parse_number.nd rfl (Or.inl rfl) (pe_bm PySem.F.plainAttrs_str PySem.F.slot_str_split PySem.F.type_str_split mt_split (pe_ofk (pek_repl (pek_repl (pek_from sl_str (pv 0))))) (pa_cons pe_str pa_nil)))
        (pss_cons (ps_if (PW.pt (pw_or (pt_cmpR op_ne (pe_callB call_len_seq (by rfl) B.len (by decide +kernel) (pa_cons (pv 1) pa_nil)) pe_int (nomark _)) (pw_or1 (pt_cmpR op_notIn_seq (pe_ix ix_list (pv 1) pe_int (fun _ _ => rfl)) (pe_tup (pa_cons pe_str (pa_cons pe_str pa_nil))) (by rfl)))))
        (pss_one (ps_rs rfl (L2N.takes_of rfl rfl rfl rfl) X_InvalidText))
        pss_nil)
        (pss_cons (ps_asg (pe_lcX (E := E) (own := [("word", 7)]) (g := (gName 7)) (te := (tCall (sp_number_of K mg) [] E (tCons (tVar 7) tNil))) (hc := rfl) (hst := rfl) (hfm := rfl) (hpn := rfl) (tk := L2N.takes_of rfl rfl rfl rfl) (hW := fun _ _ _ _ h => h) (hN := sc_parse_number.nd) (hi := (pi_list (pe_op op_cat (pe_slice sl_list (pv 1) po_none (po_some pe_int)) (pe_slice sl_list (pv 1) (po_some pe_int) po_none)))) (ok := blkOk_by (N := ["text", "words", "a", "b", "d", "c", "x", "word"]) (sc := (defScope s_parse_number)) (by decide +kernel)) (hg := fun _ _ _ _ _ _ => (pg_name (i := 7) sc_parse_number.nd rfl (Or.inl rfl))) (he := fun _ _ _ _ _ _ px => (pe_cl C_number_of (hr.mono (by decide)) px (pa_cons (pv 7) pa_nil)))) (pg_lst rfl (pgs_cons (pg_name (i := 2) sc_parse_number.nd rfl (Or.inl rfl)) (pgs_cons (pg_name (i := 3) sc_parse_number.nd rfl (Or.inl rfl)) (pgs_cons (pg_name (i := 4) sc_parse_number.nd rfl (Or.inl rfl)) (pgs_cons (pg_name (i := 5) sc_parse_number.nd rfl (Or.inl rfl)) pgs_nil))))))
        (pss_cons (ps_set (i := 6) sc_parse_number.nd rfl (Or.inl rfl) (pe_tup (pa_cons (pv 2) (pa_cons (pe_ifExp (pt_cmpR op_eq (pe_ix ix_list (pv 1) pe_int (fun _ _ => rfl)) pe_str (nomark _)) (pv 3) (pe_un un_neg (pv 3))) (pa_cons (pv 4) (pa_cons (pv 5) pa_nil))))))
        (pss_cons (ps_if (PW.pt (pw_or (pt_not (pt_val (pe_cl C_is_root_number (hr.mono (by decide)) pasE (pa_cons (pv 6) pa_nil)))) (pw_or1 (pt_cmpR op_ne (pe_cl C_written (hr.mono (by decide)) pasE (pa_cons (pv 6) pa_nil)) (pv 0) (nomark _)))))
        (pss_one (ps_rs rfl (L2N.takes_of rfl rfl rfl rfl) X_InvalidText))
        pss_nil)
        (pss_one (ps_ret (pv 6)))))))))) pure_parse_number

theorem sc__law_cell : FnScope ["script", "k"] ["script", "k"] (defScope s__law_cell) := ⟨rfl, rfl, rfl, by decide +kernel, rfl, by decide +kernel, by decide +kernel⟩
theorem ok__law_cell {P : Program} {w : World} {K : PySem.W.Frag} {mg : Str → Option Value} {base : Heap} {f : Addr} {fd : FuncData} (B : Bt mg)
    (F : Fun K "_law_cell" "_law_cell" s__law_cell f fd) (g : mg "_law_cell" = some (.ref f)) : Cal P w K mg base 1 "_law_cell" ["script", "k"] (sp__law_cell K mg) :=
  cal_of F g sc__law_cell (fun _ _ _ _ _ _ us hl => match us, hl with | [_, _], _ => rfl) len__law_cell (t__law_cell P w K mg)
    (fun cdv A outer s H E hr => by
      unfold t__law_cell
      exact (pss_cons (ps_if (pt_cmpR (op_eqD hr.units) (pv 0) (pe_lst pa_nil) (nomark _))
        (pss_one (ps_ret (pe_op op_mul (pv 1) pe_int)))
        pss_nil)
        (pss_one (ps_ret (pe_op op_add (pe_ix ix_list (pv 0) (pe_op op_mod (pv 1) (pe_callB call_len_seq (by rfl) B.len (by decide +kernel) (pa_cons (pv 0) pa_nil))) (fun _ _ => rfl)) (pe_op op_mul (pe_op op_fdivW (pv 1) (pe_callB call_len_seq (by rfl) B.len (by decide +kernel) (pa_cons (pv 0) pa_nil))) pe_int)))))) pure__law_cell

theorem sc__law_drawn : FnScope ["cell", "k", "more"] ["cell", "k"] (defScope s__law_drawn) := ⟨rfl, rfl, rfl, by decide +kernel, rfl, by decide +kernel, by decide +kernel⟩
theorem ok__law_drawn {P : Program} {w : World} {K : PySem.W.Frag} {mg : Str → Option Value} {base : Heap} {f : Addr} {fd : FuncData} (B : Bt mg)
    (F : Fun K "_law_drawn" "_law_drawn" s__law_drawn f fd) (g : mg "_law_drawn" = some (.ref f)) : Cal P w K mg base 1 "_law_drawn" ["cell", "k"] (sp__law_drawn K mg) :=
  cal_of F g sc__law_drawn (fun _ _ _ _ _ _ us hl => match us, hl with | [_, _], _ => rfl) len__law_drawn (t__law_drawn P w K mg)
    (fun cdv A outer s H E hr => by
      unfold t__law_drawn
      exact (pss_cons (ps_set (i := 2) sc__law_drawn.nd rfl (Or.inl rfl) (pe_op op_mod (pe_op op_add (pe_op op_mul (pv 0) pe_int) (pe_op op_mul (pe_op op_add (pv 1) pe_int) pe_int)) pe_int))
        (pss_cons (ps_set (i := 2) sc__law_drawn.nd rfl (Or.inl rfl) (pe_op op_mod (pe_op op_mulW (pv 2) (pv 2)) pe_int))
        (pss_cons (ps_set (i := 2) sc__law_drawn.nd rfl (Or.inl rfl) (pe_op op_mulW (pe_op op_mulW (pe_op op_add (pe_op op_mod (pv 2) pe_int) pe_int) (pe_op op_add (pe_op op_fdivW (pv 2) pe_int) pe_int)) (pv 2)))
        (pss_one (ps_ret (pe_op op_mod (pv 2) pe_int))))))) pure__law_drawn

theorem sc__law_roll : FnScope ["dice", "many", "told"] ["dice", "many"] (defScope s__law_roll) := ⟨rfl, rfl, rfl, by decide +kernel, rfl, by decide +kernel, by decide +kernel⟩
theorem ok__law_roll {P : Program} {w : World} {K : PySem.W.Frag} {mg : Str → Option Value} {base : Heap} {f : Addr} {fd : FuncData} (B : Bt mg) (C__law_drawn : Cal P w K mg base 1 "_law_drawn" ["cell", "k"] (sp__law_drawn K mg))
    (F : Fun K "_law_roll" "_law_roll" s__law_roll f fd) (g : mg "_law_roll" = some (.ref f)) : Cal P w K mg base 2 "_law_roll" ["dice", "many"] (sp__law_roll K mg) :=
  cal_of F g sc__law_roll (fun _ _ _ _ _ _ us hl => match us, hl with | [_, _], _ => rfl) len__law_roll (t__law_roll P w K mg)
    (fun cdv A outer s H E hr => by
      unfold t__law_roll
      exact (pss_cons (ps_if (pt_cmpR op_ge (pe_ix ix_list (pv 0) pe_int (fun _ _ => rfl)) (pe_op op_pow pe_int pe_int) (nomark _))
        (pss_cons (ps_set (i := 2) sc__law_roll.nd rfl (Or.inl rfl) (pe_op op_mod (pe_ix ix_list (pv 0) pe_int (fun _ _ => rfl)) (pv 1)))
        (pss_cons (ps_asg (pe_op op_fdivW (pe_ix ix_list (pv 0) pe_int (fun _ _ => rfl)) (pv 1)) (pg_sub (pv 0) pe_int set_list))
        (pss_one (ps_ret (pv 2)))))
        pss_nil)
        (pss_cons (ps_asg (pe_op op_add (pe_ix ix_list (pv 0) pe_int (fun _ _ => rfl)) pe_int) (pg_sub (pv 0) pe_int set_list))
        (pss_one (ps_ret (pe_op op_mod (pe_op op_fdivW (pe_cl C__law_drawn (hr.mono (by decide)) pasE (pa_cons (pe_ix ix_list (pv 0) pe_int (fun _ _ => rfl)) (pa_cons (pe_ix ix_list (pv 0) pe_int (fun _ _ => rfl)) pa_nil))) pe_int) (pv 1))))))) pure__law_roll

theorem sc__law_rounds : FnScope ["script", "most", "k"] ["script", "most"] (defScope s__law_rounds) := ⟨rfl, rfl, rfl, by decide +kernel, rfl, by decide +kernel, by decide +kernel⟩
theorem ok__law_rounds {P : Program} {w : World} {K : PySem.W.Frag} {mg : Str → Option Value} {base : Heap} {f : Addr} {fd : FuncData} (B : Bt mg) (C__law_cell : Cal P w K mg base 1 "_law_cell" ["script", "k"] (sp__law_cell K mg))
    (F : Fun K "_law_rounds" "_law_rounds" s__law_rounds f fd) (g : mg "_law_rounds" = some (.ref f)) : Cal P w K mg base 2 "_law_rounds" ["script", "most"] (sp__law_rounds K mg) :=
  cal_of F g sc__law_rounds (fun _ _ _ _ _ _ us hl => match us, hl with | [_, _], _ => rfl) len__law_rounds (t__law_rounds P w K mg)
    (fun cdv A outer s H E hr => by
      unfold t__law_rounds
      exact (pss_one (ps_ret (pe_lc (own := [("k", 2)]) (g := (gName 2)) (tt := tYes) (te := (tLst (tCons (tCall (sp__law_cell K mg) [] E0 (tCons (tVar 0) (tCons (tVar 2) tNil))) (tCons (tC (.int 0)) tNil)))) (hc := rfl) (hN := sc__law_rounds.nd) (hi := (pi_range1 (by rfl) B.range (pa_cons (pe_callB (call_max2 rfl) (by rfl) B.max (by decide +kernel) (pa_cons pe_int (pa_cons (pe_callB (call_min2 rfl) (by rfl) B.min (by decide +kernel) (pa_cons (pv 1) (pa_cons (pe_callB call_len_seq (by rfl) B.len (by decide +kernel) (pa_cons (pv 0) pa_nil)) pa_nil))) pa_nil))) pa_nil))) (ok := blkOk_by (N := ["script", "most", "k"]) (sc := (defScope s__law_rounds)) (by decide +kernel)) (hg := fun _ _ _ _ _ => (pg_name (i := 2) sc__law_rounds.nd rfl (Or.inl rfl))) (ht := fun _ _ _ _ _ => pts_nil) (he := fun _ _ _ _ _ => (pe_lst (pa_cons (pe_cl C__law_cell (hr.mono (by decide)) pas0 (pa_cons (pv 0) (pa_cons (pv 2) pa_nil))) (pa_cons pe_int pa_nil)))))))) pure__law_rounds

theorem sc__law_divisor : FnScope ["one", "other"] ["one", "other"] (defScope s__law_divisor) := ⟨rfl, rfl, rfl, by decide +kernel, rfl, by decide +kernel, by decide +kernel⟩
theorem ok__law_divisor {P : Program} {w : World} {K : PySem.W.Frag} {mg : Str → Option Value} {base : Heap} {f : Addr} {fd : FuncData} (B : Bt mg)
    (F : Fun K "_law_divisor" "_law_divisor" s__law_divisor f fd) (g : mg "_law_divisor" = some (.ref f)) : Cal P w K mg base 1 "_law_divisor" ["one", "other"] (sp__law_divisor K mg) :=
  cal_of F g sc__law_divisor (fun _ _ _ _ _ _ us hl => match us, hl with | [_, _], _ => rfl) len__law_divisor (t__law_divisor P w K mg)
    (fun cdv A outer s H E hr => by
      unfold t__law_divisor
      exact (pss_cons (ps_par (i := 0) (j := 1) rfl sc__law_divisor.nd rfl rfl (by decide) rfl rfl (pa_cons (pe_callB call_abs (by rfl) B.abs (by decide +kernel) (pa_cons (pv 0) pa_nil)) (pa_cons (pe_callB call_abs (by rfl) B.abs (by decide +kernel) (pa_cons (pv 1) pa_nil)) pa_nil)) (by rfl))
        (pss_cons (ps_while (passes_of rfl) (pt_cmpR op_ne (pv 1) pe_int (nomark _))
        (pss_one (ps_par (i := 0) (j := 1) rfl sc__law_divisor.nd rfl rfl (by decide) rfl rfl (pa_cons (pv 1) (pa_cons (pe_op op_mod (pv 0) (pv 1)) pa_nil)) (by rfl))))
        (pss_one (ps_ret (pv 0)))))) pure__law_divisor

theorem sc__law_lowest : FnScope ["a", "b", "d", "c", "common"] ["a", "b", "d", "c"] (defScope s__law_lowest) := ⟨rfl, rfl, rfl, by decide +kernel, rfl, by decide +kernel, by decide +kernel⟩
theorem ok__law_lowest {P : Program} {w : World} {K : PySem.W.Frag} {mg : Str → Option Value} {base : Heap} {f : Addr} {fd : FuncData} (B : Bt mg) (C__law_divisor : Cal P w K mg base 1 "_law_divisor" ["one", "other"] (sp__law_divisor K mg))
    (F : Fun K "_law_lowest" "_law_lowest" s__law_lowest f fd) (g : mg "_law_lowest" = some (.ref f)) : Cal P w K mg base 2 "_law_lowest" ["a", "b", "d", "c"] (sp__law_lowest K mg) :=
  cal_of F g sc__law_lowest (fun _ _ _ _ _ _ us hl => match us, hl with | [_, _, _, _], _ => rfl) len__law_lowest (t__law_lowest P w K mg)
    (fun cdv A outer s H E hr => by
      unfold t__law_lowest
      exact (pss_cons (ps_set (i := 4) sc__law_lowest.nd rfl (Or.inl rfl) (pe_op op_mul (pe_cl C__law_divisor (hr.mono (by decide)) pasE (pa_cons (pe_cl C__law_divisor (hr.mono (by decide)) pasE (pa_cons (pv 0) (pa_cons (pv 1) pa_nil))) (pa_cons (pv 3) pa_nil))) (pe_ifExp (pt_cmpR op_gt (pv 3) pe_int (nomark _)) pe_int (pe_un un_neg pe_int))))
        (pss_one (ps_ret (pe_tup (pa_cons (pe_op op_fdivZ (pv 0) (pv 4)) (pa_cons (pe_op op_fdivZ (pv 1) (pv 4)) (pa_cons (pv 2) (pa_cons (pe_op op_fdivZ (pv 3) (pv 4)) pa_nil))))))))) pure__law_lowest

theorem sc__law_any_number : FnScope ["dice", "d", "high", "a", "b"] ["dice"] (defScope s__law_any_number) := ⟨rfl, rfl, rfl, by decide +kernel, rfl, by decide +kernel, by decide +kernel⟩
theorem ok__law_any_number {P : Program} {w : World} {K : PySem.W.Frag} {mg : Str → Option Value} {base : Heap} {f : Addr} {fd : FuncData} (B : Bt mg) (C__law_lowest : Cal P w K mg base 2 "_law_lowest" ["a", "b", "d", "c"] (sp__law_lowest K mg)) (C__law_roll : Cal P w K mg base 2 "_law_roll" ["dice", "many"] (sp__law_roll K mg))
    (F : Fun K "_law_any_number" "_law_any_number" s__law_any_number f fd) (g : mg "_law_any_number" = some (.ref f)) : Cal P w K mg base 3 "_law_any_number" ["dice"] (sp__law_any_number K mg) :=
  cal_of F g sc__law_any_number (fun _ _ _ _ _ _ us hl => match us, hl with | [_], _ => rfl) len__law_any_number (t__law_any_number P w K mg)
    (fun cdv A outer s H E hr => by
      unfold t__law_any_number
      exact (pss_cons (ps_par (i := 1) (j := 2) rfl sc__law_any_number.nd rfl rfl (by decide) rfl rfl (pa_cons (pe_ix ix_list (pe_lst (pa_cons pe_int (pa_cons pe_int (pa_cons pe_int (pa_cons pe_int (pa_cons pe_int (pa_cons pe_int (pa_cons pe_int (pa_cons pe_int (pa_cons pe_int (pa_cons pe_int pa_nil))))))))))) (pe_cl C__law_roll (hr.mono (by decide)) pasE (pa_cons (pv 0) (pa_cons pe_int pa_nil))) (fun _ _ => rfl)) (pa_cons (pe_ix ix_list (pe_lst (pa_cons pe_int (pa_cons pe_int (pa_cons pe_int pa_nil)))) (pe_cl C__law_roll (hr.mono (by decide)) pasE (pa_cons (pv 0) (pa_cons pe_int pa_nil))) (fun _ _ => rfl)) pa_nil)) (by rfl))
        (pss_cons (ps_par (i := 3) (j := 4) rfl sc__law_any_number.nd rfl rfl (by decide) rfl rfl (pa_cons (pe_op op_sub (pe_cl C__law_roll (hr.mono (by decide)) pasE (pa_cons (pv 0) (pa_cons (pe_op op_add (pe_op op_mul pe_int (pv 2)) pe_int) pa_nil))) (pv 2)) (pa_cons (pe_op op_add pe_int (pe_cl C__law_roll (hr.mono (by decide)) pasE (pa_cons (pv 0) (pa_cons (pv 2) pa_nil)))) pa_nil)) (by rfl))
        (pss_one (ps_ret (pe_cl C__law_lowest (hr.mono (by decide)) pasE (pa_cons (pv 3) (pa_cons (pe_ifExp (pt_cmpR op_eq (pe_cl C__law_roll (hr.mono (by decide)) pasE (pa_cons (pv 0) (pa_cons pe_int pa_nil))) pe_int (nomark _)) (pv 4) (pe_un un_neg (pv 4))) (pa_cons (pv 1) (pa_cons (pe_op op_add pe_int (pe_cl C__law_roll (hr.mono (by decide)) pasE (pa_cons (pv 0) (pa_cons (pv 2) pa_nil)))) pa_nil)))))))))) pure__law_any_number

theorem sc_law : FnScope ["script", "dice", "x", "a", "b", "d", "c", "text", "turn", "at", "sign", "bent", "made", "cases", "bad"] ["script"] (defScope s_law) := ⟨rfl, rfl, rfl, by decide +kernel, rfl, by decide +kernel, by decide +kernel⟩
theorem okf_law {P : Program} {w : World} {K : PySem.W.Frag} {mg : Str → Option Value} {base : Heap} {f c Pt : Addr} {fd : FuncData} (B : Bt mg) (C__law_any_number : Cal P w K mg base 3 "_law_any_number" ["dice"] (sp__law_any_number K mg)) (C__law_roll : Cal P w K mg base 2 "_law_roll" ["dice", "many"] (sp__law_roll K mg)) (C__law_rounds : Cal P w K mg base 2 "_law_rounds" ["script", "most"] (sp__law_rounds K mg)) (C_format_number : Cal P w K mg base 4 "format_number" ["x"] (sp_format_number K mg)) (C_is_root_number : Cal P w K mg base 2 "is_root_number" ["value"] (sp_is_root_number K mg)) (C_parse_number : Cal P w K mg base 3 "parse_number" ["text"] (sp_parse_number K mg))
    (T9 : Tld P w K mg base met) (TB : LamX.TabB base mg c Pt) (F : FunL K "law" s_law f fd c) : FnOk P w K mg base (L2N.CX P w) 8 f fd ["script"] (spLaw K [(Pt, lamQ)]) :=
  fnok_ofL F sc_law len_law (t_law P w K mg [(Pt, lamQ)] met)
    (fun A outer s H E hr => by
      unfold t_law t_body
      exact (pss_cons (ps_for (passes_of rfl) rfl (pi_list (pe_cl C__law_rounds (hr.mono (by decide)) pasE (pa_cons (pv 0) (pa_cons pe_int pa_nil)))) (pg_name (i := 1) sc_law.nd rfl (Or.inl rfl))
        (pss_cons (ps_set (i := 2) sc_law.nd rfl (Or.inl rfl) (pe_cl C__law_any_number (hr.mono (by decide)) pasE (pa_cons (pv 1) pa_nil)))
        (pss_cons (ps_asg (pv 2) (pg_tup rfl (pgs_cons (pg_name (i := 3) sc_law.nd rfl (Or.inl rfl)) (pgs_cons (pg_name (i := 4) sc_law.nd rfl (Or.inl rfl)) (pgs_cons (pg_name (i := 5) sc_law.nd rfl (Or.inl rfl)) (pgs_cons (pg_name (i := 6) sc_law.nd rfl (Or.inl rfl)) pgs_nil))))))
        (pss_cons (ps_set (i := 7) sc_law.nd rfl (Or.inr rfl) (pe_op op_add_str (pe_op op_add_str (pe_op op_add_str (pe_op op_add_str (pe_op op_add_str (pe_op op_add_str (pe_op op_add_str pe_str (pe_callTy call_str_int (by rfl) B.str (by decide +kernel) (pa_cons (pv 3) pa_nil))) (pe_ifExp (pt_cmpR op_gt (pv 4) pe_int (nomark _)) pe_str pe_str)) (pe_callTy call_str_int (by rfl) B.str (by decide +kernel) (pa_cons (pe_callB call_abs (by rfl) B.abs (by decide +kernel) (pa_cons (pv 4) pa_nil)) pa_nil))) pe_str) (pe_callTy call_str_int (by rfl) B.str (by decide +kernel) (pa_cons (pv 5) pa_nil))) pe_str) (pe_callTy call_str_int (by rfl) B.str (by decide +kernel) (pa_cons (pv 6) pa_nil))))
        (pss_cons (ps_if (PW.pt (pw_or (pt_cmpR op_ne (pe_cl C_format_number (hr.mono (by decide)) pasE (pa_cons (pv 2) pa_nil)) (pv 7) (nomark _)) (pw_or1 (pt_cmpR (op_neD hr.units) (pe_told (k := 3) T9 TB rfl List.mem_cons_self (fun p hp _ => by cases List.mem_singleton.mp hp; rfl) (hr.mono (by decide)) (lamS_by (sc := defScope s_law) (by decide +kernel)) (fun A outer s H E f c' hr => (pe_clL C_parse_number (hr.mono (by decide)) (pa_cons (pvL 7) pa_nil)))) (pv 2) (nomark _)))))
        (pss_one (ps_ret pe_bl))
        pss_nil)
        (pss_cons (ps_for (passes_of rfl) rfl (pi_range1 (by rfl) B.range (pa_cons pe_int pa_nil)) (pg_name (i := 8) sc_law.nd rfl (Or.inl rfl))
        (pss_cons (ps_par (i := 9) (j := 10) rfl sc_law.nd rfl rfl (by decide) rfl rfl (pa_cons (pe_cl C__law_roll (hr.mono (by decide)) pasE (pa_cons (pv 1) (pa_cons (pe_op op_add (pe_callB call_len_str (by rfl) B.len (by decide +kernel) (pa_cons (pv 7) pa_nil)) pe_int) pa_nil))) (pa_cons (pe_ix ix_str pe_str (pe_cl C__law_roll (hr.mono (by decide)) pasE (pa_cons (pv 1) (pa_cons pe_int pa_nil))) (fun _ _ => rfl)) pa_nil)) (by rfl))
        (pss_cons (ps_set (i := 11) sc_law.nd rfl (Or.inr rfl) (pe_ix ix_list (pe_lst (pa_cons (pe_op op_add_str (pe_slice sl_str (pv 7) po_none (po_some (pv 9))) (pe_slice sl_str (pv 7) (po_some (pe_op op_add (pv 9) pe_int)) po_none)) (pa_cons (pe_op op_add_str (pe_op op_add_str (pe_slice sl_str (pv 7) po_none (po_some (pv 9))) (pv 10)) (pe_slice sl_str (pv 7) (po_some (pv 9)) po_none)) (pa_cons (pe_op op_add_str (pv 7) (pv 10)) (pa_cons (pe_slice sl_str (pv 7) po_none (po_some (pv 9))) pa_nil))))) (pe_op op_mod (pv 8) pe_int) (fun _ _ => rfl)))
        (pss_cons (ps_set (i := 12) sc_law.nd rfl (Or.inl rfl) (pe_told (k := 3) T9 TB rfl List.mem_cons_self (fun p hp _ => by cases List.mem_singleton.mp hp; rfl) (hr.mono (by decide)) (lamS_by (sc := defScope s_law) (by decide +kernel)) (fun A outer s H E f c' hr => (pe_clL C_parse_number (hr.mono (by decide)) (pa_cons (pvL 11) pa_nil)))))
        (pss_one (ps_if (pt_cmpR (op_neD hr.units) (pv 12) (pe_tup (pa_cons pe_str (pa_cons pe_str pa_nil))) (nomark _))
        (pss_one (ps_if (PW.pt (pw_or (pt_not (pt_val (pe_cl C_is_root_number (hr.mono (by decide)) pasE (pa_cons (pv 12) pa_nil)))) (pw_or1 (pt_cmpR op_ne (pe_cl C_format_number (hr.mono (by decide)) pasE (pa_cons (pv 12) pa_nil)) (pv 11) (nomark _)))))
        (pss_one (ps_ret pe_bl))
        pss_nil))
        pss_nil))))))
        (pss_cons (ps_set (i := 13) sc_law.nd rfl (Or.inl rfl) (pe_lst (pa_cons pe_str (pa_cons pe_non (pa_cons pe_int (pa_cons pe_str (pa_cons pe_str (pa_cons pe_str pa_nil))))))))
        (pss_cons (ps_set (i := 13) sc_law.nd rfl (Or.inl rfl) (pe_op op_cat (pv 13) (pe_lst (pa_cons pe_str (pa_cons pe_str (pa_cons (pe_lst (pa_cons (pv 7) pa_nil)) pa_nil))))))
        (pss_cons (ps_for (passes_of rfl) rfl (pi_list (pv 13)) (pg_name (i := 14) sc_law.nd rfl (Or.inr rfl))
        (pss_one (ps_if (pt_cmpR (op_neD hr.units) (pe_told (k := 3) T9 TB rfl List.mem_cons_self (fun p hp _ => by cases List.mem_singleton.mp hp; rfl) (hr.mono (by decide)) (lamS_by (sc := defScope s_law) (by decide +kernel)) (fun A outer s H E f c' hr => (pe_clL C_parse_number (hr.mono (by decide)) (pa_cons (pvL 14) pa_nil)))) (pe_tup (pa_cons pe_str (pa_cons pe_str pa_nil))) (nomark _))
        (pss_one (ps_ret pe_bl))
        pss_nil)))
        (pss_cons (ps_set (i := 13) sc_law.nd rfl (Or.inl rfl) (pe_lst (pa_cons pe_str (pa_cons pe_str (pa_cons pe_str (pa_cons pe_str pa_nil))))))
        (pss_cons (ps_set (i := 13) sc_law.nd rfl (Or.inl rfl) (pe_op op_cat (pv 13) (pe_lst (pa_cons pe_str (pa_cons pe_str pa_nil)))))
        (pss_one (ps_for (passes_of rfl) rfl (pi_list (pv 13)) (pg_name (i := 14) sc_law.nd rfl (Or.inr rfl))
        (pss_one (ps_if (pt_cmpR (op_neD hr.units) (pe_told (k := 3) T9 TB rfl List.mem_cons_self (fun p hp _ => by cases List.mem_singleton.mp hp; rfl) (hr.mono (by decide)) (lamS_by (sc := defScope s_law) (by decide +kernel)) (fun A outer s H E f c' hr => (pe_clL C_parse_number (hr.mono (by decide)) (pa_cons (pvL 14) pa_nil)))) (pe_tup (pa_cons pe_str (pa_cons pe_str pa_nil))) (nomark _))
        (pss_one (ps_ret pe_bl))
        pss_nil)))))))))))))))
        (pss_one (ps_ret pe_bl)))) pure_law

theorem sc__law_term : FnScope ["e", "flags", "kinds", "flag"] ["e"] (defScope s__law_term) := ⟨rfl, rfl, rfl, by decide +kernel, rfl, by decide +kernel, by decide +kernel⟩
theorem dv__law_term {CX : CXT} {P : Program} {w : World} {K : PySem.W.Frag} {mg : Str → Option Value} {base : Heap} {f : Addr} {cdv : Value} {A : Around} {outer : List Env} {s : Shared} {H : Hp} {E : XK} {a D : Addr} {oe : Obj} (B : Bt mg) (G9 : ∀ y ∈ nine, ∃ C : Addr, mg y = some (.ref C))
    (hC : ExcC K D) (hz : Zc (.ref D) none oe) (hf : ∃ vs, oe.data = .fields vs) (hp : (a, oe) ∈ (cxH CX P w K mg base ["e", "flags", "kinds", "flag"] "_law_term" (defScope s__law_term) f cdv A outer s H E (a, oe)).pn) (hc : HotC (cxH CX P w K mg base ["e", "flags", "kinds", "flag"] "_law_term" (defScope s__law_term) f cdv A outer s H E (a, oe))) :
    PSs (cxH CX P w K mg base ["e", "flags", "kinds", "flag"] "_law_term" (defScope s__law_term) f cdv A outer s H E (a, oe)) (defBody s__law_term) (t__law_term K mg D a) := by
  have X_InvalidCount := G9 "InvalidCount" (by decide)
  have X_InvalidHeap := G9 "InvalidHeap" (by decide)
  have X_InvalidNumber := G9 "InvalidNumber" (by decide)
  have X_InvalidNumeral := G9 "InvalidNumeral" (by decide)
  have X_InvalidRule := G9 "InvalidRule" (by decide)
  have X_InvalidText := G9 "InvalidText" (by decide)
  have X_NoPlace := G9 "NoPlace" (by decide)
  have X_NothingToUndo := G9 "NothingToUndo" (by decide)
  have X_Unlike := G9 "Unlike" (by decide)
  unfold t__law_term
  exact (pss_cons (ps_set (i := 1) sc__law_term.nd rfl (Or.inl rfl) (pe_lst (pa_cons (pe_callB (call_isP hp hC hz hf) (by rfl) B.isinstance (by decide +kernel) (pa_cons (pv 0) (pa_cons (pe_cv X_InvalidNumber) pa_nil))) (pa_cons (pe_callB (call_isP hp hC hz hf) (by rfl) B.isinstance (by decide +kernel) (pa_cons (pv 0) (pa_cons (pe_cv X_InvalidCount) pa_nil))) (pa_cons (pe_callB (call_isP hp hC hz hf) (by rfl) B.isinstance (by decide +kernel) (pa_cons (pv 0) (pa_cons (pe_cv X_InvalidNumeral) pa_nil))) pa_nil)))))
      (pss_cons (ps_set (i := 1) sc__law_term.nd rfl (Or.inl rfl) (pe_op op_cat (pv 1) (pe_lst (pa_cons (pe_callB (call_isP hp hC hz hf) (by rfl) B.isinstance (by decide +kernel) (pa_cons (pv 0) (pa_cons (pe_cv X_InvalidRule) pa_nil))) (pa_cons (pe_callB (call_isP hp hC hz hf) (by rfl) B.isinstance (by decide +kernel) (pa_cons (pv 0) (pa_cons (pe_cv X_InvalidHeap) pa_nil))) (pa_cons (pe_callB (call_isP hp hC hz hf) (by rfl) B.isinstance (by decide +kernel) (pa_cons (pv 0) (pa_cons (pe_cv X_InvalidText) pa_nil))) pa_nil))))))
      (pss_cons (ps_set (i := 1) sc__law_term.nd rfl (Or.inl rfl) (pe_op op_cat (pv 1) (pe_lst (pa_cons (pe_callB (call_isP hp hC hz hf) (by rfl) B.isinstance (by decide +kernel) (pa_cons (pv 0) (pa_cons (pe_cv X_Unlike) pa_nil))) (pa_cons (pe_callB (call_isP hp hC hz hf) (by rfl) B.isinstance (by decide +kernel) (pa_cons (pv 0) (pa_cons (pe_cv X_NoPlace) pa_nil))) (pa_cons (pe_callB (call_isP hp hC hz hf) (by rfl) B.isinstance (by decide +kernel) (pa_cons (pv 0) (pa_cons (pe_cv X_NothingToUndo) pa_nil))) pa_nil))))))
      (pss_cons (ps_set (i := 2) sc__law_term.nd rfl (Or.inl rfl) (pe_lst (pa_cons pe_str (pa_cons pe_str (pa_cons pe_str (pa_cons pe_str (pa_cons pe_str (pa_cons pe_str pa_nil))))))))
      (pss_cons (ps_set (i := 2) sc__law_term.nd rfl (Or.inl rfl) (pe_op op_cat (pv 2) (pe_lst (pa_cons pe_str (pa_cons pe_str (pa_cons pe_str pa_nil))))))
      (pss_cons (ps_if (PW.pt (pw_or (pt_cmpR op_ne (pe_callB (cr_sumH hc) (by rfl) B.sum (by decide +kernel) (pa_cons (pe_lcH (own := [("flag", 3)]) (g := (gName 3)) (te := (tCB rInt1 (tCons (tVar 3) tNil))) (hc := hc) (hN := sc__law_term.nd) (hi := (pi_listH (pv 1))) (ok := blkOk_by (N := ["e", "flags", "kinds", "flag"]) (sc := (defScope s__law_term)) (by decide +kernel)) (hg := fun _ _ _ _ _ => (pg_name (i := 3) sc__law_term.nd rfl (Or.inl rfl))) (he := fun _ _ _ _ _ => (pe_callTy call_int1 (by rfl) B.int (by decide +kernel) (pa_cons (pv 3) pa_nil)))) pa_nil)) pe_int (nomark _)) (pw_or1 (pt_not (pt_val (pe_callB (call_isP hp hC hz hf) (by rfl) B.isinstance (by decide +kernel) (pa_cons (pv 0) (pa_cons (pe_bltn (v := .ty "ValueError") rfl B.ValueError (by decide +kernel) rfl) pa_nil))))))))
      (pss_one (ps_ret (pe_tup (pa_cons pe_str (pa_cons pe_str pa_nil)))))
      pss_nil)
      (pss_one (ps_ret (pe_tup (pa_cons pe_str (pa_cons (pe_ix ix_list (pv 2) (pe_bm PySem.F.plainAttrs_list PySem.F.slot_list_index PySem.F.type_list_index mt_index (pv 1) (pa_cons pe_bl pa_nil)) (fun _ _ => rfl)) pa_nil)))))))))))

theorem sc__law_told : FnScope ["deed", "e"] ["deed"] (defScope s__law_told) := ⟨rfl, rfl, rfl, by decide +kernel, rfl, by decide +kernel, by decide +kernel⟩
theorem tld_mk {P : Program} {w : World} {K : PySem.W.Frag} {mg : Str → Option Value} {h : Heap} {Cs : List Addr} {R : Addr} (KX : K.In h) (G : h.Ns mainGlobals mg) (B : Bt mg) (N : N9 K Cs) (hR : PySem.W.nsIn K mainGlobals "RowError" = some (some (.ref R)))
    (Ft : Fx K "_law_told" s__law_told) (Fm : Fx K "_law_term" s__law_term) (hx : ∀ x ∈ met, x ∈ nine ∧ Xt K mg x) (base : Heap) : Tld P w K mg base met := by
  obtain ⟨f, fd, a, F⟩ := Ft.ex
  obtain ⟨f2, fd2, a2, F2⟩ := Fm.ex
  exact ⟨⟨f, fd, s__law_told, F, PySem.W.mg_of KX G a, sc__law_told, F.binds (fun _ _ _ _ _ _ us hl => match us, hl with | [_], _ => rfl), rfl, rfl, rfl, rfl, _, _, _, _, _, _, _, _, _, _, rfl⟩,
    ⟨f2, fd2, s__law_term, F2, PySem.W.mg_of KX G a2, sc__law_term, F2.binds (fun _ _ _ _ _ _ us hl => match us, hl with | [_], _ => rfl), fun hC hz hf hp hc => dv__law_term B (n9_all KX G N) hC hz hf hp hc⟩, hx, R, PySem.W.mg_of KX G hR⟩
theorem all_mk {P : Program} {w : World} {K : PySem.W.Frag} {h : Heap} {mg : Str → Option Value} {fa c Pt : Addr} (KX : K.In h) (G : h.Ns mainGlobals mg) (hfa : mg "law" = some (.ref fa)) (B : Bt mg)
    (X_InvalidNumber : Xc K mg "InvalidNumber")
    (X_InvalidText : Xc K mg "InvalidText")
    (F_is_whole : Fx K "is_whole" s_is_whole)
    (F_divisor : Fx K "divisor" s_divisor)
    (F_is_free : Fx K "is_free" s_is_free)
    (F_is_root_number : Fx K "is_root_number" s_is_root_number)
    (F_need_number : Fx K "need_number" s_need_number)
    (F_written : Fx K "written" s_written)
    (F_format_number : Fx K "format_number" s_format_number)
    (F_number_of : Fx K "number_of" s_number_of)
    (F_parse_number : Fx K "parse_number" s_parse_number)
    (F__law_cell : Fx K "_law_cell" s__law_cell)
    (F__law_drawn : Fx K "_law_drawn" s__law_drawn)
    (F__law_roll : Fx K "_law_roll" s__law_roll)
    (F__law_rounds : Fx K "_law_rounds" s__law_rounds)
    (F__law_divisor : Fx K "_law_divisor" s__law_divisor)
    (F__law_lowest : Fx K "_law_lowest" s__law_lowest)
    (F__law_any_number : Fx K "_law_any_number" s__law_any_number)
    (F_law : FxL K "law" s_law c) (T9 : ∀ base : Heap, Tld P w K mg base met)
    : ∃ fd : FuncData, (∀ (s : Shared) (v : Value), BindsTo s fd ⟨[v], []⟩ [("script", v)]) ∧ ∀ base : Heap, LamX.TabB base mg c Pt → FnOk P w K mg base (L2N.CX P w) 8 fa fd ["script"] (spLaw K [(Pt, lamQ)]) := by
  obtain ⟨f_is_whole, fd_is_whole, a_is_whole, F_is_whole⟩ := F_is_whole.ex
  obtain ⟨f_divisor, fd_divisor, a_divisor, F_divisor⟩ := F_divisor.ex
  obtain ⟨f_is_free, fd_is_free, a_is_free, F_is_free⟩ := F_is_free.ex
  obtain ⟨f_is_root_number, fd_is_root_number, a_is_root_number, F_is_root_number⟩ := F_is_root_number.ex
  obtain ⟨f_need_number, fd_need_number, a_need_number, F_need_number⟩ := F_need_number.ex
  obtain ⟨f_written, fd_written, a_written, F_written⟩ := F_written.ex
  obtain ⟨f_format_number, fd_format_number, a_format_number, F_format_number⟩ := F_format_number.ex
  obtain ⟨f_number_of, fd_number_of, a_number_of, F_number_of⟩ := F_number_of.ex
  obtain ⟨f_parse_number, fd_parse_number, a_parse_number, F_parse_number⟩ := F_parse_number.ex
  obtain ⟨f__law_cell, fd__law_cell, a__law_cell, F__law_cell⟩ := F__law_cell.ex
  obtain ⟨f__law_drawn, fd__law_drawn, a__law_drawn, F__law_drawn⟩ := F__law_drawn.ex
  obtain ⟨f__law_roll, fd__law_roll, a__law_roll, F__law_roll⟩ := F__law_roll.ex
  obtain ⟨f__law_rounds, fd__law_rounds, a__law_rounds, F__law_rounds⟩ := F__law_rounds.ex
  obtain ⟨f__law_divisor, fd__law_divisor, a__law_divisor, F__law_divisor⟩ := F__law_divisor.ex
  obtain ⟨f__law_lowest, fd__law_lowest, a__law_lowest, F__law_lowest⟩ := F__law_lowest.ex
  obtain ⟨f__law_any_number, fd__law_any_number, a__law_any_number, F__law_any_number⟩ := F__law_any_number.ex
  obtain ⟨f_law, fd_law, a_law, F_law⟩ := F_law.ex
  have e := hfa.symm.trans (PySem.W.mg_of KX G a_law)
  cases e
  refine ⟨fd_law, fun s v => ?_, fun base TB => ?_⟩
  · obtain ⟨oc, od, kV, doc, pm, an, ct, osl, e, lk, hcd⟩ := F_law.ex
    subst e
    exact .of_eq rfl
  have C_is_whole := ok_is_whole (P := P) (w := w) (base := base) B F_is_whole (PySem.W.mg_of KX G a_is_whole)
  have C_divisor := ok_divisor (P := P) (w := w) (base := base) B F_divisor (PySem.W.mg_of KX G a_divisor)
  have C_is_free := ok_is_free (P := P) (w := w) (base := base) B F_is_free (PySem.W.mg_of KX G a_is_free)
  have C_is_root_number := ok_is_root_number (P := P) (w := w) (base := base) B C_divisor C_is_free C_is_whole F_is_root_number (PySem.W.mg_of KX G a_is_root_number)
  have C_need_number := ok_need_number (P := P) (w := w) (base := base) B X_InvalidNumber C_is_root_number F_need_number (PySem.W.mg_of KX G a_need_number)
  have C_written := ok_written (P := P) (w := w) (base := base) B F_written (PySem.W.mg_of KX G a_written)
  have C_format_number := ok_format_number (P := P) (w := w) (base := base) B C_need_number C_written F_format_number (PySem.W.mg_of KX G a_format_number)
  have C_number_of := ok_number_of (P := P) (w := w) (base := base) B X_InvalidText F_number_of (PySem.W.mg_of KX G a_number_of)
  have C_parse_number := ok_parse_number (P := P) (w := w) (base := base) B X_InvalidText C_is_root_number C_number_of C_written F_parse_number (PySem.W.mg_of KX G a_parse_number)
  have C__law_cell := ok__law_cell (P := P) (w := w) (base := base) B F__law_cell (PySem.W.mg_of KX G a__law_cell)
  have C__law_drawn := ok__law_drawn (P := P) (w := w) (base := base) B F__law_drawn (PySem.W.mg_of KX G a__law_drawn)
  have C__law_roll := ok__law_roll (P := P) (w := w) (base := base) B C__law_drawn F__law_roll (PySem.W.mg_of KX G a__law_roll)
  have C__law_rounds := ok__law_rounds (P := P) (w := w) (base := base) B C__law_cell F__law_rounds (PySem.W.mg_of KX G a__law_rounds)
  have C__law_divisor := ok__law_divisor (P := P) (w := w) (base := base) B F__law_divisor (PySem.W.mg_of KX G a__law_divisor)
  have C__law_lowest := ok__law_lowest (P := P) (w := w) (base := base) B C__law_divisor F__law_lowest (PySem.W.mg_of KX G a__law_lowest)
  have C__law_any_number := ok__law_any_number (P := P) (w := w) (base := base) B C__law_lowest C__law_roll F__law_any_number (PySem.W.mg_of KX G a__law_any_number)
  exact okf_law (P := P) (w := w) (base := base) B C__law_any_number C__law_roll C__law_rounds C_format_number C_is_root_number C_parse_number (T9 base) TB F_law
theorem law_end {w : World} {K : PySem.W.Frag} {h : Heap} {mg : Str → Option Value} {fa c Pt R : Addr} {Cs : List Addr} (hT : h.get? Pt = some { cls := .none, data := .fields #[] }) (KX : K.In h) (G : h.Ns mainGlobals mg) (hfa : mg "law" = some (.ref fa)) (B : Bt mg)
    (X_InvalidNumber : Xc K mg "InvalidNumber")
    (X_InvalidText : Xc K mg "InvalidText")
    (F_is_whole : Fx K "is_whole" s_is_whole)
    (F_divisor : Fx K "divisor" s_divisor)
    (F_is_free : Fx K "is_free" s_is_free)
    (F_is_root_number : Fx K "is_root_number" s_is_root_number)
    (F_need_number : Fx K "need_number" s_need_number)
    (F_written : Fx K "written" s_written)
    (F_format_number : Fx K "format_number" s_format_number)
    (F_number_of : Fx K "number_of" s_number_of)
    (F_parse_number : Fx K "parse_number" s_parse_number)
    (F__law_cell : Fx K "_law_cell" s__law_cell)
    (F__law_drawn : Fx K "_law_drawn" s__law_drawn)
    (F__law_roll : Fx K "_law_roll" s__law_roll)
    (F__law_rounds : Fx K "_law_rounds" s__law_rounds)
    (F__law_divisor : Fx K "_law_divisor" s__law_divisor)
    (F__law_lowest : Fx K "_law_lowest" s__law_lowest)
    (F__law_any_number : Fx K "_law_any_number" s__law_any_number)
    (F_law : FxL K "law" s_law c) (Ft : Fx K "_law_told" s__law_told) (Fm : Fx K "_law_term" s__law_term) (N : N9 K Cs) (hR : PySem.W.nsIn K mainGlobals "RowError" = some (some (.ref R)))
    {D_InvalidText : Addr} (d_InvalidText : PySem.W.nsIn K mainGlobals "InvalidText" = some (some (.ref D_InvalidText))) (x_InvalidText : XtF K Cs R D_InvalidText "InvalidText")
    (nT : K.lookup Pt = none) (hc : PySem.W.codeHdIn K c Pt = true) : LamX.LawAtS PySem.Challenge.rw_floorrows_k20_whole_texts w K (L2N.CX (PySem.Challenge.rw_floorrows_k20_whole_texts).prog w) 8 63 "script" mg fa h := by
  have hmet : ∀ x ∈ met, x ∈ nine ∧ Xt K mg x := fun x hx => by
    rcases List.mem_cons.mp hx with rfl | hx
    · exact ⟨by decide, xt_mk KX G N hR d_InvalidText x_InvalidText⟩
    cases hx
  obtain ⟨fd, hb, F⟩ := all_mk (P := (PySem.Challenge.rw_floorrows_k20_whole_texts).prog) (w := w) (Pt := Pt) KX G hfa B  X_InvalidNumber X_InvalidText F_is_whole F_divisor F_is_free F_is_root_number F_need_number F_written F_format_number F_number_of F_parse_number F__law_cell F__law_drawn F__law_roll F__law_rounds F__law_divisor F__law_lowest F__law_any_number F_law (tld_mk KX G B N hR Ft Fm hmet)
  · refine ⟨fd, [(c, Pt)], spLaw K [(Pt, lamQ)], fun p hp => ?_, fun p hp => ?_, fun p hp => ?_, hb, fun H a ns hl _ hH hS => ?_, fun base _ _ TB => F base (TB _ List.mem_cons_self)⟩
    · cases List.mem_singleton.mp hp; exact hT
    · cases List.mem_singleton.mp hp; exact nT
    · cases List.mem_singleton.mp hp; exact PySem.W.codeHd_of_K KX hc
    · exact ⟨a, ns, rfl, hl, hS, tabs0 (hH _ List.mem_cons_self), fun _ => rfl⟩
end Fl
open PySem PySem.W PyProof.Rows
set_option maxRecDepth 100000 in
set_option maxHeartbeats 0 in
theorem PySem.Challenge.cw_floorrows_k20_whole_texts_holds : PySem.Challenge.rw_floorrows_k20_whole_texts.Holds := by
  w_on; o_law; k_head; (case hw => w_witness2)
  k_fill
  refine LamX.walk_ofTs (l := PySem.Challenge.rw_floorrows_k20_whole_texts) (n := 63) (k := 8) (x := "script") (CX := fun w => L2N.CX (PySem.Challenge.rw_floorrows_k20_whole_texts).prog w) rfl (by decide) rfl ⟨rfl, by decide, by decide⟩ (fun w h Y => PySem.W.km_in_of Y) ?F (fun w H s e s' h => Fl.cx_false h)
  case F =>
    intro w mg fa h Y KX G hmg
    refine' Fl.law_end (PySem.W.km_tabs_of Y _ List.mem_cons_self) KX G hmg ⟨PySem.W.mg_none_of KX G ?b_len, PySem.W.mg_none_of KX G ?b_abs, PySem.W.mg_none_of KX G ?b_isinstance, PySem.W.mg_none_of KX G ?b_int, PySem.W.mg_none_of KX G ?b_bool, PySem.W.mg_none_of KX G ?b_tuple, PySem.W.mg_none_of KX G ?b_str, PySem.W.mg_none_of KX G ?b_list, PySem.W.mg_none_of KX G ?b_set, PySem.W.mg_none_of KX G ?b_all, PySem.W.mg_none_of KX G ?b_any, PySem.W.mg_none_of KX G ?b_range, PySem.W.mg_none_of KX G ?b_max, PySem.W.mg_none_of KX G ?b_min, PySem.W.mg_none_of KX G ?b_sum, PySem.W.mg_none_of KX G ?b_sorted, PySem.W.mg_none_of KX G ?b_enumerate, PySem.W.mg_none_of KX G ?b_reversed, PySem.W.mg_none_of KX G ?b_ValueError⟩  (Fl.xc_mk KX G ?xa_InvalidNumber ?xq_InvalidNumber ?xk_InvalidNumber ?xb_InvalidNumber ?xt_InvalidNumber) (Fl.xc_mk KX G ?xa_InvalidText ?xq_InvalidText ?xk_InvalidText ?xb_InvalidText ?xt_InvalidText) (Fl.fx_mk ?a_is_whole ?l_is_whole ?c_is_whole ?k_is_whole) (Fl.fx_mk ?a_divisor ?l_divisor ?c_divisor ?k_divisor) (Fl.fx_mk ?a_is_free ?l_is_free ?c_is_free ?k_is_free) (Fl.fx_mk ?a_is_root_number ?l_is_root_number ?c_is_root_number ?k_is_root_number) (Fl.fx_mk ?a_need_number ?l_need_number ?c_need_number ?k_need_number) (Fl.fx_mk ?a_written ?l_written ?c_written ?k_written) (Fl.fx_mk ?a_format_number ?l_format_number ?c_format_number ?k_format_number) (Fl.fx_mk ?a_number_of ?l_number_of ?c_number_of ?k_number_of) (Fl.fx_mk ?a_parse_number ?l_parse_number ?c_parse_number ?k_parse_number) (Fl.fx_mk ?a__law_cell ?l__law_cell ?c__law_cell ?k__law_cell) (Fl.fx_mk ?a__law_drawn ?l__law_drawn ?c__law_drawn ?k__law_drawn) (Fl.fx_mk ?a__law_roll ?l__law_roll ?c__law_roll ?k__law_roll) (Fl.fx_mk ?a__law_rounds ?l__law_rounds ?c__law_rounds ?k__law_rounds) (Fl.fx_mk ?a__law_divisor ?l__law_divisor ?c__law_divisor ?k__law_divisor) (Fl.fx_mk ?a__law_lowest ?l__law_lowest ?c__law_lowest ?k__law_lowest) (Fl.fx_mk ?a__law_any_number ?l__law_any_number ?c__law_any_number ?k__law_any_number) (Fl.fxl_mk ?a_law ?l_law ?c_law) (Fl.fx_mk ?a__law_told ?l__law_told ?c__law_told ?k__law_told) (Fl.fx_mk ?a__law_term ?l__law_term ?c__law_term ?k__law_term) (Fl.n9_mk ?n_InvalidNumber ?n_InvalidCount ?n_InvalidNumeral ?n_InvalidRule ?n_InvalidHeap ?n_InvalidText ?n_Unlike ?n_NoPlace ?n_NothingToUndo) ?q_R ?d_InvalidText ⟨⟨?e0_InvalidText, ?e1_InvalidText, ?e2_InvalidText, ?e3_InvalidText, ?e4_InvalidText, ?e5_InvalidText, ?e6_InvalidText, ?e7_InvalidText⟩, ?fl_InvalidText, ?fv_InvalidText, ?fr_InvalidText⟩ ?q_T ?q_c 
    (case b_len => k_is); (case b_abs => k_is); (case b_isinstance => k_is); (case b_int => k_is); (case b_bool => k_is); (case b_tuple => k_is); (case b_str => k_is); (case b_list => k_is); (case b_set => k_is); (case b_all => k_is); (case b_any => k_is); (case b_range => k_is); (case b_max => k_is); (case b_min => k_is); (case b_sum => k_is); (case b_sorted => k_is); (case b_enumerate => k_is); (case b_reversed => k_is); (case b_ValueError => k_is)
    (case xa_InvalidNumber => k_is); (case xq_InvalidNumber => k_exc); (case xk_InvalidNumber => k_is); (case xb_InvalidNumber => k_is); (case xt_InvalidNumber => k_is)
    (case xa_InvalidText => k_is); (case xq_InvalidText => k_exc); (case xk_InvalidText => k_is); (case xb_InvalidText => k_is); (case xt_InvalidText => k_is)
    (case a_is_whole => k_is); (case l_is_whole => k_is); (case c_is_whole => k_is); (case k_is_whole => k_is)
    (case a_divisor => k_is); (case l_divisor => k_is); (case c_divisor => k_is); (case k_divisor => k_is)
    (case a_is_free => k_is); (case l_is_free => k_is); (case c_is_free => k_is); (case k_is_free => k_is)
    (case a_is_root_number => k_is); (case l_is_root_number => k_is); (case c_is_root_number => k_is); (case k_is_root_number => k_is)
    (case a_need_number => k_is); (case l_need_number => k_is); (case c_need_number => k_is); (case k_need_number => k_is)
    (case a_written => k_is); (case l_written => k_is); (case c_written => k_is); (case k_written => k_is)
    (case a_format_number => k_is); (case l_format_number => k_is); (case c_format_number => k_is); (case k_format_number => k_is)
    (case a_number_of => k_is); (case l_number_of => k_is); (case c_number_of => k_is); (case k_number_of => k_is)
    (case a_parse_number => k_is); (case l_parse_number => k_is); (case c_parse_number => k_is); (case k_parse_number => k_is)
    (case a__law_cell => k_is); (case l__law_cell => k_is); (case c__law_cell => k_is); (case k__law_cell => k_is)
    (case a__law_drawn => k_is); (case l__law_drawn => k_is); (case c__law_drawn => k_is); (case k__law_drawn => k_is)
    (case a__law_roll => k_is); (case l__law_roll => k_is); (case c__law_roll => k_is); (case k__law_roll => k_is)
    (case a__law_rounds => k_is); (case l__law_rounds => k_is); (case c__law_rounds => k_is); (case k__law_rounds => k_is)
    (case a__law_divisor => k_is); (case l__law_divisor => k_is); (case c__law_divisor => k_is); (case k__law_divisor => k_is)
    (case a__law_lowest => k_is); (case l__law_lowest => k_is); (case c__law_lowest => k_is); (case k__law_lowest => k_is)
    (case a__law_any_number => k_is); (case l__law_any_number => k_is); (case c__law_any_number => k_is); (case k__law_any_number => k_is)
    (case a__law_told => k_is); (case l__law_told => k_is); (case c__law_told => k_is); (case k__law_told => k_is)
    (case a__law_term => k_is); (case l__law_term => k_is); (case c__law_term => k_is); (case k__law_term => k_is)
    (case a_law => k_is); (case l_law => k_is); (case c_law => k_is); (case q_R => k_is)
    (case n_InvalidNumber => k_is); (case n_InvalidCount => k_is); (case n_InvalidNumeral => k_is); (case n_InvalidRule => k_is); (case n_InvalidHeap => k_is); (case n_InvalidText => k_is); (case n_Unlike => k_is); (case n_NoPlace => k_is); (case n_NothingToUndo => k_is)
    (case d_InvalidText => k_is); (case e0_InvalidText => kernel_rfl); (case e1_InvalidText => kernel_rfl); (case e2_InvalidText => kernel_rfl); (case e3_InvalidText => kernel_rfl); (case e4_InvalidText => kernel_rfl); (case e5_InvalidText => kernel_rfl); (case e6_InvalidText => kernel_rfl); (case e7_InvalidText => kernel_rfl); (case fl_InvalidText => kernel_rfl); (case fv_InvalidText => kernel_rfl); (case fr_InvalidText => kernel_rfl)
    (case q_T => kernel_rfl); (case q_c => kernel_rfl)

