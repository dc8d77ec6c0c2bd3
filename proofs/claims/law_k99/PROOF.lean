import PyProof.Rows.All
import Wide.All
import OpenK.AllK
import Wide.FinOn
import KE.KStateDown
import HandS.ForMost
import HandS.IsInst
import HandS.Property
import HandS.Head0
import HandS.Head1
import HandS.Head2
import HandS.HeadEnd
import HandS.HeadHook1
import HandS.HeadHook2
import HandS.HeadHook3
import HandS.HeadHook4
import KE.KSuper
import PySem.Challenge.RW_paintposts_k99_whole_rings_moved_mirrore
import HandS.Star
import KE.DatumOrd
import HandS.SortKw
import HandS.Conv
import PyProof.ReprRoads
import PyProof.ReprBulk
import HandS.Wide
import HandS.WideBits
import HandS.Style
import HandS.Nested
import HandS.Iter
import HandS.Walk
import KE.GoesEnum
import HandS.Comp
import HandS.Text
import HandS.Dict
import HandS.DictComp
import HandS.EndBits
import HandS.HeadWalk
section
/-! Plain law of the ring: numbers. -/
namespace Rg
/-- the greatest common divisor, as a number -/
def gd (a b : Int) : Int := (Int.gcd a b : Nat)
theorem gd_comm (a b : Int) : gd a b = gd b a := by unfold gd; rw [Int.gcd_comm]
theorem gd_l (a b : Int) : gd a b ∣ a := Int.gcd_dvd_left a b
theorem gd_r (a b : Int) : gd a b ∣ b := Int.gcd_dvd_right a b
theorem gd_of {a b c : Int} (h : c ∣ a) (k : c ∣ b) : c ∣ gd a b := Int.dvd_coe_gcd h k
theorem gd_nn (a b : Int) : 0 ≤ gd a b := Int.natCast_nonneg _
theorem gd_pos {a b : Int} (h : 0 < b) : 0 < gd a b := by
  have h1 := gd_nn a b
  have h2 : gd a b ≠ 0 := fun e => by
    have := gd_r a b
    rw [e] at this
    have := Int.zero_dvd.mp this
    omega
  omega
theorem dvd_anti {a b : Int} (ha : 0 ≤ a) (hb : 0 ≤ b) (h : a ∣ b) (k : b ∣ a) : a = b := Int.dvd_antisymm ha hb h k
theorem dvd_lin {m x y : Int} (k : Int) (h : m ∣ x) (e : y = k * x) : m ∣ y := by
  rw [e]; exact Int.dvd_trans h (Int.dvd_mul_left k x)
theorem gd_one_dvd {m u : Int} (h : gd u m = 1) : Int.gcd u m = 1 := by
  unfold gd at h; omega
theorem cop_cancel {m u x : Int} (h : gd u m = 1) (hd : m ∣ u * x) : m ∣ x := by
  have h1 : m ∣ m * x := Int.dvd_mul_right m x
  have h2 : m ∣ gd (m * x) (u * x) := gd_of h1 hd
  have e : gd (m * x) (u * x) = (x.natAbs : Int) := by
    unfold gd
    have : (m * x).gcd (u * x) = m.gcd u * x.natAbs := Int.gcd_mul_right m x u
    rw [this, Int.gcd_comm, gd_one_dvd h, Nat.one_mul]
  rw [e] at h2
  exact Int.dvd_natAbs.mp h2
/-- two numbers from 0 below m that agree modulo m -/
theorem mod_uniq {m x y : Int} (hx : 0 ≤ x) (hx' : x < m) (hy : 0 ≤ y) (hy' : y < m) (h : m ∣ x - y) : x = y := by
  have h1 : x % m = x := Int.emod_eq_of_lt hx hx'
  have h2 : y % m = y := Int.emod_eq_of_lt hy hy'
  have h3 : x % m = y % m := Int.emod_eq_emod_iff_emod_sub_eq_zero.mpr (Int.emod_eq_zero_of_dvd h)
  omega
/-- a / gd, b / gd have no common divisor -/
theorem gd_div_one {a b : Int} (h : 0 < gd a b) : gd (a / gd a b) (b / gd a b) = 1 := by
  have := Int.gcd_ediv_gcd_ediv_gcd (i := a) (j := b) (by unfold gd at h; omega)
  unfold gd
  rw [this]; rfl
theorem gd_cong {n u a a' : Int} (hu : gd u n = 1) (h : n ∣ a' - u * a) : gd a' n = gd a n := by
  refine dvd_anti (gd_nn _ _) (gd_nn _ _) (gd_of ?_ (gd_r _ _)) (gd_of ?_ (gd_r _ _))
  · have h1 : gd a' n ∣ a' := gd_l _ _
    have h2 : gd a' n ∣ a' - u * a := Int.dvd_trans (gd_r _ _) h
    have h3 : gd a' n ∣ u * a := by
      have := Int.dvd_sub h1 h2
      rwa [show a' - (a' - u * a) = u * a by omega] at this
    refine cop_cancel (u := u) ?_ h3
    have h4 : gd u (gd a' n) ∣ gd u n := gd_of (gd_l _ _) (Int.dvd_trans (gd_r _ _) (gd_r _ _))
    rw [hu] at h4
    exact dvd_anti (gd_nn _ _) (by decide) h4 (Int.one_dvd _)
  · have h1 : gd a n ∣ u * a := Int.dvd_trans (gd_l _ _) (Int.dvd_mul_left _ _)
    have h2 : gd a n ∣ a' - u * a := Int.dvd_trans (gd_r _ _) h
    have := Int.dvd_add h2 h1
    rwa [show a' - u * a + u * a = a' by omega] at this
theorem gd_down {u n m : Int} (hu : gd u n = 1) (h : m ∣ n) : gd u m = 1 := by
  have h4 : gd u m ∣ gd u n := gd_of (gd_l _ _) (Int.dvd_trans (gd_r _ _) h)
  rw [hu] at h4
  exact dvd_anti (gd_nn _ _) (by decide) h4 (Int.one_dvd _)
theorem gd_scale {k a b : Int} (hk : 0 ≤ k) : gd (k * a) (k * b) = k * gd a b := by
  unfold gd
  rw [Int.gcd_mul_left]
  have : ((k.natAbs : Nat) : Int) = k := Int.natAbs_of_nonneg hk
  rw [Int.natCast_mul, this]

/-- what a crossing on a ring holds -/
structure RC where
  wait : Int
  length : Int
  cycle : Int
  empty : Bool
  step : Int
  start : Int
  slope : Int
  offset : Int

/-- a crossing's data, from the size, the days' difference, the gap, both paces -/
structure RCS (n w gap a b : Int) (r : RC) : Prop where
  wait : r.wait = w
  length : r.length = n / gd a n
  cycle : r.cycle = n / gd b n
  empty : r.empty = !decide (gap % gd a (gd b n) = 0)
  step : r.step = gd b n / gd a (gd b n)
  start0 : 0 ≤ r.start
  start1 : r.start < r.step
  start2 : gd a (gd b n) ∣ gap → gd b n ∣ gap + r.start * a
  slope0 : 0 ≤ r.slope
  slope1 : r.slope < r.cycle
  slope2 : n ∣ r.slope * b - r.step * a
  off0 : 0 ≤ r.offset
  off1 : r.offset < r.cycle
  off2 : gd a (gd b n) ∣ gap → n ∣ r.offset * b - (gap + r.start * a)

theorem RCS.live {n w gap a b : Int} {r : RC} (h : RCS n w gap a b r) (e : r.empty = false) : gd a (gd b n) ∣ gap := by
  have h1 := h.empty
  rw [e] at h1
  have h2 : decide (gap % gd a (gd b n) = 0) = true := by
    cases q : decide (gap % gd a (gd b n) = 0) with
    | true => rfl
    | false => rw [q] at h1; cases h1
  exact Int.dvd_of_emod_eq_zero (of_decide_eq_true h2)

/-- m | x * b with gd b n = g, n = m * g: m | x -/
theorem cyc_cancel {n b x : Int} (hn : 0 < n) (h : n ∣ x * b) : n / gd b n ∣ x := by
  have hg : 0 < gd b n := gd_pos hn
  obtain ⟨b1, hb⟩ := gd_l b n
  obtain ⟨n1, hn1⟩ := gd_r b n
  have c1 : gd (b / gd b n) (n / gd b n) = 1 := gd_div_one hg
  have eb : b / gd b n = b1 := Int.ediv_eq_of_eq_mul_right (by omega) hb
  have en : n / gd b n = n1 := Int.ediv_eq_of_eq_mul_right (by omega) hn1
  rw [eb, en] at c1
  rw [en]
  obtain ⟨k, hk⟩ := h
  have h2 : n1 ∣ b1 * x := ⟨k, by
    have e3 : gd b n * (b1 * x) = gd b n * (n1 * k) := by
      calc gd b n * (b1 * x) = x * (gd b n * b1) := by rw [← Int.mul_assoc, Int.mul_comm]
        _ = x * b := by rw [← hb]
        _ = n * k := hk
        _ = gd b n * n1 * k := by rw [← hn1]
        _ = gd b n * (n1 * k) := by rw [Int.mul_assoc]
    exact Int.eq_of_mul_eq_mul_left (by omega) e3⟩
  exact cop_cancel c1 h2

/-- same ring, all multiplied by a unit: the same crossing -/
theorem RCS.uniq {n w gap a b gap' a' b' u : Int} {r r' : RC} (hn : 0 < n) (h : RCS n w gap a b r) (h' : RCS n w gap' a' b' r') (hu : gd u n = 1)
    (hg : n ∣ gap' - u * gap) (ha : n ∣ a' - u * a) (hb : n ∣ b' - u * b) :
    r'.empty = r.empty ∧ (r.empty = false → r' = r) := by
  have eg : gd b' n = gd b n := gd_cong hu hb
  have gn : gd b n ∣ n := gd_r _ _
  have hug : gd u (gd b n) = 1 := gd_down hu gn
  have ec : gd a' (gd b n) = gd a (gd b n) := gd_cong hug (Int.dvd_trans gn ha)
  have cg : gd a (gd b n) ∣ gd b n := gd_r _ _
  have huc : gd u (gd a (gd b n)) = 1 := gd_down hug cg
  have iff : gd a (gd b n) ∣ gap' ↔ gd a (gd b n) ∣ gap := by
    have h0 : gd a (gd b n) ∣ gap' - u * gap := Int.dvd_trans cg (Int.dvd_trans gn hg)
    constructor
    · intro k
      have := Int.dvd_sub k h0
      rw [show gap' - (gap' - u * gap) = u * gap by omega] at this
      exact cop_cancel huc this
    · intro k
      have := Int.dvd_add h0 (dvd_lin u k rfl)
      rwa [show gap' - u * gap + u * gap = gap' by omega] at this
  have ee : r'.empty = r.empty := by
    rw [h'.empty, h.empty, eg, ec]
    have : decide (gap' % gd a (gd b n) = 0) = decide (gap % gd a (gd b n) = 0) := by
      rw [Bool.eq_iff_iff, decide_eq_true_iff, decide_eq_true_iff, ← Int.dvd_iff_emod_eq_zero, ← Int.dvd_iff_emod_eq_zero]
      exact iff
    rw [this]
  refine ⟨ee, fun el => ?_⟩
  have k := h.live el
  have k' : gd a' (gd b' n) ∣ gap' := by rw [eg, ec]; exact iff.mpr k
  have e1 : r'.wait = r.wait := by rw [h'.wait, h.wait]
  have e2 : r'.length = r.length := by rw [h'.length, h.length, gd_cong hu ha]
  have e3 : r'.cycle = r.cycle := by rw [h'.cycle, h.cycle, eg]
  have e5 : r'.step = r.step := by rw [h'.step, h.step, eg, ec]
  have gpos : 0 < gd b n := gd_pos hn
  -- start
  have e6 : r'.start = r.start := by
    have s1 := h.start2 k
    have s2 := h'.start2 k'
    rw [eg] at s2
    have s3 : gd b n ∣ u * (gap + r'.start * a) := by
      have t1 : gd b n ∣ gap' - u * gap := Int.dvd_trans gn hg
      have t2 : gd b n ∣ r'.start * (a' - u * a) := dvd_lin _ (Int.dvd_trans gn ha) rfl
      have t3 := Int.dvd_sub (Int.dvd_sub s2 t1) t2
      have t4 : gap' + r'.start * a' - (gap' - u * gap) - r'.start * (a' - u * a) = u * (gap + r'.start * a) := by
        rw [Int.mul_sub, Int.mul_add, Int.mul_left_comm]; omega
      rwa [t4] at t3
    have s4 := cop_cancel hug s3
    have s5 : gd b n ∣ (r'.start - r.start) * a := by
      have := Int.dvd_sub s4 s1
      have e : gap + r'.start * a - (gap + r.start * a) = (r'.start - r.start) * a := by rw [Int.sub_mul]; omega
      rwa [e] at this
    have s6 := cyc_cancel gpos s5
    rw [← h.step] at s6
    exact mod_uniq h'.start0 (by rw [← e5]; exact h'.start1) h.start0 h.start1 s6
  have e7 : r'.slope = r.slope := by
    have s1 := h.slope2
    have s2 := h'.slope2
    rw [e5] at s2
    have s3 : n ∣ u * (r'.slope * b - r.step * a) := by
      have t1 : n ∣ r'.slope * (b' - u * b) := dvd_lin _ hb rfl
      have t2 : n ∣ r.step * (a' - u * a) := dvd_lin _ ha rfl
      have t3 := Int.dvd_add (Int.dvd_sub s2 t1) t2
      have t4 : r'.slope * b' - r.step * a' - r'.slope * (b' - u * b) + r.step * (a' - u * a) = u * (r'.slope * b - r.step * a) := by
        rw [Int.mul_sub, Int.mul_sub, Int.mul_sub, Int.mul_left_comm u, Int.mul_left_comm u]; omega
      rwa [t4] at t3
    have s4 := cop_cancel hu s3
    have s5 : n ∣ (r'.slope - r.slope) * b := by
      have := Int.dvd_sub s4 s1
      have e : r'.slope * b - r.step * a - (r.slope * b - r.step * a) = (r'.slope - r.slope) * b := by rw [Int.sub_mul]; omega
      rwa [e] at this
    have s6 := cyc_cancel hn s5
    rw [← h.cycle] at s6
    exact mod_uniq h'.slope0 (by rw [← e3]; exact h'.slope1) h.slope0 h.slope1 s6
  have e8 : r'.offset = r.offset := by
    have s1 := h.off2 k
    have s2 := h'.off2 k'
    rw [e6] at s2
    have s3 : n ∣ u * (r'.offset * b - (gap + r.start * a)) := by
      have t1 : n ∣ r'.offset * (b' - u * b) := dvd_lin _ hb rfl
      have t2 : n ∣ r.start * (a' - u * a) := dvd_lin _ ha rfl
      have t3 := Int.dvd_add (Int.dvd_add (Int.dvd_sub s2 t1) t2) hg
      have t4 : r'.offset * b' - (gap' + r.start * a') - r'.offset * (b' - u * b) + r.start * (a' - u * a) + (gap' - u * gap) = u * (r'.offset * b - (gap + r.start * a)) := by
        rw [Int.mul_sub, Int.mul_sub, Int.mul_sub, Int.mul_add, Int.mul_left_comm u, Int.mul_left_comm u]; omega
      rwa [t4] at t3
    have s4 := cop_cancel hu s3
    have s5 : n ∣ (r'.offset - r.offset) * b := by
      have := Int.dvd_sub s4 s1
      have e : r'.offset * b - (gap + r.start * a) - (r.offset * b - (gap + r.start * a)) = (r'.offset - r.offset) * b := by rw [Int.sub_mul]; omega
      rwa [e] at this
    have s6 := cyc_cancel hn s5
    rw [← h.cycle] at s6
    exact mod_uniq h'.off0 (by rw [← e3]; exact h'.off1) h.off0 h.off1 s6
  obtain ⟨w1, l1, c1, m1, t1, a1, o1, f1⟩ := r
  obtain ⟨w2, l2, c2, m2, t2, a2, o2, f2⟩ := r'
  simp only at e1 e2 e3 ee e5 e6 e7 e8
  subst e1 e2 e3 ee e5 e6 e7 e8
  rfl

theorem div_scale {k a b : Int} (hk : 0 < k) : k * a / (k * b) = a / b := Int.mul_ediv_mul_of_pos a b hk
theorem dvd_scale {k a b : Int} (hk : 0 < k) (h : k * a ∣ k * b) : a ∣ b := Int.dvd_of_mul_dvd_mul_left (by omega) h
/-- a ring of k times the size, all posts and paces multiplied -/
theorem RCS.scaled {k n w gap a b : Int} {r : RC} (hk : 0 < k) (h : RCS (k * n) w (k * gap) (k * a) (k * b) r) : RCS n w gap a b r := by
  have e1 : gd (k * b) (k * n) = k * gd b n := gd_scale (by omega)
  have e2 : gd (k * a) (gd (k * b) (k * n)) = k * gd a (gd b n) := by rw [e1, gd_scale (by omega)]
  have e3 : gd (k * a) (k * n) = k * gd a n := gd_scale (by omega)
  have cd : ∀ {x}, x ∣ gap → k * x ∣ k * gap := fun h => Int.mul_dvd_mul_left k h
  refine ⟨h.wait, ?_, ?_, ?_, ?_, h.start0, h.start1, fun q => ?_, h.slope0, h.slope1, ?_, h.off0, h.off1, fun q => ?_⟩
  · rw [h.length, e3, div_scale hk]
  · rw [h.cycle, e1, div_scale hk]
  · rw [h.empty, e2, Int.mul_emod_mul_of_pos _ _ hk]
    have : decide (k * (gap % gd a (gd b n)) = 0) = decide (gap % gd a (gd b n) = 0) := by
      rw [Bool.eq_iff_iff, decide_eq_true_iff, decide_eq_true_iff, Int.mul_eq_zero]
      constructor
      · rintro (z | z)
        · omega
        · exact z
      · exact .inr
    rw [this]
  · rw [h.step, e2, e1, div_scale hk]
  · have := h.start2 (by rw [e2]; exact cd q)
    rw [e1, Int.mul_left_comm, ← Int.mul_add] at this
    exact dvd_scale hk this
  · have := h.slope2
    rw [Int.mul_left_comm r.slope k b, Int.mul_left_comm r.step k a, ← Int.mul_sub] at this
    exact dvd_scale hk this
  · have := h.off2 (by rw [e2]; exact cd q)
    rw [Int.mul_left_comm r.offset k b, Int.mul_left_comm r.start k a, ← Int.mul_add, ← Int.mul_sub] at this
    exact dvd_scale hk this
end Rg

end
section
/-! Plain law of the ring: sums of floors, the first block. -/
namespace Rg
/-- what floor_sum gives -/
def fsum (c d s o : Int) : Int :=
  if h : 0 < c ∧ 0 < d then
    if s % d * c + o % d < d then s / d * (c * (c - 1) / 2) + o / d * c
    else s / d * (c * (c - 1) / 2) + o / d * c + fsum ((s % d * c + o % d) / d) (s % d) d ((s % d * c + o % d) % d)
  else 0
termination_by d.toNat
decreasing_by
  have h1 := Int.emod_lt_of_pos s h.2
  have h2 := h.2
  omega
theorem fsum_stop {c d s o : Int} (h : ¬ 0 < c) : fsum c d s o = 0 := by
  unfold fsum; rw [dif_neg (fun q => h q.1)]
theorem fsum_ret {c d s o : Int} (hc : 0 < c) (hd : 0 < d) (h : s % d * c + o % d < d) : fsum c d s o = s / d * (c * (c - 1) / 2) + o / d * c := by
  unfold fsum; rw [dif_pos ⟨hc, hd⟩, if_pos h]
theorem fsum_go {c d s o : Int} (hc : 0 < c) (hd : 0 < d) (h : ¬ s % d * c + o % d < d) :
    fsum c d s o = s / d * (c * (c - 1) / 2) + o / d * c + fsum ((s % d * c + o % d) / d) (s % d) d ((s % d * c + o % d) % d) := by
  rw [fsum, dif_pos ⟨hc, hd⟩, if_neg h]
theorem fsum_next {c d s o : Int} (hc : 0 < c) (hd : 0 < d) (h : ¬ s % d * c + o % d < d) :
    0 < s % d ∧ s % d < d ∧ (s % d * c + o % d) / d ≤ c ∧ 0 ≤ (s % d * c + o % d) / d ∧ 0 ≤ (s % d * c + o % d) % d ∧ (s % d * c + o % d) % d < d := by
  have a1 := Int.emod_nonneg s (by omega : d ≠ 0)
  have a2 := Int.emod_lt_of_pos s hd
  have b1 := Int.emod_nonneg o (by omega : d ≠ 0)
  have b2 := Int.emod_lt_of_pos o hd
  have p : 0 < s % d := by
    rcases Int.lt_or_eq_of_le a1 with q | q
    · exact q
    · rw [← q] at h; omega
  have m : s % d * c ≤ (d - 1) * c := Int.mul_le_mul_of_nonneg_right (by omega) (by omega)
  have m0 : 0 ≤ s % d * c := Int.mul_nonneg a1 (by omega)
  refine ⟨p, a2, ?_, Int.ediv_nonneg (by omega) (by omega), Int.emod_nonneg _ (by omega), Int.emod_lt_of_pos _ hd⟩
  have : (s % d * c + o % d) / d < c + 1 := by
    refine Int.ediv_lt_of_lt_mul hd ?_
    rw [Int.sub_mul] at m
    have e : (c + 1) * d = d * c + d := by rw [Int.add_mul, Int.mul_comm, Int.one_mul]
    omega
  omega

/-- what least_true gives -/
def ltrue (low high : Int) (f : Int → Bool) : Int :=
  if low < high then
    if f ((low + high) / 2) = true then ltrue low ((low + high) / 2) f else ltrue ((low + high) / 2 + 1) high f
  else high
termination_by (high - low).toNat
decreasing_by all_goals omega
theorem ltrue_end {low high : Int} {f : Int → Bool} (h : ¬ low < high) : ltrue low high f = high := by rw [ltrue, if_neg h]
theorem ltrue_yes {low high : Int} {f : Int → Bool} (h : low < high) (k : f ((low + high) / 2) = true) : ltrue low high f = ltrue low ((low + high) / 2) f := by rw [ltrue, if_pos h, if_pos k]
theorem ltrue_no {low high : Int} {f : Int → Bool} (h : low < high) (k : f ((low + high) / 2) = false) : ltrue low high f = ltrue ((low + high) / 2 + 1) high f := by
  rw [ltrue, if_pos h, if_neg (by rw [k]; decide)]
theorem ltrue_in (f : Int → Bool) : ∀ (n : Nat) (low high : Int), (high - low).toNat ≤ n → low ≤ high → low ≤ ltrue low high f ∧ ltrue low high f ≤ high
  | 0, low, high, h, k => by rw [ltrue_end (by omega)]; omega
  | n + 1, low, high, h, k => by
    by_cases q : low < high
    · cases e : f ((low + high) / 2) with
      | true =>
        rw [ltrue_yes q e]
        have := ltrue_in f n low ((low + high) / 2) (by omega) (by omega)
        omega
      | false =>
        rw [ltrue_no q e]
        have := ltrue_in f n ((low + high) / 2 + 1) high (by omega) (by omega)
        omega
    · rw [ltrue_end q]; omega

def ceil (n d : Int) : Int := -(-n / d)
def metR (r : RC) (low late : Int) (count : Int) : Bool :=
  decide (0 < fsum count r.cycle r.slope (r.offset + r.slope * low) - fsum count r.cycle (r.slope - r.step) (r.offset + (r.slope - r.step) * low - late - 1))
def rising (r : RC) (low high late : Int) : Option Int :=
  if high - low + 1 < 1 then none else if metR r low late (high - low + 1) = false then none else some (low + ltrue 1 (high - low + 1) (metR r low late) - 1)
def below (count d s o w : Int) : Int := fsum count d s o - fsum count d s (o - w)
def metS (r : RC) (low limit : Int) (count : Int) : Bool := decide (0 < below count r.cycle r.slope (r.offset + r.slope * low) limit)
def steady (r : RC) (low high limit : Int) : Option Int :=
  if high - low + 1 < 1 then none else if metS r low limit (high - low + 1) = false then none else some (low + ltrue 1 (high - low + 1) (metS r low limit) - 1)
def late (r : RC) (e : Bool) : Int := r.wait + r.start - (if e then 0 else 1)
def lowOf (r : RC) (e : Bool) : Int := max 0 (ceil (-(late r e)) r.step)
def steadyOf (r : RC) (limit : Int) (e : Bool) : Int := max (lowOf r e) (ceil (limit - 1 - late r e) r.step)
def foundOf (r : RC) (limit : Int) (e : Bool) : Option Int :=
  match rising r (lowOf r e) (min (steadyOf r limit e - 1) ((r.length - 1 - r.start) / r.step)) (late r e) with
  | some f => some f
  | none => steady r (steadyOf r limit e) ((r.length - 1 - r.start) / r.step) limit
/-- what first_block gives -/
def fb (r : RC) (count : Option Int) (e : Bool) : Option Int :=
  if r.empty = true ∨ count.getD r.cycle = 0 ∨ (r.length - 1 - r.start) / r.step < 0 then none
  else (foundOf r (count.getD r.cycle) e).map fun f => r.start + f * r.step
theorem rising_in {r : RC} {low high l f : Int} (h : rising r low high l = some f) : low ≤ f ∧ f ≤ high := by
  unfold rising at h
  split at h
  · cases h
  · rename_i h1
    split at h
    · cases h
    · have := ltrue_in (metR r low l) _ 1 (high - low + 1) (Nat.le_refl _) (by omega)
      cases h
      omega
theorem steady_in {r : RC} {low high l f : Int} (h : steady r low high l = some f) : low ≤ f ∧ f ≤ high := by
  unfold steady at h
  split at h
  · cases h
  · rename_i h1
    split at h
    · cases h
    · have := ltrue_in (metS r low l) _ 1 (high - low + 1) (Nat.le_refl _) (by omega)
      cases h
      omega
theorem found_in {r : RC} {limit f : Int} {e : Bool} (h : foundOf r limit e = some f) : 0 ≤ f ∧ f ≤ (r.length - 1 - r.start) / r.step := by
  unfold foundOf at h
  have a : 0 ≤ lowOf r e := Int.le_max_left _ _
  split at h
  · rename_i g q
    cases h
    have := rising_in q
    have b : min (steadyOf r limit e - 1) ((r.length - 1 - r.start) / r.step) ≤ (r.length - 1 - r.start) / r.step := Int.min_le_right _ _
    omega
  · have := steady_in h
    have b : lowOf r e ≤ steadyOf r limit e := Int.le_max_left _ _
    omega
theorem fb_in {r : RC} {count : Option Int} {e : Bool} {k : Int} (hs : 0 < r.step) (h0 : 0 ≤ r.start) (h : fb r count e = some k) : 0 ≤ k ∧ k ≤ r.length - 1 := by
  unfold fb at h
  split at h
  · cases h
  · obtain ⟨f, hf, rfl⟩ := Option.map_eq_some_iff.mp h
    obtain ⟨a, b⟩ := found_in hf
    have c : (r.length - 1 - r.start) / r.step * r.step ≤ r.length - 1 - r.start := Int.ediv_mul_le _ (by omega)
    have d : f * r.step ≤ (r.length - 1 - r.start) / r.step * r.step := Int.mul_le_mul_of_nonneg_right b (by omega)
    have d0 : 0 ≤ f * r.step := Int.mul_nonneg a (by omega)
    omega
theorem fb_uniq {r r' : RC} (h : r'.empty = r.empty ∧ (r.empty = false → r' = r)) (count : Option Int) (e : Bool) : fb r' count e = fb r count e := by
  cases q : r.empty with
  | false => rw [h.2 q]
  | true =>
    unfold fb
    rw [if_pos (.inl (h.1.trans q)), if_pos (.inl q)]
end Rg

end
section
set_option Elab.async false
set_option linter.all false
set_option maxRecDepth 100000
set_option maxHeartbeats 4000000
/-! The text by places, and the facts of the top. -/
namespace Pp
open PySem PySem.Spec PyProof.Rows L2

def tp (i : Nat) : Stmt := PySem.Challenge.pw_paintposts_k99_whole_rings_moved_mirrore.main.body.getD i (.Pass ⟨0, 0, 0, 0⟩)
abbrev sIsInteger : Stmt := tp 19
abbrev sIsBetween : Stmt := tp 20
abbrev sInverse : Stmt := tp 24
abbrev sGcd : Stmt := tp 25
abbrev sBlInit : Stmt := inClass (tp 29) 0
abbrev sLook : Stmt := inClass (tp 29) 2
abbrev sFirstOf : Stmt := inClass (tp 29) 3
abbrev sNextStop : Stmt := inClass (tp 29) 4
abbrev sSettle : Stmt := inClass (tp 29) 5
abbrev sAllStops : Stmt := inClass (tp 29) 6
abbrev sLeast : Stmt := tp 31
abbrev sFloorSum : Stmt := tp 33
abbrev sBelow : Stmt := tp 34
abbrev sCeil : Stmt := tp 36
abbrev sXInit : Stmt := inClass (tp 37) 0
abbrev sXBlock : Stmt := inClass (tp 37) 1
abbrev sXRising : Stmt := inClass (tp 37) 2
abbrev sXSteady : Stmt := inClass (tp 37) 3
abbrev sRbInit : Stmt := inClass (tp 39) 0
abbrev sRbCross : Stmt := inClass (tp 39) 1
abbrev sRiInit : Stmt := inClass (tp 40) 0
abbrev sRiFence : Stmt := inClass (tp 40) 2
abbrev sRiRows : Stmt := inClass (tp 40) 3
abbrev sRiRow : Stmt := inClass (tp 40) 5
abbrev sIsName : Stmt := tp 43
abbrev sPInit : Stmt := inClass (tp 51) 3
abbrev sPName : Stmt := inClass (tp 51) 6
abbrev sPDay : Stmt := inClass (tp 51) 7
abbrev sPPost : Stmt := inClass (tp 51) 8
abbrev sPStride : Stmt := inClass (tp 51) 9
abbrev sPWay : Stmt := inClass (tp 51) 10
abbrev sPNeg : Stmt := inClass (tp 51) 16
abbrev sFInit : Stmt := inClass (tp 53) 0
abbrev sFPainters : Stmt := inClass (tp 53) 2
abbrev sFNames : Stmt := inClass (tp 53) 3
abbrev sFLen : Stmt := inClass (tp 53) 7
abbrev sFAdd : Stmt := inClass (tp 53) 12
abbrev sFMoved : Stmt := inClass (tp 53) 16
abbrev sFMirrored : Stmt := inClass (tp 53) 17
abbrev sFWidened : Stmt := inClass (tp 53) 18
abbrev sPen : Stmt := tp 55
abbrev sDraw : Stmt := tp 56
abbrev sPick : Stmt := tp 57
abbrev sAround : Stmt := tp 58
abbrev sPower : Stmt := tp 59
abbrev sGreat : Stmt := tp 60
abbrev sNames : Stmt := tp 61
abbrev sLGcd : Stmt := tp 62
abbrev sFence : Stmt := tp 63
abbrev sSmall : Stmt := tp 64
abbrev sLot : Stmt := tp 65
abbrev sSent : Stmt := tp 66
abbrev sUnit : Stmt := tp 67
abbrev sLaw : Stmt := tp 68

/-! ### where things stand -/
abbrev ga := He.ga
abbrev ma := He.ma
/-- the getter of a property of a class -/
def pg (K : PySem.W.Frag) (C f : Str) : Addr := match PySem.W.recIn K (ma K (ga K C) f) "property" with
  | some (.ref g :: _) => g
  | _ => 0
/-- one def of the text: where, its name, its qualified name, its statement, the names that it captures -/
structure Df where
  at_ : PySem.W.Frag → Addr
  nm : Str
  qual : Str
  st : Stmt
  clo : List Str := []
def gD (x : Str) (st : Stmt) : Df := { at_ := fun K => ga K x, nm := x, qual := x, st := st }
def mD (C D m : Str) (st : Stmt) : Df := { at_ := fun K => ma K (ga K C) m, nm := m, qual := D ++ "." ++ m, st := st }
def pD (C m : Str) (st : Stmt) : Df := { at_ := fun K => pg K C m, nm := m, qual := C ++ "." ++ m, st := st }
abbrev DfV : Type := Option (Str × Str × Arguments × FuncBody × Scope × Addr × List Str × Value × Addr)
def dfSeen (K : PySem.W.Frag) (d : Df) : DfV := match K.lookup (d.at_ K) with
  | some ⟨_, _, .func u, _⟩ => some (u.name, u.qualname, u.params, u.body, u.scope, u.globals, u.closure.map (·.1), u.defaults, u.builtins)
  | _ => none
def dfGood (d : Df) : DfV := some (d.nm, d.qual, defArgs d.st, .stmts (defBody d.st), defScope d.st, mainGlobals, d.clo, .none, builtinsNs)
def dfOk (K : PySem.W.Frag) (d : Df) : Bool := PySem.W.keepIn K (.ref (d.at_ K)) && (match K.lookup (d.at_ K) with
  | some ⟨_, _, .func u, _⟩ => PySem.W.codeIn K u.code d.qual
  | _ => false)
theorem bAnd {a b : Bool} (h : (a && b) = true) : a = true ∧ b = true := Bool.and_eq_true_iff.mp h
theorem df_fun {K : PySem.W.Frag} {d : Df} (e : dfSeen K d = dfGood d) (c : dfOk K d = true) (hc : d.clo = []) : ∃ fd, Fun K d.nm d.qual d.st (d.at_ K) fd := by
  obtain ⟨kp, c2⟩ := bAnd c
  unfold dfSeen at e
  cases q : K.lookup (d.at_ K) with
  | none => rw [q] at c2; cases c2
  | some o =>
    obtain ⟨oc, od, dt, osl⟩ := o
    rw [q] at c2 e
    cases dt with
    | func u =>
      obtain ⟨n1, n2, n3, n4, n5, n6, n7, n8, n9, n10, n11, n12, n13, n14, n15⟩ := u
      have e2 : (some (n1, n2, n3, n4, n5, n6, n7.map (·.1), n8, n15) : DfV) = some (d.nm, d.qual, defArgs d.st, .stmts (defBody d.st), defScope d.st, mainGlobals, d.clo, .none, builtinsNs) := e
      simp only [Option.some.injEq, Prod.mk.injEq] at e2
      obtain ⟨h1, h2, h3, h4, h5, h6, h7, h8, h9⟩ := e2
      rw [hc] at h7
      have h7' : n7 = [] := List.map_eq_nil_iff.mp h7
      subst h1 h2 h3 h4 h5 h6 h7' h8 h9
      exact ⟨_, ⟨⟨oc, od, n9, n10, n11, n12, n13, n14, osl, rfl, q, c2⟩, kp⟩⟩
    | _ => cases c2

/-! ### a property, an own operator -/
def prB (K : PySem.W.Frag) (C f : Str) : Bool := He.eqO (PySem.W.findIn K (.ref (ga K C)) f) (some (some (.ref (ma K (ga K C) f)))) &&
  (He.eqO (PySem.W.specialIn K (.ref (ma K (ga K C) f)) "__get__") (some (some (.builtin "property.__get__"))) && (decide (PySem.W.takesIn K (.ref (ma K (ga K C) f)) = some true) &&
    (match PySem.W.recIn K (ma K (ga K C) f) "property" with
      | some (.ref _ :: _) => true
      | _ => false)))
theorem prB_ok {K : PySem.W.Frag} {C f : Str} (h : prB K C f = true) : PropOf K (ga K C) f (ma K (ga K C) f) (pg K C f) := by
  obtain ⟨h1, h⟩ := bAnd h
  obtain ⟨h2, h⟩ := bAnd h
  obtain ⟨h3, h4⟩ := bAnd h
  refine ⟨He.eqO_ok h1, He.eqO_ok h2, of_decide_eq_true h3, ?_⟩
  unfold pg
  cases e : PySem.W.recIn K (ma K (ga K C) f) "property" with
  | none => rw [e] at h4; cases h4
  | some l =>
    rw [e] at h4
    cases l with
    | nil => cases h4
    | cons v r =>
      cases v with
      | ref g => exact ⟨r, rfl⟩
      | _ => cases h4
/-- the class has this method itself -/
def owB (K : PySem.W.Frag) (C m : Str) : Bool := He.eqO (PySem.W.findIn K (.ref (ga K C)) m) (some (some (.ref (ma K (ga K C) m)))) && PySem.W.isFn K (.ref (ma K (ga K C) m))
theorem owB_ok {K : PySem.W.Frag} {C m : Str} (h : owB K C m = true) : PySem.W.findIn K (.ref (ga K C)) m = some (some (.ref (ma K (ga K C) m))) ∧ PySem.W.isFn K (.ref (ma K (ga K C) m)) = true := by
  obtain ⟨h1, h2⟩ := bAnd h
  exact ⟨He.eqO_ok h1, h2⟩
/-- nothing of this name in the class -/
def noB (K : PySem.W.Frag) (C m : Str) : Bool := He.eqO (PySem.W.findIn K (.ref (ga K C)) m) (some none)
theorem noB_ok {K : PySem.W.Frag} {C m : Str} (h : noB K C m = true) : PySem.W.findIn K (.ref (ga K C)) m = some none := He.eqO_ok h
/-- isinstance asked of an instance of the class -/
def isB (K : PySem.W.Frag) (C : Str) : Bool := He.eqO (PySem.W.findIn K (.ref (ga K C)) "__class__") (some (some (.builtin "object.__class__"))) &&
  (He.eqO (PySem.W.specialIn K (.builtin "object.__class__") "__get__") (some (some (.builtin "getset_descriptor.__get__"))) && (decide (PySem.W.takesIn K (.builtin "object.__class__") = some true) &&
    (decide (PySem.W.mroIn K (ga K C) (.type "object") = some true) && decide (PySem.W.kitOne K (.ref (ga K C)) (.ref (ga K C)) = some true))))
/-- an instance of the class at C is one of C's -/
structure IsOf (K : PySem.W.Frag) (C : Addr) : Prop where
  ha : PySem.W.findIn K (.ref C) "__class__" = some (some (.builtin "object.__class__"))
  hn : PySem.W.specialIn K (.builtin "object.__class__") "__get__" = some (some (.builtin "getset_descriptor.__get__"))
  ht : PySem.W.takesIn K (.builtin "object.__class__") = some true
  hm : PySem.W.mroIn K C (.type "object") = some true
  me : PySem.W.kitOne K (.ref C) (.ref C) = some true
theorem isB_ok {K : PySem.W.Frag} {C : Str} (h : isB K C = true) : IsOf K (ga K C) := by
  obtain ⟨h1, h⟩ := bAnd h
  obtain ⟨h2, h⟩ := bAnd h
  obtain ⟨h3, h⟩ := bAnd h
  obtain ⟨h4, h5⟩ := bAnd h
  exact ⟨He.eqO_ok h1, He.eqO_ok h2, of_decide_eq_true h3, of_decide_eq_true h4, of_decide_eq_true h5⟩

/-! ### a method that calls super() -/
def dfRb : Df := { at_ := fun K => ma K (ga K "RingBlocks") "__init__", nm := "__init__", qual := ("RingBlocks" : Str) ++ "." ++ "__init__", st := sRbInit, clo := ["__class__"] }
def cellB (K : PySem.W.Frag) (cc D : Addr) : Bool := match K.lookup cc with
  | some ⟨_, _, .cell (some (.ref E)), _⟩ => decide (E = D)
  | _ => false
def fileB (K : PySem.W.Frag) (cda : Addr) : Bool := match K.lookup cda with
  | some ⟨_, _, .fields vs, _⟩ => (match (vs[2]? : Option Value) with
    | some (.str file _) => decide (file = ("/claim/cut.py" : Str))
    | _ => false)
  | _ => false
def closB (K : PySem.W.Frag) (u : FuncData) (D : Addr) : Bool := match u.closure with
  | [(_, cc)] => (match u.code with
    | .ref cda => cellB K cc D && fileB K cda
    | _ => false)
  | _ => false
def supB (K : PySem.W.Frag) : Bool := (match K.lookup (dfRb.at_ K) with
  | some ⟨_, _, .func u, _⟩ => closB K u (ga K "RingBlocks")
  | _ => false) && ((PySem.W.clsIn K (ga K "RingBlocks")).isSome && (decide (PySem.W.mroIn K (ga K "RingBlocks") (.ref (ga K "RingBlocks")) = some true) &&
    (He.eqO (PySem.W.ks_superIn K (ga K "RingBlocks") (ga K "RingBlocks") "__init__") (some (some (.ref (ma K (ga K "Blocks") "__init__")))) &&
    (decide (PySem.W.typeIn K (.ref (ma K (ga K "Blocks") "__init__")) = some (.type "function")) && He.eqO (PySem.W.nsIn K cStatics "thirdparty.any") (some none)))))
/-- what is known of it -/
structure SupOk (K : PySem.W.Frag) : Prop where
  lk : ∃ (oc : Value) (od : Option Addr) (kV doc pm : Value) (an : Option Addr) (cda : Addr) (ct : Value) (osl : Array (Option Value)) (cc : Addr) (ccl : Value) (cdd : Option Addr) (vs : Array Value) (ccs : Array (Option Value)) (tf : Tok) (cl : Value) (cld : Option Addr) (csl : Array (Option Value)),
    K.lookup (ma K (ga K "RingBlocks") "__init__") = some ⟨oc, od, .func (PySem.W.ksFn "__init__" (("RingBlocks" : Str) ++ "." ++ "__init__") (defArgs sRbInit) (defBody sRbInit) (defScope sRbInit) .none kV doc pm an (.ref cda) ct cc), osl⟩ ∧
    PySem.W.codeIn K (.ref cda) (("RingBlocks" : Str) ++ "." ++ "__init__") = true ∧ K.lookup cda = some ⟨ccl, cdd, .fields vs, ccs⟩ ∧ vs[2]? = some (.str "/claim/cut.py" tf) ∧ K.lookup cc = some ⟨cl, cld, .cell (some (.ref (ga K "RingBlocks"))), csl⟩
  kp : PySem.W.keepIn K (.ref (ma K (ga K "RingBlocks") "__init__")) = true
  cls : ∃ cd, PySem.W.clsIn K (ga K "RingBlocks") = some cd
  mro : PySem.W.mroIn K (ga K "RingBlocks") (.ref (ga K "RingBlocks")) = some true
  sup : PySem.W.ks_superIn K (ga K "RingBlocks") (ga K "RingBlocks") "__init__" = some (some (.ref (ma K (ga K "Blocks") "__init__")))
  ty : PySem.W.typeIn K (.ref (ma K (ga K "Blocks") "__init__")) = some (.type "function")
  tp : PySem.W.nsIn K cStatics "thirdparty.any" = some none
theorem cellB_ok {K : PySem.W.Frag} {cc D : Addr} (h : cellB K cc D = true) : ∃ (cl : Value) (cld : Option Addr) (csl : Array (Option Value)), K.lookup cc = some ⟨cl, cld, .cell (some (.ref D)), csl⟩ := by
  unfold cellB at h
  split at h
  · rename_i cl cld E csl hk
    rw [of_decide_eq_true h] at hk
    exact ⟨_, _, _, hk⟩
  · cases h
theorem fileB_ok {K : PySem.W.Frag} {cda : Addr} (h : fileB K cda = true) : ∃ (ccl : Value) (cdd : Option Addr) (vs : Array Value) (ccs : Array (Option Value)) (tf : Tok), K.lookup cda = some ⟨ccl, cdd, .fields vs, ccs⟩ ∧ vs[2]? = some (.str "/claim/cut.py" tf) := by
  unfold fileB at h
  split at h
  · rename_i cl cld vs csl hk
    split at h
    · rename_i file tf hv
      rw [of_decide_eq_true h] at hv
      exact ⟨_, _, _, _, _, hk, hv⟩
    · cases h
  · cases h
theorem sup_ok {K : PySem.W.Frag} (e : dfSeen K dfRb = dfGood dfRb) (c : dfOk K dfRb = true) (h : supB K = true) : SupOk K := by
  obtain ⟨h1, h⟩ := bAnd h
  obtain ⟨h2, h⟩ := bAnd h
  obtain ⟨h3, h⟩ := bAnd h
  obtain ⟨h4, h⟩ := bAnd h
  obtain ⟨h5, h6⟩ := bAnd h
  obtain ⟨kp, c2⟩ := bAnd c
  refine ⟨?_, kp, Option.isSome_iff_exists.mp h2, of_decide_eq_true h3, He.eqO_ok h4, of_decide_eq_true h5, He.eqO_ok h6⟩
  unfold dfSeen at e
  cases q : K.lookup (dfRb.at_ K) with
  | none => rw [q] at c2; cases c2
  | some o =>
    obtain ⟨oc, od, dt, osl⟩ := o
    rw [q] at c2 e h1
    cases dt with
    | func u =>
      obtain ⟨n1, n2, n3, n4, n5, n6, n7, n8, n9, n10, n11, n12, n13, n14, n15⟩ := u
      have e2 : (some (n1, n2, n3, n4, n5, n6, n7.map (·.1), n8, n15) : DfV) = some (dfRb.nm, dfRb.qual, defArgs dfRb.st, .stmts (defBody dfRb.st), defScope dfRb.st, mainGlobals, dfRb.clo, .none, builtinsNs) := e
      simp only [Option.some.injEq, Prod.mk.injEq] at e2
      obtain ⟨g1, g2, g3, g4, g5, g6, g7, g8, g9⟩ := e2
      obtain ⟨cc, rfl⟩ : ∃ cc, n7 = ([(("__class__" : Str), cc)] : List (Str × Addr)) := by
        cases n7 with
        | nil => cases g7
        | cons a r =>
          cases r with
          | nil =>
            obtain ⟨a1, a2⟩ := a
            have z : a1 = ("__class__" : Str) := by injection g7
            exact ⟨a2, by rw [z]⟩
          | cons b r => injection g7 with _ z; cases z
      cases n13 with
      | ref cda =>
        obtain ⟨k1, k2⟩ := bAnd (show (cellB K cc (ga K "RingBlocks") && fileB K cda) = true from h1)
        obtain ⟨cl, cld, csl, hk⟩ := cellB_ok k1
        obtain ⟨ccl, cdd, vs, ccs, tf, hk2, hv⟩ := fileB_ok k2
        subst g1 g2 g3 g4 g5 g6 g8 g9
        exact ⟨_, _, _, _, _, _, _, _, _, _, _, _, _, _, _, _, _, _, q, c2, hk2, hv, hk⟩
      | _ => exact Bool.noConfusion (show false = true from h1)
    | _ => cases c2

/-! ### the lists -/
def dfs : List Df := [
  gD "is_integer" sIsInteger, gD "is_between" sIsBetween, gD "inverse" sInverse, gD "greatest_divisor" sGcd,
  mD "Blocks" "Blocks" "__init__" sBlInit, mD "RingBlocks" "Blocks" "look" sLook, mD "RingBlocks" "Blocks" "first_of" sFirstOf, mD "RingBlocks" "Blocks" "next_stop" sNextStop,
  mD "RingBlocks" "Blocks" "settle" sSettle, mD "RingBlocks" "Blocks" "all_stops" sAllStops,
  gD "least_true" sLeast, gD "floor_sum" sFloorSum, gD "remainders_below" sBelow, gD "ceiling" sCeil,
  mD "RingCrossing" "RingCrossing" "__init__" sXInit, mD "RingCrossing" "RingCrossing" "first_block" sXBlock, mD "RingCrossing" "RingCrossing" "first_rising" sXRising, mD "RingCrossing" "RingCrossing" "first_steady" sXSteady,
  mD "RingBlocks" "RingBlocks" "crossing" sRbCross, mD "Ring" "Ring" "__init__" sRiInit, pD "Ring" "fence" sRiFence, pD "Ring" "rows" sRiRows, mD "Ring" "Ring" "row" sRiRow,
  gD "is_name" sIsName, mD "Painter" "Painter" "__init__" sPInit, pD "Painter" "name" sPName, pD "Painter" "day" sPDay, pD "Painter" "post" sPPost, pD "Painter" "stride" sPStride, pD "Painter" "way" sPWay,
  mD "Painter" "Painter" "__neg__" sPNeg, mD "Fence" "Fence" "__init__" sFInit, pD "Fence" "painters" sFPainters, pD "Fence" "names" sFNames, mD "Fence" "Fence" "__len__" sFLen, mD "Fence" "Fence" "__add__" sFAdd,
  mD "Fence" "Fence" "moved" sFMoved, mD "Fence" "Fence" "mirrored" sFMirrored, mD "Fence" "Fence" "widened" sFWidened,
  gD "_law_pen" sPen, gD "_law_draw" sDraw, gD "_law_pick" sPick, gD "_law_around" sAround, gD "_law_power" sPower, gD "_law_great" sGreat, gD "_law_names" sNames, gD "_law_gcd" sLGcd, gD "_law_fence" sFence,
  gD "_law_small_ring" sSmall, gD "_law_lot_ring" sLot, gD "_law_sent" sSent, gD "_law_unit" sUnit, gD "law" sLaw,
  { at_ := fun K => ga K "is_name_names", nm := "is_name", qual := "is_name", st := sIsName }, dfRb]
end Pp

end
section
set_option Elab.async false
set_option linter.all false
set_option maxRecDepth 100000
set_option maxHeartbeats 4000000
/-! The facts of the top as lists of looks. -/
namespace Pp
open PySem PySem.Spec PyProof.Rows L2

def fas : List He.Fa := [
  .glo "is_integer", .glo "is_between", .glo "inverse", .glo "greatest_divisor", .glo "least_true", .glo "floor_sum", .glo "remainders_below", .glo "ceiling",
  .glo "RingCrossing", .glo "RingBlocks", .glo "Ring", .glo "is_name", .glo "is_name_names", .glo "Painter", .glo "Fence", .glo "Blocks",
  .glo "_law_pen", .glo "_law_draw", .glo "_law_pick", .glo "_law_around", .glo "_law_power", .glo "_law_great", .glo "_law_names", .glo "_law_gcd", .glo "_law_fence",
  .glo "_law_small_ring", .glo "_law_lot_ring", .glo "_law_sent", .glo "_law_unit", .glo "law",
  .free "len", .free "isinstance", .free "int", .free "bool", .free "str", .free "abs", .free "divmod", .free "min", .free "max", .free "enumerate", .free "tuple", .free "list", .free "range", .free "repr", .free "all", .free "super",
  .int "MAX_PAINTERS" 40, .int "MAX_STRIDE" 1000000000000000000, .int "MAX_FEW" 8, .int "MAX_SIZE" 1000000000000000000000000000000, .int "MAX_NAME" 8, .str "LETTERS" "abcdefghijklmnopqrstuvwxyz",
  .cls "Painter", .cls "Fence", .cls "RingCrossing", .cls "RingBlocks", .cls "Ring",
  .noat "Painter" "parts", .noat "Fence" "listed", .noat "Fence" "places",
  .noat "RingCrossing" "wait", .noat "RingCrossing" "length", .noat "RingCrossing" "cycle", .noat "RingCrossing" "is_empty", .noat "RingCrossing" "step", .noat "RingCrossing" "start", .noat "RingCrossing" "slope", .noat "RingCrossing" "offset",
  .noat "RingBlocks" "around", .noat "RingBlocks" "walkers", .noat "RingBlocks" "limits", .noat "RingBlocks" "firsts", .noat "RingBlocks" "crossings",
  .noat "Ring" "parts", .noat "Ring" "limits", .noat "Ring" "halts",
  .meth "RingCrossing" "first_block", .meth "RingCrossing" "first_rising", .meth "RingCrossing" "first_steady",
  .meth "RingBlocks" "crossing", .meth "RingBlocks" "look", .meth "RingBlocks" "first_of", .meth "RingBlocks" "next_stop", .meth "RingBlocks" "settle", .meth "RingBlocks" "all_stops",
  .meth "Ring" "row", .meth "Fence" "moved", .meth "Fence" "mirrored", .meth "Fence" "widened",
  .mkr "Painter", .mkr "Fence", .mkr "RingCrossing", .mkr "RingBlocks", .mkr "Ring"]

def mro1 (K : PySem.W.Frag) (C : Str) : Bool := PySem.W.selfFirst K (ga K C)
/-- further looks -/
def exs : List (PySem.W.Frag → Bool) := [
  fun K => prB K "Painter" "name", fun K => prB K "Painter" "day", fun K => prB K "Painter" "post", fun K => prB K "Painter" "stride", fun K => prB K "Painter" "way",
  fun K => prB K "Fence" "painters", fun K => prB K "Fence" "names", fun K => prB K "Ring" "fence", fun K => prB K "Ring" "rows",
  fun K => He.conB K "Painter" "MAX_DAY" (.int 1000000000000000000000000000000), fun K => He.conB K "Painter" "MAX_POST" (.int 1000000000000000000000000000000), fun K => He.conB K "Painter" "MAX_STRIDE" (.int 1000000000000000000),
  fun K => owB K "Fence" "__add__", fun K => owB K "Fence" "__len__", fun K => owB K "Painter" "__neg__",
  fun K => noB K "Fence" "__radd__", fun K => noB K "Painter" "__radd__", fun K => mro1 K "Fence", fun K => mro1 K "Painter",
  fun K => decide (PySem.W.subIn K (.ref (ga K "Painter")) (.ref (ga K "Fence")) = some false), fun K => isB K "Painter", fun K => owB K "Painter" "__add__", supB]

/-- the names of the module that are looked at -/
def lookN : List Str := ["is_integer", "is_between", "inverse", "greatest_divisor", "Blocks", "least_true", "floor_sum", "remainders_below", "ceiling", "RingCrossing", "RingBlocks", "Ring", "is_name", "Painter", "Fence",
  "_law_pen", "_law_draw", "_law_pick", "_law_around", "_law_power", "_law_great", "_law_names", "_law_gcd", "_law_fence", "_law_small_ring", "_law_lot_ring", "_law_sent", "_law_unit", "law"]
def keyIn (ns : List Str) (e : DictEntry) : List Addr := match e.key, e.val with
  | .str x _, .ref a => (match ns.contains x with
    | true => [a]
    | false => [])
  | _, _ => []
def glos (g : Addr → Option Obj) : List Addr := match g mainGlobals with
  | some ⟨_, _, .dict es _, _⟩ => es.toList.flatMap (keyIn lookN)
  | _ => []
def spaces (g : Addr → Option Obj) (a : Addr) : List Addr := match g a with
  | some ⟨_, _, .cls cd, _⟩ => [cd.ns]
  | _ => []
def members (g : Addr → Option Obj) (a : Addr) : List Addr := match g a with
  | some ⟨_, _, .dict es _, _⟩ => es.toList.flatMap fun e => He.refV e.val
  | _ => []
def behind (g : Addr → Option Obj) (a : Addr) : List Addr := match g a with
  | some ⟨_, _, .func u, _⟩ => He.refV u.code ++ u.closure.map (·.2)
  | some ⟨_, _, .fields vs, _⟩ => vs.toList.flatMap He.refV
  | _ => []
def walkL {β : Type} (l : List Addr) (k : List Addr → β) : β := match l with
  | [] => k []
  | a :: r => walkL r fun r' => k (a :: r')
def addrs (g : Addr → Option Obj) : List Addr :=
  let a0 := glos g
  let a1 := a0.flatMap (spaces g)
  let a2 := a1.flatMap (members g)
  let a3 := (a0 ++ a2).flatMap (behind g)
  let a4 := a3.flatMap (behind g)
  [mainGlobals, cStatics] ++ (a0 ++ (a1 ++ (a2 ++ (a3 ++ a4))))
abbrev Seen : Type := Bool × List DfV
def seenK (K : PySem.W.Frag) : Seen := ((fas.all fun f => f.ok K) && ((exs.all fun f => f K) && dfs.all fun d => dfOk K d), dfs.map fun d => dfSeen K d)
def seenW : Seen := (true, dfs.map dfGood)
/-- the defs that make functions -/
def dTab : List He.Defn := [("RingCrossing", some "first_rising"), ("RingCrossing", some "first_steady")]
def frK (g : Addr → Option Obj) : PySem.W.Frag := He.frT g (addrs g)
def seenG (g : Addr → Option Obj) : Seen × Bool := (seenK (frK g), He.tabsB g dTab (frK g))
/-- .. their tables: empty, not in K -/
structure TabK (K : PySem.W.Frag) (h : Heap) : Prop where
  hd : ∀ p ∈ dTab, PySem.W.codeHdIn K (He.cT K p).1 (He.cT K p).2 = true
  out : ∀ p ∈ dTab, K.lookup (He.cT K p).2 = none
  empty : ∀ p ∈ dTab, h.get? (He.cT K p).2 = some { cls := .none, data := .fields #[] }
theorem tabK_of {h : Heap} (e : He.tabsB h.get? dTab (frK h.get?) = true) : TabK (frK h.get?) h := by
  have key : ∀ p ∈ dTab, PySem.W.codeHdIn (frK h.get?) (He.cT (frK h.get?) p).1 (He.cT (frK h.get?) p).2 = true ∧ ∃ o, h.get? (He.cT (frK h.get?) p).2 = some o ∧ He.emptyTab o = true := fun p hp => by
    obtain ⟨h3, h4⟩ := bAnd (List.all_eq_true.mp e p hp)
    refine ⟨h3, ?_⟩
    cases q : h.get? (He.cT (frK h.get?) p).2 with
    | none =>
      rw [q] at h4
      cases h4
    | some o =>
      rw [q] at h4
      exact ⟨o, rfl, h4⟩
  exact ⟨fun p hp => (key p hp).1, fun p hp => by
    obtain ⟨_, o, q, z⟩ := key p hp
    exact He.frT_none q z, fun p hp => by
    obtain ⟨_, o, q, z⟩ := key p hp
    rw [q, He.emptyTab_eq z]⟩
def hook : PySem.W.Hook where
  α := Seen × Bool
  obs := fun s => seenG s.heap.get?
  val := fun _ => (seenW, true)
  says := fun _ h => ∃ K : PySem.W.Frag, K.In h ∧ seenK K = seenW ∧ TabK K h
  of := fun _ _ e => ⟨_, He.frT_in, congrArg (fun z : Seen × Bool => z.1) e, tabK_of (congrArg (fun z : Seen × Bool => z.2) e)⟩
  keeps := fun _ _ _ ⟨K, hK, c, t⟩ k => ⟨K, PySem.W.Frag.In.keeps hK k, c, ⟨t.hd, t.out, fun p hp => k _ _ (t.empty p hp)⟩⟩
theorem seenG_eq {g : Addr → Option Obj} {s : Shared} (h : ∀ a, g a = s.heap.get? a) : seenG g = hook.obs s := by
  have e : g = s.heap.get? := funext h
  rw [e]
  rfl
section
variable {K : PySem.W.Frag}
theorem fact_of (c : seenK K = seenW) (i : Nat) {f : He.Fa} (h : fas[i]? = some f := by rfl) : f.ok K = true := by
  have c1 := (bAnd (show ((fas.all fun f => f.ok K) && ((exs.all fun f => f K) && dfs.all fun d => dfOk K d)) = true from congrArg (fun z : Seen => z.1) c)).1
  exact List.all_eq_true.mp c1 f (List.mem_of_getElem? h)
theorem more_of (c : seenK K = seenW) (i : Nat) {f : PySem.W.Frag → Bool} (h : exs[i]? = some f := by rfl) : f K = true := by
  have c1 := (bAnd (bAnd (show ((fas.all fun f => f.ok K) && ((exs.all fun f => f K) && dfs.all fun d => dfOk K d)) = true from congrArg (fun z : Seen => z.1) c)).2).1
  exact List.all_eq_true.mp c1 f (List.mem_of_getElem? h)
theorem def_of (c : seenK K = seenW) (i : Nat) {d : Df} (h : dfs[i]? = some d := by rfl) (hc : d.clo = [] := by rfl) : ∃ fd, Fun K d.nm d.qual d.st (d.at_ K) fd := by
  have c1 := (bAnd (bAnd (show ((fas.all fun f => f.ok K) && ((exs.all fun f => f K) && dfs.all fun d => dfOk K d)) = true from congrArg (fun z : Seen => z.1) c)).2).2
  have e : dfs.map (fun d => dfSeen K d) = dfs.map dfGood := congrArg (fun z : Seen => z.2) c
  have e2 : (dfs.map fun d => dfSeen K d)[i]? = (dfs.map dfGood)[i]? := by rw [e]
  rw [List.getElem?_map, List.getElem?_map, h] at e2
  exact df_fun (Option.some.inj e2) (List.all_eq_true.mp c1 d (List.mem_of_getElem? h)) hc
/-- the method that calls super() -/
theorem sup_of (c : seenK K = seenW) : SupOk K := by
  have c1 := (bAnd (bAnd (show ((fas.all fun f => f.ok K) && ((exs.all fun f => f K) && dfs.all fun d => dfOk K d)) = true from congrArg (fun z : Seen => z.1) c)).2).2
  have e : dfs.map (fun d => dfSeen K d) = dfs.map dfGood := congrArg (fun z : Seen => z.2) c
  have e2 : (dfs.map fun d => dfSeen K d)[54]? = (dfs.map dfGood)[54]? := by rw [e]
  have hi : dfs[54]? = some dfRb := by rfl
  rw [List.getElem?_map, List.getElem?_map, hi] at e2
  exact sup_ok (Option.some.inj e2) (List.all_eq_true.mp c1 dfRb (List.mem_of_getElem? hi)) (more_of c 22 (f := supB))
end
end Pp

end
section
set_option Elab.async false
set_option linter.all false
set_option maxRecDepth 100000
set_option maxHeartbeats 0
/-! The head: the run of the top. -/
namespace Pp
open PySem PySem.Spec PyProof.Rows L2
abbrev R0 : PySem.W.OpenRow := PySem.W.OpenLaw.row PySem.Challenge.rw_paintposts_k99_whole_rings_moved_mirrore
def ob (s : PySem.W.SharedT) : Seen × Bool := seenG (HandSHeadRun.getT s)
theorem ob_eq (s : PySem.W.SharedT) : ob s = hook.obs s.abs := seenG_eq (HandSHeadRun.getT_eq s)
def un1 : List PySem.Str := ["_wall", "InvalidPainter", "InvalidFence", "DuplicateName", "InvalidPost", "InvalidDay", "InvalidCount", "ParseError", "UnknownName", "TooMany", "MAX_PAINTERS", "MAX_STRIDE", "MAX_FEW", "MAX_SIZE", "MAX_ARGUMENT", "MAX_NAME", "MAX_DIGITS", "is_integer", "is_between", "need_day", "need_day_or_none", "inverse", "greatest_divisor", "least_fit"]
def un2 : List PySem.Str := ["Crossing", "Blocks", "least_true", "floor_sum", "remainders_below", "ceiling", "RingCrossing", "RingBlocks", "Ring", "LETTERS", "is_name", "is_name_names", "DIGITS", "integer_in", "painter_line", "painter_parts", "Painter", "Fence"]
def un3 : List PySem.Str := ["_law_pen", "_law_draw", "_law_pick", "_law_around", "_law_power", "_law_great", "_law_names", "_law_gcd", "_law_fence", "_law_small_ring", "_law_lot_ring", "_law_sent", "_law_unit"]
def unseen : List PySem.Str := un1 ++ (un2 ++ un3)
theorem run (w : World) : HandSHeadRun.RunEq R0 (PySem.W.view R0.prog [68]) hook ob 20000 unseen w := by
  intro os
  kernel_rfl
end Pp

end
section
set_option Elab.async false
set_option linter.all false
set_option maxRecDepth 100000
set_option maxHeartbeats 4000000
/-! Operators that are methods of own classes: + of two instances, - of one, len. -/
namespace Pp
open PySem PySem.W PySem.Calls PyProof.Rows
section
variable {prog : Program} {w : World} {A : Around} {E : Value → Shared → Prop} {s : Shared} {K : Frag} {x y C D L f g : Addr} {h₀ : Heap} {m : Str → Option Value} {ox oy : Obj} {od od' : Option Obj}

/-- x + y, two instances of own classes: x's own method answers -/
theorem own_bin {op : Operator} {Q : Value → Shared → Prop} (F : Fr h₀ L s.heap m) (X₀ : K.In h₀) (I : InstAt s.heap x ox C od) (J : InstAt s.heap y oy D od') (hc : selfFirst K C = true) (hd : selfFirst K D = true) (hne : C ≠ D)
    (hs : findIn K (.ref C) (PySem.dunder op.info.2) = some (some (.ref f))) (hf : isFn K (.ref f) = true) (hr1 : findIn K (.ref C) (dunderR op.info.2) = some none) (hs2 : findIn K (.ref D) (PySem.dunder op.info.2) = some (some (.ref g)))
    (hr2 : findIn K (.ref D) (dunderR op.info.2) = some none) (hsub : subIn K (.ref D) (.ref C) = some false)
    (h : wpAny (model prog w) A (call (.ref f) [.ref x, .ref y]) (PySem.W.CmpBack Q) E s) : wpAny (model prog w) A (binaryOp op (.ref x) (.ref y)) Q E s := by
  have X := X₀.keeps F.keep
  obtain ⟨cd, rest, hcd, hm⟩ := ksp_first hc
  obtain ⟨cd', rest', hcd', hm'⟩ := ksp_first hd
  rcases hi : op.info with ⟨sym, nm'⟩
  rw [hi] at hs hr1 hs2 hr2
  dsimp only at hs hr1 hs2 hr2
  have one := ksp_try X I hs hf h
  obtain ⟨hh, gg, d, tt, os⟩ := s
  have L1 : Looks (model prog w) hh (typeOf (.ref x)) (.ref C) := I.type
  have L2 : Looks (model prog w) hh (typeOf (.ref y)) (.ref D) := J.type
  have L3 : Looks (model prog w) hh (fillsNumberSlot (.ref C) nm') true := fills_K X hcd hm hs
  have L4 : Looks (model prog w) hh (fillsNumberSlot (.ref D) nm') true := fills_K X hcd' hm' hs2
  have L5 : Looks (model prog w) hh (isSubtype (.ref D) (.ref C)) false := looks_subIn X hsub
  have L6 : Looks (model prog w) hh (numberSlotInPython (.ref C) nm') true := ksp_inPy X hs hr1 (.inl rfl)
  have L7 : Looks (model prog w) hh (numberSlotInPython (.ref D) nm') true := ksp_inPy X hs2 hr2 (.inl rfl)
  have hne' : (Value.ref C == Value.ref D) = false := Bool.eq_false_iff.mpr fun q => hne (Value.ref.inj (beq_iff_eq.mp q))
  simp only [binaryOp, hi]
  refine wpAny_holding (wpAny_bind ?_)
  unfold binaryOp1
  refine wpAny_bind (L1.at (wpAny_bind (L2.at (wpAny_bind (L3.at ?_)))))
  simp only [hne', Bool.false_eq_true, if_false]
  repeat ((fail_if_success (with_reducible show wpAny _ _ (tryMethod _ _ _) _ _ _)); lk)
  refine wpAny_mono one (fun r s' hr' => ?_) fun _ _ e => e
  obtain ⟨v, rfl, hq⟩ := hr'
  repeat ((fail_if_success (with_reducible show wpAny _ _ (tryMethod _ _ _) _ _ _)); lk)
  exact hq
end
end Pp
namespace Pp
open PySem PySem.Spec PyProof.Rows L2
/-- a value that is no NotImplemented -/
theorem cmpBack_of {X : Cx} {pins : List (Addr × Obj)} {σ : L2.St} {Q : VK} {v : Value} {s : Shared} (h : EP X pins σ Q v s) : PySem.W.CmpBack (EP X pins σ Q) v s := by
  obtain ⟨x, H, I, r, q⟩ := h
  cases x with
  | non => cases r; exact ⟨.non, H, I, rfl, q⟩
  | bl b => cases r; exact ⟨.bl b, H, I, rfl, q⟩
  | int i => obtain ⟨t, rfl⟩ := r; exact ⟨.int i, H, I, ⟨t, rfl⟩, q⟩
  | str i => obtain ⟨t, rfl⟩ := r; exact ⟨.str i, H, I, ⟨t, rfl⟩, q⟩
  | byt i => obtain ⟨t, rfl⟩ := r; exact ⟨.byt i, H, I, ⟨t, rfl⟩, q⟩
  | flt i => obtain ⟨t, rfl⟩ := r; exact ⟨.flt i, H, I, ⟨t, rfl⟩, q⟩
  | ref a => cases r; exact ⟨.ref a, H, I, rfl, q⟩
  | ty n => cases r; exact ⟨.ty n, H, I, rfl, q⟩
section
variable {X : Cx} {CX : CXT} {k : Nat} {C D f g : Addr} {sp : Sp} {E : XK}
/-- what + of two own classes leans on -/
structure OwnAdd (K : PySem.W.Frag) (C D f g : Addr) : Prop where
  c1 : PySem.W.selfFirst K C = true
  d1 : PySem.W.selfFirst K D = true
  ne : C ≠ D
  cf : PySem.W.findIn K (.ref C) "__add__" = some (some (.ref f))
  fn : PySem.W.isFn K (.ref f) = true
  cr : PySem.W.findIn K (.ref C) "__radd__" = some none
  df : PySem.W.findIn K (.ref D) "__add__" = some (some (.ref g))
  dr : PySem.W.findIn K (.ref D) "__radd__" = some none
  sub : PySem.W.subIn K (.ref D) (.ref C) = some false
theorem op_addOwn (o : OwnAdd X.K C D f g) (F : FnR X.prog X.w X.K X.mg X.base CX k f sp) (hr : Room k X.A) (hx : Passes CX X E) :
    OpR X (binaryOp .Add) (fun x y H Q => ∃ a dx fs b dy gs, x = .ref a ∧ y = .ref b ∧ H a = some (.ins C dx fs) ∧ H b = some (.ins D dy gs) ∧ sp [.ref a, .ref b] H Q E) := by
  intro pins s σ H x y v u Q I rx ry h
  obtain ⟨a, dx, fs, b, dy, gs, rfl, rfl, ea, eb, q⟩ := h
  cases (show v = Value.ref a from rx)
  cases (show u = Value.ref b from ry)
  obtain ⟨m1, O1, _⟩ := ins_get I.hok ea
  obtain ⟨m2, O2, _⟩ := ins_get I.hok eb
  obtain ⟨od, J1, _⟩ := O1.look
  obtain ⟨od', J2, _⟩ := O2.look
  obtain ⟨m, Fm⟩ := I.fr
  refine own_bin (op := .Add) Fm I.ok.mod.kin J1 J2 o.c1 o.d1 o.ne o.cf o.fn o.cr o.df o.dr o.sub ?_
  refine wpAny_mono (wpAny_call (run_fnR (us := [.ref a, .ref b]) (vs := [.ref a, .ref b]) F hr hx I (.cons rfl (.cons rfl .nil)) q)) (fun v s' hv => cmpBack_of hv) fun _ _ z => z
/-- - of an instance -/
theorem un_negOwn (h1 : PySem.W.findIn X.K (.ref C) "__neg__" = some (some (.ref f))) (h2 : PySem.W.isFn X.K (.ref f) = true) (F : FnR X.prog X.w X.K X.mg X.base CX k f sp) (hr : Room k X.A) (hx : Passes CX X E) :
    UnR X (unaryOp .USub) (fun x H Q => ∃ a dx fs, x = .ref a ∧ H a = some (.ins C dx fs) ∧ sp [.ref a] H Q E) := by
  intro pins s σ H x v Q I rx h
  obtain ⟨a, dx, fs, rfl, ea, q⟩ := h
  cases (show v = Value.ref a from rx)
  obtain ⟨m1, O1, _⟩ := ins_get I.hok ea
  obtain ⟨od, J1, _⟩ := O1.look
  obtain ⟨m, Fm⟩ := I.fr
  exact PySem.W.ksp_neg Fm I.ok.mod.kin J1 h1 h2 (wpAny_call (run_fnR (us := [.ref a]) (vs := [.ref a]) F hr hx I (.cons rfl .nil) q))
end
end Pp

end
section
set_option Elab.async false
set_option linter.all false
set_option maxRecDepth 100000
set_option maxHeartbeats 4000000
/-! Calls by positional promises; instances made with starred arguments; len of an own object; tuple of a dict. -/
namespace Pp
open PySem PySem.Spec PyProof.Rows L2 StX
section
variable {X : Cx} {CX : CXT} {k : Nat} {f C g : Addr} {sp : Sp} {E : XK} {x m fn : Str} {p pos apos sp_ : Pos} {e o e2 : Expr} {es : List Expr} {ta te te2 : TE} {t : TA}
/-- the callee runs, called by value -/
theorem run_val {pins : List (Addr × Obj)} {σ : L2.St} {H : Hp} {s : Shared} {Q : VK} {us : List Value} {vs : List V} (F : FnR X.prog X.w X.K X.mg X.base CX k f sp) (hr : Room k X.A) (hx : Passes CX X E) (I : Inv X pins σ H s) (r : Vals vs us) (h : sp vs H Q E) :
    wpAny (model X.prog X.w) X.A (call (.ref f) us) (EP X pins σ Q) X.xe s := wpAny_call (run_fnR F hr hx I r h)
/-- .. one frame of the interpreter deeper -/
theorem run_in1 {pins : List (Addr × Obj)} {σ : L2.St} {H : Hp} {s : Shared} {Q : VK} {us : List Value} {vs : List V} (F : FnR X.prog X.w X.K X.mg X.base CX k f sp) (hr : Room (k + 1) X.A) (hx : Passes CX X E) (I : Inv X pins σ H s) (r : Vals vs us) (h : sp vs H Q E) :
    wpAny (model X.prog X.w) X.A.in1 (call (.ref f) us) (EP X pins σ Q) X.xe s := by
  refine wpAny_call (codeAny_mono (F X.A.in1 X.stack s H us vs Q E hr.in1 I.env0.in1 r h) fun r s' hq => ?_)
  cases r with
  | error e => exact hx pins σ H s e s' I hq
  | ok fl =>
    cases fl with
    | ret u => exact I.after hq
    | next => exact False.elim hq
    | brk => exact False.elim hq
    | cont => exact False.elim hq
def tCallR (sp : Sp) (E : XK) (t : TA) : TE := fun σ H Q => t σ H fun vs H1 => sp vs H1 Q E
/-- f(e, ..), f a def of the module -/
theorem pe_fn (F : FnR X.prog X.w X.K X.mg X.base CX k f sp) (hr : Room k X.A) (hg : Gl X x) (hm : X.mg x = some (.ref f)) (hk : PySem.W.keepIn X.K (.ref f) = true) (hx : Passes CX X E) (ha : PA X (e :: es) t) (hdb : (x == ("__debug__" : Str)) = false := by decide)
    (he : starEach (e :: es) X.env = (false, eval e X.env) :: starEach es X.env := by rfl) (hpl : (backTo pos (starEach es X.env)).any (·.1) = false := by rfl) : PE X (.Call (.Name x p) (e :: es) [] pos) (tCallR sp E t) := by
  refine ⟨fun pins s σ H Q I h => ?_⟩
  refine wpAny_Call_Name_kw (ld_glob I hg hm ?_ hdb)
  exact PySem.W.callWith_K (h₀ := X.base) I.ok.mod.kin hk (thn (ha.run pos pins s σ H _ I h) fun us s1 ⟨vs, H1, I1, r, q⟩ => ⟨I1.kIn, run_val F hr hx I1 r q⟩) he hpl
/-- o.m() -/
theorem pe_methR0 {pl : Sem Bool} (he : PE X o ta) (c : Cls X.K C) (hm : Meth X.K C m f) (F : FnR X.prog X.w X.K X.mg X.base CX k f sp) (hr : Room k X.A) (hx : Passes CX X E)
    (ht : eval (.Call (.Attribute o m apos) [] [] pos) X.env = (do
      let ov ← eval o X.env
      standAt apos.atName
      let (f, first) ← holding [ov] (getMethod ov m pl)
      callWith pos f first (backTo pos (starEach [] X.env)) (backToKw pos (keywordEach [] X.env))) := by rfl) :
    PE X (.Call (.Attribute o m apos) [] [] pos) (tMethR C m sp E ta tNil) := by
  refine ⟨fun pins s σ H Q I h => ?_⟩
  refine PySem.W.methodCall_KW (pl := pl) (thn (he.run pins s σ H _ I h) fun u s1 ⟨x, H1, I1, rx, a, dx, fs, ex, ea, l, q⟩ => ?_) ht
  subst ex
  obtain rfl : u = Value.ref a := rx
  refine getmeth_ok I1 ea c hm l ?_
  exact PySem.W.callWith_K0 (first := [.ref a]) I1.kIn hm.kp (run_val (us := [.ref a]) (vs := [.ref a]) F hr hx I1 (.cons rfl .nil) q)
/-- C() -/
theorem pe_makeR0 (M : Mk X.K C f) (F : FnR X.prog X.w X.K X.mg X.base CX k f sp) (hr : Room (k + 1) X.A) (hg : Gl X x) (hm : X.mg x = some (.ref C)) (hx : Passes CX X E) (hdb : (x == ("__debug__" : Str)) = false := by decide) :
    PE X (.Call (.Name x p) [] [] pos) (tMakeR C sp E tNil) := by
  refine ⟨fun pins s σ H Q I h => ?_⟩
  refine wpAny_Call_Name_kw (ld_glob I hg hm ?_ hdb)
  exact PySem.W.callWith_K0 I.kIn M.kp (run_makeR (us := []) M F hr hx I .nil h)
/-- C(*e) -/
theorem pe_makeS (M : Mk X.K C f) (F : FnR X.prog X.w X.K X.mg X.base CX k f sp) (hr : Room (k + 1) X.A) (hg : Gl X x) (hm : X.mg x = some (.ref C)) (hx : Passes CX X E) (he : PE X e te) (hdb : (x == ("__debug__" : Str)) = false := by decide)
    (hst : starEach [.Starred e sp_] X.env = [(true, eval e X.env)] := by rfl) :
    PE X (.Call (.Name x p) [.Starred e sp_] [] pos) (tMakeR C sp E (tStar X.K te tNil)) := by
  refine ⟨fun pins s σ H Q I h => ?_⟩
  refine wpAny_Call_Name_kw (ld_glob I hg hm ?_ hdb)
  refine PySem.W.callWith_S (h₀ := X.base) I.ok.mod.kin M.kp (thn (he.run pins s σ H _ I h) fun v s1 ⟨y, H1, I1, ry, a, xs, ey, hxs, q⟩ => ?_) hst
  subst ey
  obtain rfl : v = Value.ref a := ry
  refine star_any I1 hxs fun us s2 I2 rv => ⟨I2.kIn, run_makeR M F hr hx I2 rv (fun x dx h1 h2 h3 => ?_)⟩
  have z := q x dx h1 h2 h3
  rw [List.append_nil] at z
  exact z
theorem args_two {M : Model} {A : Around} {E : Value → Shared → Prop} {s : Shared} {f : Value} {a b : Bool × Sem Value} {r : List (Bool × Sem Value)} {Q : Args → Shared → Prop} (h : wpAny M A (spliced (a :: b :: r)) (fun vs s₁ => Q ⟨vs, []⟩ s₁) E s) :
    wpAny M A (evalArgs f true (a :: b :: r) []) Q E s := by
  obtain ⟨a1, a2⟩ := a
  unfold evalArgs
  cases a1 with
  | false =>
    show wpAny M A (spliced ((false, a2) :: b :: r) >>= _) Q E s
    refine wpAny_bind (wpAny_mono h (fun vs s₁ h₁ => ?_) fun _ _ x => x)
    refine wpAny_holding ?_
    exact wpAny_bind (wpAny_pure (wpAny_bind (wpAny_pure (wpAny_pure h₁))))
  | true =>
    show wpAny M A (spliced ((true, a2) :: b :: r) >>= _) Q E s
    refine wpAny_bind (wpAny_mono h (fun vs s₁ h₁ => ?_) fun _ _ x => x)
    refine wpAny_holding ?_
    exact wpAny_bind (wpAny_pure (wpAny_bind (wpAny_pure (wpAny_pure h₁))))
/-- C(*e, e2) -/
theorem pe_makeS2 (M : Mk X.K C f) (F : FnR X.prog X.w X.K X.mg X.base CX k f sp) (hr : Room (k + 1) X.A) (hg : Gl X x) (hm : X.mg x = some (.ref C)) (hx : Passes CX X E) (he : PE X e te) (he2 : PE X e2 te2) (hdb : (x == ("__debug__" : Str)) = false := by decide)
    (hst : starEach [.Starred e sp_, e2] X.env = [(true, eval e X.env), (false, eval e2 X.env)] := by rfl) (hs2 : starEach [e2] X.env = [(false, eval e2 X.env)] := by rfl) :
    PE X (.Call (.Name x p) [.Starred e sp_, e2] [] pos) (tMakeR C sp E (tStar X.K te (tCons te2 tNil))) := by
  refine ⟨fun pins s σ H Q I h => ?_⟩
  have ha : PA X [.Starred e sp_, e2] (tStar X.K te (tCons te2 tNil)) := pa_star he (pa_cons he2 pa_nil hs2) (by rw [hst, hs2])
  refine wpAny_Call_Name_kw (ld_glob I hg hm ?_ hdb)
  have q := ha.run pos pins s σ H _ I h
  rw [hst] at q ⊢
  refine PySem.W.ks_call rfl (PySem.W.keeps_K M.kp) (args_two (thn q fun us s1 ⟨vs, H1, I1, r, q1⟩ => ⟨I1.kIn, run_makeR M F hr hx I1 r q1⟩))
/-- len(o), o of an own class that has it -/
theorem call_lenOwn (h1 : PySem.W.findIn X.K (.ref C) "__len__" = some (some (.ref f))) (h2 : PySem.W.isFn X.K (.ref f) = true) (F : FnR X.prog X.w X.K X.mg X.base CX k f sp) (hr : Room (k + 1) X.A) (hx : Passes CX X E) :
    CallR X (.builtin "len") (fun xs H Q => ∃ a dx fs, xs = [.ref a] ∧ H a = some (.ins C dx fs) ∧ sp [.ref a] H (fun v H' => ∃ n : Nat, v = .int n ∧ n ≤ 1000 ∧ Q v H') E) := by
  intro pins s σ H xs us Q I r h
  obtain ⟨a, dx, fs, rfl, ea, q⟩ := h
  obtain ⟨u, rfl, ru⟩ : ∃ u, us = [u] ∧ RelV (.ref a) u := by
    cases r with
    | cons a b => cases b; exact ⟨_, rfl, a⟩
  cases (show u = Value.ref a from ru)
  obtain ⟨m1, O1, _⟩ := ins_get I.hok ea
  obtain ⟨od, J1, _⟩ := O1.look
  obtain ⟨m, Fm⟩ := I.fr
  refine PySem.W.len_K Fm I.ok.mod.kin J1 h1 h2 (wpAny_mono (run_in1 (us := [.ref a]) (vs := [.ref a]) F hr hx I (.cons rfl .nil) q) (fun v s' hv => ?_) fun _ _ z => z)
  obtain ⟨y, H', I', ry, n, rfl, hn, q'⟩ := hv
  obtain ⟨t, rfl⟩ := ry
  refine ⟨⟨Int.natCast_nonneg _, ?_⟩, ⟨V.int n, H', I'.tok _, ⟨_, rfl⟩, q'⟩⟩
  have : (n : Int) ≤ 1000 := by omega
  exact Int.lt_of_le_of_lt this (by decide)
end
end Pp

end
section
set_option Elab.async false
set_option linter.all false
set_option maxRecDepth 100000
set_option maxHeartbeats 4000000
/-! min of a list of tuples of numbers, with default; tuple of a dict. -/
namespace Pp
open PySem PySem.Spec PyProof.Rows L2
abbrev TI : Type := PySem.W.Tup Int
def lexI : List Int → List Int → Bool
  | [], [] => false
  | [], _ :: _ => true
  | _ :: _, [] => false
  | x :: xs, y :: ys => if x = y then lexI xs ys else decide (x < y)
theorem lexI_eq : ∀ xs ys : List Int, PySem.W.listLt xs ys = lexI xs ys
  | [], [] => rfl
  | [], _ :: _ => rfl
  | _ :: _, [] => rfl
  | x :: xs, y :: ys => by
    unfold PySem.W.listLt lexI
    rw [lexI_eq xs ys]
    rfl
theorem lexI_irr : ∀ xs : List Int, lexI xs xs = false
  | [] => rfl
  | x :: xs => by unfold lexI; rw [if_pos rfl]; exact lexI_irr xs
theorem lexI_tr : ∀ {a b c : List Int}, lexI a b = false → lexI b c = false → lexI a c = false
  | [], [], [], _, _ => rfl
  | [], [], _ :: _, _, h => by cases h
  | [], _ :: _, _, h, _ => by cases h
  | _ :: _, [], [], _, _ => rfl
  | _ :: _, [], _ :: _, _, h => by cases h
  | _ :: _, _ :: _, [], _, _ => rfl
  | x :: xs, y :: ys, z :: zs, h, k => by
    unfold lexI at h k ⊢
    by_cases e : x = y
    · subst e
      rw [if_pos rfl] at h
      by_cases e2 : x = z
      · subst e2
        rw [if_pos rfl] at k ⊢
        exact lexI_tr h k
      · rw [if_neg e2] at k ⊢
        exact k
    · rw [if_neg e] at h
      have h1 := of_decide_eq_false h
      by_cases e2 : y = z
      · subst e2
        rw [if_neg e]
        exact h
      · rw [if_neg e2] at k
        have h2 := of_decide_eq_false k
        have e3 : x ≠ z := by omega
        rw [if_neg e3]
        exact decide_eq_false (by omega)
theorem lexI_as : ∀ {a b : List Int}, lexI a b = true → lexI b a = false
  | [], [], h => by cases h
  | [], _ :: _, _ => rfl
  | _ :: _, [], h => by cases h
  | x :: xs, y :: ys, h => by
    unfold lexI at h ⊢
    by_cases e : x = y
    · subst e
      rw [if_pos rfl] at h ⊢
      exact lexI_as h
    · rw [if_neg e] at h
      rw [if_neg (Ne.symm e)]
      have := of_decide_eq_true h
      exact decide_eq_false (by omega)
/-- of numbers that are not less than one another there is one alone -/
theorem lexI_anti : ∀ {a b : List Int}, lexI a b = false → lexI b a = false → a = b
  | [], [], _, _ => rfl
  | [], _ :: _, h, _ => by cases h
  | _ :: _, [], _, h => by cases h
  | x :: xs, y :: ys, h, k => by
    unfold lexI at h k
    by_cases e : x = y
    · subst e
      rw [if_pos rfl] at h k
      rw [lexI_anti h k]
    · rw [if_neg e] at h
      rw [if_neg (Ne.symm e)] at k
      have h1 := of_decide_eq_false h
      have h2 := of_decide_eq_false k
      omega
theorem minOf_least : ∀ (ys : List TI) (y : TI), (PySem.W.minOf y ys = y ∨ PySem.W.minOf y ys ∈ ys) ∧ lexI y.items (PySem.W.minOf y ys).items = false ∧ ∀ z ∈ ys, lexI z.items (PySem.W.minOf y ys).items = false
  | [], y => ⟨.inl rfl, lexI_irr _, fun _ h => by cases h⟩
  | z :: zs, y => by
    have e : PySem.W.minOf y (z :: zs) = PySem.W.minOf (if lexI z.items y.items = true then z else y) zs := by
      show (List.foldl _ (if PySem.W.DatumOrd.lt z y = true then z else y) zs) = _
      have : PySem.W.DatumOrd.lt z y = lexI z.items y.items := lexI_eq _ _
      rw [this]
      rfl
    rw [e]
    by_cases h : lexI z.items y.items = true
    · rw [if_pos h]
      obtain ⟨h1, h2, h3⟩ := minOf_least zs z
      refine ⟨.inr ?_, ?_, fun a ha => ?_⟩
      · rcases h1 with h1 | h1
        · rw [h1]; exact List.mem_cons_self
        · exact List.mem_cons_of_mem _ h1
      · exact lexI_tr (lexI_as h) h2
      · rcases List.mem_cons.mp ha with rfl | ha
        · exact h2
        · exact h3 a ha
    · rw [if_neg h]
      have h' : lexI z.items y.items = false := by
        cases q : lexI z.items y.items with
        | false => rfl
        | true => exact absurd q h
      obtain ⟨h1, h2, h3⟩ := minOf_least zs y
      refine ⟨h1.imp id (List.mem_cons_of_mem _), h2, fun a ha => ?_⟩
      rcases List.mem_cons.mp ha with rfl | ha
      · exact lexI_tr h' h2
      · exact h3 a ha
/-- a tuple of whole numbers, as data -/
def tupD (ns : List Int) : PyData := .tuple (ns.map .int)
/-- min(l, default=None), l a list of tuples of numbers -/
def rMinT (K : PySem.W.Frag) : List V → List V → Hp → VK → Prop := fun vs zs H Q => ∃ (a : Addr) (xs : List V) (nss : List (List Int)), vs = [.ref a] ∧ zs = [.non] ∧ SqL K H a xs ∧ DpAll K H xs (nss.map tupD) ∧ (nss = [] → Q .non H) ∧
  ∀ (i : Nat) (v : V) (n : List Int), xs[i]? = some v → nss[i]? = some n → (∀ m ∈ nss, lexI m n = false) → Q v H
theorem cr_minT {X : Cx} (hc : X.calm = true) (hu : X.A.units + 64 < cLine) : CallRK X (.builtin "min") [Str.ofString "default"] (rMinT X.K) := by
  intro pins s σ H xs zs us ws Q I r rz h
  obtain ⟨a, vs, nss, rfl, rfl, hl, hd, h0, h1⟩ := h
  obtain ⟨u, rfl, ru⟩ : ∃ u, us = [u] ∧ RelV (.ref a) u := by
    cases r with
    | cons a b => cases b; exact ⟨_, rfl, a⟩
  cases (show u = Value.ref a from ru)
  obtain ⟨u, rfl, ru⟩ : ∃ u, ws = [u] ∧ RelV .non u := by
    cases rz with
    | cons a b => cases b; exact ⟨_, rfl, a⟩
  cases (show u = Value.none from ru)
  obtain ⟨its, rv, ⟨o, n, e1, e2, e3, e4⟩, _⟩ := I.list hl
  have hL : s.heap.IsList a its.toArray := ⟨o, e1, e2, _, e4⟩
  obtain ⟨as, rs⟩ := Dp.readsAll I _ _ its hd rv
  have em : (nss.map PySem.W.Tup.mk).map PySem.W.Datum.toD = nss.map tupD := by
    rw [List.map_map]
    rfl
  have HA : PySem.W.HoldAll s.heap its.toArray.toList (nss.map PySem.W.Tup.mk) := ⟨as, by rw [em]; exact rs⟩
  have hdp : PySem.W.Datum.depth (PySem.W.Tup Int) ≤ 2 := by decide
  refine PySem.W.min_list_datum_default (I.ok.hd hc) hL HA (Nat.lt_of_le_of_lt (by omega) hu) (fun e h' tk k => ⟨.non, H, I.kept (t' := tk) k, rfl, h0 (List.map_eq_nil_iff.mp e)⟩) fun y ys i v h' tk e hi ho k => ?_
  have hi' : its[i]? = some v := by simpa using hi
  obtain ⟨z, hz, hz2⟩ := PySem.W.HoldAll.at HA (by simpa using hi')
  have I' := I.kept (t' := tk) k
  obtain ⟨b1, r1⟩ := hz2
  obtain ⟨b2, r2⟩ := ho
  have ea := PySem.W.alike_unique _ _ _ _ _ (PySem.W.DatumOrd.alike z (PySem.W.minOf y ys)) (Reads.keeps k r1) r2
  have ez : z = PySem.W.minOf y ys := by
    have q1 := PySem.W.Datum.eqv z (PySem.W.minOf y ys)
    have q2 := PySem.W.Datum.eqv z z
    rw [← ea, q2] at q1
    have q3 : decide (z = PySem.W.minOf y ys) = true := by rw [← q1]; exact decide_eq_true rfl
    exact of_decide_eq_true q3
  rw [List.getElem?_map] at hz
  obtain ⟨n0, hn0, hn1⟩ := Option.map_eq_some_iff.mp hz
  obtain ⟨x, hx, rx⟩ : ∃ x, vs[i]? = some x ∧ RelV x v := by
    have hlt : i < its.length := (List.getElem?_eq_some_iff.mp hi').1
    have hlt2 : i < vs.length := by rw [rv.length]; exact hlt
    obtain ⟨w, hw, rw'⟩ := rv.get (List.getElem?_eq_getElem hlt2)
    rw [hi'] at hw
    cases hw
    exact ⟨_, List.getElem?_eq_getElem hlt2, rw'⟩
  refine ⟨x, H, I', rx, h1 i x n0 hx hn0 fun m hm => ?_⟩
  have hm2 : PySem.W.Tup.mk m ∈ y :: ys := by rw [← e]; exact List.mem_map_of_mem hm
  obtain ⟨_, l1, l2⟩ := minOf_least ys y
  have en : n0 = (PySem.W.minOf y ys).items := by rw [← ez, ← hn1]
  rw [en]
  rcases List.mem_cons.mp hm2 with q | q
  · rw [← q] at l1 ⊢
    exact l1
  · exact l2 _ q
end Pp

end
section
set_option Elab.async false
set_option linter.all false
set_option maxRecDepth 100000
set_option maxHeartbeats 4000000
/-! tuple(d), d a dict: its keys. -/
namespace Pp
open PySem PySem.Spec PyProof.Rows L2 PySem.W
section
variable {prog : Program} {w : World} {A : Around} {E : Value → Shared → Prop} {s : Shared} {T : String} {q0 d0 : Addr} {n : Nat} {P : Nat → Value → Prop} {OK : Heap → Prop}
theorem gather_src {Q : List Value → Shared → Prop} (K : KdlSrc prog w T q0 d0 n P OK) (hh : A.handled = none) (hok : OK s.heap) (hn : n ≤ sizeLine)
    (hQ : ∀ (h' : Heap) (tk : Nat) (acc : Array Value), (∀ b o, s.heap.get? b = some o → h'.get? b = some o) → ItemsOf P acc n → Q acc.toList { s with heap := h', toks := tk }) : wpAny (model prog w) A (collect (.ref q0)) Q E s := by
  unfold collect
  refine wpAny_bind (wpAny_runValue (codeAny_builtin PySem.F.entry_proto_collect ?_)); rw [Around.under_plainId PySem.F.plain_proto_collect _]
  show wpAny _ A.in1 (newList [] >>= fun l => again (.builtin "list.__iadd__" ⟨[l, .ref q0], []⟩)) _ _ s
  refine wpAny_bind (wpAny_newObj_type (wpAny_pure ⟨plainId_quiet PySem.F.plain_list_iadd _, codeAny_builtin PySem.F.entry_list_iadd ?_⟩)); rw [Around.under_plainId PySem.F.plain_list_iadd _]
  show wpAny _ A.in1 (Builtin.List.listExtendWith (.ref s.heap.objs.size) (.ref q0) (.ref s.heap.objs.size)) _ _ _
  have new0 : (s.heap.push { cls := .type "list", data := .seq ([] : List Value).toArray }).get? s.heap.objs.size = some { cls := .type "list", data := .seq #[] 0 } := Heap.get?_push_size _ rfl
  have lt0 := K.there _ hok
  refine wpAny_mono (kdl_extend (A := A) (R := fun rr s' => rr = .ok (.ret (.ref s.heap.objs.size)) ∧ ∃ (h' : Heap) (tk : Nat) (acc : Array Value) (c' : Nat), s' = { s with heap := h', toks := tk } ∧
      (∀ b o, s.heap.get? b = some o → h'.get? b = some o) ∧ h'.get? s.heap.objs.size = some { cls := .type "list", dict := none, data := .seq acc c', slots := #[] } ∧ ItemsOf P acc n)
    (s := { s with heap := s.heap.push { cls := .type "list", data := .seq ([] : List Value).toArray } }) K hh (K.keep _ _ hok fun b _ o e => Heap.get?_push_of_some _ e) _ (Nat.ne_of_gt lt0.1) (Nat.ne_of_gt lt0.2) _ 0 new0
    (fun h' tk acc c' hk e hi => ⟨rfl, h', tk, acc, c', rfl, fun b o z => hk b o (Nat.ne_of_lt (Heap.lt_size z)) (Heap.get?_push_of_some _ z), e, hi⟩) hn) (fun fin s' hr => ?_) (fun e s' hr => ?_)
  · have fine : ∀ (h' : Heap) (tk : Nat) (acc : Array Value) (c' : Nat), (∀ b o, s.heap.get? b = some o → h'.get? b = some o) → h'.get? s.heap.objs.size = some { cls := .type "list", dict := none, data := .seq acc c', slots := #[] } → ItemsOf P acc n →
        wpAny (model prog w) A (load s.heap.objs.size >>= fun o => match o.data with | Data.seq xs _ => pure xs.toList | _ => unsupported "internal:collect") Q E { s with heap := h', toks := tk } :=
      fun h' tk acc c' hk hS' hi => wpAny_bind (wpAny_load hS' (wpAny_pure (hQ h' tk acc hk hi)))
    cases fin with
    | done f =>
      obtain ⟨e, h', tk, acc, c', rfl, hk, hS', hi⟩ := hr
      cases e
      exact fine h' tk acc c' hk hS' hi
    | again c' =>
      refine ⟨hr.1, codeAny_mono hr.2 fun rr s'' z => ?_⟩
      obtain ⟨rfl, h', tk, acc, c', rfl, hk, hS', hi⟩ := z
      exact fine h' tk acc c' hk hS' hi
  · exact absurd hr.1 (by simp)
theorem newTuple_src {Q₁ : Value → Shared → Prop} (K : KdlSrc prog w T q0 d0 n P OK) (hT2 : (Value.type T == Value.type "tuple") = false) (hh : A.handled = none) (hok : OK s.heap) (hn : n ≤ sizeLine)
    (h : ∀ (h' : Heap) (tk : Nat) (acc : Array Value), (∀ b o, s.heap.get? b = some o → h'.get? b = some o) → ItemsOf P acc n → Q₁ (.ref h'.objs.size) { s with heap := h'.push { cls := .type "tuple", data := .seq acc }, toks := tk }) :
    codeAny (model prog w) A (.call (.builtin "tuple.__new__") ⟨[.type "tuple", .ref q0], []⟩) (wants Q₁ E) s := by
  refine codeAny_of_tree ?_
  show wpAny _ A.in1 (do checkBuiltinCall "tuple.__new__" ⟨[.type "tuple", .ref q0], []⟩; again (.builtin "tuple.__new__" ⟨[.type "tuple", .ref q0], []⟩)) _ _ s
  refine wpAny_bind (wpAny_of_eq (PySem.F.newCall_tuple_1 _) (wpAny_pure ⟨plainId_quiet PySem.F.plain_tuple_new _, codeAny_builtin PySem.F.entry_tuple_new ?_⟩)); rw [Around.under_plainId PySem.F.plain_tuple_new _]
  have hsub := sub_tuple_self
  have hinit := init_tuple_lookup
  have hmh := madeHere_tuple
  have tyq : s.TypeIs (.ref q0) T := K.type s hok
  have hh1 : A.in1.handled = none := hh
  wp_walk using wpAny_typeOf tyq, gather_src (A := A.in1) K hh1 hok hn
  intro h' tk acc hk hi
  show wpAny _ _ (Builtin.Tuple.tupleExact acc.toList.toArray >>= fun v => ret v) _ _ _
  unfold Builtin.Tuple.tupleExact
  refine wpAny_bind (wpAny_newObj_type ?_ (by show acc.toList.toArray.size ≤ sizeLine; simp only [Array.toArray_toList]; rw [hi.1]; exact hn))
  refine wpAny_pure ?_
  rw [show acc.toList.toArray = acc by simp]
  exact h h' tk acc hk hi
theorem tuple_src {Q : Value → Shared → Prop} (K : KdlSrc prog w T q0 d0 n P OK) (hT2 : (Value.type T == Value.type "tuple") = false) (hh : A.handled = none) (hok : OK s.heap) (hn : n ≤ sizeLine)
    (hQ : ∀ (h' : Heap) (tk : Nat) (acc : Array Value), (∀ b o, s.heap.get? b = some o → h'.get? b = some o) → ItemsOf P acc n → Q (.ref h'.objs.size) { s with heap := h'.push { cls := .type "tuple", data := .seq acc }, toks := tk }) :
    wpAny (model prog w) A (call (.type "tuple") [.ref q0]) Q E s := by
  refine callType_codes (Q₁ := fun obj s₁ => s₁.TypeIs obj "tuple" ∧ Q obj s₁) PySem.F.called_tuple (PySem.F.typeCall_tuple_1 _) PySem.F.entry_object_init
    (newTuple_src (A := A.in1) K hT2 hh hok hn fun h' tk acc hk hi => ⟨⟨_, Heap.get?_push_size _ rfl, rfl⟩, hQ h' tk acc hk hi⟩) fun obj s₁ h₁ => ?_
  exact ⟨h₁.1, PySem.F.args_object_init_2 obj _, object_init_meets PySem.F.called_tuple.init.lookup PySem.F.called_tuple.made (by decide) prog w A.in1 _ s₁ ⟨h₁.1, rfl, h₁.2⟩⟩
end
/-- tuple(d): a new tuple of the keys -/
def rTupD : List V → Hp → VK → Prop := fun xs H Q => ∃ p kvs, xs = [.ref p] ∧ H p = some (.dK kvs) ∧ ∀ q, H q = none → Q (.ref q) (upd H q (.tup (kvs.map fun kv => kV kv.1)))
theorem call_tuple_dK {X : Cx} (hc : X.calm = true) : CallR X (.type "tuple") rTupD := by
  intro pins s σ H xs us Q I r h
  obtain ⟨p, kvs, e, hk, q⟩ := h
  subst e
  obtain ⟨u, eu, rx⟩ := vals1 r
  subst eu
  obtain rfl : u = Value.ref p := rx
  obtain ⟨z, lo, vs, rk, hd⟩ := (show ObjOk X.prog X.w H s.heap p (.dK kvs) from I.hok p _ hk)
  obtain ⟨ep, hat⟩ := hd.dictAt
  have hl : kvs.length = vs.length := Paired.length rk
  refine tuple_src (PySem.W.kdl_dict (knd := mixKind X.prog X.w) (kvs := vs) (ep := ep) lo) (by decide) (I.ok.hd hc) hat (by rw [← hl]; exact z) fun h' tk acc hkeep hacc => ?_
  have I1 : L2.Inv X pins σ H { s with heap := h', toks := tk } := I.kept (t' := tk) hkeep
  refine ⟨.ref h'.objs.size, upd H h'.objs.size (.tup (kvs.map fun kv => kV kv.1)), ?_, rfl, q _ (I1.hok.fresh (Nat.le_refl _))⟩
  refine I1.laid (t' := tk) (fun b o e => Heap.get?_push_of_some _ e) (Nat.le_refl _) (show ObjOk X.prog X.w _ _ _ (.tup (kvs.map fun kv => kV kv.1)) from ⟨?_, acc.toList, ?_, ?_⟩)
  · rw [List.length_map]; exact z
  · have el : acc.toList.length = acc.size := by simp
    refine vals_of_at (by rw [List.length_map, el, hacc.1, hl]) fun j x w h1 h2 => ?_
    obtain ⟨k, y, hky, hi⟩ := hacc.2 j w (by rw [← Array.getElem?_toList]; exact h2)
    have e1 : (kvs.map (·.1))[j]? = some k := by
      rw [KV.keys rk, List.getElem?_map, hky] <;> rfl
    have e2 : (kvs.map fun kv => kV kv.1)[j]? = some (kV k) := by
      rw [show (kvs.map fun kv => kV kv.1) = (kvs.map (·.1)).map kV by rw [List.map_map] <;> rfl, List.getElem?_map, e1] <;> rfl
    rw [e2] at h1
    cases h1
    exact keyIs_rel hi
  · rw [show acc.toList.toArray = acc by simp]
    exact IsTup.new _ _
end Pp

end
section
set_option Elab.async false
set_option linter.all false
set_option maxRecDepth 100000
set_option maxHeartbeats 4000000
/-! repr of a tuple of rows. -/
namespace Pp
open PySem PySem.Spec PyProof.Rows L2
/-- repr(x), x data at an address, nothing around that is being shown -/
theorem call_reprD {X : Cx} (hg : X.A.guards = some []) (hu : X.A.units + 64 < cLine) : CallR X (.builtin "repr") (fun xs H Q => ∃ (a : Addr) (d : PyData), xs = [.ref a] ∧ Dp X.K H (.ref a) d ∧ d.showable = true ∧ d.hasDict = false ∧ d.shown.length ≤ sizeLine ∧ d.depth ≤ 60 ∧ Q (.str d.shown) H) := by
  intro pins s σ H xs us Q I r h
  obtain ⟨a, d, rfl, hd, h1, h2, h3, h4, q⟩ := h
  obtain ⟨u, rfl, ru⟩ := vals1 r
  cases (show u = Value.ref a from ru)
  obtain ⟨as, rd⟩ := Dp.reads I d _ _ hd (show RelV (.ref a) (.ref a) from rfl)
  exact repr_of_reads' rd h1 (fun z => by rw [h2] at z; cases z) hg (by omega) (fun _ _ e => e) (fun h' u tk k => ⟨.str d.shown, H, I.kept (t' := tk) k, ⟨_, rfl⟩, q⟩) h3

/-! ### rows -/
/-- name, count, day, post, blocker -/
structure Row where
  name : Str
  count : Int
  day : Int
  post : Int
  by_ : Str
def rowD (r : Row) : PyData := .tuple [.str r.name, .int r.count, .tuple [.int r.day, .int r.post, .str r.by_]]
def rowsD (rs : List Row) : PyData := .tuple (rs.map rowD)
/-- what can be shown -/
def RowFit (r : Row) : Prop := r.name.length ≤ 8 ∧ r.by_.length ≤ 8 ∧ r.count.natAbs < 10 ^ 40 ∧ r.day.natAbs < 10 ^ 40 ∧ r.post.natAbs < 10 ^ 40 ∧ (∀ c ∈ r.name.cps.toList, c < 128) ∧ ∀ c ∈ r.by_.cps.toList, c < 128
theorem short_int {i : Int} (h : i.natAbs < 10 ^ 40) : PyData.leavesShort 41 (.int i) = true := by
  simp only [PyData.leavesShort]
  refine decide_eq_true ?_
  have e := int_text_length_le10 (k := 40) (by decide) h
  show (Str.ofString (toString i)).length ≤ 41
  rw [PySem.ofString_length]
  exact e
theorem short_str {x : Str} (h : ∀ c ∈ x.cps.toList, c < 128) : PyData.leavesShort 41 (.str x) = true := by
  simp only [PyData.leavesShort]
  exact List.all_eq_true.mpr fun c hc => decide_eq_true (Nat.lt_trans (h c hc) (by decide))
theorem small_int {i : Int} (h : i.natAbs < 10 ^ 40) : PyData.showable (.int i) = true := by
  simp only [PyData.showable]
  refine decide_eq_true ?_
  exact log2_small (Nat.lt_of_lt_of_le h (Nat.le_trans (by decide : 10 ^ 40 ≤ 2 ^ 200) (Nat.pow_le_pow_right (by decide) (by decide))))
theorem row_fit {r : Row} (h : RowFit r) : PyData.leavesShort 41 (rowD r) = true ∧ PyData.showable (rowD r) = true ∧ PyData.hasDict (rowD r) = false ∧ PyData.bulk (rowD r) ≤ 24 ∧ (rowD r).depth = 2 := by
  obtain ⟨h1, h2, h3, h4, h5, h6, h7⟩ := h
  refine ⟨?_, ?_, ?_, ?_, ?_⟩
  · simp only [rowD, PyData.leavesShort, PyData.leavesShortAll] at *
    have a1 := short_int h3
    have a2 := short_int h4
    have a3 := short_int h5
    have a4 := short_str h6
    have a5 := short_str h7
    simp only [PyData.leavesShort] at a1 a2 a3 a4 a5
    simp only [a1, a2, a3, a4, a5, Bool.and_self]
  · have a1 := small_int h3
    have a2 := small_int h4
    have a3 := small_int h5
    simp only [rowD, PyData.showable, PyData.showableAll] at *
    simp only [a1, a2, a3, Bool.and_self]
  · simp only [rowD, PyData.hasDict, PyData.hasDictAll, Bool.or_self]
  · simp only [rowD, PyData.bulk, PyData.bulkAll]
    have e1 : r.name.cps.size ≤ 8 := h1
    have e2 : r.by_.cps.size ≤ 8 := h2
    omega
  · simp only [rowD, PyData.depth, PyData.depthAll]
    rfl
theorem rows_fit : ∀ {rs : List Row}, (∀ r ∈ rs, RowFit r) → PyData.leavesShortAll 41 (rs.map rowD) = true ∧ PyData.showableAll (rs.map rowD) = true ∧ PyData.hasDictAll (rs.map rowD) = false ∧ PyData.bulkAll (rs.map rowD) ≤ 25 * rs.length ∧ PyData.depthAll (rs.map rowD) ≤ 2
  | [], _ => by simp [PyData.leavesShortAll, PyData.showableAll, PyData.hasDictAll, PyData.bulkAll, PyData.depthAll]
  | r :: rs, h => by
    obtain ⟨a1, a2, a3, a4, a5⟩ := row_fit (h r List.mem_cons_self)
    obtain ⟨b1, b2, b3, b4, b5⟩ := rows_fit (rs := rs) fun x hx => h x (List.mem_cons_of_mem _ hx)
    simp only [List.map_cons, PyData.leavesShortAll, PyData.showableAll, PyData.hasDictAll, PyData.bulkAll, PyData.depthAll, a1, a2, a3, a5, b1, b2, b3, Bool.and_self, Bool.or_self, List.length_cons]
    refine ⟨trivial, trivial, trivial, by omega, ?_⟩
    exact Nat.max_le.mpr ⟨Nat.le_refl _, b5⟩
theorem rowsD_fit {rs : List Row} (h : ∀ r ∈ rs, RowFit r) (hl : rs.length ≤ 40) : (rowsD rs).showable = true ∧ (rowsD rs).hasDict = false ∧ (rowsD rs).shown.length ≤ sizeLine ∧ (rowsD rs).depth ≤ 60 := by
  obtain ⟨b1, b2, b3, b4, b5⟩ := rows_fit h
  refine ⟨?_, ?_, ?_, ?_⟩
  · simp only [rowsD, PyData.showable]
    exact b2
  · simp only [rowsD, PyData.hasDict]
    exact b3
  · have q := PyData.shown_le_bulk 41 (by decide) (rowsD rs) (by simp only [rowsD, PyData.leavesShort]; exact b1)
    have e : (rowsD rs).bulk = PyData.bulkAll (rs.map rowD) := by simp only [rowsD, PyData.bulk]
    rw [e] at q
    rw [sizeLine_eq]
    omega
  · simp only [rowsD, PyData.depth]
    omega
end Pp

end
section
set_option Elab.async false
set_option linter.all false
set_option maxRecDepth 100000
set_option maxHeartbeats 4000000
/-! The facts of the top by names (printed by gen_tx.py). -/
namespace Pp
open PySem PySem.Spec PyProof.Rows L2
structure Tx (K : PySem.W.Frag) (mg : Str → Option Value) : Prop where
  c : seenK K = seenW
  glo : ∀ x : Str, (He.Fa.glo x).ok K = true → mg x = some (.ref (ga K x))
  fre : ∀ x : Str, (He.Fa.free x).ok K = true → mg x = none
  int : ∀ (x : Str) (i : Int), (He.Fa.int x i).ok K = true → ∃ t, mg x = some (.int i t)
  str : ∀ (x z : Str), (He.Fa.str x z).ok K = true → ∃ t, mg x = some (.str z t)
theorem Tx.of {K : PySem.W.Frag} {mg : Str → Option Value} {h : Heap} (X : K.In h) (G : h.Ns mainGlobals mg) (c : seenK K = seenW) : Tx K mg :=
  ⟨c, fun _ => He.glo_ok X G, fun _ => He.free_ok X G, fun _ _ => He.int_ok X G, fun _ _ => He.str_ok X G⟩
section
variable {K : PySem.W.Frag} {mg : Str → Option Value}
theorem Tx.g_is_integer (T : Tx K mg) : mg "is_integer" = some (.ref (ga K "is_integer")) := T.glo _ (fact_of T.c 0)
theorem Tx.g_is_between (T : Tx K mg) : mg "is_between" = some (.ref (ga K "is_between")) := T.glo _ (fact_of T.c 1)
theorem Tx.g_inverse (T : Tx K mg) : mg "inverse" = some (.ref (ga K "inverse")) := T.glo _ (fact_of T.c 2)
theorem Tx.g_greatest_divisor (T : Tx K mg) : mg "greatest_divisor" = some (.ref (ga K "greatest_divisor")) := T.glo _ (fact_of T.c 3)
theorem Tx.g_least_true (T : Tx K mg) : mg "least_true" = some (.ref (ga K "least_true")) := T.glo _ (fact_of T.c 4)
theorem Tx.g_floor_sum (T : Tx K mg) : mg "floor_sum" = some (.ref (ga K "floor_sum")) := T.glo _ (fact_of T.c 5)
theorem Tx.g_remainders_below (T : Tx K mg) : mg "remainders_below" = some (.ref (ga K "remainders_below")) := T.glo _ (fact_of T.c 6)
theorem Tx.g_ceiling (T : Tx K mg) : mg "ceiling" = some (.ref (ga K "ceiling")) := T.glo _ (fact_of T.c 7)
theorem Tx.g_RingCrossing (T : Tx K mg) : mg "RingCrossing" = some (.ref (ga K "RingCrossing")) := T.glo _ (fact_of T.c 8)
theorem Tx.g_RingBlocks (T : Tx K mg) : mg "RingBlocks" = some (.ref (ga K "RingBlocks")) := T.glo _ (fact_of T.c 9)
theorem Tx.g_Ring (T : Tx K mg) : mg "Ring" = some (.ref (ga K "Ring")) := T.glo _ (fact_of T.c 10)
theorem Tx.g_is_name (T : Tx K mg) : mg "is_name" = some (.ref (ga K "is_name")) := T.glo _ (fact_of T.c 11)
theorem Tx.g_is_name_names (T : Tx K mg) : mg "is_name_names" = some (.ref (ga K "is_name_names")) := T.glo _ (fact_of T.c 12)
theorem Tx.g_Painter (T : Tx K mg) : mg "Painter" = some (.ref (ga K "Painter")) := T.glo _ (fact_of T.c 13)
theorem Tx.g_Fence (T : Tx K mg) : mg "Fence" = some (.ref (ga K "Fence")) := T.glo _ (fact_of T.c 14)
theorem Tx.g_Blocks (T : Tx K mg) : mg "Blocks" = some (.ref (ga K "Blocks")) := T.glo _ (fact_of T.c 15)
theorem Tx.g__law_pen (T : Tx K mg) : mg "_law_pen" = some (.ref (ga K "_law_pen")) := T.glo _ (fact_of T.c 16)
theorem Tx.g__law_draw (T : Tx K mg) : mg "_law_draw" = some (.ref (ga K "_law_draw")) := T.glo _ (fact_of T.c 17)
theorem Tx.g__law_pick (T : Tx K mg) : mg "_law_pick" = some (.ref (ga K "_law_pick")) := T.glo _ (fact_of T.c 18)
theorem Tx.g__law_around (T : Tx K mg) : mg "_law_around" = some (.ref (ga K "_law_around")) := T.glo _ (fact_of T.c 19)
theorem Tx.g__law_power (T : Tx K mg) : mg "_law_power" = some (.ref (ga K "_law_power")) := T.glo _ (fact_of T.c 20)
theorem Tx.g__law_great (T : Tx K mg) : mg "_law_great" = some (.ref (ga K "_law_great")) := T.glo _ (fact_of T.c 21)
theorem Tx.g__law_names (T : Tx K mg) : mg "_law_names" = some (.ref (ga K "_law_names")) := T.glo _ (fact_of T.c 22)
theorem Tx.g__law_gcd (T : Tx K mg) : mg "_law_gcd" = some (.ref (ga K "_law_gcd")) := T.glo _ (fact_of T.c 23)
theorem Tx.g__law_fence (T : Tx K mg) : mg "_law_fence" = some (.ref (ga K "_law_fence")) := T.glo _ (fact_of T.c 24)
theorem Tx.g__law_small_ring (T : Tx K mg) : mg "_law_small_ring" = some (.ref (ga K "_law_small_ring")) := T.glo _ (fact_of T.c 25)
theorem Tx.g__law_lot_ring (T : Tx K mg) : mg "_law_lot_ring" = some (.ref (ga K "_law_lot_ring")) := T.glo _ (fact_of T.c 26)
theorem Tx.g__law_sent (T : Tx K mg) : mg "_law_sent" = some (.ref (ga K "_law_sent")) := T.glo _ (fact_of T.c 27)
theorem Tx.g__law_unit (T : Tx K mg) : mg "_law_unit" = some (.ref (ga K "_law_unit")) := T.glo _ (fact_of T.c 28)
theorem Tx.g_law (T : Tx K mg) : mg "law" = some (.ref (ga K "law")) := T.glo _ (fact_of T.c 29)
theorem Tx.z_len (T : Tx K mg) : mg "len" = none := T.fre _ (fact_of T.c 30)
theorem Tx.z_isinstance (T : Tx K mg) : mg "isinstance" = none := T.fre _ (fact_of T.c 31)
theorem Tx.z_int (T : Tx K mg) : mg "int" = none := T.fre _ (fact_of T.c 32)
theorem Tx.z_bool (T : Tx K mg) : mg "bool" = none := T.fre _ (fact_of T.c 33)
theorem Tx.z_str (T : Tx K mg) : mg "str" = none := T.fre _ (fact_of T.c 34)
theorem Tx.z_abs (T : Tx K mg) : mg "abs" = none := T.fre _ (fact_of T.c 35)
theorem Tx.z_divmod (T : Tx K mg) : mg "divmod" = none := T.fre _ (fact_of T.c 36)
theorem Tx.z_min (T : Tx K mg) : mg "min" = none := T.fre _ (fact_of T.c 37)
theorem Tx.z_max (T : Tx K mg) : mg "max" = none := T.fre _ (fact_of T.c 38)
theorem Tx.z_enumerate (T : Tx K mg) : mg "enumerate" = none := T.fre _ (fact_of T.c 39)
theorem Tx.z_tuple (T : Tx K mg) : mg "tuple" = none := T.fre _ (fact_of T.c 40)
theorem Tx.z_list (T : Tx K mg) : mg "list" = none := T.fre _ (fact_of T.c 41)
theorem Tx.z_range (T : Tx K mg) : mg "range" = none := T.fre _ (fact_of T.c 42)
theorem Tx.z_repr (T : Tx K mg) : mg "repr" = none := T.fre _ (fact_of T.c 43)
theorem Tx.z_all (T : Tx K mg) : mg "all" = none := T.fre _ (fact_of T.c 44)
theorem Tx.z_super (T : Tx K mg) : mg "super" = none := T.fre _ (fact_of T.c 45)
theorem Tx.n_MAX_PAINTERS (T : Tx K mg) : ∃ t, mg "MAX_PAINTERS" = some (.int 40 t) := T.int _ _ (fact_of T.c 46)
theorem Tx.n_MAX_STRIDE (T : Tx K mg) : ∃ t, mg "MAX_STRIDE" = some (.int 1000000000000000000 t) := T.int _ _ (fact_of T.c 47)
theorem Tx.n_MAX_FEW (T : Tx K mg) : ∃ t, mg "MAX_FEW" = some (.int 8 t) := T.int _ _ (fact_of T.c 48)
theorem Tx.n_MAX_SIZE (T : Tx K mg) : ∃ t, mg "MAX_SIZE" = some (.int 1000000000000000000000000000000 t) := T.int _ _ (fact_of T.c 49)
theorem Tx.n_MAX_NAME (T : Tx K mg) : ∃ t, mg "MAX_NAME" = some (.int 8 t) := T.int _ _ (fact_of T.c 50)
theorem Tx.s_LETTERS (T : Tx K mg) : ∃ t, mg "LETTERS" = some (.str "abcdefghijklmnopqrstuvwxyz" t) := T.str _ _ (fact_of T.c 51)
theorem Tx.c_Painter (T : Tx K mg) : Cls K (ga K "Painter") := He.cls_ok (fact_of T.c 52)
theorem Tx.c_Fence (T : Tx K mg) : Cls K (ga K "Fence") := He.cls_ok (fact_of T.c 53)
theorem Tx.c_RingCrossing (T : Tx K mg) : Cls K (ga K "RingCrossing") := He.cls_ok (fact_of T.c 54)
theorem Tx.c_RingBlocks (T : Tx K mg) : Cls K (ga K "RingBlocks") := He.cls_ok (fact_of T.c 55)
theorem Tx.c_Ring (T : Tx K mg) : Cls K (ga K "Ring") := He.cls_ok (fact_of T.c 56)
theorem Tx.a_Painter_parts (T : Tx K mg) : NoAttr K (ga K "Painter") "parts" := He.noat_ok (fact_of T.c 57)
theorem Tx.a_Fence_listed (T : Tx K mg) : NoAttr K (ga K "Fence") "listed" := He.noat_ok (fact_of T.c 58)
theorem Tx.a_Fence_places (T : Tx K mg) : NoAttr K (ga K "Fence") "places" := He.noat_ok (fact_of T.c 59)
theorem Tx.a_RingCrossing_wait (T : Tx K mg) : NoAttr K (ga K "RingCrossing") "wait" := He.noat_ok (fact_of T.c 60)
theorem Tx.a_RingCrossing_length (T : Tx K mg) : NoAttr K (ga K "RingCrossing") "length" := He.noat_ok (fact_of T.c 61)
theorem Tx.a_RingCrossing_cycle (T : Tx K mg) : NoAttr K (ga K "RingCrossing") "cycle" := He.noat_ok (fact_of T.c 62)
theorem Tx.a_RingCrossing_is_empty (T : Tx K mg) : NoAttr K (ga K "RingCrossing") "is_empty" := He.noat_ok (fact_of T.c 63)
theorem Tx.a_RingCrossing_step (T : Tx K mg) : NoAttr K (ga K "RingCrossing") "step" := He.noat_ok (fact_of T.c 64)
theorem Tx.a_RingCrossing_start (T : Tx K mg) : NoAttr K (ga K "RingCrossing") "start" := He.noat_ok (fact_of T.c 65)
theorem Tx.a_RingCrossing_slope (T : Tx K mg) : NoAttr K (ga K "RingCrossing") "slope" := He.noat_ok (fact_of T.c 66)
theorem Tx.a_RingCrossing_offset (T : Tx K mg) : NoAttr K (ga K "RingCrossing") "offset" := He.noat_ok (fact_of T.c 67)
theorem Tx.a_RingBlocks_around (T : Tx K mg) : NoAttr K (ga K "RingBlocks") "around" := He.noat_ok (fact_of T.c 68)
theorem Tx.a_RingBlocks_walkers (T : Tx K mg) : NoAttr K (ga K "RingBlocks") "walkers" := He.noat_ok (fact_of T.c 69)
theorem Tx.a_RingBlocks_limits (T : Tx K mg) : NoAttr K (ga K "RingBlocks") "limits" := He.noat_ok (fact_of T.c 70)
theorem Tx.a_RingBlocks_firsts (T : Tx K mg) : NoAttr K (ga K "RingBlocks") "firsts" := He.noat_ok (fact_of T.c 71)
theorem Tx.a_RingBlocks_crossings (T : Tx K mg) : NoAttr K (ga K "RingBlocks") "crossings" := He.noat_ok (fact_of T.c 72)
theorem Tx.a_Ring_parts (T : Tx K mg) : NoAttr K (ga K "Ring") "parts" := He.noat_ok (fact_of T.c 73)
theorem Tx.a_Ring_limits (T : Tx K mg) : NoAttr K (ga K "Ring") "limits" := He.noat_ok (fact_of T.c 74)
theorem Tx.a_Ring_halts (T : Tx K mg) : NoAttr K (ga K "Ring") "halts" := He.noat_ok (fact_of T.c 75)
theorem Tx.m_RingCrossing_first_block (T : Tx K mg) : Meth K (ga K "RingCrossing") "first_block" (ma K (ga K "RingCrossing") "first_block") := He.meth_ok (fact_of T.c 76)
theorem Tx.m_RingCrossing_first_rising (T : Tx K mg) : Meth K (ga K "RingCrossing") "first_rising" (ma K (ga K "RingCrossing") "first_rising") := He.meth_ok (fact_of T.c 77)
theorem Tx.m_RingCrossing_first_steady (T : Tx K mg) : Meth K (ga K "RingCrossing") "first_steady" (ma K (ga K "RingCrossing") "first_steady") := He.meth_ok (fact_of T.c 78)
theorem Tx.m_RingBlocks_crossing (T : Tx K mg) : Meth K (ga K "RingBlocks") "crossing" (ma K (ga K "RingBlocks") "crossing") := He.meth_ok (fact_of T.c 79)
theorem Tx.m_RingBlocks_look (T : Tx K mg) : Meth K (ga K "RingBlocks") "look" (ma K (ga K "RingBlocks") "look") := He.meth_ok (fact_of T.c 80)
theorem Tx.m_RingBlocks_first_of (T : Tx K mg) : Meth K (ga K "RingBlocks") "first_of" (ma K (ga K "RingBlocks") "first_of") := He.meth_ok (fact_of T.c 81)
theorem Tx.m_RingBlocks_next_stop (T : Tx K mg) : Meth K (ga K "RingBlocks") "next_stop" (ma K (ga K "RingBlocks") "next_stop") := He.meth_ok (fact_of T.c 82)
theorem Tx.m_RingBlocks_settle (T : Tx K mg) : Meth K (ga K "RingBlocks") "settle" (ma K (ga K "RingBlocks") "settle") := He.meth_ok (fact_of T.c 83)
theorem Tx.m_RingBlocks_all_stops (T : Tx K mg) : Meth K (ga K "RingBlocks") "all_stops" (ma K (ga K "RingBlocks") "all_stops") := He.meth_ok (fact_of T.c 84)
theorem Tx.m_Ring_row (T : Tx K mg) : Meth K (ga K "Ring") "row" (ma K (ga K "Ring") "row") := He.meth_ok (fact_of T.c 85)
theorem Tx.m_Fence_moved (T : Tx K mg) : Meth K (ga K "Fence") "moved" (ma K (ga K "Fence") "moved") := He.meth_ok (fact_of T.c 86)
theorem Tx.m_Fence_mirrored (T : Tx K mg) : Meth K (ga K "Fence") "mirrored" (ma K (ga K "Fence") "mirrored") := He.meth_ok (fact_of T.c 87)
theorem Tx.m_Fence_widened (T : Tx K mg) : Meth K (ga K "Fence") "widened" (ma K (ga K "Fence") "widened") := He.meth_ok (fact_of T.c 88)
theorem Tx.k_Painter (T : Tx K mg) : Mk K (ga K "Painter") (ma K (ga K "Painter") "__init__") := He.mkr_ok (fact_of T.c 89)
theorem Tx.k_Fence (T : Tx K mg) : Mk K (ga K "Fence") (ma K (ga K "Fence") "__init__") := He.mkr_ok (fact_of T.c 90)
theorem Tx.k_RingCrossing (T : Tx K mg) : Mk K (ga K "RingCrossing") (ma K (ga K "RingCrossing") "__init__") := He.mkr_ok (fact_of T.c 91)
theorem Tx.k_RingBlocks (T : Tx K mg) : Mk K (ga K "RingBlocks") (ma K (ga K "RingBlocks") "__init__") := He.mkr_ok (fact_of T.c 92)
theorem Tx.k_Ring (T : Tx K mg) : Mk K (ga K "Ring") (ma K (ga K "Ring") "__init__") := He.mkr_ok (fact_of T.c 93)
theorem Tx.p_Painter_name (T : Tx K mg) : PropOf K (ga K "Painter") "name" (ma K (ga K "Painter") "name") (pg K "Painter" "name") := prB_ok (more_of T.c 0)
theorem Tx.p_Painter_day (T : Tx K mg) : PropOf K (ga K "Painter") "day" (ma K (ga K "Painter") "day") (pg K "Painter" "day") := prB_ok (more_of T.c 1)
theorem Tx.p_Painter_post (T : Tx K mg) : PropOf K (ga K "Painter") "post" (ma K (ga K "Painter") "post") (pg K "Painter" "post") := prB_ok (more_of T.c 2)
theorem Tx.p_Painter_stride (T : Tx K mg) : PropOf K (ga K "Painter") "stride" (ma K (ga K "Painter") "stride") (pg K "Painter" "stride") := prB_ok (more_of T.c 3)
theorem Tx.p_Painter_way (T : Tx K mg) : PropOf K (ga K "Painter") "way" (ma K (ga K "Painter") "way") (pg K "Painter" "way") := prB_ok (more_of T.c 4)
theorem Tx.p_Fence_painters (T : Tx K mg) : PropOf K (ga K "Fence") "painters" (ma K (ga K "Fence") "painters") (pg K "Fence" "painters") := prB_ok (more_of T.c 5)
theorem Tx.p_Fence_names (T : Tx K mg) : PropOf K (ga K "Fence") "names" (ma K (ga K "Fence") "names") (pg K "Fence" "names") := prB_ok (more_of T.c 6)
theorem Tx.p_Ring_fence (T : Tx K mg) : PropOf K (ga K "Ring") "fence" (ma K (ga K "Ring") "fence") (pg K "Ring" "fence") := prB_ok (more_of T.c 7)
theorem Tx.p_Ring_rows (T : Tx K mg) : PropOf K (ga K "Ring") "rows" (ma K (ga K "Ring") "rows") (pg K "Ring" "rows") := prB_ok (more_of T.c 8)
theorem Tx.q_Painter_MAX_DAY (T : Tx K mg) : ∃ u, Con K (ga K "Painter") "MAX_DAY" (.int 1000000000000000000000000000000) u := He.conB_ok (v := .int 1000000000000000000000000000000) (more_of T.c 9)
theorem Tx.q_Painter_MAX_POST (T : Tx K mg) : ∃ u, Con K (ga K "Painter") "MAX_POST" (.int 1000000000000000000000000000000) u := He.conB_ok (v := .int 1000000000000000000000000000000) (more_of T.c 10)
theorem Tx.q_Painter_MAX_STRIDE (T : Tx K mg) : ∃ u, Con K (ga K "Painter") "MAX_STRIDE" (.int 1000000000000000000) u := He.conB_ok (v := .int 1000000000000000000) (more_of T.c 11)
theorem Tx.o_Fence_add (T : Tx K mg) : PySem.W.findIn K (.ref (ga K "Fence")) "__add__" = some (some (.ref (ma K (ga K "Fence") "__add__"))) ∧ PySem.W.isFn K (.ref (ma K (ga K "Fence") "__add__")) = true := owB_ok (more_of T.c 12)
theorem Tx.o_Fence_len (T : Tx K mg) : PySem.W.findIn K (.ref (ga K "Fence")) "__len__" = some (some (.ref (ma K (ga K "Fence") "__len__"))) ∧ PySem.W.isFn K (.ref (ma K (ga K "Fence") "__len__")) = true := owB_ok (more_of T.c 13)
theorem Tx.o_Painter_neg (T : Tx K mg) : PySem.W.findIn K (.ref (ga K "Painter")) "__neg__" = some (some (.ref (ma K (ga K "Painter") "__neg__"))) ∧ PySem.W.isFn K (.ref (ma K (ga K "Painter") "__neg__")) = true := owB_ok (more_of T.c 14)
theorem Tx.o_no_Fence_radd (T : Tx K mg) : PySem.W.findIn K (.ref (ga K "Fence")) "__radd__" = some none := noB_ok (more_of T.c 15)
theorem Tx.o_no_Painter_radd (T : Tx K mg) : PySem.W.findIn K (.ref (ga K "Painter")) "__radd__" = some none := noB_ok (more_of T.c 16)
theorem Tx.o_first_Fence (T : Tx K mg) : PySem.W.selfFirst K (ga K "Fence") = true := more_of T.c 17 (f := fun K => mro1 K "Fence")
theorem Tx.o_first_Painter (T : Tx K mg) : PySem.W.selfFirst K (ga K "Painter") = true := more_of T.c 18 (f := fun K => mro1 K "Painter")
theorem Tx.o_sub (T : Tx K mg) : PySem.W.subIn K (.ref (ga K "Painter")) (.ref (ga K "Fence")) = some false := of_decide_eq_true (more_of T.c 19 (f := fun K => decide (PySem.W.subIn K (.ref (ga K "Painter")) (.ref (ga K "Fence")) = some false)))
theorem Tx.o_is_Painter (T : Tx K mg) : IsOf K (ga K "Painter") := isB_ok (more_of T.c 20)
theorem Tx.o_Painter_add (T : Tx K mg) : PySem.W.findIn K (.ref (ga K "Painter")) "__add__" = some (some (.ref (ma K (ga K "Painter") "__add__"))) ∧ PySem.W.isFn K (.ref (ma K (ga K "Painter") "__add__")) = true := owB_ok (more_of T.c 21)
theorem Tx.d_sIsInteger (T : Tx K mg) : ∃ fd, Fun K "is_integer" "is_integer" sIsInteger (ga K "is_integer") fd := def_of T.c 0 (d := gD "is_integer" sIsInteger)
theorem Tx.d_sIsBetween (T : Tx K mg) : ∃ fd, Fun K "is_between" "is_between" sIsBetween (ga K "is_between") fd := def_of T.c 1 (d := gD "is_between" sIsBetween)
theorem Tx.d_sInverse (T : Tx K mg) : ∃ fd, Fun K "inverse" "inverse" sInverse (ga K "inverse") fd := def_of T.c 2 (d := gD "inverse" sInverse)
theorem Tx.d_sGcd (T : Tx K mg) : ∃ fd, Fun K "greatest_divisor" "greatest_divisor" sGcd (ga K "greatest_divisor") fd := def_of T.c 3 (d := gD "greatest_divisor" sGcd)
theorem Tx.d_sBlInit (T : Tx K mg) : ∃ fd, Fun K "__init__" ("Blocks" ++ "." ++ "__init__") sBlInit (ma K (ga K "Blocks") "__init__") fd := def_of T.c 4 (d := mD "Blocks" "Blocks" "__init__" sBlInit)
theorem Tx.d_sLook (T : Tx K mg) : ∃ fd, Fun K "look" ("Blocks" ++ "." ++ "look") sLook (ma K (ga K "RingBlocks") "look") fd := def_of T.c 5 (d := mD "RingBlocks" "Blocks" "look" sLook)
theorem Tx.d_sFirstOf (T : Tx K mg) : ∃ fd, Fun K "first_of" ("Blocks" ++ "." ++ "first_of") sFirstOf (ma K (ga K "RingBlocks") "first_of") fd := def_of T.c 6 (d := mD "RingBlocks" "Blocks" "first_of" sFirstOf)
theorem Tx.d_sNextStop (T : Tx K mg) : ∃ fd, Fun K "next_stop" ("Blocks" ++ "." ++ "next_stop") sNextStop (ma K (ga K "RingBlocks") "next_stop") fd := def_of T.c 7 (d := mD "RingBlocks" "Blocks" "next_stop" sNextStop)
theorem Tx.d_sSettle (T : Tx K mg) : ∃ fd, Fun K "settle" ("Blocks" ++ "." ++ "settle") sSettle (ma K (ga K "RingBlocks") "settle") fd := def_of T.c 8 (d := mD "RingBlocks" "Blocks" "settle" sSettle)
theorem Tx.d_sAllStops (T : Tx K mg) : ∃ fd, Fun K "all_stops" ("Blocks" ++ "." ++ "all_stops") sAllStops (ma K (ga K "RingBlocks") "all_stops") fd := def_of T.c 9 (d := mD "RingBlocks" "Blocks" "all_stops" sAllStops)
theorem Tx.d_sLeast (T : Tx K mg) : ∃ fd, Fun K "least_true" "least_true" sLeast (ga K "least_true") fd := def_of T.c 10 (d := gD "least_true" sLeast)
theorem Tx.d_sFloorSum (T : Tx K mg) : ∃ fd, Fun K "floor_sum" "floor_sum" sFloorSum (ga K "floor_sum") fd := def_of T.c 11 (d := gD "floor_sum" sFloorSum)
theorem Tx.d_sBelow (T : Tx K mg) : ∃ fd, Fun K "remainders_below" "remainders_below" sBelow (ga K "remainders_below") fd := def_of T.c 12 (d := gD "remainders_below" sBelow)
theorem Tx.d_sCeil (T : Tx K mg) : ∃ fd, Fun K "ceiling" "ceiling" sCeil (ga K "ceiling") fd := def_of T.c 13 (d := gD "ceiling" sCeil)
theorem Tx.d_sXInit (T : Tx K mg) : ∃ fd, Fun K "__init__" ("RingCrossing" ++ "." ++ "__init__") sXInit (ma K (ga K "RingCrossing") "__init__") fd := def_of T.c 14 (d := mD "RingCrossing" "RingCrossing" "__init__" sXInit)
theorem Tx.d_sXBlock (T : Tx K mg) : ∃ fd, Fun K "first_block" ("RingCrossing" ++ "." ++ "first_block") sXBlock (ma K (ga K "RingCrossing") "first_block") fd := def_of T.c 15 (d := mD "RingCrossing" "RingCrossing" "first_block" sXBlock)
theorem Tx.d_sXRising (T : Tx K mg) : ∃ fd, Fun K "first_rising" ("RingCrossing" ++ "." ++ "first_rising") sXRising (ma K (ga K "RingCrossing") "first_rising") fd := def_of T.c 16 (d := mD "RingCrossing" "RingCrossing" "first_rising" sXRising)
theorem Tx.d_sXSteady (T : Tx K mg) : ∃ fd, Fun K "first_steady" ("RingCrossing" ++ "." ++ "first_steady") sXSteady (ma K (ga K "RingCrossing") "first_steady") fd := def_of T.c 17 (d := mD "RingCrossing" "RingCrossing" "first_steady" sXSteady)
theorem Tx.d_sRbCross (T : Tx K mg) : ∃ fd, Fun K "crossing" ("RingBlocks" ++ "." ++ "crossing") sRbCross (ma K (ga K "RingBlocks") "crossing") fd := def_of T.c 18 (d := mD "RingBlocks" "RingBlocks" "crossing" sRbCross)
theorem Tx.d_sRiInit (T : Tx K mg) : ∃ fd, Fun K "__init__" ("Ring" ++ "." ++ "__init__") sRiInit (ma K (ga K "Ring") "__init__") fd := def_of T.c 19 (d := mD "Ring" "Ring" "__init__" sRiInit)
theorem Tx.d_sRiFence (T : Tx K mg) : ∃ fd, Fun K "fence" ("Ring" ++ "." ++ "fence") sRiFence (pg K "Ring" "fence") fd := def_of T.c 20 (d := pD "Ring" "fence" sRiFence)
theorem Tx.d_sRiRows (T : Tx K mg) : ∃ fd, Fun K "rows" ("Ring" ++ "." ++ "rows") sRiRows (pg K "Ring" "rows") fd := def_of T.c 21 (d := pD "Ring" "rows" sRiRows)
theorem Tx.d_sRiRow (T : Tx K mg) : ∃ fd, Fun K "row" ("Ring" ++ "." ++ "row") sRiRow (ma K (ga K "Ring") "row") fd := def_of T.c 22 (d := mD "Ring" "Ring" "row" sRiRow)
theorem Tx.d_sIsName (T : Tx K mg) : ∃ fd, Fun K "is_name" "is_name" sIsName (ga K "is_name") fd := def_of T.c 23 (d := gD "is_name" sIsName)
theorem Tx.d_sPInit (T : Tx K mg) : ∃ fd, Fun K "__init__" ("Painter" ++ "." ++ "__init__") sPInit (ma K (ga K "Painter") "__init__") fd := def_of T.c 24 (d := mD "Painter" "Painter" "__init__" sPInit)
theorem Tx.d_sPName (T : Tx K mg) : ∃ fd, Fun K "name" ("Painter" ++ "." ++ "name") sPName (pg K "Painter" "name") fd := def_of T.c 25 (d := pD "Painter" "name" sPName)
theorem Tx.d_sPDay (T : Tx K mg) : ∃ fd, Fun K "day" ("Painter" ++ "." ++ "day") sPDay (pg K "Painter" "day") fd := def_of T.c 26 (d := pD "Painter" "day" sPDay)
theorem Tx.d_sPPost (T : Tx K mg) : ∃ fd, Fun K "post" ("Painter" ++ "." ++ "post") sPPost (pg K "Painter" "post") fd := def_of T.c 27 (d := pD "Painter" "post" sPPost)
theorem Tx.d_sPStride (T : Tx K mg) : ∃ fd, Fun K "stride" ("Painter" ++ "." ++ "stride") sPStride (pg K "Painter" "stride") fd := def_of T.c 28 (d := pD "Painter" "stride" sPStride)
theorem Tx.d_sPWay (T : Tx K mg) : ∃ fd, Fun K "way" ("Painter" ++ "." ++ "way") sPWay (pg K "Painter" "way") fd := def_of T.c 29 (d := pD "Painter" "way" sPWay)
theorem Tx.d_sPNeg (T : Tx K mg) : ∃ fd, Fun K "__neg__" ("Painter" ++ "." ++ "__neg__") sPNeg (ma K (ga K "Painter") "__neg__") fd := def_of T.c 30 (d := mD "Painter" "Painter" "__neg__" sPNeg)
theorem Tx.d_sFInit (T : Tx K mg) : ∃ fd, Fun K "__init__" ("Fence" ++ "." ++ "__init__") sFInit (ma K (ga K "Fence") "__init__") fd := def_of T.c 31 (d := mD "Fence" "Fence" "__init__" sFInit)
theorem Tx.d_sFPainters (T : Tx K mg) : ∃ fd, Fun K "painters" ("Fence" ++ "." ++ "painters") sFPainters (pg K "Fence" "painters") fd := def_of T.c 32 (d := pD "Fence" "painters" sFPainters)
theorem Tx.d_sFNames (T : Tx K mg) : ∃ fd, Fun K "names" ("Fence" ++ "." ++ "names") sFNames (pg K "Fence" "names") fd := def_of T.c 33 (d := pD "Fence" "names" sFNames)
theorem Tx.d_sFLen (T : Tx K mg) : ∃ fd, Fun K "__len__" ("Fence" ++ "." ++ "__len__") sFLen (ma K (ga K "Fence") "__len__") fd := def_of T.c 34 (d := mD "Fence" "Fence" "__len__" sFLen)
theorem Tx.d_sFAdd (T : Tx K mg) : ∃ fd, Fun K "__add__" ("Fence" ++ "." ++ "__add__") sFAdd (ma K (ga K "Fence") "__add__") fd := def_of T.c 35 (d := mD "Fence" "Fence" "__add__" sFAdd)
theorem Tx.d_sFMoved (T : Tx K mg) : ∃ fd, Fun K "moved" ("Fence" ++ "." ++ "moved") sFMoved (ma K (ga K "Fence") "moved") fd := def_of T.c 36 (d := mD "Fence" "Fence" "moved" sFMoved)
theorem Tx.d_sFMirrored (T : Tx K mg) : ∃ fd, Fun K "mirrored" ("Fence" ++ "." ++ "mirrored") sFMirrored (ma K (ga K "Fence") "mirrored") fd := def_of T.c 37 (d := mD "Fence" "Fence" "mirrored" sFMirrored)
theorem Tx.d_sFWidened (T : Tx K mg) : ∃ fd, Fun K "widened" ("Fence" ++ "." ++ "widened") sFWidened (ma K (ga K "Fence") "widened") fd := def_of T.c 38 (d := mD "Fence" "Fence" "widened" sFWidened)
theorem Tx.d_sPen (T : Tx K mg) : ∃ fd, Fun K "_law_pen" "_law_pen" sPen (ga K "_law_pen") fd := def_of T.c 39 (d := gD "_law_pen" sPen)
theorem Tx.d_sDraw (T : Tx K mg) : ∃ fd, Fun K "_law_draw" "_law_draw" sDraw (ga K "_law_draw") fd := def_of T.c 40 (d := gD "_law_draw" sDraw)
theorem Tx.d_sPick (T : Tx K mg) : ∃ fd, Fun K "_law_pick" "_law_pick" sPick (ga K "_law_pick") fd := def_of T.c 41 (d := gD "_law_pick" sPick)
theorem Tx.d_sAround (T : Tx K mg) : ∃ fd, Fun K "_law_around" "_law_around" sAround (ga K "_law_around") fd := def_of T.c 42 (d := gD "_law_around" sAround)
theorem Tx.d_sPower (T : Tx K mg) : ∃ fd, Fun K "_law_power" "_law_power" sPower (ga K "_law_power") fd := def_of T.c 43 (d := gD "_law_power" sPower)
theorem Tx.d_sGreat (T : Tx K mg) : ∃ fd, Fun K "_law_great" "_law_great" sGreat (ga K "_law_great") fd := def_of T.c 44 (d := gD "_law_great" sGreat)
theorem Tx.d_sNames (T : Tx K mg) : ∃ fd, Fun K "_law_names" "_law_names" sNames (ga K "_law_names") fd := def_of T.c 45 (d := gD "_law_names" sNames)
theorem Tx.d_sLGcd (T : Tx K mg) : ∃ fd, Fun K "_law_gcd" "_law_gcd" sLGcd (ga K "_law_gcd") fd := def_of T.c 46 (d := gD "_law_gcd" sLGcd)
theorem Tx.d_sFence (T : Tx K mg) : ∃ fd, Fun K "_law_fence" "_law_fence" sFence (ga K "_law_fence") fd := def_of T.c 47 (d := gD "_law_fence" sFence)
theorem Tx.d_sSmall (T : Tx K mg) : ∃ fd, Fun K "_law_small_ring" "_law_small_ring" sSmall (ga K "_law_small_ring") fd := def_of T.c 48 (d := gD "_law_small_ring" sSmall)
theorem Tx.d_sLot (T : Tx K mg) : ∃ fd, Fun K "_law_lot_ring" "_law_lot_ring" sLot (ga K "_law_lot_ring") fd := def_of T.c 49 (d := gD "_law_lot_ring" sLot)
theorem Tx.d_sSent (T : Tx K mg) : ∃ fd, Fun K "_law_sent" "_law_sent" sSent (ga K "_law_sent") fd := def_of T.c 50 (d := gD "_law_sent" sSent)
theorem Tx.d_sUnit (T : Tx K mg) : ∃ fd, Fun K "_law_unit" "_law_unit" sUnit (ga K "_law_unit") fd := def_of T.c 51 (d := gD "_law_unit" sUnit)
theorem Tx.d_sLaw (T : Tx K mg) : ∃ fd, Fun K "law" "law" sLaw (ga K "law") fd := def_of T.c 52 (d := gD "law" sLaw)
theorem Tx.d_isNameN (T : Tx K mg) : ∃ fd, Fun K "is_name" "is_name" sIsName (ga K "is_name_names") fd := def_of T.c 53 (d := { at_ := fun K => ga K "is_name_names", nm := "is_name", qual := "is_name", st := sIsName })
theorem Tx.sup (T : Tx K mg) : SupOk K := sup_of T.c
end
end Pp

end
section
set_option Elab.async false
set_option linter.all false
set_option maxRecDepth 100000
set_option maxHeartbeats 4000000
/-! A def's promise by its body; properties; the ways of the heap. -/
namespace Pp
open PySem PySem.Spec PyProof.Rows L2 StX
abbrev kpF (K : PySem.W.Frag) (f : Addr) : Prop := PySem.W.keepIn K (.ref f) = true
section
variable {P : Program} {w : World} {K : PySem.W.Frag} {mg : Str → Option Value} {base : Heap} {x q : Str} {st : Stmt} {f : Addr} {k : Nat} {sp : Sp}
theorem kpOf (D : ∃ fd, Fun K x q st f fd) : kpF K f := let ⟨_, F⟩ := D; F.kp
/-- a def whose arguments are bound one by one -/
theorem defR {N ps : List Str} (D : ∃ fd, Fun K x q st f fd) (S : FnScope N ps (defScope st))
    (hb : ∀ (kV doc pm : Value) (an : Option Addr) (cdv ct : Value) (us : List Value), us.length = ps.length → bindArgs (PySem.W.fnOf x q (defArgs st) (defBody st) (defScope st) .none kV doc pm an cdv ct) ⟨us, []⟩ = pure (ps.zip us))
    (len : ∀ vs H Q E, sp vs H Q E → vs.length = ps.length)
    (hbody : ∀ (cdv : Value) (A : Around) (outer : List Env) (s : Shared) (H : Hp) (vs : List V) (Q : VK) (E : XK), Room k (A.deeper (envOfC q (defScope st) s.heap.objs.size f cdv)) → sp vs H Q E →
      ∃ t, PSs (cxOf CX0 P w K mg base N q (defScope st) f cdv A outer s H E).nox (defBody st) t ∧ t { nx := fun _ H' => Q .non H', rt := Q } (start N vs) H) : FnR P w K mg base CX0 (k + 1) f sp := by
  obtain ⟨fd, F⟩ := D
  have G := (F.ok (P := P) (w := w) (mg := mg) (base := base) S len hbody).raw (F.binds hb) (dvs := []) (ds := []) .nil
  exact G.imp fun vs H Q E h => by rw [List.append_nil]; exact h
end
section
variable {X : Cx} {k : Nat} {C p g a dx : Addr} {fs : List (Str × V)} {f : Str} {sp : Sp} {e : Expr} {pos : Pos} {ta : TE}
def tPropR (C : Addr) (sp : Sp) (ta : TE) : TE := fun σ H Q => ta σ H fun x H1 => ∃ a dx fs, x = .ref a ∧ H1 a = some (.ins C dx fs) ∧ sp [.ref a] H1 Q E0
/-- e.f, a property -/
theorem pe_propR (he : PE X e ta) (c : Cls X.K C) (hp : PropOf X.K C f p g) (F : FnR X.prog X.w X.K X.mg X.base CX0 k g sp) (hr : Room (k + 1) X.A) (hab : attributeBase e f X.env (eval e X.env) = eval e X.env := by rfl) : PE X (.Attribute e f pos) (tPropR C sp ta) := by
  refine ⟨fun pins s σ H Q I h => ?_⟩
  refine attr_of hab (thn (he.run pins s σ H _ I h) fun u s1 ⟨x, H1, I1, rx, a, dx, fs, ex, ea, q⟩ => ?_)
  subst ex
  obtain rfl : u = Value.ref a := rx
  obtain ⟨mA, O, _, _, _, _⟩ := ins_get I1.hok ea
  obtain ⟨od, J, _⟩ := O.look
  obtain ⟨rest, hrec⟩ := hp.rec_
  have I2 := I1.tok (s1.toks + 1)
  have hc : (PySem.W.clsIn X.K C).isSome = true := by
    obtain ⟨cd, hc, _⟩ := PySem.W.any_some c.hd
    rw [hc]; rfl
  refine PySem.W.get_bind I1.kIn J (PySem.W.plainGet_of (c.get f)).1 (PySem.W.findObj_data hc hp.at_ hp.get hp.tak) (PySem.W.plainGet_of (c.get f)).2 (wpAny_call (PySem.W.prop_get (s := { s1 with toks := s1.toks + 1 }) I1.kIn hrec ?_))
  refine codeAny_mono (F X.A.in1 X.stack { s1 with toks := s1.toks + 1 } H1 [.ref a] [.ref a] Q E0 hr.in1 I2.env0.in1 (.cons rfl .nil) q) fun r s' hq => ?_
  cases r with
  | error er => exact False.elim hq
  | ok fl =>
    cases fl with
    | ret u =>
      obtain ⟨v, H', I3, rv, q3⟩ := I2.after hq
      show wpAny _ _ (handedOut u) _ _ _
      rw [PySem.W.handedOut_of (handed_of rv)]
      exact wpAny_pure ⟨v, H', I3, rv, q3⟩
    | next => exact False.elim hq
    | brk => exact False.elim hq
    | cont => exact False.elim hq
end
theorem inName {x : Str} {X : Cx} (h : X.env.kindOf x = some .globalImplicit := by rfl) : Gl X x := h
/-! ### tests -/
theorem iteNT {c A B : Prop} [Decidable c] (hc : ¬ c) (h : A) : if (!decide c) = true then A else B := by
  rw [decide_eq_false hc]; exact iteT h
theorem iteD {c A B : Prop} [Decidable c] (h1 : c → A) (h2 : ¬ c → B) : if (decide c) = true then A else B :=
  ite2 (fun h => h1 (of_decide_eq_true h)) fun h => h2 fun q => h (decide_eq_true q)
theorem iteND {c A B : Prop} [Decidable c] (h1 : ¬ c → A) (h2 : c → B) : if (!decide c) = true then A else B := by
  by_cases h : c
  · exact iteNS h (h2 h)
  · exact iteNT h (h1 h)
/-! ### small facts on heaps -/
end Pp
namespace L2
open PySem
theorem Same.new {H : Hp} {p : Addr} {o : HO} (h : H p = Option.none) : Same H (upd H p o) := fun b u e => by rw [upd_ne (ne_of_none e h)]; exact e
theorem Same.plus {H H1 : Hp} {p : Addr} {o : HO} (s : Same H H1) (h : H1 p = Option.none) : Same H (upd H1 p o) := s.trans (Same.new h)
end L2

end
section
set_option Elab.async false
set_option linter.all false
set_option maxRecDepth 100000
set_option maxHeartbeats 4000000
/-! The plain numbers' defs. -/
namespace Pp
open PySem PySem.Spec PyProof.Rows L2 StX Rg
section
variable {P : Program} {w : World} {K : PySem.W.Frag} {mg : Str → Option Value} {base : Heap}
/-! ### is_integer, is_between -/
def spIsInt : Sp := fun vs H Q _ => ∃ i : Int, vs = [.int i] ∧ Q (.bl true) H
theorem scIsInt : FnScope ["value"] ["value"] (defScope sIsInteger) := ⟨rfl, rfl, rfl, by decide +kernel, rfl, by decide +kernel, by decide +kernel⟩
theorem ok_isInt (T : Tx K mg) : FnR P w K mg base CX0 1 (ga K "is_integer") spIsInt := by
  refine defR T.d_sIsInteger scIsInt (fun _ _ _ _ _ _ us hl => match us, hl with | [_], _ => rfl) (fun vs H Q E h => ?_) (fun cdv A outer s H vs Q E hr h => ?_)
  · obtain ⟨i, rfl, _⟩ := h; rfl
  · obtain ⟨i, rfl, q⟩ := h
    refine ⟨_, pss_one (ps_ret (pe_and (pe_callB call_isi inName T.z_isinstance (by decide +kernel) (pa_cons (pv 0) (pa_cons (pe_bltn (v := .ty "int") inName T.z_int (by decide +kernel) rfl) pa_nil)))
      (pe_one (pe_not (pe_callB call_isi inName T.z_isinstance (by decide +kernel) (pa_cons (pv 0) (pa_cons (pe_bltn (v := .ty "bool") inName T.z_bool (by decide +kernel) rfl) pa_nil))))))), ?_⟩
    refine ⟨_, rfl, _, _, _, _, true, rfl, .ty _, .base (.int i), kit_ty (by decide +kernel), _, rfl, iteT ?_⟩
    refine ⟨_, rfl, _, _, _, _, false, rfl, .ty _, .base (.int i), kit_ty (by decide +kernel), _, rfl, q⟩
def spBetween : Sp := fun vs H Q _ => ∃ v lo hi : Int, vs = [.int v, .int lo, .int hi] ∧ Q (.bl (decide (lo ≤ v ∧ v ≤ hi))) H
theorem scBetween : FnScope ["value", "low", "high"] ["value", "low", "high"] (defScope sIsBetween) := ⟨rfl, rfl, rfl, by decide +kernel, rfl, by decide +kernel, by decide +kernel⟩
theorem ok_between (T : Tx K mg) : FnR P w K mg base CX0 2 (ga K "is_between") spBetween := by
  refine defR T.d_sIsBetween scBetween (fun _ _ _ _ _ _ us hl => match us, hl with | [_, _, _], _ => rfl) (fun vs H Q E h => ?_) (fun cdv A outer s H vs Q E hr h => ?_)
  · obtain ⟨v, lo, hi, rfl, _⟩ := h; rfl
  · obtain ⟨v, lo, hi, rfl, q⟩ := h
    refine ⟨_, pss_one (ps_ret (pe_and (pe_fn (ok_isInt T) hr inName T.g_is_integer (kpOf T.d_sIsInteger) pass0 (pa_cons (pv 0) pa_nil)) (pe_one (pe_chain op_le op_le (pv 1) (pv 0) (pv 2))))), ?_⟩
    refine ⟨_, rfl, v, rfl, true, rfl, iteT ?_⟩
    refine ⟨_, rfl, _, rfl, _, _, rfl, rfl, _, rfl, ?_⟩
    refine ite2 (fun h1 => ?_) (fun h1 => ?_)
    · refine ⟨_, rfl, _, _, rfl, rfl, ?_⟩
      have e : decide (v ≤ hi) = decide (lo ≤ v ∧ v ≤ hi) := by
        have := of_decide_eq_true h1
        rw [Bool.eq_iff_iff, decide_eq_true_iff, decide_eq_true_iff]
        exact ⟨fun z => ⟨this, z⟩, fun z => z.2⟩
      show Q (.bl (decide (v ≤ hi))) H
      rw [e]; exact q
    · have e : false = decide (lo ≤ v ∧ v ≤ hi) := by
        refine (decide_eq_false fun z => h1 ?_).symm
        exact decide_eq_true z.1
      show Q (.bl false) H
      rw [e]; exact q
/-! ### greatest_divisor -/
def spGcd : Sp := fun vs H Q _ => ∃ a b : Int, vs = [.int a, .int b] ∧ Q (.int (gd a b)) H
theorem scGcd : FnScope ["one", "other"] ["one", "other"] (defScope sGcd) := ⟨rfl, rfl, rfl, by decide +kernel, rfl, by decide +kernel, by decide +kernel⟩
theorem gd_abs (a b : Int) : gd (if a < 0 then -a else a) (if b < 0 then -b else b) = gd a b := by
  unfold gd
  have h : ∀ a : Int, (if a < 0 then -a else a).natAbs = a.natAbs := fun a => by split <;> omega
  unfold Int.gcd
  rw [h, h]
theorem gd_step {a b : Int} (h : b ≠ 0) : gd b (a.fmod b) = gd a b := by
  refine dvd_anti (gd_nn _ _) (gd_nn _ _) (gd_of ?_ (gd_l _ _)) (gd_of (gd_r _ _) ?_)
  · have e : a = b * a.fdiv b + a.fmod b := (Int.mul_fdiv_add_fmod a b).symm
    rw [e]
    exact Int.dvd_add (Int.dvd_trans (gd_l _ _) (Int.dvd_mul_right _ _)) (by rw [← e]; exact gd_r b (a.fmod b))
  · have e : a.fmod b = a - b * a.fdiv b := by have := Int.mul_fdiv_add_fmod a b; omega
    rw [e]
    exact Int.dvd_sub (gd_l _ _) (Int.dvd_trans (gd_r _ _) (Int.dvd_mul_right _ _))
theorem gd_zero {a : Int} (h : 0 ≤ a) : gd a 0 = a := by
  unfold gd
  rw [Int.gcd_zero_right]
  exact Int.natAbs_of_nonneg h
theorem ok_gcd (T : Tx K mg) : FnR P w K mg base CX0 1 (ga K "greatest_divisor") spGcd := by
  refine defR T.d_sGcd scGcd (fun _ _ _ _ _ _ us hl => match us, hl with | [_, _], _ => rfl) (fun vs H Q E h => ?_) (fun cdv A outer s H vs Q E hr h => ?_)
  · obtain ⟨a, b, rfl, _⟩ := h; rfl
  · obtain ⟨a, b, rfl, q⟩ := h
    refine ⟨_, pss_cons (ps_par (i := 0) (j := 1) rfl scGcd.nd rfl rfl (by decide) rfl rfl (pa_cons (pe_callB call_abs inName T.z_abs (by decide +kernel) (pa_cons (pv 0) pa_nil)) (pa_cons (pe_callB call_abs inName T.z_abs (by decide +kernel) (pa_cons (pv 1) pa_nil)) pa_nil)) (by rfl))
      (pss_cons (ps_while PassesOwn.never (pt_cmpR op_ne (pv 1) pe_int (nomark _))
        (pss_one (ps_par (i := 0) (j := 1) rfl scGcd.nd rfl rfl (by decide) rfl rfl (pa_cons (pv 1) (pa_cons (pe_op op_modN (pv 0) (pv 1)) pa_nil)) (by rfl))))
      (pss_one (ps_ret (pv 0)))), ?_⟩
    refine ⟨_, rfl, _, rfl, _, rfl, _, rfl, _, _, rfl, ?_⟩
    refine ⟨fun m σ H' => H' = H ∧ ∃ x y : Int, σ = [some (.int x), some (.int y)] ∧ 0 ≤ x ∧ 0 ≤ y ∧ gd x y = gd a b ∧ m = y.toNat, ⟨_, rfl, _, _, rfl, ?_, ?_, gd_abs a b, rfl⟩, ?_⟩
    · split <;> omega
    · split <;> omega
    · rintro m σ H' ⟨rfl, x, y, rfl, hx, hy, e, rfl⟩
      refine ⟨_, rfl, rfl, _, rfl, ?_⟩
      by_cases hy0 : y = 0
      · subst hy0
        refine iteNS rfl ⟨_, rfl, ?_⟩
        rw [gd_zero hx] at e
        rw [e]; exact q
      · have m1 := Int.fmod_eq_emod_of_nonneg x hy
        refine iteNT (fun z => hy0 (V.int.inj z)) ⟨fun σ' H'' => H'' = H' ∧ σ' = [some (.int y), some (.int (x.fmod y))], fun σ' H'' h => ?_, ?_⟩
        · obtain ⟨rfl, rfl⟩ := h
          have l1 := Int.emod_nonneg x hy0
          have l2 := Int.emod_lt_of_pos x (show 0 < y by omega)
          exact ⟨_, by rw [← m1] at l1 l2; omega, rfl, _, _, rfl, hy, by omega, (gd_step hy0).trans e, rfl⟩
        · exact ⟨_, rfl, _, rfl, _, rfl, _, _, rfl, rfl, hy0, _, _, rfl, rfl, rfl⟩
/-! ### ceiling -/
def spCeil : Sp := fun vs H Q _ => ∃ a b : Int, vs = [.int a, .int b] ∧ 0 < b ∧ b < 2 ^ 64 ∧ Q (.int (ceil a b)) H
theorem scCeil : FnScope ["number", "divisor"] ["number", "divisor"] (defScope sCeil) := ⟨rfl, rfl, rfl, by decide +kernel, rfl, by decide +kernel, by decide +kernel⟩
theorem div64 {i j : Int} (h : 0 < j) (k : j < 2 ^ 64) : CDivW i j := wide_div (b := 64) h (by omega) (by decide) (by decide)
theorem ok_ceil (T : Tx K mg) : FnR P w K mg base CX0 1 (ga K "ceiling") spCeil := by
  refine defR T.d_sCeil scCeil (fun _ _ _ _ _ _ us hl => match us, hl with | [_, _], _ => rfl) (fun vs H Q E h => ?_) (fun cdv A outer s H vs Q E hr h => ?_)
  · obtain ⟨a, b, rfl, _⟩ := h; rfl
  · obtain ⟨a, b, rfl, h0, h1, q⟩ := h
    refine ⟨_, pss_one (ps_ret (pe_un un_neg (pe_op op_fdivW (pe_un un_neg (pv 0)) (pv 1)))), ?_⟩
    exact ⟨_, rfl, _, rfl, _, rfl, _, _, rfl, rfl, div64 h0 h1, _, rfl, q⟩
end
end Pp

end
section
set_option Elab.async false
set_option linter.all false
set_option maxRecDepth 100000
set_option maxHeartbeats 4000000
/-! inverse, floor_sum, remainders_below. -/
namespace Pp
open PySem PySem.Spec PyProof.Rows L2 StX Rg
theorem mul64 {i j : Int} (h : -(2 ^ 64) < i) (k : i < 2 ^ 64) : CMul i j := .inl ⟨h, k⟩
theorem mul64r {i j : Int} (h : -(2 ^ 64) < j) (k : j < 2 ^ 64) : CMul i j := .inr ⟨h, k⟩
section
variable {P : Program} {w : World} {K : PySem.W.Frag} {mg : Str → Option Value} {base : Heap}
/-! ### inverse -/
def spInv : Sp := fun vs H Q _ => ∃ a m : Int, vs = [.int a, .int m] ∧ 0 < m ∧ m < 2 ^ 63 ∧ gd a m = 1 ∧ ∀ r H', Same H H' → 0 ≤ r → r < m → m ∣ r * a - 1 → Q (.int r) H'
theorem scInv : FnScope ["number", "modulus", "one", "other", "first", "second", "turns"] ["number", "modulus"] (defScope sInverse) := ⟨rfl, rfl, rfl, by decide +kernel, rfl, by decide +kernel, by decide +kernel⟩
theorem inv_step {m a x y f g : Int} (hf : m ∣ f * a - x) (hg : m ∣ g * a - y) : m ∣ (f - x / y * g) * a - (x - x / y * y) := by
  have e : (f - x / y * g) * a - (x - x / y * y) = f * a - x - x / y * (g * a - y) := by
    rw [Int.sub_mul, Int.mul_sub, Int.mul_assoc]; omega
  rw [e]
  exact Int.dvd_sub hf (dvd_lin _ hg rfl)
theorem gd_mod {x y : Int} (hx : 0 ≤ x) (hy : 0 < y) : gd y (x - x / y * y) = gd x y := by
  have e : x - x / y * y = x.fmod y := by
    rw [Int.fmod_eq_emod_of_nonneg x (by omega)]
    have := Int.mul_ediv_add_emod x y
    rw [Int.mul_comm (x / y) y]; omega
  rw [e]
  exact gd_step (by omega)
theorem ok_inv (T : Tx K mg) : FnR P w K mg base CX0 1 (ga K "inverse") spInv := by
  refine defR T.d_sInverse scInv (fun _ _ _ _ _ _ us hl => match us, hl with | [_, _], _ => rfl) (fun vs H Q E h => ?_) (fun cdv A outer s H vs Q E hr h => ?_)
  · obtain ⟨a, b, rfl, _⟩ := h; rfl
  · obtain ⟨a, n, rfl, hn, hn2, hg, q⟩ := h
    refine ⟨_, pss_cons (ps_asg (pe_tup (pa_cons (pe_op op_mod (pv 0) (pv 1)) (pa_cons (pv 1) (pa_cons pe_int (pa_cons pe_int pa_nil)))))
        (pg_tup rfl (pgs_cons (pg_name (i := 2) scInv.nd rfl (.inl rfl)) (pgs_cons (pg_name (i := 3) scInv.nd rfl (.inl rfl)) (pgs_cons (pg_name (i := 4) scInv.nd rfl (.inl rfl)) (pgs_cons (pg_name (i := 5) scInv.nd rfl (.inl rfl)) pgs_nil))))))
      (pss_cons (ps_while PassesOwn.never (pt_cmpR op_ne (pv 3) pe_int (nomark _))
        (pss_cons (ps_set (i := 6) scInv.nd rfl (.inl rfl) (pe_op op_fdivW (pv 2) (pv 3)))
        (pss_cons (ps_par (i := 2) (j := 3) rfl scInv.nd rfl rfl (by decide) rfl rfl (pa_cons (pv 3) (pa_cons (pe_op op_sub (pv 2) (pe_op op_mul (pv 6) (pv 3))) pa_nil)) (by rfl))
        (pss_one (ps_par (i := 4) (j := 5) rfl scInv.nd rfl rfl (by decide) rfl rfl (pa_cons (pv 5) (pa_cons (pe_op op_sub (pv 4) (pe_op op_mul (pv 6) (pv 5))) pa_nil)) (by rfl))))))
      (pss_one (ps_ret (pe_op op_mod (pv 4) (pv 1))))), ?_⟩
    refine ⟨_, rfl, _, rfl, _, _, rfl, rfl, hn, _, rfl, by show 4 ≤ sizeLine; decide, fun p hp => ?_⟩
    refine ⟨p, _, rfl, SqT.of upd_same, rfl, _, _, rfl, _, _, rfl, _, _, rfl, _, _, rfl, rfl, ?_⟩
    have a1 := Int.emod_nonneg a (show n ≠ 0 by omega)
    have a2 := Int.emod_lt_of_pos a hn
    have g0 : gd (a % n) n = 1 := by
      rw [← hg]
      refine gd_cong (u := 1) (by unfold gd; simp) ?_
      rw [Int.one_mul]
      have := Int.mul_ediv_add_emod a n
      exact ⟨-(a / n), by rw [Int.mul_neg]; omega⟩
    refine ⟨fun m σ H' => Same H H' ∧ ∃ (x y f g : Int) (t : Option V), σ = [some (.int a), some (.int n), some (.int x), some (.int y), some (.int f), some (.int g), t] ∧ 0 ≤ x ∧ x ≤ n ∧ 0 ≤ y ∧ y ≤ n ∧ gd x y = 1 ∧ n ∣ f * a - x ∧ n ∣ g * a - y ∧ m = y.toNat,
      ⟨_, Same.new hp, _, _, _, _, _, rfl, a1, by omega, by omega, Int.le_refl _, g0, ?_, ?_, rfl⟩, ?_⟩
    · rw [Int.one_mul]
      have := Int.mul_ediv_add_emod a n
      exact ⟨a / n, by omega⟩
    · rw [Int.zero_mul, Int.zero_sub]; exact Int.dvd_neg.mpr (Int.dvd_refl _)
    · rintro m σ H' ⟨hS, x, y, f, g, t, rfl, hx, hx2, hy, hy2, e, d1, d2, rfl⟩
      refine ⟨_, rfl, rfl, _, rfl, ?_⟩
      by_cases hy0 : y = 0
      · subst hy0
        rw [gd_zero hx] at e
        subst e
        refine iteNS rfl ⟨_, rfl, _, rfl, _, _, rfl, rfl, hn, ?_⟩
        have b1 := Int.emod_nonneg f (show n ≠ 0 by omega)
        have b2 := Int.emod_lt_of_pos f hn
        refine q _ _ hS b1 b2 ?_
        have e2 : f % n * a - 1 = f * a - 1 - n * (f / n * a) := by
          have := Int.mul_ediv_add_emod f n
          have e3 : f % n = f - n * (f / n) := by omega
          rw [e3, Int.sub_mul, Int.mul_assoc]; omega
        rw [e2]
        exact Int.dvd_sub d1 (Int.dvd_mul_right _ _)
      · have y0 : 0 < y := by omega
        have t0 : 0 ≤ x / y := Int.ediv_nonneg hx hy
        have t1 : x / y ≤ x := Int.ediv_le_self _ hx
        refine iteNT (fun z => hy0 (V.int.inj z)) ⟨fun σ' H'' => H'' = H' ∧ σ' = [some (.int a), some (.int n), some (.int y), some (.int (x - x / y * y)), some (.int g), some (.int (f - x / y * g)), some (.int (x / y))], fun σ' H'' h => ?_, ?_⟩
        · obtain ⟨rfl, rfl⟩ := h
          have em : x - x / y * y = x % y := by
            have := Int.mul_ediv_add_emod x y
            rw [Int.mul_comm (x / y) y]; omega
          have l1 := Int.emod_nonneg x hy0
          have l2 := Int.emod_lt_of_pos x y0
          refine ⟨_, ?_, hS, y, x - x / y * y, g, f - x / y * g, _, rfl, hy, hy2, by omega, by omega, (gd_mod hx y0).trans e, d2, inv_step d1 d2, rfl⟩
          rw [em]; omega
        · refine ⟨_, rfl, _, rfl, _, _, rfl, rfl, div64 y0 (by omega), ?_⟩
          refine ⟨_, rfl, _, rfl, _, rfl, _, rfl, _, _, rfl, rfl, mul64 (by omega) (by omega), _, _, rfl, rfl, _, _, rfl, ?_⟩
          exact ⟨_, rfl, _, rfl, _, rfl, _, rfl, _, _, rfl, rfl, mul64 (by omega) (by omega), _, _, rfl, rfl, _, _, rfl, rfl, rfl⟩
/-! ### floor_sum -/
/-- what the numbers of floor_sum must be -/
def FsOk (c d s o : Int) : Prop := 0 < d ∧ d < 2 ^ 63 ∧ c < 2 ^ 63 ∧ -(2 ^ 63) < s ∧ s < 2 ^ 63 ∧ o.natAbs < 2 ^ 1000
def spFs : Sp := fun vs H Q _ => ∃ c d s o : Int, vs = [.int c, .int d, .int s, .int o] ∧ FsOk c d s o ∧ ∀ H', Same H H' → Q (.int (fsum c d s o)) H'
theorem scFs : FnScope ["count", "divisor", "slope", "offset", "total", "turns", "top"] ["count", "divisor", "slope", "offset"] (defScope sFloorSum) := ⟨rfl, rfl, rfl, by decide +kernel, rfl, by decide +kernel, by decide +kernel⟩
theorem ok_dm {i j : Int} (hj : 0 < j) (h : i.natAbs < 2 ^ 1000) : CDivP i j := by
  refine divp_ok hj (Nat.le_trans (PyProof.Rows.intBits_le (k := 1000) h) (by omega))
theorem abs63 {s : Int} (h : -(2 ^ 63) < s) (k : s < 2 ^ 63) : s.natAbs < 2 ^ 1000 := Nat.lt_of_lt_of_le (show s.natAbs < 2 ^ 63 by omega) (Nat.pow_le_pow_right (by decide) (by decide))
theorem div_small {s d : Int} (h : -(2 ^ 63) < s) (k : s < 2 ^ 63) (hd : 0 < d) : -(2 ^ 64) < s / d ∧ s / d < 2 ^ 64 := by
  constructor
  · have : s / d ≥ -(2 ^ 63) := by
      refine (Int.le_ediv_iff_mul_le hd).mpr ?_
      have e : -(2 ^ 63 : Int) * d ≤ -(2 ^ 63) := by omega
      omega
    omega
  · by_cases q : 0 ≤ s
    · have := Int.ediv_le_self d q
      omega
    · have : s / d < 0 := Int.ediv_neg_of_neg_of_pos (by omega) hd
      omega
theorem ok_fs (T : Tx K mg) : FnR P w K mg base CX0 1 (ga K "floor_sum") spFs := by
  refine defR T.d_sFloorSum scFs (fun _ _ _ _ _ _ us hl => match us, hl with | [_, _, _, _], _ => rfl) (fun vs H Q E h => ?_) (fun cdv A outer s0 H vs Q E hr h => ?_)
  · obtain ⟨c, d, s, o, rfl, _⟩ := h; rfl
  · obtain ⟨c, d, s, o, rfl, ⟨h1, h2, h3, h4, h5, h6⟩, q⟩ := h
    refine ⟨_, pss_cons (ps_set (i := 4) scFs.nd rfl (.inl rfl) pe_int)
      (pss_cons (ps_while PassesOwn.never (pt_cmpR op_gt (pv 0) pe_int (nomark _))
        (pss_cons (ps_asg (pe_callB call_divmodW inName T.z_divmod (by decide +kernel) (pa_cons (pv 2) (pa_cons (pv 1) pa_nil))) (pg_tup rfl (pgs_cons (pg_name (i := 5) scFs.nd rfl (.inl rfl)) (pgs_cons (pg_name (i := 2) scFs.nd rfl (.inl rfl)) pgs_nil))))
        (pss_cons (ps_aug (i := 4) scFs.nd rfl (.inl rfl) (pe_op op_mul (pv 5) (pe_op op_fdiv (pe_op op_mul (pv 0) (pe_op op_sub (pv 0) pe_int)) pe_int)) ip_add)
        (pss_cons (ps_asg (pe_callB call_divmodW inName T.z_divmod (by decide +kernel) (pa_cons (pv 3) (pa_cons (pv 1) pa_nil))) (pg_tup rfl (pgs_cons (pg_name (i := 5) scFs.nd rfl (.inl rfl)) (pgs_cons (pg_name (i := 3) scFs.nd rfl (.inl rfl)) pgs_nil))))
        (pss_cons (ps_aug (i := 4) scFs.nd rfl (.inl rfl) (pe_op op_mul (pv 5) (pv 0)) ip_add)
        (pss_cons (ps_set (i := 6) scFs.nd rfl (.inl rfl) (pe_op op_add (pe_op op_mul (pv 2) (pv 0)) (pv 3)))
        (pss_cons (ps_if (pt_cmpR op_lt (pv 6) (pv 1) (nomark _)) (pss_one (ps_ret (pv 4))) pss_nil)
        (pss_cons (ps_asg (pe_callB call_divmodW inName T.z_divmod (by decide +kernel) (pa_cons (pv 6) (pa_cons (pv 1) pa_nil))) (pg_tup rfl (pgs_cons (pg_name (i := 0) scFs.nd rfl (.inl rfl)) (pgs_cons (pg_name (i := 3) scFs.nd rfl (.inl rfl)) pgs_nil))))
        (pss_one (ps_par (i := 1) (j := 2) rfl scFs.nd rfl rfl (by decide) rfl rfl (pa_cons (pv 2) (pa_cons (pv 1) pa_nil)) (by rfl)))))))))))
      (pss_one (ps_ret (pv 4)))), ?_⟩
    refine ⟨fun m σ H' => Same H H' ∧ ∃ (c' d' s' o' t : Int) (u v : Option V), σ = [some (.int c'), some (.int d'), some (.int s'), some (.int o'), some (.int t), u, v] ∧ FsOk c' d' s' o' ∧ t + fsum c' d' s' o' = fsum c d s o ∧ m = d'.toNat,
      ⟨_, Same.refl H, c, d, s, o, 0, _, _, rfl, ⟨h1, h2, h3, h4, h5, h6⟩, by omega, rfl⟩, ?_⟩
    rintro m σ H' ⟨hS, c, d, s, o, t, u, v, rfl, ⟨h1, h2, h3, h4, h5, h6⟩, e, rfl⟩
    refine ⟨_, rfl, _, _, rfl, rfl, _, rfl, iteD (fun hc => ?_) (fun hc => ?_)⟩
    · have ds := div_small h4 h5 h1
      refine ⟨fun σ' H'' => ¬ s % d * c + o % d < d ∧ Same H H'' ∧ ∃ u v, σ' = [some (.int ((s % d * c + o % d) / d)), some (.int (s % d)), some (.int d), some (.int ((s % d * c + o % d) % d)), some (.int (t + s / d * (c * (c - 1) / 2) + o / d * c)), u, v], fun σ' H'' h => ?_, ?_⟩
      · obtain ⟨nt, S2, u', v', rfl⟩ := h
        obtain ⟨n1, n2, n3, n4, n5, n6⟩ := fsum_next hc h1 nt
        refine ⟨_, ?_, S2, _, _, _, _, _, _, _, rfl, ⟨n1, by omega, by omega, by omega, by omega, abs63 (by omega) (by omega)⟩, ?_, rfl⟩
        · omega
        · rw [← e, fsum_go hc h1 nt]; omega
      · refine ⟨_, rfl, _, rfl, _, _, rfl, ok_dm h1 (abs63 h4 h5), fun p hp => ⟨p, _, rfl, SqT.of upd_same, rfl, _, _, rfl, _, _, rfl, rfl, ?_⟩⟩
        have S1 := hS.plus (o := .tup [.int (s / d), .int (s % d)]) hp
        refine ⟨_, rfl, _, rfl, _, rfl, _, rfl, _, _, rfl, rfl, _, _, rfl, rfl, mul64 (by omega) (by omega), _, _, rfl, rfl, ⟨by decide, by decide⟩, _, _, rfl, rfl, mul64 ds.1 ds.2, _, _, rfl, rfl, ?_⟩
        refine ⟨_, rfl, _, rfl, _, _, rfl, ok_dm h1 h6, fun p2 hp2 => ⟨p2, _, rfl, SqT.of upd_same, rfl, _, _, rfl, _, _, rfl, rfl, ?_⟩⟩
        have S2 := S1.plus (o := .tup [.int (o / d), .int (o % d)]) hp2
        have r1 := Int.emod_nonneg s (show d ≠ 0 by omega)
        have r2 := Int.emod_lt_of_pos s h1
        have r3 := Int.emod_nonneg o (show d ≠ 0 by omega)
        have r4 := Int.emod_lt_of_pos o h1
        refine ⟨_, rfl, _, rfl, _, rfl, _, _, rfl, rfl, mul64r (by omega) (by omega), _, _, rfl, rfl, ?_⟩
        refine ⟨_, rfl, _, rfl, _, _, rfl, rfl, mul64 (by omega) (by omega), _, rfl, _, _, rfl, rfl, ?_⟩
        refine ⟨_, rfl, _, rfl, _, _, rfl, rfl, _, rfl, iteD (fun ht => ?_) (fun ht => ?_)⟩
        · refine ⟨_, rfl, ?_⟩
          have ee := fsum_ret hc h1 ht
          have : t + s / d * (c * (c - 1) / 2) + o / d * c = t + fsum c d s o := by rw [ee]; omega
          show Q (.int (t + s / d * (c * (c - 1) / 2) + o / d * c)) _
          rw [this, e]
          exact q _ S2
        · obtain ⟨n1, n2, n3, n4, n5, n6⟩ := fsum_next hc h1 ht
          have b0 : 0 ≤ s % d * c := Int.mul_nonneg r1 (by omega)
          have b1 : s % d * c ≤ (2 ^ 63) * (2 ^ 63) := Int.mul_le_mul (by omega) (by omega) (by omega) (by decide)
          have tb : (s % d * c + o % d).natAbs < 2 ^ 1000 := Nat.lt_of_lt_of_le (show (s % d * c + o % d).natAbs < 2 ^ 130 by omega) (Nat.pow_le_pow_right (by decide) (by decide))
          refine ⟨_, rfl, _, rfl, _, _, rfl, ok_dm h1 tb, fun p3 hp3 => ⟨p3, _, rfl, SqT.of upd_same, rfl, _, _, rfl, _, _, rfl, rfl, ?_⟩⟩
          exact ⟨_, rfl, _, rfl, _, _, rfl, ht, S2.plus hp3, _, _, rfl⟩
    · refine ⟨_, rfl, ?_⟩
      rw [fsum_stop hc, Int.add_zero] at e
      rw [e]
      exact q _ hS
end
end Pp

end
section
set_option Elab.async false
set_option linter.all false
set_option maxRecDepth 100000
set_option maxHeartbeats 4000000
/-! A nested def handed to another def: least_true. -/
namespace Pp
open PySem PySem.Spec PyProof.Rows L2 StX Rg NdefX LamX
/-! ### defs whose code object is known -/
structure FunC (K : PySem.W.Frag) (x q : Str) (st : Stmt) (f c : Addr) : Prop where
  ex : ∃ (oc : Value) (od : Option Addr) (kV doc pm : Value) (an : Option Addr) (ct : Value) (osl : Array (Option Value)),
    K.lookup f = some ⟨oc, od, .func (PySem.W.fnOf x q (defArgs st) (defBody st) (defScope st) .none kV doc pm an (.ref c) ct), osl⟩ ∧ PySem.W.codeIn K (.ref c) q = true
  kp : PySem.W.keepIn K (.ref f) = true
theorem funC_of {K : PySem.W.Frag} {x q : Str} {st : Stmt} {p : Str × Option Str} (D : ∃ fd, Fun K x q st (He.fAd K p) fd) : FunC K x q st (He.fAd K p) (He.codeOf K p) := by
  obtain ⟨fd, F⟩ := D
  obtain ⟨oc, od, kV, doc, pm, an, cdv, ct, osl, rfl, lk, hcd⟩ := F.ex
  obtain ⟨c, rfl⟩ := He.codeIn_ref hcd
  have e : He.codeOf K p = c := He.codeOf_eq lk rfl
  rw [e]
  exact ⟨⟨oc, od, kV, doc, pm, an, ct, osl, lk, hcd⟩, F.kp⟩
section
variable {P : Program} {w : World} {K : PySem.W.Frag} {mg : Str → Option Value} {base : Heap} {x q : Str} {st : Stmt} {f c : Addr} {k : Nat} {sp : Sp}
/-- a def by its body; its code object is at c -/
theorem defC {N ps : List Str} (D : FunC K x q st f c) (S : FnScope N ps (defScope st))
    (hb : ∀ (kV doc pm : Value) (an : Option Addr) (cdv ct : Value) (us : List Value), us.length = ps.length → bindArgs (PySem.W.fnOf x q (defArgs st) (defBody st) (defScope st) .none kV doc pm an cdv ct) ⟨us, []⟩ = pure (ps.zip us))
    (len : ∀ vs H Q E, sp vs H Q E → vs.length = ps.length)
    (hbody : ∀ (A : Around) (outer : List Env) (s : Shared) (H : Hp) (vs : List V) (Q : VK) (E : XK), Room k (A.deeper (envOfC q (defScope st) s.heap.objs.size f (.ref c))) → sp vs H Q E →
      ∃ t, PSs (cxOf CX0 P w K mg base N q (defScope st) f (.ref c) A outer s H E).nox (defBody st) t ∧ t { nx := fun _ H' => Q .non H', rt := Q } (start N vs) H) : FnR P w K mg base CX0 (k + 1) f sp := by
  obtain ⟨oc, od, kV, doc, pm, an, ct, osl, lk, hcd⟩ := D.ex
  intro A outer s H us vs Q E hr e0 r hs
  refine run_ofS (N := N) (ps := ps) lk hcd S hr e0 (.of_eq (hb kV doc pm an _ ct us (by rw [← r.length]; exact len _ _ _ _ hs))) r (len _ _ _ _ hs) fun hr' => ?_
  obtain ⟨t, ht, hq⟩ := hbody A outer s H vs Q E hr' hs
  exact ⟨t, ht.nox, hq⟩
end
section
variable {X : Cx} {pins : List (Addr × Obj)} {σ : L2.St} {H : Hp} {s : Shared}
theorem cell_out (I : Inv X pins σ H s) (hfn : ∀ x, X.fn x = true) {y : Str} {c : Addr} (e : X.env.cells.lookup y = some c) : c ∉ frs X.stack := by
  have h1 : c ∉ X.fs := fun hb => by
    obtain ⟨_, o, ho, _⟩ := I.ok.funs.mem hb
    exact absurd (I.ok.cab y c (hfn y) e) (Nat.not_le_of_lt (Heap.lt_size ho))
  have h2 : c ≠ X.env.locals := fun z => by
    obtain ⟨v, o, ho, hd⟩ := I.cell y c e
    obtain ⟨m, ⟨o2, es, ep, ho2, hd2, _⟩, _⟩ := I.loc
    rw [z, ho2] at ho
    cases ho
    rw [hd2] at hd
    cases hd
  intro hm
  exact (List.mem_cons.mp (I.stkSub c hm)).elim h2 h1
end
/-! ### a parameter that holds a nested def of a caller's -/
def tTest (i : Nat) (f : Addr) (F : NF) (ws : List (Option V)) (sp : List (Option V) → Sp) (t : TA) : TE := fun σ H Q => σ[i]? = some (some (.ref f)) ∧ H f = some (FnO f F) ∧
  t σ H fun vs H1 => H1 f = some (FnO f F) ∧ H1 F.c = some (CodeO F.c F.qual) ∧ sp ws vs H1 Q E0
section
variable {X : Cx} {f : Addr} {F : NF} {ps fr : List Str} {ws : List (Option V)} {i k : Nat} {x : Str} {sp : List (Option V) → Sp} {t : TA} {e : Expr} {es : List Expr} {p pos : Pos}
theorem pe_test (Fn : NOk X.prog X.w X.K X.mg X.base CX0 k f F ps fr sp) (C : CellsAt F.cl fr ws X.s_0.heap X.H_0) (nf : ∀ y c, F.cl.lookup y = some c → c ∉ X.fs) (hex : X.ex = []) (hr : Room k X.A) (hN : X.N[i]? = some x) (hv : Vis X.env.scope x) (ha : PA X (e :: es) t)
    (hd : (x == ("__debug__" : Str)) = false := by decide) (hcd : (x == ("__classdict__" : Str)) = false := by decide)
    (he : starEach (e :: es) X.env = (false, eval e X.env) :: starEach es X.env := by rfl) (hpl : (backTo pos (starEach es X.env)).any (·.1) = false := by rfl) :
    PE X (.Call (.Name x p) (e :: es) [] pos) (tTest i f F ws sp t) := by
  refine ⟨fun pins s σ H Q I h => ?_⟩
  obtain ⟨hs, hf, ht⟩ := h
  refine wpAny_Call_Name_kw (thn ((pe_var (pos := p) hN hv hd hcd).run pins s σ H (fun v H1 => v = .ref f ∧ H1 = H) I ⟨.ref f, hs, rfl, rfl⟩) fun u s1 ⟨v, H1, I1, r1, q1⟩ => ?_)
  obtain ⟨ev, eH⟩ := q1
  subst ev
  rw [eH] at I1
  obtain rfl : u = Value.ref f := r1
  refine PySem.W.callWith_F (first := []) (fnAt_of I1 hf) (thn (ha.run pos pins s1 σ H _ I1 ht) fun us s2 ⟨vs, H2, I2, r, h1, h2, q⟩ => ⟨fnAt_of I2 h1, ?_⟩) he hpl
  show wpAny _ _ (call (.ref f) us) _ _ _
  have C2 : CellsAt F.cl fr ws s2.heap H2 := CellsAt.later C nf (fun y c _ z => by rw [hex] at z; exact absurd z (by simp)) I2
  refine wpAny_call (codeAny_mono (Fn.run X.A X.stack s2 H2 us vs ws Q E0 hr I2.env0 h1 h2 C2 r q) fun r s' hq => ?_)
  cases r with
  | error e => exact hq.elim
  | ok fl =>
    cases fl with
    | ret u => exact I2.after hq
    | next => exact False.elim hq
    | brk => exact False.elim hq
    | cont => exact False.elim hq
end
theorem scLeast : FnScope ["low", "high", "test", "middle"] ["low", "high", "test"] (defScope sLeast) := ⟨rfl, rfl, rfl, by decide +kernel, rfl, by decide +kernel, by decide +kernel⟩
def tLeast (mk : Addr → NF) (js : List Nat) (sp : List (Option V) → Sp) (t : TA) : TE := fun σ H Q => t σ H fun vs H1 => ∃ (f c' : Addr) (low high : Int) (g : Int → Bool), vs = [.int low, .int high, .ref f] ∧ H1 f = some (FnO f (mk c')) ∧ H1 (mk c').c = some (CodeO (mk c').c (mk c').qual) ∧
  (∀ (m : Int) (H' : Hp), Same H1 H' → low ≤ m → m ≤ high → ∀ Q' : VK, (∀ H'', Same H' H'' → Q' (.bl (g m)) H'') → sp (js.map (slotAt σ)) [.int m] H' Q' E0) ∧ low ≤ high ∧ ∀ H', Same H1 H' → Q (.int (ltrue low high g)) H'
section
variable {X : Cx} {mk : Addr → NF} {cl : List (Str × Addr)} {fr : List Str} {js : List Nat} {k j : Nat} {sp : List (Option V) → Sp} {t : TA} {e : Expr} {es : List Expr} {p pos : Pos}
theorem pe_least (T : Tx X.K X.mg) (Fn : ∀ f c', NOk X.prog X.w X.K X.mg X.base CX0 k f (mk c') ["count"] fr sp) (hcl : ∀ c', (mk c').cl = cl) (cp : X.Ok → Caps X cl fr js) (hfn : ∀ x, X.fn x = true) (hr : Room (k + 1) X.A) (hg : Gl X "least_true") (ha : PA X (e :: es) t)
    (he : starEach (e :: es) X.env = (false, eval e X.env) :: starEach es X.env := by rfl) (hpl : (backTo pos (starEach es X.env)).any (·.1) = false := by rfl) :
    PE X (.Call (.Name "least_true" p) (e :: es) [] pos) (tLeast mk js sp t) := by
  obtain ⟨fdL, FL⟩ := T.d_sLeast
  obtain ⟨oc, od, kV, doc, pm, an, cdv, ct, osl, _, lk, hcd⟩ := FL.ex
  rename_i efd
  subst efd
  refine ⟨fun pins s σ H Q I h => ?_⟩
  refine wpAny_Call_Name_kw (ld_glob I hg T.g_least_true ?_ (by decide))
  refine PySem.W.callWith_K (h₀ := X.base) I.ok.mod.kin FL.kp (thn (ha.run pos pins s σ H _ I h) fun us s1 ⟨vs, H1, I1, r, q⟩ => ⟨I1.kIn, ?_⟩) he hpl
  obtain ⟨f, c', low, high, g, rfl, hf, hc, hsp, hlh, hq⟩ := q
  have C0 : CellsAt (mk c').cl fr (js.map (slotAt σ)) s1.heap H1 := by
    rw [hcl c']
    exact cells_of I1 (cp I1.ok)
  have nf : ∀ y c, (mk c').cl.lookup y = some c → c ∉ frs X.stack := fun y c z => by
    rw [hcl c'] at z
    exact cell_out I1 hfn ((cp I1.ok).sub y c z)
  have rc : codeAny (model X.prog X.w) X.A (.call (.ref (ga X.K "least_true")) ⟨us, []⟩) (CR CX0 X.stack X.prog X.w H1 s1 Q E0) s1 := by
    refine run_ofS (N := ["low", "high", "test", "middle"]) (ps := ["low", "high", "test"]) lk hcd scLeast hr I1.env0 (.of_eq ?_) r rfl fun hr' => ?_
    · have hl := r.length
      match us, hl with
      | [_, _, _], _ => rfl
    · suffices z : ∃ t, PSs (cxOf CX0 X.prog X.w X.K X.mg X.base ["low", "high", "test", "middle"] "least_true" (defScope sLeast) (ga X.K "least_true") cdv X.A X.stack s1 H1 E0).nox (defBody sLeast) t ∧ t { nx := fun _ H' => Q .non H', rt := Q } (start ["low", "high", "test", "middle"] [.int low, .int high, .ref f]) H1 from let ⟨t, h1, h2⟩ := z; ⟨t, h1.nox, h2⟩
      refine ⟨_, pss_cons (ps_while PassesOwn.never (pt_cmpR op_lt (pv 0) (pv 1) (nomark _))
        (pss_cons (ps_set (i := 3) scLeast.nd rfl (.inl rfl) (pe_op op_fdiv (pe_op op_add (pv 0) (pv 1)) pe_int))
        (pss_one (ps_if (pt_val (pe_test (i := 2) (Fn f c') C0 nf rfl hr' rfl (.inl rfl) (pa_cons (pv 3) pa_nil)))
          (pss_one (ps_set (i := 1) scLeast.nd rfl (.inl rfl) (pv 3)))
          (pss_one (ps_set (i := 0) scLeast.nd rfl (.inl rfl) (pe_op op_add (pv 3) pe_int)))))))
        (pss_one (ps_ret (pv 1))), ?_⟩
      refine ⟨fun m σ' H' => Same H1 H' ∧ ∃ (a b : Int) (v : Option V), σ' = [some (.int a), some (.int b), some (.ref f), v] ∧ low ≤ a ∧ b ≤ high ∧ a ≤ b ∧ ltrue a b g = ltrue low high g ∧ m = (b - a).toNat,
        ⟨_, Same.refl H1, low, high, _, rfl, Int.le_refl _, Int.le_refl _, hlh, rfl, rfl⟩, ?_⟩
      rintro m σ' H' ⟨S1, a, b, v, rfl, h1, h2, h3, e1, rfl⟩
      refine ⟨_, rfl, _, rfl, _, _, rfl, rfl, _, rfl, iteD (fun hab => ?_) (fun hab => ?_)⟩
      · refine ⟨fun σ'' H'' => Same H1 H'' ∧ ∃ (a' b' : Int) (v : Option V), σ'' = [some (.int a'), some (.int b'), some (.ref f), v] ∧ low ≤ a' ∧ b' ≤ high ∧ a' ≤ b' ∧ ltrue a' b' g = ltrue low high g ∧ (b' - a').toNat < (b - a).toNat,
          fun σ'' H'' ⟨S2, a', b', v', e2, l1, l2, l3, l4, l5⟩ => ⟨_, l5, S2, a', b', v', e2, l1, l2, l3, l4, rfl⟩, ?_⟩
        refine ⟨_, rfl, _, rfl, _, _, rfl, rfl, _, _, rfl, rfl, ⟨by decide, by decide⟩, ?_⟩
        refine ⟨rfl, S1 _ _ hf, _, rfl, S1 _ _ hf, S1 _ _ hc, hsp _ _ S1 (by omega) (by omega) _ fun H'' S2 => ⟨_, rfl, ?_⟩⟩
        have S3 := S1.trans S2
        refine ite2 (fun hg => ?_) (fun hg => ?_)
        · exact ⟨_, rfl, S3, _, _, _, rfl, h1, by omega, by omega, (by rw [← e1, ltrue_yes hab hg]), by omega⟩
        · exact ⟨_, rfl, _, _, rfl, rfl, S3, _, _, _, rfl, by omega, h2, by omega, (by rw [← e1, ltrue_no hab (Bool.eq_false_iff.mpr hg)]), by omega⟩
      · have : a = b := by omega
        rw [ltrue_end hab] at e1
        exact ⟨_, rfl, by rw [e1]; exact hq _ S1⟩
  refine wpAny_call (codeAny_mono rc fun r s' hq => ?_)
  cases r with
  | error e => exact hq.elim
  | ok fl =>
    cases fl with
    | ret u => exact I1.after hq
    | next => exact False.elim hq
    | brk => exact False.elim hq
    | cont => exact False.elim hq
end
end Pp

end
section
set_option Elab.async false
set_option linter.all false
set_option maxRecDepth 100000
set_option maxHeartbeats 4000000
/-! The crossing's methods. -/
namespace Pp
open PySem PySem.Spec PyProof.Rows L2 StX Rg NdefX LamX
/-! ### the tables of the nested defs -/
abbrev mR : Stmt := (defBody sXRising).getD 2 (.Pass ⟨0, 0, 0, 0⟩)
abbrev mS : Stmt := (defBody sXSteady).getD 1 (.Pass ⟨0, 0, 0, 0⟩)
abbrev dR : He.Defn := ("RingCrossing", some "first_rising")
abbrev dS : He.Defn := ("RingCrossing", some "first_steady")
def nmT : Nat → Nat → Str := fun l _ => if l = 238 then "RingCrossing.first_rising.<locals>.is_met" else "RingCrossing.first_steady.<locals>.is_met"
abbrev TT (K : PySem.W.Frag) : List NTab := [(He.tabOf K (He.codeOf K dR), nmT), (He.tabOf K (He.codeOf K dS), nmT)]
structure Tb (K : PySem.W.Frag) (mg : Str → Option Value) (base : Heap) : Prop where
  r : TabB base mg (He.codeOf K dR) (He.tabOf K (He.codeOf K dR))
  s : TabB base mg (He.codeOf K dS) (He.tabOf K (He.codeOf K dS))
theorem tt_nm {K : PySem.W.Frag} {a : Addr} : ∀ p ∈ TT K, p.1 = a → p.2 = nmT := fun p hp _ => by
  rcases List.mem_cons.mp hp with h | h
  · rw [h]
  · rw [List.mem_singleton.mp h]
theorem SameN {H H' : Hp} (s : Same H H') : ExtN H H' := ExtN.of s
/-! ### numbers -/
theorem b1000 {i : Int} (h : -(2 ^ 250) < i) (k : i < 2 ^ 250) : i.natAbs < 2 ^ 1000 := Nat.lt_of_lt_of_le (show i.natAbs < 2 ^ 250 by omega) (Nat.pow_le_pow_right (by decide) (by decide))
theorem absmul {a b : Int} {A B : Nat} (h1 : -(A : Int) ≤ a) (h2 : a ≤ A) (h3 : -(B : Int) ≤ b) (h4 : b ≤ B) : -((A * B : Nat) : Int) ≤ a * b ∧ a * b ≤ ((A * B : Nat) : Int) := by
  have e : (a * b).natAbs ≤ A * B := by
    rw [Int.natAbs_mul]
    exact Nat.mul_le_mul (by omega) (by omega)
  omega
/-- a product of two numbers of this size -/
theorem mul64b {a b : Int} (h1 : -(2 ^ 63) ≤ a) (h2 : a ≤ 2 ^ 63) (h3 : -(2 ^ 120) ≤ b) (h4 : b ≤ 2 ^ 120) : -(2 ^ 183) ≤ a * b ∧ a * b ≤ 2 ^ 183 := by
  have := absmul (A := 2 ^ 63) (B := 2 ^ 120) (a := a) (b := b) (by omega) (by omega) (by omega) (by omega)
  omega
/-! ### the crossing's data -/
structure RcOk (r : RC) : Prop where
  w0 : -(2 ^ 110) < r.wait
  w1 : r.wait < 2 ^ 110
  l0 : 0 < r.length
  l1 : r.length < 2 ^ 62
  c0 : 0 < r.cycle
  c1 : r.cycle < 2 ^ 62
  t0 : 0 < r.step
  t1 : r.step < 2 ^ 62
  s0 : 0 ≤ r.start
  s1 : r.start < r.step
  p0 : 0 ≤ r.slope
  p1 : r.slope < r.cycle
  o0 : 0 ≤ r.offset
  o1 : r.offset < r.cycle
abbrev Fs := List (Str × V)
def xf (r : RC) : Fs := [("wait", .int r.wait), ("length", .int r.length), ("cycle", .int r.cycle), ("is_empty", .bl r.empty), ("step", .int r.step), ("start", .int r.start), ("slope", .int r.slope), ("offset", .int r.offset)]
abbrev aX (K : PySem.W.Frag) : Addr := ga K "RingCrossing"
def ov : Option Int → V
  | none => .non
  | some i => .int i
section
variable {P : Program} {w : World} {K : PySem.W.Frag} {mg : Str → Option Value} {base : Heap}
/-! ### remainders_below -/
def spBelow : Sp := fun vs H Q _ => ∃ c d s o v : Int, vs = [.int c, .int d, .int s, .int o, .int v] ∧ FsOk c d s o ∧ FsOk c d s (o - v) ∧ ∀ H', Same H H' → Q (.int (below c d s o v)) H'
theorem scBelow : FnScope ["count", "divisor", "slope", "offset", "width"] ["count", "divisor", "slope", "offset", "width"] (defScope sBelow) := ⟨rfl, rfl, rfl, by decide +kernel, rfl, by decide +kernel, by decide +kernel⟩
theorem ok_below (T : Tx K mg) : FnR P w K mg base CX0 2 (ga K "remainders_below") spBelow := by
  refine defR T.d_sBelow scBelow (fun _ _ _ _ _ _ us hl => match us, hl with | [_, _, _, _, _], _ => rfl) (fun vs H Q E h => ?_) (fun cdv A outer s H vs Q E hr h => ?_)
  · obtain ⟨c, d, s, o, v, rfl, _⟩ := h; rfl
  · obtain ⟨c, d, s, o, v, rfl, f1, f2, q⟩ := h
    refine ⟨_, pss_one (ps_ret (pe_op op_sub (pe_fn (ok_fs T) hr inName T.g_floor_sum (kpOf T.d_sFloorSum) pass0 (pa_cons (pv 0) (pa_cons (pv 1) (pa_cons (pv 2) (pa_cons (pv 3) pa_nil)))))
      (pe_fn (ok_fs T) hr inName T.g_floor_sum (kpOf T.d_sFloorSum) pass0 (pa_cons (pv 0) (pa_cons (pv 1) (pa_cons (pv 2) (pa_cons (pe_op op_sub (pv 3) (pv 4)) pa_nil))))))), ?_⟩
    repeat first | refine ⟨_, rfl, ?_⟩ | refine ⟨_, _, rfl, rfl, ?_⟩
    refine ⟨_, _, _, _, rfl, f1, fun H1 S1 => ?_⟩
    repeat first | refine ⟨_, rfl, ?_⟩ | refine ⟨_, _, rfl, rfl, ?_⟩
    refine ⟨_, _, _, _, rfl, f2, fun H2 S2 => ?_⟩
    repeat first | refine ⟨_, rfl, ?_⟩ | refine ⟨_, _, rfl, rfl, ?_⟩
    exact q _ (S1.trans S2)
/-! ### is_met of first_rising -/
abbrev frR : List Str := ["bound", "first", "second", "self", "slope"]
abbrev nR : List Str := ["count", "bound", "first", "second", "self", "slope", "hits"]
def spMetR (K : PySem.W.Frag) : List (Option V) → Sp := fun ws vs H Q _ => ∃ (c bound first second slope : Int) (x dx : Addr) (r : RC), ws = [some (.int bound), some (.int first), some (.int second), some (.ref x), some (.int slope)] ∧ vs = [.int c] ∧
  H x = some (.ins (aX K) dx (xf r)) ∧ FsOk c r.cycle slope first ∧ FsOk c r.cycle bound second ∧ ∀ H', Same H H' → Q (.bl (decide (0 < fsum c r.cycle slope first - fsum c r.cycle bound second))) H'
theorem nscR : NScope nR ["count"] frR (C8.fnScope mR) := nscope_by (by decide +kernel)
theorem ndR : ndefB (defScope sXRising) (C8.fnScope mR) frR = true := by decide +kernel
abbrev qR : Str := (("RingCrossing" : Str) ++ "." ++ "first_rising") ++ ".<locals>." ++ "is_met"
def clR (n : Nat) : List (Str × Addr) := cloFrom (cellsFrom (n + 1) (defScope sXRising).names []) (C8.fnScope mR).names []
abbrev mkR (n : Nat) : Addr → NF := NF.of mR "is_met" qR (clR n)
abbrev qS : Str := (("RingCrossing" : Str) ++ "." ++ "first_steady") ++ ".<locals>." ++ "is_met"
theorem hnS (c : Nat) : nmT 250 c = qS := by kernel_rfl
theorem hnR (c : Nat) : nmT 238 c = qR := by kernel_rfl
theorem ok_metR (T : Tx K mg) (f c' : Addr) (q : Str) (cl : List (Str × Addr)) : NOk P w K mg base CX0 2 f (NF.of mR "is_met" q cl c') ["count"] frR (spMetR K) := by
  refine nok_of (N := nR) nscR (fun _ _ _ us hl => match us, hl with | [_], _ => rfl) (fun ws vs H Q E h => ?_) (fun A outer s H vs ws Q E hr hf hc hl h => ?_)
  · obtain ⟨_, _, _, _, _, _, _, _, _, rfl, _⟩ := h; rfl
  · obtain ⟨c, bound, first, second, slope, x, dx, r, rfl, rfl, hx, f1, f2, q⟩ := h
    refine ⟨_, pss_cons (ps_set (i := 6) nscR.nd rfl (.inl rfl) (pe_op op_sub (pe_fn (ok_fs T) hr inName T.g_floor_sum (kpOf T.d_sFloorSum) pass0 (pa_cons (pv 0) (pa_cons (pe_fld (pv 4) rfl) (pa_cons (pv 5) (pa_cons (pv 2) pa_nil)))))
      (pe_fn (ok_fs T) hr inName T.g_floor_sum (kpOf T.d_sFloorSum) pass0 (pa_cons (pv 0) (pa_cons (pe_fld (pv 4) rfl) (pa_cons (pv 1) (pa_cons (pv 3) pa_nil)))))))
      (pss_one (ps_ret (pe_cmpR op_gt (pv 6) pe_int (nomark _)))), ?_⟩
    refine ⟨_, rfl, _, rfl, _, _, _, _, _, rfl, hx, T.c_RingCrossing, T.a_RingCrossing_cycle, rfl, ?_⟩
    repeat first | refine ⟨_, rfl, ?_⟩ | refine ⟨_, _, rfl, rfl, ?_⟩
    refine ⟨_, _, _, _, rfl, f1, fun H1 S1 => ?_⟩
    refine ⟨_, rfl, _, rfl, _, _, _, _, _, rfl, S1 _ _ hx, T.c_RingCrossing, T.a_RingCrossing_cycle, rfl, ?_⟩
    repeat first | refine ⟨_, rfl, ?_⟩ | refine ⟨_, _, rfl, rfl, ?_⟩
    refine ⟨_, _, _, _, rfl, f2, fun H2 S2 => ?_⟩
    repeat first | refine ⟨_, rfl, ?_⟩ | refine ⟨_, _, rfl, rfl, ?_⟩
    exact q _ (S1.trans S2)
/-! ### is_met of first_steady -/
abbrev frS : List Str := ["first", "limit", "self"]
abbrev nS : List Str := ["count", "first", "limit", "self"]
def spMetS (K : PySem.W.Frag) : List (Option V) → Sp := fun ws vs H Q _ => ∃ (c first limit : Int) (x dx : Addr) (r : RC), ws = [some (.int first), some (.int limit), some (.ref x)] ∧ vs = [.int c] ∧
  H x = some (.ins (aX K) dx (xf r)) ∧ FsOk c r.cycle r.slope first ∧ FsOk c r.cycle r.slope (first - limit) ∧ ∀ H', Same H H' → Q (.bl (decide (0 < below c r.cycle r.slope first limit))) H'
theorem nscS : NScope nS ["count"] frS (C8.fnScope mS) := nscope_by (by decide +kernel)
theorem ndS : ndefB (defScope sXSteady) (C8.fnScope mS) frS = true := by decide +kernel
def clS (n : Nat) : List (Str × Addr) := cloFrom (cellsFrom (n + 1) (defScope sXSteady).names []) (C8.fnScope mS).names []
abbrev mkS (n : Nat) : Addr → NF := NF.of mS "is_met" qS (clS n)
theorem ok_metS (T : Tx K mg) (f c' : Addr) (q : Str) (cl : List (Str × Addr)) : NOk P w K mg base CX0 3 f (NF.of mS "is_met" q cl c') ["count"] frS (spMetS K) := by
  refine nok_of (N := nS) nscS (fun _ _ _ us hl => match us, hl with | [_], _ => rfl) (fun ws vs H Q E h => ?_) (fun A outer s H vs ws Q E hr hf hc hl h => ?_)
  · obtain ⟨_, _, _, _, _, _, _, rfl, _⟩ := h; rfl
  · obtain ⟨c, first, limit, x, dx, r, rfl, rfl, hx, f1, f2, q⟩ := h
    refine ⟨_, pss_one (ps_ret (pe_cmpR op_gt (pe_fn (ok_below T) hr inName T.g_remainders_below (kpOf T.d_sBelow) pass0 (pa_cons (pv 0) (pa_cons (pe_fld (pv 3) rfl) (pa_cons (pe_fld (pv 3) rfl) (pa_cons (pv 1) (pa_cons (pv 2) pa_nil)))))) pe_int (nomark _))), ?_⟩
    refine ⟨_, rfl, _, rfl, _, _, _, _, _, rfl, hx, T.c_RingCrossing, T.a_RingCrossing_cycle, rfl, _, rfl, _, _, _, _, _, rfl, hx, T.c_RingCrossing, T.a_RingCrossing_slope, rfl, ?_⟩
    repeat first | refine ⟨_, rfl, ?_⟩ | refine ⟨_, _, rfl, rfl, ?_⟩
    refine ⟨_, _, _, _, _, rfl, f1, f2, fun H1 S1 => ?_⟩
    repeat first | refine ⟨_, rfl, ?_⟩ | refine ⟨_, _, rfl, rfl, ?_⟩
    exact q _ S1
/-! ### first_rising -/
abbrev NRi : List Str := ["self", "low", "high", "late", "slope", "bound", "first", "second", "is_met", "many"]
theorem scRi : FnScope NRi ["self", "low", "high", "late"] (defScope sXRising) := ⟨rfl, rfl, rfl, by decide +kernel, rfl, by decide +kernel, by decide +kernel⟩
def spRising (K : PySem.W.Frag) : Sp := fun vs H Q _ => ∃ (x dx : Addr) (r : RC) (low high l : Int), vs = [.ref x, .int low, .int high, .int l] ∧ H x = some (.ins (aX K) dx (xf r)) ∧ RcOk r ∧ 0 ≤ low ∧ low < 2 ^ 112 ∧ high < 2 ^ 62 ∧ -(2 ^ 112) < l ∧ l < 2 ^ 112 ∧ TabsN (TT K) H ∧
  ∀ H', ExtN H H' → TabsN (TT K) H' → Q (ov (rising r low high l)) H'
theorem rising_ok {r : RC} {low high l m : Int} (R : RcOk r) (h0 : 0 ≤ low) (h1 : low ≤ high) (h2 : high < 2 ^ 62) (h3 : -(2 ^ 112) < l) (h4 : l < 2 ^ 112) (m1 : m ≤ high - low + 1) :
    FsOk m r.cycle r.slope (r.offset + r.slope * low) ∧ FsOk m r.cycle (r.slope - r.step) (r.offset + (r.slope - r.step) * low - l - 1) := by
  obtain ⟨_, _, _, _, c0, c1, t0, t1, _, _, p0, p1, o0, o1⟩ := R
  have a := mul64b (a := r.slope) (b := low) (by omega) (by omega) (by omega) (by omega)
  have b := mul64b (a := r.slope - r.step) (b := low) (by omega) (by omega) (by omega) (by omega)
  exact ⟨⟨c0, by omega, by omega, by omega, by omega, b1000 (by omega) (by omega)⟩, ⟨c0, by omega, by omega, by omega, by omega, b1000 (by omega) (by omega)⟩⟩
theorem capsR {X : Cx} {n : Nat} (ok : X.Ok) (hc : X.env.cells = cellsFrom (n + 1) (defScope sXRising).names []) (hs : X.env.scope = defScope sXRising) (hN : X.N = NRi) : Caps X (clR n) frR [5, 6, 7, 0, 4] := by
  have h := Caps.made (X := X) (scope := C8.fnScope mR) (fr := frR) (js := [5, 6, 7, 0, 4]) ok (by rw [hs]; exact ndef_free ndR) (ndef_fr ndR) (by rw [hN]; rfl)
  rw [hc] at h
  exact h
theorem ok_rising (T : Tx K mg) (B : Tb K mg base) : FnR P w K mg base CX0 4 (ma K (aX K) "first_rising") (spRising K) := by
  refine defC (funC_of (p := dR) T.d_sXRising) scRi (fun _ _ _ _ _ _ us hl => match us, hl with | [_, _, _, _], _ => rfl) (fun vs H Q E h => ?_) (fun A outer s H vs Q E hr h => ?_)
  · obtain ⟨_, _, _, _, _, _, rfl, _⟩ := h; rfl
  · obtain ⟨x, dx, r, low, high, l, rfl, hx, R, l0, l1, h1, a0, a1, hT, q⟩ := h
    obtain ⟨_, _, _, _, c0, c1, t0, t1, _, _, p0, p1, o0, o1⟩ := id R
    have hr2 : Room 2 _ := hr.mono (by decide)
    have nd := scRi.nd
    refine ⟨_, pss_cons (ps_asg (pe_tup (pa_cons (pe_fld (pv 0) rfl) (pa_cons (pe_op op_sub (pe_fld (pv 0) rfl) (pe_fld (pv 0) rfl)) pa_nil))) (pg_tup rfl (pgs_cons (pg_name (i := 4) nd rfl (.inr rfl)) (pgs_cons (pg_name (i := 5) nd rfl (.inr rfl)) pgs_nil))))
      (pss_cons (ps_asg (pe_tup (pa_cons (pe_op op_add (pe_fld (pv 0) rfl) (pe_op op_mul (pv 4) (pv 1))) (pa_cons (pe_op op_sub (pe_op op_sub (pe_op op_add (pe_fld (pv 0) rfl) (pe_op op_mul (pv 5) (pv 1))) (pv 3)) pe_int) pa_nil))) (pg_tup rfl (pgs_cons (pg_name (i := 6) nd rfl (.inr rfl)) (pgs_cons (pg_name (i := 7) nd rfl (.inr rfl)) pgs_nil))))
      (pss_cons (ps_ndefS (X := (cxOf CX0 P w K mg base NRi (("RingCrossing" : Str) ++ "." ++ "first_rising") (defScope sXRising) (ma K (aX K) "first_rising") (.ref (He.codeOf K dR)) A outer s H E).nox) (st := mR) (T := TT K) (nm := nmT) (name := "is_met") (pos := ⟨238, 8, 240, 27⟩) (i := 8) rfl B.r rfl (List.mem_cons_self ..) (hnR 8) tt_nm (ndef_free ndR) rfl rfl rfl nd rfl (.inl rfl) (.inr rfl))
      (pss_cons (ps_set (i := 9) nd rfl (.inl rfl) (pe_op op_add (pe_op op_sub (pv 2) (pv 1)) pe_int))
      (pss_cons (ps_if (pw_or (pt_cmpR op_lt (pv 9) pe_int (nomark _)) (pw_or1 (pt_not (pt_val (pe_calln (i := 8) (mk := mkR s.heap.objs.size) (cl := clR s.heap.objs.size) (fr := frR) (js := [5, 6, 7, 0, 4]) (fun f c' => ok_metR T f c' _ _) (fun _ => rfl) (fun ok => capsR ok rfl rfl rfl) hr2 (Nat.le_refl _) pass0 rfl (.inl rfl) (pa_cons (pv 9) pa_nil)))))).pt
        (pss_one (ps_ret pe_non)) pss_nil)
      (pss_one (ps_ret (pe_op op_sub (pe_op op_add (pv 1) (pe_least T (mk := mkR s.heap.objs.size) (cl := clR s.heap.objs.size) (fr := frR) (js := [5, 6, 7, 0, 4]) (fun f c' => ok_metR T f c' _ _) (fun _ => rfl) (fun ok => capsR ok rfl rfl rfl) (fun _ => rfl) hr inName (pa_cons pe_int (pa_cons (pv 9) (pa_cons (pv 8) pa_nil))))) pe_int))))))), ?_⟩
    refine ⟨_, rfl, _, _, _, _, _, rfl, hx, T.c_RingCrossing, T.a_RingCrossing_slope, rfl, _, rfl, _, _, _, _, _, rfl, hx, T.c_RingCrossing, T.a_RingCrossing_slope, rfl, _, rfl, _, _, _, _, _, rfl, hx, T.c_RingCrossing, T.a_RingCrossing_step, rfl, ?_⟩
    repeat first | refine ⟨_, rfl, ?_⟩ | refine ⟨_, _, rfl, rfl, ?_⟩
    refine ⟨by show 2 ≤ sizeLine; decide, fun p1 hp1 => ⟨p1, _, rfl, SqT.of upd_same, rfl, _, _, rfl, _, _, rfl, rfl, ?_⟩⟩
    have S1 : Same H _ := Same.new (o := .tup [.int r.slope, .int (r.slope - r.step)]) hp1
    refine ⟨_, rfl, _, _, _, _, _, rfl, S1 _ _ hx, T.c_RingCrossing, T.a_RingCrossing_offset, rfl, _, rfl, _, rfl, _, _, rfl, rfl, mul64 (by omega) (by omega), _, _, rfl, rfl, _, rfl, _, _, _, _, _, rfl, S1 _ _ hx, T.c_RingCrossing, T.a_RingCrossing_offset, rfl, _, rfl, _, rfl, _, _, rfl, rfl, mul64 (by omega) (by omega), ?_⟩
    repeat first | refine ⟨_, rfl, ?_⟩ | refine ⟨_, _, rfl, rfl, ?_⟩
    refine ⟨by show 2 ≤ sizeLine; decide, fun p2 hp2 => ⟨p2, _, rfl, SqT.of upd_same, rfl, _, _, rfl, _, _, rfl, rfl, ?_⟩⟩
    have S2 := S1.plus (o := .tup [.int (r.offset + r.slope * low), .int (r.offset + (r.slope - r.step) * low - l - 1)]) hp2
    refine ⟨hT.ext S2, fun f c' H3 e3 T3 _ hf hc => ?_⟩
    have E3 : ExtN H H3 := (SameN S2).trans e3
    have hx3 := E3 _ _ hx (fun _ z => by cases z)
    repeat first | refine ⟨_, rfl, ?_⟩ | refine ⟨_, _, rfl, rfl, ?_⟩
    refine iteD (fun hm => ?_) (fun hm => ?_)
    · refine iteT ?_
      have e : rising r low high l = none := by unfold rising; rw [if_pos (by omega)]
      rw [e] at q
      exact q _ E3 T3
    · obtain ⟨k1, k2⟩ := rising_ok (m := high - low + 1) R l0 (by omega) h1 a0 a1 (Int.le_refl _)
      refine ⟨f, c', rfl, hf, _, rfl, hf, hc, _, _, _, _, _, _, _, r, rfl, rfl, hx3, k1, k2, fun H4 S4 => ⟨_, rfl, iteND (fun hm => ?_) (fun hm => ?_)⟩⟩
      · have e : rising r low high l = none := by unfold rising; rw [if_neg (by omega), if_pos (show metR r low l (high - low + 1) = false from decide_eq_false hm)]
        rw [e] at q
        exact q _ (E3.trans (SameN S4)) (T3.ext S4)
      · refine ⟨_, rfl, _, rfl, _, rfl, f, c', 1, high - low + 1, metR r low l, rfl, S4 _ _ hf, S4 _ _ hc, fun m H5 S5 m0 m1 Q' hQ => ?_, by omega, fun H5 S5 => ?_⟩
        · obtain ⟨k1, k2⟩ := rising_ok (m := m) R l0 (by omega) h1 a0 a1 m1
          exact ⟨_, _, _, _, _, _, _, r, rfl, rfl, S5 _ _ (S4 _ _ hx3), k1, k2, hQ⟩
        · have e : rising r low high l = some (low + ltrue 1 (high - low + 1) (metR r low l) - 1) := by
            unfold rising
            rw [if_neg (by omega), if_neg (show ¬ metR r low l (high - low + 1) = false by
              rw [show metR r low l (high - low + 1) = true from decide_eq_true hm]
              decide)]
          rw [e] at q
          repeat first | refine ⟨_, rfl, ?_⟩ | refine ⟨_, _, rfl, rfl, ?_⟩
          exact q _ ((E3.trans (SameN S4)).trans (SameN S5)) ((T3.ext S4).ext S5)
end
end Pp

end
section
set_option Elab.async false
set_option linter.all false
set_option maxRecDepth 100000
set_option maxHeartbeats 4000000
/-! first_steady, first_block. -/
namespace Pp
open PySem PySem.Spec PyProof.Rows L2 StX Rg NdefX LamX
section
variable {P : Program} {w : World} {K : PySem.W.Frag} {mg : Str → Option Value} {base : Heap}
abbrev NSt : List Str := ["self", "low", "high", "limit", "first", "is_met", "many"]
theorem scSt : FnScope NSt ["self", "low", "high", "limit"] (defScope sXSteady) := ⟨rfl, rfl, rfl, by decide +kernel, rfl, by decide +kernel, by decide +kernel⟩
def spSteady (K : PySem.W.Frag) : Sp := fun vs H Q _ => ∃ (x dx : Addr) (r : RC) (low high l : Int), vs = [.ref x, .int low, .int high, .int l] ∧ H x = some (.ins (aX K) dx (xf r)) ∧ RcOk r ∧ 0 ≤ low ∧ low < 2 ^ 112 ∧ high < 2 ^ 62 ∧ -(2 ^ 112) < l ∧ l < 2 ^ 112 ∧ TabsN (TT K) H ∧
  ∀ H', ExtN H H' → TabsN (TT K) H' → Q (ov (steady r low high l)) H'
theorem steady_ok {r : RC} {low high l m : Int} (R : RcOk r) (h0 : 0 ≤ low) (h1 : low ≤ high) (h2 : high < 2 ^ 62) (h3 : -(2 ^ 112) < l) (h4 : l < 2 ^ 112) (m1 : m ≤ high - low + 1) :
    FsOk m r.cycle r.slope (r.offset + r.slope * low) ∧ FsOk m r.cycle r.slope (r.offset + r.slope * low - l) := by
  obtain ⟨_, _, _, _, c0, c1, t0, t1, _, _, p0, p1, o0, o1⟩ := R
  have a := mul64b (a := r.slope) (b := low) (by omega) (by omega) (by omega) (by omega)
  exact ⟨⟨c0, by omega, by omega, by omega, by omega, b1000 (by omega) (by omega)⟩, ⟨c0, by omega, by omega, by omega, by omega, b1000 (by omega) (by omega)⟩⟩
theorem capsS {X : Cx} {n : Nat} (ok : X.Ok) (hc : X.env.cells = cellsFrom (n + 1) (defScope sXSteady).names []) (hs : X.env.scope = defScope sXSteady) (hN : X.N = NSt) : Caps X (clS n) frS [4, 3, 0] := by
  have h := Caps.made (X := X) (scope := C8.fnScope mS) (fr := frS) (js := [4, 3, 0]) ok (by rw [hs]; exact ndef_free ndS) (ndef_fr ndS) (by rw [hN]; rfl)
  rw [hc] at h
  exact h
theorem hnS2 (c : Nat) : nmT 249 c = qS := by kernel_rfl
theorem ok_steady (T : Tx K mg) (B : Tb K mg base) : FnR P w K mg base CX0 5 (ma K (aX K) "first_steady") (spSteady K) := by
  refine defC (funC_of (p := dS) T.d_sXSteady) scSt (fun _ _ _ _ _ _ us hl => match us, hl with | [_, _, _, _], _ => rfl) (fun vs H Q E h => ?_) (fun A outer s H vs Q E hr h => ?_)
  · obtain ⟨_, _, _, _, _, _, rfl, _⟩ := h; rfl
  · obtain ⟨x, dx, r, low, high, l, rfl, hx, R, l0, l1, h1, a0, a1, hT, q⟩ := h
    obtain ⟨_, _, _, _, c0, c1, t0, t1, _, _, p0, p1, o0, o1⟩ := id R
    have hr2 : Room 3 _ := hr.mono (by decide)
    have nd := scSt.nd
    refine ⟨_, pss_cons (ps_set (i := 4) nd rfl (.inr rfl) (pe_op op_add (pe_fld (pv 0) rfl) (pe_op op_mul (pe_fld (pv 0) rfl) (pv 1))))
      (pss_cons (ps_ndefS (X := (cxOf CX0 P w K mg base NSt (("RingCrossing" : Str) ++ "." ++ "first_steady") (defScope sXSteady) (ma K (aX K) "first_steady") (.ref (He.codeOf K dS)) A outer s H E).nox) (st := mS) (T := TT K) (nm := nmT) (name := "is_met") (pos := ⟨249, 8, 250, 84⟩) (i := 5) rfl B.s rfl (List.mem_cons_of_mem _ (List.mem_cons_self ..)) (hnS2 8) tt_nm (ndef_free ndS) rfl rfl rfl nd rfl (.inl rfl) (.inr rfl))
      (pss_cons (ps_set (i := 6) nd rfl (.inl rfl) (pe_op op_add (pe_op op_sub (pv 2) (pv 1)) pe_int))
      (pss_cons (ps_if (pw_or (pt_cmpR op_lt (pv 6) pe_int (nomark _)) (pw_or1 (pt_not (pt_val (pe_calln (i := 5) (mk := mkS s.heap.objs.size) (cl := clS s.heap.objs.size) (fr := frS) (js := [4, 3, 0]) (fun f c' => ok_metS T f c' _ _) (fun _ => rfl) (fun ok => capsS ok rfl rfl rfl) hr2 (Nat.le_refl _) pass0 rfl (.inl rfl) (pa_cons (pv 6) pa_nil)))))).pt
        (pss_one (ps_ret pe_non)) pss_nil)
      (pss_one (ps_ret (pe_op op_sub (pe_op op_add (pv 1) (pe_least T (mk := mkS s.heap.objs.size) (cl := clS s.heap.objs.size) (fr := frS) (js := [4, 3, 0]) (fun f c' => ok_metS T f c' _ _) (fun _ => rfl) (fun ok => capsS ok rfl rfl rfl) (fun _ => rfl) hr inName (pa_cons pe_int (pa_cons (pv 6) (pa_cons (pv 5) pa_nil))))) pe_int)))))), ?_⟩
    refine ⟨_, rfl, _, _, _, _, _, rfl, hx, T.c_RingCrossing, T.a_RingCrossing_offset, rfl, _, rfl, _, _, _, _, _, rfl, hx, T.c_RingCrossing, T.a_RingCrossing_slope, rfl, _, rfl, _, _, rfl, rfl, mul64 (by omega) (by omega), ?_⟩
    repeat first | refine ⟨_, rfl, ?_⟩ | refine ⟨_, _, rfl, rfl, ?_⟩
    refine ⟨hT, fun f c' H3 e3 T3 _ hf hc => ?_⟩
    have E3 : ExtN H H3 := e3
    have hx3 := E3 _ _ hx (fun _ z => by cases z)
    repeat first | refine ⟨_, rfl, ?_⟩ | refine ⟨_, _, rfl, rfl, ?_⟩
    refine iteD (fun hm => ?_) (fun hm => ?_)
    · refine iteT ?_
      have e : steady r low high l = none := by unfold steady; rw [if_pos (by omega)]
      rw [e] at q
      exact q _ E3 T3
    · obtain ⟨k1, k2⟩ := steady_ok (m := high - low + 1) R l0 (by omega) h1 a0 a1 (Int.le_refl _)
      refine ⟨f, c', rfl, hf, _, rfl, hf, hc, _, _, _, _, _, r, rfl, rfl, hx3, k1, k2, fun H4 S4 => ⟨_, rfl, iteND (fun hm => ?_) (fun hm => ?_)⟩⟩
      · have e : steady r low high l = none := by unfold steady; rw [if_neg (by omega), if_pos (show metS r low l (high - low + 1) = false from decide_eq_false hm)]
        rw [e] at q
        exact q _ (E3.trans (SameN S4)) (T3.ext S4)
      · refine ⟨_, rfl, _, rfl, _, rfl, f, c', 1, high - low + 1, metS r low l, rfl, S4 _ _ hf, S4 _ _ hc, fun m H5 S5 m0 m1 Q' hQ => ?_, by omega, fun H5 S5 => ?_⟩
        · obtain ⟨k1, k2⟩ := steady_ok (m := m) R l0 (by omega) h1 a0 a1 m1
          exact ⟨_, _, _, _, _, r, rfl, rfl, S5 _ _ (S4 _ _ hx3), k1, k2, hQ⟩
        · have e : steady r low high l = some (low + ltrue 1 (high - low + 1) (metS r low l) - 1) := by
            unfold steady
            rw [if_neg (by omega), if_neg (show ¬ metS r low l (high - low + 1) = false by
              rw [show metS r low l (high - low + 1) = true from decide_eq_true hm]
              decide)]
          rw [e] at q
          repeat first | refine ⟨_, rfl, ?_⟩ | refine ⟨_, _, rfl, rfl, ?_⟩
          exact q _ ((E3.trans (SameN S4)).trans (SameN S5)) ((T3.ext S4).ext S5)
/-! ### first_block -/
abbrev NBk : List Str := ["self", "count", "is_earlier", "limit", "last", "late", "low", "steady", "found"]
theorem scBk : FnScope NBk ["self", "count", "is_earlier"] (defScope sXBlock) := ⟨rfl, rfl, rfl, by decide +kernel, rfl, by decide +kernel, by decide +kernel⟩
def spBlock (K : PySem.W.Frag) : Sp := fun vs H Q _ => ∃ (x dx : Addr) (r : RC) (count : Option Int) (e : Bool), vs = [.ref x, ov count, .bl e] ∧ H x = some (.ins (aX K) dx (xf r)) ∧ RcOk r ∧ (∀ c, count = some c → 0 ≤ c ∧ c < 2 ^ 62) ∧ TabsN (TT K) H ∧
  ∀ H', ExtN H H' → TabsN (TT K) H' → Q (ov (fb r count e)) H'
theorem ceil_b {n d B : Int} (hd : 0 < d) (h1 : -B ≤ n) (h2 : n ≤ B) : -B ≤ ceil n d ∧ ceil n d ≤ B := by
  unfold ceil
  have a : -B ≤ -n / d := by
    refine (Int.le_ediv_iff_mul_le hd).mpr ?_
    by_cases q : 0 ≤ B
    · have : B * 1 ≤ B * d := Int.mul_le_mul_of_nonneg_left (by omega) q
      rw [Int.neg_mul]
      omega
    · omega
  have b : -n / d ≤ B := by
    by_cases q : 0 ≤ -n
    · have := Int.ediv_le_self d q
      omega
    · have : -n / d < 0 := Int.ediv_neg_of_neg_of_pos (by omega) hd
      omega
  omega
theorem max_if (a b : Int) : (if b > a then b else a) = max a b := by omega
theorem min_if (a b : Int) : (if b < a then b else a) = min a b := by omega
theorem call_maxI {X : Cx} (hc : X.calm = true) : CallR X (.builtin "max") (fun xs H Q => ∃ i j, xs = [.int i, .int j] ∧ Q (.int (max i j)) H) := fun pins s σ H xs us Q I r h =>
  call_max2 hc pins s σ H xs us Q I r (let ⟨i, j, e, q⟩ := h; ⟨i, j, e, by rw [max_if]; exact q⟩)
theorem call_minI {X : Cx} (hc : X.calm = true) : CallR X (.builtin "min") (fun xs H Q => ∃ i j, xs = [.int i, .int j] ∧ Q (.int (min i j)) H) := fun pins s σ H xs us Q I r h =>
  call_min2 hc pins s σ H xs us Q I r (let ⟨i, j, e, q⟩ := h; ⟨i, j, e, by rw [min_if]; exact q⟩)
theorem ov_non (o : Option Int) : decide (ov o = .non) = o.isNone := by
  cases o with
  | none => exact decide_eq_true rfl
  | some i => exact decide_eq_false (fun z => by cases z)
theorem late_b {r : RC} {e : Bool} (R : RcOk r) : -(2 ^ 111) < late r e ∧ late r e < 2 ^ 111 := by
  obtain ⟨_, _, _, _, c0, c1, t0, t1, _, _, p0, p1, o0, o1⟩ := R
  unfold late
  cases e
  · rw [if_neg (by decide)]; omega
  · rw [if_pos rfl]; omega
theorem low_b {r : RC} {e : Bool} (R : RcOk r) : 0 ≤ lowOf r e ∧ lowOf r e ≤ 2 ^ 111 := by
  obtain ⟨a, b⟩ := late_b (e := e) R
  have := ceil_b (n := -late r e) (B := 2 ^ 111) R.t0 (by omega) (by omega)
  unfold lowOf
  omega
theorem ste_b {r : RC} {e : Bool} {l : Int} (R : RcOk r) (h0 : 0 ≤ l) (h1 : l < 2 ^ 62) : 0 ≤ steadyOf r l e ∧ steadyOf r l e < 2 ^ 112 := by
  obtain ⟨a, b⟩ := late_b (e := e) R
  have := ceil_b (n := l - 1 - late r e) (B := 2 ^ 111 + 2 ^ 62) R.t0 (by omega) (by omega)
  have := low_b (e := e) R
  unfold steadyOf
  omega
theorem last_b {r : RC} (R : RcOk r) : (r.length - 1 - r.start) / r.step < 2 ^ 62 := by
  obtain ⟨_, _, l0, l1, c0, c1, t0, t1, s0, _, p0, p1, o0, o1⟩ := R
  by_cases q : 0 ≤ r.length - 1 - r.start
  · have := Int.ediv_le_self r.step q
    omega
  · have : (r.length - 1 - r.start) / r.step < 0 := Int.ediv_neg_of_neg_of_pos (by omega) t0
    omega
theorem ok_block (T : Tx K mg) (B : Tb K mg base) : FnR P w K mg base CX0 6 (ma K (aX K) "first_block") (spBlock K) := by
  refine defR T.d_sXBlock scBk (fun _ _ _ _ _ _ us hl => match us, hl with | [_, _, _], _ => rfl) (fun vs H Q E h => ?_) (fun cdv A outer s H vs Q E hr h => ?_)
  · obtain ⟨_, _, _, _, _, rfl, _⟩ := h; rfl
  · obtain ⟨x, dx, r, count, e, rfl, hx, R, hcn, hT, q⟩ := h
    obtain ⟨_, _, _, _, c0, c1, t0, t1, _, _, p0, p1, o0, o1⟩ := id R
    have nd := scBk.nd
    have hr1 : Room 1 _ := hr.mono (by decide)
    have hr4 : Room 4 _ := hr.mono (by decide)
    refine ⟨_, pss_cons (ps_set (i := 3) nd rfl (.inl rfl) (pe_ifExp (pt_cmpR op_isN (pv 1) pe_non (nomark _)) (pe_fld (pv 0) rfl) (pv 1)))
      <| pss_cons (ps_set (i := 4) nd rfl (.inl rfl) (pe_op op_fdivW (pe_op op_sub (pe_op op_sub (pe_fld (pv 0) rfl) pe_int) (pe_fld (pv 0) rfl)) (pe_fld (pv 0) rfl)))
      <| pss_cons (ps_if (pw_or (pt_val (pe_fld (pv 0) rfl)) (pw_or (pt_cmpR op_eq (pv 3) pe_int (nomark _)) (pw_or1 (pt_cmpR op_lt (pv 4) pe_int (nomark _))))).pt (pss_one (ps_ret pe_non)) pss_nil)
      <| pss_cons (ps_set (i := 5) nd rfl (.inl rfl) (pe_op op_sub (pe_op op_add (pe_fld (pv 0) rfl) (pe_fld (pv 0) rfl)) (pe_callTy call_int1 inName T.z_int (by decide +kernel) (pa_cons (pe_not (pv 2)) pa_nil))))
      <| pss_cons (ps_set (i := 6) nd rfl (.inl rfl) (pe_callB (call_maxI rfl) inName T.z_max (by decide +kernel) (pa_cons pe_int (pa_cons (pe_fn (ok_ceil T) hr1 inName T.g_ceiling (kpOf T.d_sCeil) pass0 (pa_cons (pe_un un_neg (pv 5)) (pa_cons (pe_fld (pv 0) rfl) pa_nil))) pa_nil))))
      <| pss_cons (ps_set (i := 7) nd rfl (.inl rfl) (pe_callB (call_maxI rfl) inName T.z_max (by decide +kernel) (pa_cons (pv 6) (pa_cons (pe_fn (ok_ceil T) hr1 inName T.g_ceiling (kpOf T.d_sCeil) pass0 (pa_cons (pe_op op_sub (pe_op op_sub (pv 3) pe_int) (pv 5)) (pa_cons (pe_fld (pv 0) rfl) pa_nil))) pa_nil))))
      <| pss_cons (ps_set (i := 8) nd rfl (.inl rfl) (pe_methR (pv 0) T.c_RingCrossing T.m_RingCrossing_first_rising (ok_rising T B) hr4 pass0 (pa_cons (pv 6) (pa_cons (pe_callB (call_minI rfl) inName T.z_min (by decide +kernel) (pa_cons (pe_op op_sub (pv 7) pe_int) (pa_cons (pv 4) pa_nil))) (pa_cons (pv 5) pa_nil)))))
      <| pss_cons (ps_if (pt_cmpR op_isN (pv 8) pe_non (nomark _)) (pss_one (ps_set (i := 8) nd rfl (.inl rfl) (pe_methR (pv 0) T.c_RingCrossing T.m_RingCrossing_first_steady (ok_steady T B) hr pass0 (pa_cons (pv 7) (pa_cons (pv 4) (pa_cons (pv 3) pa_nil)))))) pss_nil)
      <| pss_one (ps_ret (pe_ifExp (pt_cmpR op_isN (pv 8) pe_non (nomark _)) pe_non (pe_op op_add (pe_fld (pv 0) rfl) (pe_op op_mul (pv 8) (pe_fld (pv 0) rfl))))), ?_⟩
    have hlim : ∀ v, some v = some (V.int (count.getD r.cycle)) → v = V.int (count.getD r.cycle) := fun v z => Option.some.inj z
    have lim0 : 0 ≤ count.getD r.cycle := by
      cases count with
      | none => exact Int.le_of_lt c0
      | some c => exact (hcn c rfl).1
    have lim1 : count.getD r.cycle < 2 ^ 62 := by
      cases count with
      | none => exact c1
      | some c => exact (hcn c rfl).2
    have step1 : ∀ G : V → Hp → Prop, G (V.int (count.getD r.cycle)) H → (tIf (L2.tTest (tOp (fun x y H Q => y = .non ∧ Q (.bl (decide (x = .non))) H) (tVar 1) (tC .non))) (tFld K (tVar 0) "cycle") (tVar 1)) (start NBk [.ref x, ov count, .bl e]) H G := fun G g => by
      cases count with
      | none => exact ⟨_, rfl, rfl, _, rfl, iteT ⟨_, rfl, _, _, _, _, _, rfl, hx, T.c_RingCrossing, T.a_RingCrossing_cycle, rfl, g⟩⟩
      | some c => exact ⟨_, rfl, rfl, _, rfl, iteF ⟨_, rfl, g⟩⟩
    refine step1 _ ?_
    refine ⟨_, rfl, _, _, _, _, _, rfl, hx, T.c_RingCrossing, T.a_RingCrossing_length, rfl, _, _, rfl, rfl, _, rfl, _, _, _, _, _, rfl, hx, T.c_RingCrossing, T.a_RingCrossing_start, rfl, _, _, rfl, rfl, _, rfl, _, _, _, _, _, rfl, hx, T.c_RingCrossing, T.a_RingCrossing_step, rfl, _, _, rfl, rfl, div64 t0 (by omega), ?_⟩
    refine ⟨_, rfl, _, _, _, _, _, rfl, hx, T.c_RingCrossing, T.a_RingCrossing_is_empty, rfl, _, rfl, ?_⟩
    refine ite2 (fun he => ?_) (fun he => ?_)
    · refine iteT ?_
      have e1 : fb r count e = none := by unfold fb; rw [if_pos (.inl he)]
      rw [e1] at q
      exact q _ (ExtN.refl H) hT
    refine ⟨_, rfl, rfl, _, rfl, iteD (fun hl => ?_) (fun hl => ?_)⟩
    · refine iteT ?_
      have e1 : fb r count e = none := by unfold fb; rw [if_pos (.inr (.inl (V.int.inj hl)))]
      rw [e1] at q
      exact q _ (ExtN.refl H) hT
    refine ⟨_, rfl, _, _, rfl, rfl, _, rfl, iteD (fun hl2 => ?_) (fun hl2 => ?_)⟩
    · have e1 : fb r count e = none := by unfold fb; rw [if_pos (.inr (.inr hl2))]
      rw [e1] at q
      exact q _ (ExtN.refl H) hT
    have e1 : fb r count e = (foundOf r (count.getD r.cycle) e).map fun f => r.start + f * r.step := by
      unfold fb
      rw [if_neg (fun z => z.elim he fun z => z.elim (fun z => hl (by rw [z])) hl2)]
    obtain ⟨la0, la1⟩ := late_b (e := e) R
    obtain ⟨lo0, lo1⟩ := low_b (e := e) R
    obtain ⟨st0, st1⟩ := ste_b (e := e) R lim0 lim1
    have lb := last_b R
    refine ⟨_, rfl, _, _, _, _, _, rfl, hx, T.c_RingCrossing, T.a_RingCrossing_wait, rfl, _, rfl, _, _, _, _, _, rfl, hx, T.c_RingCrossing, T.a_RingCrossing_start, rfl, _, _, rfl, rfl, _, rfl, _, rfl, .inr ⟨_, rfl, _, _, rfl, rfl, ?_⟩⟩
    have step2 : ∀ G : Int → Prop, G (late r e) → G (r.wait + r.start - (if (!e) = true then 1 else 0)) := fun G g => by cases e <;> exact g
    refine step2 (fun z => (tSeq _ _ : TS) _ (List.set _ 5 (some (V.int z))) H) ?_
    refine ⟨_, rfl, _, rfl, _, rfl, _, _, _, _, _, rfl, hx, T.c_RingCrossing, T.a_RingCrossing_step, rfl, _, _, rfl, t0, by omega, _, _, rfl, ?_⟩
    refine ⟨_, rfl, _, rfl, _, _, rfl, rfl, _, rfl, _, _, rfl, rfl, _, rfl, _, _, _, _, _, rfl, hx, T.c_RingCrossing, T.a_RingCrossing_step, rfl, _, _, rfl, t0, by omega, _, _, rfl, ?_⟩
    refine ⟨_, rfl, _, _, _, rfl, hx, rfl, _, rfl, _, rfl, _, _, rfl, rfl, _, rfl, _, _, rfl, _, rfl, _, _, r, lowOf r e, min (steadyOf r (count.getD r.cycle) e - 1) ((r.length - 1 - r.start) / r.step), late r e, rfl, hx, R, lo0, by omega, ?_, by omega, by omega, hT, fun H1 E1 T1 => ?_⟩
    · exact Int.lt_of_le_of_lt (Int.min_le_right _ _) lb
    have hx1 := E1 _ _ hx (fun _ z => by cases z)
    have fin : ∀ (σ : L2.St) (o : Option Int) (H2 : Hp), foundOf r (count.getD r.cycle) e = o → ExtN H H2 → TabsN (TT K) H2 → σ[0]? = some (some (.ref x)) → σ[8]? = some (some (ov o)) → (tIf (L2.tTest (tOp (fun x y H Q => y = .non ∧ Q (.bl (decide (x = .non))) H) (tVar 8) (tC .non))) (tC .non) (tOp (rI0 fun i j => .int (i + j)) (tFld K (tVar 0) "start") (tOp (rI CMul fun i j => .int (i * j)) (tVar 8) (tFld K (tVar 0) "step")))) σ H2 Q := fun σ o H2 eo E2 T2 z0 z8 => by
      have hx2 := E2 _ _ hx (fun _ z => by cases z)
      rw [e1] at q
      cases o with
      | none =>
        rw [eo] at q
        exact ⟨_, z8, rfl, _, rfl, iteT (q _ E2 T2)⟩
      | some f =>
        have bf := found_in eo
        rw [eo] at q
        exact ⟨_, z8, rfl, _, rfl, iteF ⟨_, z0, _, _, _, _, _, rfl, hx2, T.c_RingCrossing, T.a_RingCrossing_start, rfl, _, z8, _, z0, _, _, _, _, _, rfl, hx2, T.c_RingCrossing, T.a_RingCrossing_step, rfl, _, _, rfl, rfl, mul64r (by omega) (by omega), _, _, rfl, rfl, q _ E2 T2⟩⟩
    cases h1 : rising r (lowOf r e) (min (steadyOf r (count.getD r.cycle) e - 1) ((r.length - 1 - r.start) / r.step)) (late r e) with
    | some f =>
      have ef : foundOf r (count.getD r.cycle) e = some f := by unfold foundOf; rw [h1]
      exact ⟨_, rfl, rfl, _, rfl, iteF (fin _ (some f) H1 ef E1 T1 rfl rfl)⟩
    | none =>
      have ef : foundOf r (count.getD r.cycle) e = steady r (steadyOf r (count.getD r.cycle) e) ((r.length - 1 - r.start) / r.step) (count.getD r.cycle) := by unfold foundOf; rw [h1]
      refine ⟨_, rfl, rfl, _, rfl, iteT ?_⟩
      refine ⟨_, rfl, _, _, _, rfl, hx1, rfl, _, rfl, _, rfl, _, rfl, _, _, r, steadyOf r (count.getD r.cycle) e, _, _, rfl, hx1, R, st0, st1, lb, by omega, by omega, T1, fun H2 E2 T2 => ?_⟩
      exact fin _ _ H2 ef (E1.trans E2) T2 rfl rfl
end
end Pp

end
section
/-! Plain law of the ring: a crossing's data are made. -/
namespace Rg
def mkRC (n w gap a b r1 t : Int) : RC where
  wait := w
  length := n / gd a n
  cycle := n / gd b n
  empty := !decide (gap % gd a (gd b n) = 0)
  step := gd b n / gd a (gd b n)
  start := -(gap / gd a (gd b n)) * r1 % (gd b n / gd a (gd b n))
  slope := gd b n / gd a (gd b n) * a / gd b n * t % (n / gd b n)
  offset := (gap + -(gap / gd a (gd b n)) * r1 % (gd b n / gd a (gd b n)) * a) / gd b n * t % (n / gd b n)
theorem ediv_of {a b c : Int} (hb : 0 < b) (h : a = b * c) : a / b = c := Int.ediv_eq_of_eq_mul_right (by omega) h
theorem ediv_pos' {a b : Int} (ha : 0 < a) (hb : 0 < b) (h : b ∣ a) : 0 < a / b := by
  obtain ⟨k, hk⟩ := h
  rw [ediv_of hb hk]
  rcases Int.lt_or_le 0 k with q | q
  · exact q
  · have : b * k ≤ 0 := Int.mul_nonpos_of_nonneg_of_nonpos (by omega) q
    omega
theorem rcs_mk {n w gap a b r1 t : Int} (hn : 0 < n) (d1 : gd b n / gd a (gd b n) ∣ r1 * (a / gd a (gd b n)) - 1) (d2 : n / gd b n ∣ t * (b / gd b n) - 1) :
    RCS n w gap a b (mkRC n w gap a b r1 t) := by
  have hg : 0 < gd b n := gd_pos hn
  have hc : 0 < gd a (gd b n) := gd_pos hg
  have sp : 0 < gd b n / gd a (gd b n) := ediv_pos' hg hc (gd_r _ _)
  have cp : 0 < n / gd b n := ediv_pos' hn hg (gd_r _ _)
  obtain ⟨a1, ha⟩ : gd a (gd b n) ∣ a := gd_l _ _
  obtain ⟨g1, hg1⟩ : gd a (gd b n) ∣ gd b n := gd_r _ _
  obtain ⟨b1, hb⟩ : gd b n ∣ b := gd_l _ _
  obtain ⟨n1, hn1⟩ : gd b n ∣ n := gd_r _ _
  have ea : a / gd a (gd b n) = a1 := ediv_of hc ha
  have eg : gd b n / gd a (gd b n) = g1 := ediv_of hc hg1
  have eb : b / gd b n = b1 := ediv_of hg hb
  have en : n / gd b n = n1 := ediv_of hg hn1
  rw [ea, eg] at d1
  rw [eb, en] at d2
  obtain ⟨m1, hm1⟩ := d1
  obtain ⟨m2, hm2⟩ := d2
  have es : g1 * a / gd b n = a1 := ediv_of hg (by grind)
  have key : gd a (gd b n) ∣ gap → gd b n ∣ gap + -(gap / gd a (gd b n)) * r1 % g1 * a := fun ⟨k, hk⟩ => by
    have ek : gap / gd a (gd b n) = k := ediv_of hc hk
    rw [ek]
    have e2 := Int.mul_ediv_add_emod (-k * r1) g1
    generalize -k * r1 % g1 = u at e2 ⊢
    generalize -k * r1 / g1 = v at e2
    exact ⟨-k * m1 - v * a1, by grind⟩
  refine ⟨rfl, rfl, rfl, rfl, rfl, Int.emod_nonneg _ (by omega), Int.emod_lt_of_pos _ sp, fun h => ?_, Int.emod_nonneg _ (by omega), Int.emod_lt_of_pos _ cp, ?_, Int.emod_nonneg _ (by omega), Int.emod_lt_of_pos _ cp, fun h => ?_⟩
  · show gd b n ∣ gap + -(gap / gd a (gd b n)) * r1 % (gd b n / gd a (gd b n)) * a
    rw [eg]
    exact key h
  · show n ∣ gd b n / gd a (gd b n) * a / gd b n * t % (n / gd b n) * b - gd b n / gd a (gd b n) * a
    rw [eg, es, en]
    have e2 := Int.mul_ediv_add_emod (a1 * t) n1
    generalize a1 * t % n1 = u at e2 ⊢
    generalize a1 * t / n1 = v at e2
    exact ⟨a1 * m2 - v * b1, by grind⟩
  · show n ∣ (gap + -(gap / gd a (gd b n)) * r1 % (gd b n / gd a (gd b n)) * a) / gd b n * t % (n / gd b n) * b - (gap + -(gap / gd a (gd b n)) * r1 % (gd b n / gd a (gd b n)) * a)
    rw [eg, en]
    obtain ⟨e, he⟩ := key h
    generalize -(gap / gd a (gd b n)) * r1 % g1 = st at he ⊢
    have e3 : (gap + st * a) / gd b n = e := ediv_of hg he
    rw [e3]
    have e2 := Int.mul_ediv_add_emod (e * t) n1
    generalize e * t % n1 = u at e2 ⊢
    generalize e * t / n1 = v at e2
    exact ⟨e * m2 - v * b1, by grind⟩
theorem inv_one {n a b : Int} (hn : 0 < n) : gd (a / gd a (gd b n)) (gd b n / gd a (gd b n)) = 1 := gd_div_one (gd_pos (gd_pos hn))
theorem inv_two {n b : Int} (hn : 0 < n) : gd (b / gd b n) (n / gd b n) = 1 := gd_div_one (gd_pos hn)
theorem step_pos {n a b : Int} (hn : 0 < n) : 0 < gd b n / gd a (gd b n) := ediv_pos' (gd_pos hn) (gd_pos (gd_pos hn)) (gd_r _ _)
theorem cyc_pos {n b : Int} (hn : 0 < n) : 0 < n / gd b n := ediv_pos' hn (gd_pos hn) (gd_r _ _)
theorem gd_le {b n : Int} (hn : 0 < n) : gd b n ≤ n := Int.le_of_dvd hn (gd_r _ _)
theorem cyc_le {n b : Int} (hn : 0 < n) : n / gd b n ≤ n := Int.ediv_le_self _ (by omega)
theorem step_le {n a b : Int} (hn : 0 < n) : gd b n / gd a (gd b n) ≤ n := Int.le_trans (Int.ediv_le_self _ (gd_nn _ _)) (gd_le hn)
end Rg

end
section
set_option Elab.async false
set_option linter.all false
set_option maxRecDepth 100000
set_option maxHeartbeats 4000000
/-! The crossing is made. -/
namespace Pp
open PySem PySem.Spec PyProof.Rows L2 StX Rg NdefX LamX
theorem rc_ok {n w gap a b : Int} {r : RC} (hn : 0 < n) (h1 : n < 2 ^ 62) (w0 : -(2 ^ 110) < w) (w1 : w < 2 ^ 110) (h : RCS n w gap a b r) : RcOk r := by
  have e1 := h.length; have e2 := h.cycle; have e3 := h.step
  have c1 := cyc_le (n := n) (b := b) hn
  have c2 := cyc_le (n := n) (b := a) hn
  have c3 := cyc_pos (n := n) (b := b) hn
  have c4 := cyc_pos (n := n) (b := a) hn
  have s1 := step_le (n := n) (a := a) (b := b) hn
  have s2 := step_pos (n := n) (a := a) (b := b) hn
  have e0 := h.wait
  exact ⟨by omega, by omega, by omega, by omega, by omega, by omega, by omega, by omega, h.start0, h.start1, h.slope0, h.slope1, h.off0, h.off1⟩
section
variable {P : Program} {w : World} {K : PySem.W.Frag} {mg : Str → Option Value} {base : Heap}
/-- all but the object at x is kept -/
def Kp (x : Addr) (H0 H : Hp) : Prop := ∀ b o, b ≠ x → H0 b = some o → H b = some o
theorem Kp.put {x : Addr} {H0 H : Hp} {o : HO} (k : Kp x H0 H) : Kp x H0 (upd H x o) := fun b u n e => by rw [upd_ne n]; exact k b u n e
theorem Kp.same {x : Addr} {H0 H H' : Hp} (k : Kp x H0 H) (s : Same H H') : Kp x H0 H' := fun b u n e => s _ _ (k b u n e)
abbrev NXI : List Str := ["self", "size", "one", "other", "gap", "pace", "other_pace", "divisor", "common", "turn"]
theorem scXI : FnScope NXI ["self", "size", "one", "other"] (defScope sXInit) := ⟨rfl, rfl, rfl, by decide +kernel, rfl, by decide +kernel, by decide +kernel⟩
def spXInit (K : PySem.W.Frag) : Sp := fun vs H Q _ => ∃ (x dx p q : Addr) (n d1 p1 s1 d2 p2 s2 : Int), vs = [.ref x, .int n, .ref p, .ref q] ∧ H x = some (.ins (aX K) dx []) ∧ H p = some (.tup [.int d1, .int p1, .int s1]) ∧ H q = some (.tup [.int d2, .int p2, .int s2]) ∧
  0 < n ∧ n < 2 ^ 62 ∧ ∀ r H', RCS n (d1 - d2) (p1 - p2) (s1 % n) (s2 % n) r → H' x = some (.ins (aX K) dx (xf r)) → Kp x H H' → Q .non H'
theorem dec0 (i : Int) : decide (V.int i = V.int 0) = decide (i = 0) := by
  rw [Bool.eq_iff_iff, decide_eq_true_iff, decide_eq_true_iff]
  exact ⟨fun z => V.int.inj z, fun z => by rw [z]⟩
theorem ok_xinit (T : Tx K mg) : FnR P w K mg base CX0 2 (ma K (aX K) "__init__") (spXInit K) := by
  refine defR T.d_sXInit scXI (fun _ _ _ _ _ _ us hl => match us, hl with | [_, _, _, _], _ => rfl) (fun vs H Q E h => ?_) (fun cdv A outer s H vs Q E hr h => ?_)
  · obtain ⟨_, _, _, _, _, _, _, _, _, _, _, rfl, _⟩ := h; rfl
  · obtain ⟨x, dx, p, q, n, d1, p1, s1, d2, p2, s2, rfl, hx, hp, hq, n0, n1, k⟩ := h
    have nd := scXI.nd
    refine ⟨_, pss_cons (ps_par3 (i := 4) (j := 5) (l := 6) rfl nd rfl rfl rfl (by decide) (by decide) (by decide) rfl rfl rfl (pa_cons (pe_op op_sub (pe_ix ix_tup (pv 2) pe_int (fun _ _ => rfl)) (pe_ix ix_tup (pv 3) pe_int (fun _ _ => rfl))) (pa_cons (pe_op op_mod (pe_ix ix_tup (pv 2) pe_int (fun _ _ => rfl)) (pv 1)) (pa_cons (pe_op op_mod (pe_ix ix_tup (pv 3) pe_int (fun _ _ => rfl)) (pv 1)) pa_nil))) (by rfl))
      <| pss_cons (ps_set (i := 7) nd rfl (.inl rfl) (pe_fn (ok_gcd T) hr inName T.g_greatest_divisor (kpOf T.d_sGcd) pass0 (pa_cons (pv 6) (pa_cons (pv 1) pa_nil))))
      <| pss_cons (ps_set (i := 8) nd rfl (.inl rfl) (pe_fn (ok_gcd T) hr inName T.g_greatest_divisor (kpOf T.d_sGcd) pass0 (pa_cons (pv 5) (pa_cons (pv 7) pa_nil))))
      <| pss_cons (ps_fld (pv 0) (pe_op op_sub (pe_ix ix_tup (pv 2) pe_int (fun _ _ => rfl)) (pe_ix ix_tup (pv 3) pe_int (fun _ _ => rfl))) rfl)
      <| pss_cons (ps_fld (pv 0) (pe_op op_fdivW (pv 1) (pe_fn (ok_gcd T) hr inName T.g_greatest_divisor (kpOf T.d_sGcd) pass0 (pa_cons (pv 5) (pa_cons (pv 1) pa_nil)))) rfl)
      <| pss_cons (ps_fld (pv 0) (pe_op op_fdivW (pv 1) (pv 7)) rfl)
      <| pss_cons (ps_fld (pv 0) (pe_cmpR op_ne (pe_op op_mod (pv 4) (pv 8)) pe_int (nomark _)) rfl)
      <| pss_cons (ps_fld (pv 0) (pe_op op_fdivW (pv 7) (pv 8)) rfl)
      <| pss_cons (ps_fld (pv 0) (pe_op op_mod (pe_op op_mul (pe_un un_neg (pe_op op_fdivW (pv 4) (pv 8))) (pe_fn (ok_inv T) hr inName T.g_inverse (kpOf T.d_sInverse) pass0 (pa_cons (pe_op op_fdivW (pv 5) (pv 8)) (pa_cons (pe_fld (pv 0) rfl) pa_nil)))) (pe_fld (pv 0) rfl)) rfl)
      <| pss_cons (ps_set (i := 9) nd rfl (.inl rfl) (pe_fn (ok_inv T) hr inName T.g_inverse (kpOf T.d_sInverse) pass0 (pa_cons (pe_op op_fdivW (pv 6) (pv 7)) (pa_cons (pe_fld (pv 0) rfl) pa_nil))))
      <| pss_cons (ps_fld (pv 0) (pe_op op_mod (pe_op op_mul (pe_op op_fdivW (pe_op op_mul (pe_fld (pv 0) rfl) (pv 5)) (pv 7)) (pv 9)) (pe_fld (pv 0) rfl)) rfl)
      <| pss_one (ps_fld (pv 0) (pe_op op_mod (pe_op op_mul (pe_op op_fdivW (pe_op op_add (pv 4) (pe_op op_mul (pe_fld (pv 0) rfl) (pv 5))) (pv 7)) (pv 9)) (pe_fld (pv 0) rfl)) rfl), ?_⟩
    have sp : SqT K H p _ := SqT.of hp
    have sq : SqT K H q _ := SqT.of hq
    have npx : p ≠ x := fun z => by rw [z, hx] at hp; cases hp
    have nqx : q ≠ x := fun z => by rw [z, hx] at hq; cases hq
    have gp := gd_pos (a := s2 % n) n0
    have cp := gd_pos (a := s1 % n) gp
    have lp := gd_pos (a := s1 % n) n0
    have gl := gd_le (b := s2 % n) n0
    have ll := gd_le (b := s1 % n) n0
    have cl := gd_le (b := s1 % n) gp
    have stp := step_pos (a := s1 % n) (b := s2 % n) n0
    have stl := step_le (a := s1 % n) (b := s2 % n) n0
    have cyp := cyc_pos (b := s2 % n) n0
    have cyl := cyc_le (b := s2 % n) n0
    refine ⟨_, rfl, _, _, _, _, rfl, rfl, sp, rfl, _, rfl, _, _, _, _, rfl, rfl, sq, rfl, _, _, rfl, rfl, _, rfl, _, _, _, _, rfl, rfl, sp, rfl, _, rfl, _, _, rfl, rfl, n0, _, rfl, _, _, _, _, rfl, rfl, sq, rfl, _, rfl, _, _, rfl, rfl, n0, _, _, _, rfl, ?_⟩
    refine ⟨_, rfl, _, rfl, _, _, rfl, _, rfl, _, rfl, _, _, rfl, ?_⟩
    -- wait
    refine ⟨_, rfl, _, _, _, _, rfl, rfl, sp, rfl, _, rfl, _, _, _, _, rfl, rfl, sq, rfl, _, _, rfl, rfl, _, rfl, _, _, _, _, rfl, hx, T.c_RingCrossing, T.a_RingCrossing_wait, by show 0 < 1000; decide, ?_⟩
    have k1 : Kp x H (upd H x (.ins (aX K) dx (putF "wait" (.int (d1 - d2)) []))) := Kp.put fun b u _ e => e
    -- length
    refine ⟨_, rfl, _, rfl, _, rfl, _, _, rfl, _, _, rfl, rfl, div64 lp (by omega), _, rfl, _, _, _, _, rfl, upd_same, T.c_RingCrossing, T.a_RingCrossing_length, by show 1 < 1000; decide, ?_⟩
    -- cycle
    refine ⟨_, rfl, _, rfl, _, _, rfl, rfl, div64 gp (by omega), _, rfl, _, _, _, _, rfl, upd_same, T.c_RingCrossing, T.a_RingCrossing_cycle, by show 2 < 1000; decide, ?_⟩
    -- is_empty
    refine ⟨_, rfl, _, rfl, _, _, rfl, rfl, cp, rfl, _, rfl, _, _, _, _, rfl, upd_same, T.c_RingCrossing, T.a_RingCrossing_is_empty, by show 3 < 1000; decide, ?_⟩
    -- step
    refine ⟨_, rfl, _, rfl, _, _, rfl, rfl, div64 cp (by omega), _, rfl, _, _, _, _, rfl, upd_same, T.c_RingCrossing, T.a_RingCrossing_step, by show 4 < 1000; decide, ?_⟩
    -- start
    refine ⟨_, rfl, _, rfl, _, _, rfl, rfl, div64 cp (by omega), _, rfl, ?_⟩
    refine ⟨_, rfl, _, rfl, _, _, rfl, rfl, div64 cp (by omega), _, rfl, _, _, _, _, _, rfl, upd_same, T.c_RingCrossing, T.a_RingCrossing_step, rfl, _, _, rfl, stp, by omega, inv_one n0, fun r1 H1 S1 r10 r11 r1d => ?_⟩
    have hx1 := S1 _ _ upd_same
    refine ⟨_, _, rfl, rfl, mul64r (by omega) (by omega), _, rfl, _, _, _, _, _, rfl, hx1, T.c_RingCrossing, T.a_RingCrossing_step, rfl, _, _, rfl, rfl, stp, _, rfl, _, _, _, _, rfl, hx1, T.c_RingCrossing, T.a_RingCrossing_start, by show 5 < 1000; decide, ?_⟩
    -- turn
    refine ⟨_, rfl, _, rfl, _, _, rfl, rfl, div64 gp (by omega), _, rfl, _, _, _, _, _, rfl, upd_same, T.c_RingCrossing, T.a_RingCrossing_cycle, rfl, _, _, rfl, cyp, by omega, inv_two n0, fun t H2 S2 t0 t1 td => ?_⟩
    have hx2 := S2 _ _ upd_same
    -- slope
    refine ⟨_, rfl, _, _, _, _, _, rfl, hx2, T.c_RingCrossing, T.a_RingCrossing_step, rfl, _, rfl, _, _, rfl, rfl, mul64 (by omega) (by omega), _, rfl, _, _, rfl, rfl, div64 gp (by omega), _, rfl, _, _, rfl, rfl, mul64r (by omega) (by omega), _, rfl, _, _, _, _, _, rfl, hx2, T.c_RingCrossing, T.a_RingCrossing_cycle, rfl, _, _, rfl, rfl, cyp, _, rfl, _, _, _, _, rfl, hx2, T.c_RingCrossing, T.a_RingCrossing_slope, by show 6 < 1000; decide, ?_⟩
    have st0 := Int.emod_nonneg (-((p1 - p2) / gd (s1 % n) (gd (s2 % n) n)) * r1) (show gd (s2 % n) n / gd (s1 % n) (gd (s2 % n) n) ≠ 0 by omega)
    have st1 := Int.emod_lt_of_pos (-((p1 - p2) / gd (s1 % n) (gd (s2 % n) n)) * r1) stp
    -- offset
    refine ⟨_, rfl, _, rfl, _, _, _, _, _, rfl, upd_same, T.c_RingCrossing, T.a_RingCrossing_start, rfl, _, rfl, _, _, rfl, rfl, mul64 (by omega) (by omega), _, _, rfl, rfl, _, rfl, _, _, rfl, rfl, div64 gp (by omega), _, rfl, _, _, rfl, rfl, mul64r (by omega) (by omega), _, rfl, _, _, _, _, _, rfl, upd_same, T.c_RingCrossing, T.a_RingCrossing_cycle, rfl, _, _, rfl, rfl, cyp, _, rfl, _, _, _, _, rfl, upd_same, T.c_RingCrossing, T.a_RingCrossing_offset, by show 7 < 1000; decide, ?_⟩
    refine k (mkRC n (d1 - d2) (p1 - p2) (s1 % n) (s2 % n) r1 t) _ (rcs_mk n0 r1d td) ?_ ?_
    · rw [upd_same]
      have e : ∀ b : Bool, b = (mkRC n (d1 - d2) (p1 - p2) (s1 % n) (s2 % n) r1 t).empty → some (HO.ins (aX K) dx (putF "offset" (V.int (mkRC n (d1 - d2) (p1 - p2) (s1 % n) (s2 % n) r1 t).offset) (putF "slope" (V.int (mkRC n (d1 - d2) (p1 - p2) (s1 % n) (s2 % n) r1 t).slope) (putF "start" (V.int (mkRC n (d1 - d2) (p1 - p2) (s1 % n) (s2 % n) r1 t).start) (putF "step" (V.int (mkRC n (d1 - d2) (p1 - p2) (s1 % n) (s2 % n) r1 t).step) (putF "is_empty" (.bl b) (putF "cycle" (V.int (mkRC n (d1 - d2) (p1 - p2) (s1 % n) (s2 % n) r1 t).cycle) (putF "length" (V.int (mkRC n (d1 - d2) (p1 - p2) (s1 % n) (s2 % n) r1 t).length) (putF "wait" (V.int (d1 - d2)) []))))))))) = some (HO.ins (aX K) dx (xf (mkRC n (d1 - d2) (p1 - p2) (s1 % n) (s2 % n) r1 t))) := fun b hb => by
        subst hb
        rfl
      exact e _ (congrArg not (dec0 _))
    · exact Kp.put (Kp.put (Kp.same (Kp.put (Kp.same (Kp.put (Kp.put (Kp.put (Kp.put k1)))) S1)) S2))
end
end Pp

end
section
set_option Elab.async false
set_option linter.all false
set_option maxRecDepth 100000
set_option maxHeartbeats 4000000
/-! enumerate of a tuple. -/
namespace Pp
open PySem PySem.Spec PyProof.Rows L2
theorem meets_enum1 {v : Value} {o : Obj} {H : Heap → Prop} (B : Begins v o H) :
    Meets (Builtin.«enumerate.__new__» ⟨[.type "enumerate", v], []⟩) (fun _ R s => H s.heap ∧
      R (.ok (.ret (.ref (s.heap.push o).objs.size))) { s with heap := (s.heap.push o).push { cls := .type "enumerate", data := .fields #[.none, .bool false, .ref s.heap.objs.size, rawInt 0, .none, .none] } }) :=
  .of_wp fun prog w A R s h => by
    obtain ⟨hp, g, d, tk, os⟩ := s
    obtain ⟨h1, h⟩ := h
    have hsub := sub_enumerate
    have q1 : ∀ {A' : Around} {E : Value → Shared → Prop} {Q : Value → Shared → Prop}, Q (.ref hp.objs.size) ⟨hp.push o, g, d, tk, os⟩ → wpAny (model prog w) A' (pyIter v) Q E ⟨hp, g, d, tk, os⟩ :=
      fun q => B.iter prog w _ _ ⟨hp, g, d, tk, os⟩ _ h1 q
    wp_walk using q1
    refine wpAny_stack_any fun st => wpAny_pure ?_
    split
    · rename_i c _ _ _ _ _
      cases (c == Value.type "enumerate")
      · wp_walk using q1
        exact ⟨_, rfl, h⟩
      · wp_walk using q1
        exact ⟨_, rfl, h⟩
    · wp_walk using q1
      exact ⟨_, rfl, h⟩
section
variable {prog : Program} {w : World} {A : Around} {E : Value → Shared → Prop} {s : Shared}
theorem call_enumT {v : Value} {o : Obj} {H : Heap → Prop} {Q : Value → Shared → Prop} (B : Begins v o H) (h1 : H s.heap)
    (h : ∀ h', IsEnum h' (s.heap.objs.size + 1) s.heap.objs.size 0 .none → h'.get? s.heap.objs.size = some o → h'.objs.size = s.heap.objs.size + 2 →
      (∀ b o, s.heap.get? b = some o → h'.get? b = some o) → Q (.ref (s.heap.objs.size + 1)) { s with heap := h' }) :
    wpAny (model prog w) A (call (.type "enumerate") [v]) Q E s := by
  refine callType_new F.called_enumerate (by decide) (F.typeCall_enumerate_1 _) (F.newCall_enumerate_1 _) (fun obj => F.args_object_init_2 obj _) F.entry_enumerate_new
    (meets_enum1 B) ⟨h1, ?_⟩
  have hz : (s.heap.push o).objs.size = s.heap.objs.size + 1 := Heap.size_push ..
  show _ ∧ _
  rw [hz]
  have he : IsEnum ((s.heap.push o).push { cls := .type "enumerate", data := .fields #[.none, .bool false, .ref s.heap.objs.size, rawInt 0, .none, .none] }) (s.heap.objs.size + 1) s.heap.objs.size 0 .none := by
    have := Heap.get?_push_size (s.heap.push o) (o := { cls := .type "enumerate", data := .fields #[.none, .bool false, .ref s.heap.objs.size, rawInt 0, .none, .none] }) rfl
    rw [hz] at this
    exact this
  exact ⟨⟨_, he, rfl⟩, h _ he (Heap.get?_push_of_some _ (Heap.get?_push_size _ B.free)) (by rw [Heap.size_push, hz]) fun b o x => Heap.get?_push_of_some _ (Heap.get?_push_of_some _ x)⟩
end
/-- the tuple at a at each turn, each item in a new pair -/
def ItET (K : PySem.W.Frag) (a : Addr) : It :=
  ⟨fun i H => ∃ (xs : List V) (x : V), SqT K H a xs ∧ xs[i]? = some x, fun i H v H' => ∃ T x, v = .ref T ∧ H T = none ∧ H' = upd H T (.tup [.int (i : Nat), x]) ∧ ∀ xs, SqT K H a xs → xs[i]? = some x, fun i H => ∃ xs : List V, SqT K H a xs ∧ xs.length = i⟩
theorem turn_enumT {P : Program} {w : World} {K : PySem.W.Frag} {elts : List Expr} {kk : Nat} {tpos : Pos} (a e it : Addr) :
    Turn P w K (.Tuple elts kk tpos) (ItET K a) [e, it] e (fun i h => (∃ old, IsEnum h e it ((i : Nat) : Int) old) ∧ h.IsTupleIter it a i ∧ e ≠ it) where
  mem := by simp
  obj := fun i h st b hb => by
    obtain ⟨⟨old, he⟩, ⟨o, ho, hc, hd⟩, _⟩ := st
    have e' : b = e ∨ b = it := by simpa using hb
    rcases e' with z | z
    · rw [z]; exact ⟨_, he, fun v q => nomatch q⟩
    · rw [z]; exact ⟨o, ho, fun v q => by rw [hd] at q; cases q⟩
  keep := fun i h h' st k => let ⟨⟨old, he⟩, hi, hne⟩ := st; ⟨⟨old, k e (by simp) _ he⟩, hi.at fun o q => k it (by simp) o q, hne⟩
  item := by
    intro X hP hw hK hc i pins s σ H E I hf st hg
    subst hP hw hK
    obtain ⟨⟨old, he⟩, hit, hne⟩ := st
    obtain ⟨xs, x, hq, hx⟩ := hg
    obtain ⟨its, rv, p, hz⟩ := I.tuple hq
    obtain ⟨u, hu, ru⟩ := rv.get hx
    have hel : e < s.heap.objs.size := Heap.lt_size he
    have hil : it < s.heap.objs.size := by obtain ⟨_, q, _⟩ := hit; exact Heap.lt_size q
    have hai : a ≠ it := fun z => by
      obtain ⟨o, ho, hc1, hd1⟩ := hit
      obtain ⟨o2, ho2, hc2, _⟩ := p
      rw [z, ho] at ho2
      cases ho2
      rw [hc1] at hc2
      exact absurd (Value.type.inj hc2) (by decide)
    have hae : a ≠ e := fun z => by
      obtain ⟨o2, ho2, hc2, _⟩ := p
      rw [z] at ho2
      have z2 := he.symm.trans ho2
      cases z2
      exact absurd (Value.type.inj hc2) (by decide)
    have hlt : i < its.toArray.size := by
      have := (List.getElem?_eq_some_iff.mp hu).1
      simpa using this
    refine wpAny_pyNext_enum_itemD (i := i) (Draws.tuple (show X.A.in1.handled = none from I.ok.hd hc) it a hai its.toArray) he ⟨hit, p⟩ hlt hne (by simp [hne, hae.symm]) fun x' h' tk hx' ho hit' hT hsz hk => ?_
    have ex : x' = u := by
      have q1 : its.toArray[i]? = some x' := hx'
      have q2 : its.toArray[i]? = some u := by simpa using hu
      rw [q1] at q2
      exact Option.some.inj q2
    subst ex
    refine ⟨_, rfl, wpAny_letOwnedTupleGo_enum (s := { s with heap := h', toks := tk + 1 }) ho fun h'' he' sb => ?_⟩
    have hT2 : h''.get? s.heap.objs.size = some { cls := .type "tuple", data := .seq #[.int i tk, x'] } := (sb.2 _ (Nat.ne_of_gt hel)).trans hT
    have new : ObjOk X.prog X.w (upd H s.heap.objs.size (.tup [.int (i : Nat), x])) h'' s.heap.objs.size (.tup [.int (i : Nat), x]) :=
      ⟨by show 2 ≤ sizeLine; decide, [.int i tk, x'], .cons ⟨_, rfl⟩ (.cons ru .nil), ⟨_, hT2, rfl, _, rfl⟩⟩
    have I1 : Inv X pins σ (upd H s.heap.objs.size (.tup [.int (i : Nat), x])) { s with heap := h'', toks := tk + 1 } :=
      I.turnedNew (ch := [e, it]) (fun b ob hb q => (sb.2 b (fun z => hb (by simp [z]))).trans (hk b ob (fun z => hb (by simp [z])) (fun z => hb (by simp [z])) q)) hf (Nat.le_refl _) new
    refine ⟨.ref s.heap.objs.size, _, I1, rfl, ⟨_, x, rfl, I.hok.fresh (Nat.le_refl _), rfl, fun ys hy => by rw [I.tuple_inj hy hq]; exact hx⟩, ⟨⟨x', ?_⟩, hit'.1.at fun o q => (sb.2 it (Ne.symm hne)).trans q, hne⟩, fun b hb => ?_⟩
    · have e1 : ((i + 1 : Nat) : Int) = (i : Int) + 1 := by omega
      rw [e1]; exact he'
    · have hb' : b < s.heap.objs.size := by
        have e' : b = e ∨ b = it := by simpa using hb
        rcases e' with z | z
        · rw [z]; exact hel
        · rw [z]; exact hil
      rw [upd_ne (Nat.ne_of_lt hb')]
      exact (hf b hb).1
  done := by
    intro X hP hw hK hc i pins s σ H E I hf st hg
    subst hP hw hK
    obtain ⟨⟨old, he⟩, hit, hne⟩ := st
    obtain ⟨xs, hq, hx⟩ := hg
    obtain ⟨its, rv, p, hz⟩ := I.tuple hq
    obtain ⟨f0, f1, f2, f3, f4, f5⟩ := hf it (by simp)
    have hl := rv.length
    have hai : a ≠ it := fun z => by
      obtain ⟨o, ho, hc1, hd1⟩ := hit
      obtain ⟨o2, ho2, hc2, _⟩ := p
      rw [z, ho] at ho2
      cases ho2
      rw [hc1] at hc2
      exact absurd (Value.type.inj hc2) (by decide)
    have en : its.toArray.size = i := by rw [List.size_toArray, ← hl, hx]
    refine wpAny_pyNext_enum_endD (Draws.tuple (show X.A.in1.handled = none from I.ok.hd hc) it a hai its.toArray) he ⟨by rw [en]; exact hit, p⟩ fun h' eb => ⟨rfl, I.turned (t' := s.toks) (fun b o hb q => eb b o hb q) f0 f1 f3 f4 f5⟩
  self := fun A i s Q E st h => let ⟨⟨_, he⟩, _⟩ := st; wpAny_pyIter_enum he h
def iEnumT (K : PySem.W.Frag) (ta : TA) : L2.TI := fun σ H R => ta σ H fun vs H1 => ∃ a xs, vs = [.ref a] ∧ SqT K H1 a xs ∧ R (ItET K a) H1
theorem pi_enumT {X : Cx} {e : Expr} {ta : TA} {p pos tpos : Pos} {elts : List Expr} {kk : Nat} (hg : Gl X "enumerate") (hm : X.mg "enumerate" = none) (ha : PA X [e] ta) (hs : starEach [e] X.env = [(false, eval e X.env)] := by rfl) :
    PI X (.Tuple elts kk tpos) (.Call (.Name "enumerate" p) [e] [] pos) (iEnumT X.K ta) := by
  refine ⟨fun pins s σ H R I h => ?_⟩
  refine Call_ (ld_blt I hg hm boot_enumerate (PyProof.Rows.callWith_type1 (thn (ha.run pos pins s σ H _ I h) fun us s1 ⟨vs, H1, I1, r1, q1⟩ => ?_) hs rfl))
  obtain ⟨a, xs, ex, hq, q⟩ := q1
  subst ex
  cases r1 with
  | cons r rr =>
    cases rr
    cases r
    obtain ⟨its, rv, p', hz⟩ := I1.tuple hq
    refine call_enumT (begins_tuple a its.toArray) p' fun h' he hit hsz hk => wpAny_pyIter_enum he ?_
    have I2 : Inv X pins σ H1 { s1 with heap := h' } := I1.kept (t' := s1.toks) hk
    refine ⟨s1.heap.objs.size + 1, [s1.heap.objs.size + 1, s1.heap.objs.size], _, _, H1, rfl, I2, turn_enumT a (s1.heap.objs.size + 1) s1.heap.objs.size, ⟨⟨.none, he⟩, ⟨_, hit, rfl, rfl⟩, Nat.succ_ne_self _⟩, fun b hb => ?_, q⟩
    have e' : b = s1.heap.objs.size + 1 ∨ b = s1.heap.objs.size := by simpa using hb
    have hle : s1.heap.objs.size ≤ b := by
      rcases e' with z | z
      · rw [z]; exact Nat.le_add_right _ _
      · rw [z]; exact Nat.le_refl _
    exact I1.fpOk hle (I1.hok.fresh hle)
theorem walk_enumT {K : PySem.W.Frag} {a : Addr} {xs : List V} : Walk (ItET K a) xs.length (fun H => SqT K H a xs) (YPair (fun i => some (.int (i : Nat))) (fun i => xs[i]?)) := by
  refine ⟨fun i _ hi q => ⟨xs, xs[i], q, by simp [hi]⟩, fun _ q => ⟨xs, q, rfl⟩, fun i H v H' _ q y => ?_⟩
  obtain ⟨T, x, h1, h2, h3, h4⟩ := y
  exact ⟨T, .int (i : Nat), x, h1, h2, h3, rfl, h4 xs q⟩
end Pp

end
section
set_option Elab.async false
set_option linter.all false
set_option maxRecDepth 100000
set_option maxHeartbeats 4000000
/-! Painters. -/
namespace Pp
open PySem PySem.Spec PyProof.Rows L2 StX Rg NdefX LamX
structure Pt where
  name : Str
  day : Int
  post : Int
  stride : Int
def ptV (p : Pt) : List V := [.str p.name, .int p.day, .int p.post, .int p.stride]
def PAt (K : PySem.W.Frag) (H : Hp) (a : Addr) (p : Pt) : Prop := ∃ dx t, H a = some (.ins (ga K "Painter") dx [("parts", .ref t)]) ∧ H t = some (.tup (ptV p))
theorem PAt.extN {K : PySem.W.Frag} {H H' : Hp} {a : Addr} {p : Pt} (h : PAt K H a p) (e : ExtN H H') : PAt K H' a p := by
  obtain ⟨dx, t, h1, h2⟩ := h
  exact ⟨dx, t, e _ _ h1 (fun _ z => by cases z), e _ _ h2 (fun _ z => by cases z)⟩
theorem PAt.same {K : PySem.W.Frag} {H H' : Hp} {a : Addr} {p : Pt} (h : PAt K H a p) (e : Same H H') : PAt K H' a p := h.extN (SameN e)
def NmOk (z : Str) : Prop := 1 ≤ z.length ∧ z.length ≤ 8 ∧ ∀ c ∈ z.cps.toList, 97 ≤ c ∧ c ≤ 122
structure PtOk (p : Pt) : Prop where
  name : NmOk p.name
  d0 : 0 ≤ p.day
  d1 : p.day ≤ 1000000000000000000000000000000
  p0 : -1000000000000000000000000000000 ≤ p.post
  p1 : p.post ≤ 1000000000000000000000000000000
  s0 : -1000000000000000000 ≤ p.stride
  s1 : p.stride ≤ 1000000000000000000
  ne : p.stride ≠ 0
section
variable {P : Program} {w : World} {K : PySem.W.Frag} {mg : Str → Option Value} {base : Heap}
/-! ### the properties -/
theorem atP0 (p : Pt) : atI (ptV p) 0 = some (.str p.name) := rfl
theorem atP1 (p : Pt) : atI (ptV p) 1 = some (.int p.day) := rfl
theorem atP2 (p : Pt) : atI (ptV p) 2 = some (.int p.post) := rfl
theorem atP3 (p : Pt) : atI (ptV p) 3 = some (.int p.stride) := rfl
def spProp (K : PySem.W.Frag) (g : Pt → V) : Sp := fun vs H Q _ => ∃ (a : Addr) (p : Pt), vs = [.ref a] ∧ PAt K H a p ∧ Q (g p) H
theorem scS1 (st : Stmt) (h : FnScope ["self"] ["self"] (defScope st)) : FnScope ["self"] ["self"] (defScope st) := h
theorem scPN : FnScope ["self"] ["self"] (defScope sPName) := ⟨rfl, rfl, rfl, by decide +kernel, rfl, by decide +kernel, by decide +kernel⟩
theorem scPD : FnScope ["self"] ["self"] (defScope sPDay) := ⟨rfl, rfl, rfl, by decide +kernel, rfl, by decide +kernel, by decide +kernel⟩
theorem scPP : FnScope ["self"] ["self"] (defScope sPPost) := ⟨rfl, rfl, rfl, by decide +kernel, rfl, by decide +kernel, by decide +kernel⟩
theorem scPS : FnScope ["self"] ["self"] (defScope sPStride) := ⟨rfl, rfl, rfl, by decide +kernel, rfl, by decide +kernel, by decide +kernel⟩
theorem scPW : FnScope ["self"] ["self"] (defScope sPWay) := ⟨rfl, rfl, rfl, by decide +kernel, rfl, by decide +kernel, by decide +kernel⟩
theorem ok_pname (T : Tx K mg) : FnR P w K mg base CX0 1 (pg K "Painter" "name") (spProp K fun p => .str p.name) := by
  refine defR T.d_sPName scPN (fun _ _ _ _ _ _ us hl => match us, hl with | [_], _ => rfl) (fun vs H Q E h => ?_) (fun cdv A outer s H vs Q E hr h => ?_)
  · obtain ⟨_, _, rfl, _⟩ := h; rfl
  · obtain ⟨a, p, rfl, ⟨dx, t, h1, h2⟩, q⟩ := h
    refine ⟨_, pss_one (ps_ret (pe_ix ix_tup (pe_fld (pv 0) rfl) pe_int (fun _ _ => rfl))), ?_⟩
    exact ⟨_, rfl, _, _, _, _, _, rfl, h1, T.c_Painter, T.a_Painter_parts, rfl, _, _, _, _, rfl, rfl, SqT.of h2, rfl, q⟩
theorem ok_pday (T : Tx K mg) : FnR P w K mg base CX0 1 (pg K "Painter" "day") (spProp K fun p => .int p.day) := by
  refine defR T.d_sPDay scPD (fun _ _ _ _ _ _ us hl => match us, hl with | [_], _ => rfl) (fun vs H Q E h => ?_) (fun cdv A outer s H vs Q E hr h => ?_)
  · obtain ⟨_, _, rfl, _⟩ := h; rfl
  · obtain ⟨a, p, rfl, ⟨dx, t, h1, h2⟩, q⟩ := h
    refine ⟨_, pss_one (ps_ret (pe_ix ix_tup (pe_fld (pv 0) rfl) pe_int (fun _ _ => rfl))), ?_⟩
    exact ⟨_, rfl, _, _, _, _, _, rfl, h1, T.c_Painter, T.a_Painter_parts, rfl, _, _, _, _, rfl, rfl, SqT.of h2, rfl, q⟩
theorem ok_ppost (T : Tx K mg) : FnR P w K mg base CX0 1 (pg K "Painter" "post") (spProp K fun p => .int p.post) := by
  refine defR T.d_sPPost scPP (fun _ _ _ _ _ _ us hl => match us, hl with | [_], _ => rfl) (fun vs H Q E h => ?_) (fun cdv A outer s H vs Q E hr h => ?_)
  · obtain ⟨_, _, rfl, _⟩ := h; rfl
  · obtain ⟨a, p, rfl, ⟨dx, t, h1, h2⟩, q⟩ := h
    refine ⟨_, pss_one (ps_ret (pe_ix ix_tup (pe_fld (pv 0) rfl) pe_int (fun _ _ => rfl))), ?_⟩
    exact ⟨_, rfl, _, _, _, _, _, rfl, h1, T.c_Painter, T.a_Painter_parts, rfl, _, _, _, _, rfl, rfl, SqT.of h2, rfl, q⟩
theorem ok_pstride (T : Tx K mg) : FnR P w K mg base CX0 1 (pg K "Painter" "stride") (spProp K fun p => .int p.stride) := by
  refine defR T.d_sPStride scPS (fun _ _ _ _ _ _ us hl => match us, hl with | [_], _ => rfl) (fun vs H Q E h => ?_) (fun cdv A outer s H vs Q E hr h => ?_)
  · obtain ⟨_, _, rfl, _⟩ := h; rfl
  · obtain ⟨a, p, rfl, ⟨dx, t, h1, h2⟩, q⟩ := h
    refine ⟨_, pss_one (ps_ret (pe_ix ix_tup (pe_fld (pv 0) rfl) pe_int (fun _ _ => rfl))), ?_⟩
    exact ⟨_, rfl, _, _, _, _, _, rfl, h1, T.c_Painter, T.a_Painter_parts, rfl, _, _, _, _, rfl, rfl, SqT.of h2, rfl, q⟩
def spWay (K : PySem.W.Frag) : Sp := fun vs H Q _ => ∃ (a : Addr) (p : Pt), vs = [.ref a] ∧ PAt K H a p ∧ ∀ t, H t = none → Q (.ref t) (upd H t (.tup [.int p.day, .int p.post, .int p.stride]))
theorem ok_pway (T : Tx K mg) : FnR P w K mg base CX0 1 (pg K "Painter" "way") (spWay K) := by
  refine defR T.d_sPWay scPW (fun _ _ _ _ _ _ us hl => match us, hl with | [_], _ => rfl) (fun vs H Q E h => ?_) (fun cdv A outer s H vs Q E hr h => ?_)
  · obtain ⟨_, _, rfl, _⟩ := h; rfl
  · obtain ⟨a, p, rfl, ⟨dx, t, h1, h2⟩, q⟩ := h
    refine ⟨_, pss_one (ps_ret (pe_slice sl_tup (pe_fld (pv 0) rfl) (po_some pe_int) po_none)), ?_⟩
    refine ⟨_, rfl, _, _, _, _, _, rfl, h1, T.c_Painter, T.a_Painter_parts, rfl, _, rfl, _, _, rfl, SqT.of h2, ?_, fun t2 ht2 => q t2 ht2⟩
    show ¬ (1 = 0 ∧ 4 = 4)
    decide
/-! ### is_name -/
def spIsName : Sp := fun vs H Q _ => ∃ z : Str, vs = [.str z] ∧ NmOk z ∧ ∀ H', Same H H' → Q (.bl true) H'
theorem scIN : FnScope ["value", "letter"] ["value"] (defScope sIsName) := ⟨rfl, rfl, rfl, by decide +kernel, rfl, by decide +kernel, by decide +kernel⟩
theorem letter_in {c : Nat} (h : 97 ≤ c ∧ c ≤ 122) : (!(Builtin.Str.occurrences (Str.ofString "abcdefghijklmnopqrstuvwxyz") ⟨#[c]⟩ 0 (Str.ofString "abcdefghijklmnopqrstuvwxyz").length 1).isEmpty) = true := by
  have e := StrLaws.found_one (Str.ofString "abcdefghijklmnopqrstuvwxyz") c
  refine e.trans (decide_eq_true ?_)
  have : ∀ i : Fin 26, (97 + i.val) ∈ (Str.ofString "abcdefghijklmnopqrstuvwxyz").cps.toList := by decide +kernel
  have q := this ⟨c - 97, by omega⟩
  have e2 : 97 + (c - 97) = c := by omega
  simp only [e2] at q
  exact q
theorem ok_isNameN (T : Tx K mg) : FnR P w K mg base CX0 1 (ga K "is_name_names") spIsName := by
  obtain ⟨tl, hL⟩ := T.s_LETTERS
  obtain ⟨tn, hN⟩ := T.n_MAX_NAME
  refine defR T.d_isNameN scIN (fun _ _ _ _ _ _ us hl => match us, hl with | [_], _ => rfl) (fun vs H Q E h => ?_) (fun cdv A outer s H vs Q E hr h => ?_)
  · obtain ⟨_, rfl, _⟩ := h; rfl
  · obtain ⟨z, rfl, ⟨z1, z2, z3⟩, q⟩ := h
    refine ⟨_, pss_cons (ps_if (pw_or (pt_not (pt_val (pe_callB call_isi inName T.z_isinstance (by decide +kernel) (pa_cons (pv 0) (pa_cons (pe_bltn (v := .ty "str") inName T.z_str (by decide +kernel) rfl) pa_nil)))))
        (pw_or1 (pt_not (pt_chain op_le op_le pe_int (pe_callB call_len_str inName T.z_len (by decide +kernel) (pa_cons (pv 0) pa_nil)) (pe_glob (v := .int 8) inName hN ⟨tn, rfl⟩))))).pt (pss_one (ps_ret pe_bl)) pss_nil)
      <| pss_one (ps_ret (pe_callB (cr_all rfl) inName T.z_all (by decide +kernel) (pa_cons (pe_lc (own := [("letter", 1)]) (g := gName 1) (tt := tYes) rfl scIN.nd (pi_str (pv 0)) (blkOk_by (N := ["value", "letter"]) (sc := defScope sIsName) (by decide +kernel)) (fun _ _ _ _ _ => pg_name (i := 1) scIN.nd rfl (Or.inl rfl)) (fun _ _ _ _ _ => pts_nil)
        (fun _ _ _ _ _ => pe_cmpR op_in_str (pv 1) (pe_glob (v := .str "abcdefghijklmnopqrstuvwxyz") inName hL ⟨tl, rfl⟩) (by rfl))) pa_nil))), ?_⟩
    refine ⟨_, rfl, _, _, _, _, true, rfl, .ty _, .base (.str z), kit_ty (by decide +kernel), _, rfl, iteF ?_⟩
    have zs : z.length ≤ sizeLine := Nat.le_trans z2 (by decide)
    refine ⟨_, rfl, _, rfl, zs, _, _, rfl, rfl, _, rfl, ite2 (fun _ => ?_) (fun h1 => absurd (decide_eq_true (by omega)) h1)⟩
    refine ⟨_, _, rfl, rfl, _, rfl, ?_⟩
    refine iteND (fun h1 => absurd (by omega) h1) (fun _ => ?_)
    refine ⟨_, rfl, _, rfl, fun D hD => ?_⟩
    refine lc_it (walk_str (z := z)) (fun i H' => Same H H' ∧ H' D = some (.lst ((List.replicate i true).map V.bl))) ⟨Same.new hD, upd_same⟩ (fun _ _ _ _ => trivial) ?_ ?_
    · rintro i x H' H2 hi ⟨S1, h1⟩ ⟨rfl, c, hc, rfl⟩
      have hc' : 97 ≤ c ∧ c ≤ 122 := z3 c (by
        have := Array.mem_of_getElem? hc
        exact Array.mem_toList_iff.mpr this)
      refine ⟨rfl, _, rfl, _, _, rfl, rfl, ?_⟩
      rw [letter_in hc']
      have zl : z.cps.size ≤ 8 := z2
      refine ⟨_, h1, by rw [List.length_map, List.length_replicate]; exact Nat.lt_of_lt_of_le (show i < 8 by omega) (by decide), ?_, ?_⟩
      · exact fun b u e => by rw [upd_ne (fun z => by rw [z, hD] at e; cases e)]; exact S1 _ _ e
      · rw [upd_same, List.replicate_succ', List.map_append]
        rfl
    · rintro H' ⟨S1, h1⟩
      refine ⟨D, List.replicate z.cps.size true, rfl, SqL.of h1, ?_⟩

      have e : (List.replicate z.cps.size true).all id = true := by simp
      rw [e]
      exact q _ S1
end
end Pp

end
section
set_option Elab.async false
set_option linter.all false
set_option maxRecDepth 100000
set_option maxHeartbeats 4000000
/-! Painters are made. -/
namespace Pp
open PySem PySem.Spec PyProof.Rows L2 StX Rg NdefX LamX
section
variable {P : Program} {w : World} {K : PySem.W.Frag} {mg : Str → Option Value} {base : Heap}
abbrev aP (K : PySem.W.Frag) : Addr := ga K "Painter"
abbrev NPI : List Str := ["self", "name", "day", "post", "stride"]
theorem scPI : FnScope NPI NPI (defScope sPInit) := ⟨rfl, rfl, rfl, by decide +kernel, rfl, by decide +kernel, by decide +kernel⟩
def spPInit (K : PySem.W.Frag) : Sp := fun vs H Q _ => ∃ (x dx : Addr) (p : Pt), vs = [.ref x, .str p.name, .int p.day, .int p.post, .int p.stride] ∧ H x = some (.ins (aP K) dx []) ∧ PtOk p ∧
  ∀ H', PAt K H' x p → Kp x H H' → Q .non H'
theorem ok_pinit (T : Tx K mg) : FnR P w K mg base CX0 3 (ma K (aP K) "__init__") (spPInit K) := by
  obtain ⟨ud, cd⟩ := T.q_Painter_MAX_DAY
  obtain ⟨up, cp⟩ := T.q_Painter_MAX_POST
  obtain ⟨us, cs⟩ := T.q_Painter_MAX_STRIDE
  refine defR T.d_sPInit scPI (fun _ _ _ _ _ _ us hl => match us, hl with | [_, _, _, _, _], _ => rfl) (fun vs H Q E h => ?_) (fun cdv A outer s H vs Q E hr h => ?_)
  · obtain ⟨_, _, _, rfl, _⟩ := h; rfl
  · obtain ⟨x, dx, p, rfl, hx, ok, k⟩ := h
    have hr1 : Room 1 _ := hr.mono (by decide)
    refine ⟨_, pss_cons (ps_if (pt_not (pt_val (pe_fn (ok_isNameN T) hr1 inName T.g_is_name_names (kpOf T.d_isNameN) pass0 (pa_cons (pv 1) pa_nil)))) pss_never pss_nil)
      <| pss_cons (ps_if (pt_not (pt_val (pe_fn (ok_between T) hr inName T.g_is_between (kpOf T.d_sIsBetween) pass0 (pa_cons (pv 2) (pa_cons pe_int (pa_cons (pe_con (pv 0) rfl) pa_nil)))))) pss_never pss_nil)
      <| pss_cons (ps_if (pt_not (pt_val (pe_fn (ok_between T) hr inName T.g_is_between (kpOf T.d_sIsBetween) pass0 (pa_cons (pv 3) (pa_cons (pe_un un_neg (pe_con (pv 0) rfl)) (pa_cons (pe_con (pv 0) rfl) pa_nil)))))) pss_never pss_nil)
      <| pss_cons (ps_if (pw_or (pt_not (pt_val (pe_fn (ok_between T) hr inName T.g_is_between (kpOf T.d_sIsBetween) pass0 (pa_cons (pv 4) (pa_cons (pe_un un_neg (pe_con (pv 0) rfl)) (pa_cons (pe_con (pv 0) rfl) pa_nil)))))) (pw_or1 (pt_cmpR op_eq (pv 4) pe_int (nomark _)))).pt pss_never pss_nil)
      <| pss_one (ps_fld (pv 0) (pe_tup (pa_cons (pv 1) (pa_cons (pv 2) (pa_cons (pv 3) (pa_cons (pv 4) pa_nil))))) rfl), ?_⟩
    refine ⟨_, rfl, _, rfl, ok.name, fun H1 S1 => ⟨_, rfl, iteF ?_⟩⟩
    have hx1 := S1 _ _ hx
    refine ⟨_, rfl, _, rfl, _, _, _, _, _, _, rfl, hx1, T.c_Painter, cd, rfl, _, _, _, rfl, _, rfl, iteND (fun z => absurd ⟨ok.d0, ok.d1⟩ z) (fun _ => ?_)⟩
    refine ⟨_, rfl, _, rfl, _, _, _, _, _, _, rfl, hx1, T.c_Painter, cp, rfl, _, rfl, _, rfl, _, _, _, _, _, _, rfl, hx1, T.c_Painter, cp, rfl, _, _, _, rfl, _, rfl, iteND (fun z => absurd ⟨ok.p0, ok.p1⟩ z) (fun _ => ?_)⟩
    refine ⟨_, rfl, _, rfl, _, _, _, _, _, _, rfl, hx1, T.c_Painter, cs, rfl, _, rfl, _, rfl, _, _, _, _, _, _, rfl, hx1, T.c_Painter, cs, rfl, _, _, _, rfl, _, rfl, iteND (fun z => absurd ⟨ok.s0, ok.s1⟩ z) (fun _ => ?_)⟩
    refine ⟨_, rfl, rfl, _, rfl, iteD (fun z => absurd (V.int.inj z) ok.ne) (fun _ => ?_)⟩
    refine ⟨_, rfl, _, rfl, _, rfl, _, rfl, by show 4 ≤ sizeLine; decide, fun t ht => ?_⟩
    have nx : x ≠ t := ne_of_none hx1 ht
    refine ⟨_, rfl, _, _, _, _, rfl, (upd_ne nx).trans hx1, T.c_Painter, T.a_Painter_parts, by show 0 < 1000; decide, ?_⟩
    refine k _ ⟨dx, t, upd_same, (upd_ne nx.symm).trans upd_same⟩ (Kp.put fun b u _ e => ?_)
    rw [upd_ne (ne_of_none (S1 _ _ e) ht)]
    exact S1 _ _ e
/-- a new painter -/
def newP (K : PySem.W.Frag) (p : Pt) (H : Hp) (Q : VK) : Prop := PtOk p ∧ ∀ a H', H a = none → PAt K H' a p → Same H H' → Q (.ref a) H'
theorem made_p {H : Hp} {p : Pt} {Q : VK} {T : Tx K mg} (h : newP K p H Q) : ∀ x dx, H x = none → H dx = none → dx ≠ x → spPInit K [.ref x, .str p.name, .int p.day, .int p.post, .int p.stride] (upd (upd H dx (.own x)) x (.ins (aP K) dx [])) (fun v H2 => v = .non ∧ Q (.ref x) H2) E0 := by
  intro x dx hx hdx hne
  obtain ⟨ok, k⟩ := h
  refine ⟨x, dx, p, rfl, upd_same, ok, fun H' h1 h2 => ⟨rfl, k x H' hx h1 fun b o e => h2 b o (ne_of_none e hx) ?_⟩⟩
  rw [upd_ne (ne_of_none e hx), upd_ne (ne_of_none e hdx)]
  exact e
/-! ### -painter -/
theorem scPNeg : FnScope ["self"] ["self"] (defScope sPNeg) := ⟨rfl, rfl, rfl, by decide +kernel, rfl, by decide +kernel, by decide +kernel⟩
def negP (p : Pt) : Pt := ⟨p.name, p.day, -p.post, -p.stride⟩
theorem negP_ok {p : Pt} (h : PtOk p) : PtOk (negP p) := by
  obtain ⟨h1, h2, h3, h4, h5, h6, h7, h8⟩ := h
  have e1 : (negP p).post = -p.post := rfl
  have e2 : (negP p).stride = -p.stride := rfl
  exact ⟨h1, h2, h3, by omega, by omega, by omega, by omega, by omega⟩
def spPNeg (K : PySem.W.Frag) : Sp := fun vs H Q _ => ∃ (a : Addr) (p : Pt), vs = [.ref a] ∧ PAt K H a p ∧ PtOk p ∧ ∀ b H', H b = none → PAt K H' b (negP p) → Same H H' → Q (.ref b) H'
theorem ok_pneg (T : Tx K mg) : FnR P w K mg base CX0 5 (ma K (aP K) "__neg__") (spPNeg K) := by
  refine defR T.d_sPNeg scPNeg (fun _ _ _ _ _ _ us hl => match us, hl with | [_], _ => rfl) (fun vs H Q E h => ?_) (fun cdv A outer s H vs Q E hr h => ?_)
  · obtain ⟨_, _, rfl, _⟩ := h; rfl
  · obtain ⟨a, p, rfl, hp, ok, k⟩ := h
    have hr2 : Room 2 _ := hr.mono (by decide)
    obtain ⟨dx, t, h1, h2⟩ := id hp
    refine ⟨_, pss_one (ps_ret (pe_makeR T.k_Painter (ok_pinit T) hr inName T.g_Painter pass0 (pa_cons (pe_propR (pv 0) T.c_Painter T.p_Painter_name (ok_pname T) hr2) (pa_cons (pe_propR (pv 0) T.c_Painter T.p_Painter_day (ok_pday T) hr2)
      (pa_cons (pe_un un_neg (pe_propR (pv 0) T.c_Painter T.p_Painter_post (ok_ppost T) hr2)) (pa_cons (pe_un un_neg (pe_propR (pv 0) T.c_Painter T.p_Painter_stride (ok_pstride T) hr2)) pa_nil)))))), ?_⟩
    refine ⟨_, rfl, _, _, _, rfl, h1, a, p, rfl, hp, _, rfl, _, _, _, rfl, h1, a, p, rfl, hp, _, rfl, _, _, _, rfl, h1, a, p, rfl, hp, _, rfl, _, rfl, _, _, _, rfl, h1, a, p, rfl, hp, _, rfl, ?_⟩
    exact made_p (p := negP p) (T := T) ⟨negP_ok ok, k⟩
end
end Pp

end
section
set_option Elab.async false
set_option linter.all false
set_option maxRecDepth 100000
set_option maxHeartbeats 4000000
/-! Fences. -/
namespace Pp
open PySem PySem.Spec PyProof.Rows L2 StX Rg NdefX LamX
def PAll (K : PySem.W.Frag) (H : Hp) (as : List Addr) (ps : List Pt) : Prop := as.length = ps.length ∧ ∀ (i : Nat) (a : Addr) (p : Pt), as[i]? = some a → ps[i]? = some p → PAt K H a p
theorem PAll.extN {K : PySem.W.Frag} {H H' : Hp} {as : List Addr} {ps : List Pt} (h : PAll K H as ps) (e : ExtN H H') : PAll K H' as ps := ⟨h.1, fun i a p h1 h2 => (h.2 i a p h1 h2).extN e⟩
theorem PAll.same {K : PySem.W.Frag} {H H' : Hp} {as : List Addr} {ps : List Pt} (h : PAll K H as ps) (e : Same H H') : PAll K H' as ps := h.extN (SameN e)
theorem PAll.get {K : PySem.W.Frag} {H : Hp} {as : List Addr} {ps : List Pt} {i : Nat} {a : Addr} (h : PAll K H as ps) (e : as[i]? = some a) : ∃ p, ps[i]? = some p ∧ PAt K H a p := by
  have hi := (List.getElem?_eq_some_iff.mp e).1
  have hj : i < ps.length := by rw [← h.1]; exact hi
  exact ⟨ps[i], List.getElem?_eq_getElem hj, h.2 i a _ e (List.getElem?_eq_getElem hj)⟩
theorem PAll.kp {K : PySem.W.Frag} {x : Addr} {H H' : Hp} {as : List Addr} {ps : List Pt} (h : PAll K H as ps) (e : Kp x H H') (hx : ∃ C dx, H x = some (.ins C dx [])) : PAll K H' as ps := by
  obtain ⟨C, dx, hx⟩ := hx
  refine ⟨h.1, fun i a p h1 h2 => ?_⟩
  obtain ⟨dx2, t, k1, k2⟩ := h.2 i a p h1 h2
  refine ⟨dx2, t, e _ _ (fun z => ?_) k1, e _ _ (fun z => ?_) k2⟩
  · rw [z, hx] at k1; cases k1
  · rw [z, hx] at k2; cases k2
def nmKvs (ps : List Pt) : List (Key × V) := ps.zipIdx.map fun q => (Sum.inr q.1.name, V.int (q.2 : Nat))
abbrev aF (K : PySem.W.Frag) : Addr := ga K "Fence"
abbrev fFs (lt pl : Addr) : List (Str × V) := [("listed", .ref lt), ("places", .ref pl)]
def FAtL (K : PySem.W.Frag) (H : Hp) (a : Addr) (ps : List Pt) (lt : Addr) (as : List Addr) : Prop := ∃ dx pl, H a = some (.ins (aF K) dx (fFs lt pl)) ∧ H lt = some (.tup (as.map V.ref)) ∧ PAll K H as ps ∧ H pl = some (.dK (nmKvs ps))
def FAt (K : PySem.W.Frag) (H : Hp) (a : Addr) (ps : List Pt) : Prop := ∃ lt as, FAtL K H a ps lt as
theorem FAtL.extN {K : PySem.W.Frag} {H H' : Hp} {a lt : Addr} {ps : List Pt} {as : List Addr} (h : FAtL K H a ps lt as) (e : ExtN H H') : FAtL K H' a ps lt as := by
  obtain ⟨dx, pl, h1, h2, h3, h4⟩ := h
  exact ⟨dx, pl, e _ _ h1 (fun _ z => by cases z), e _ _ h2 (fun _ z => by cases z), h3.extN e, e _ _ h4 (fun _ z => by cases z)⟩
theorem FAt.extN {K : PySem.W.Frag} {H H' : Hp} {a : Addr} {ps : List Pt} (h : FAt K H a ps) (e : ExtN H H') : FAt K H' a ps := let ⟨lt, as, h⟩ := h; ⟨lt, as, h.extN e⟩
theorem FAt.same {K : PySem.W.Frag} {H H' : Hp} {a : Addr} {ps : List Pt} (h : FAt K H a ps) (e : Same H H') : FAt K H' a ps := h.extN (SameN e)
structure FnsOk (ps : List Pt) : Prop where
  nd : (ps.map Pt.name).Nodup
  len : ps.length ≤ 8
theorem nd_ix {α : Type} {xs : List α} {i j : Nat} {v : α} (nd : xs.Nodup) (h1 : xs[i]? = some v) (h2 : xs[j]? = some v) : i = j := by
  have hi := (List.getElem?_eq_some_iff.mp h1).1
  exact (List.getElem?_inj hi nd).mp (h1.trans h2.symm)
theorem nm_ix {ps : List Pt} {i j : Nat} {p q : Pt} (nd : (ps.map Pt.name).Nodup) (h1 : ps[i]? = some p) (h2 : ps[j]? = some q) (e : p.name = q.name) : i = j := by
  refine nd_ix (v := p.name) nd ?_ ?_
  · rw [List.getElem?_map, h1]; rfl
  · rw [List.getElem?_map, h2, e]; rfl
theorem inV_no {ps : List Pt} {i : Nat} {p : Pt} (nd : (ps.map Pt.name).Nodup) (h : ps[i]? = some p) : inV (.str p.name) ((ps.map fun p => V.str p.name).take i) = false := by
  unfold inV
  rw [List.any_eq_false]
  intro y hy hq
  obtain ⟨j, hj, e⟩ := List.mem_iff_getElem.mp hy
  rw [List.length_take] at hj
  rw [List.getElem_take, List.getElem_map] at e
  have hi := List.getElem?_eq_some_iff.mp h
  obtain ⟨hi1, hi2⟩ := hi
  rw [← e] at hq
  have hq2 : ((ps[j]'(by rw [List.length_map] at hj; omega)).name == p.name) = true := hq
  have en := eq_of_beq hq2
  have hjl : j < ps.length := by rw [List.length_map] at hj; omega
  have := nm_ix nd (List.getElem?_eq_getElem hjl) h en
  omega
theorem dc_it {J : It} {n : Nat} {G : Hp → Prop} {Y : Nat → Hp → V → Hp → Prop} (w : Walk J n G Y) {g : TG} {tt : L2.TT} {tk tv : TE} {vs : List Nat} {σ : L2.St} {H1 : Hp} {D : Addr} {Qd : Hp → Prop} (Pv : Nat → Hp → Prop) (h0 : Pv 0 (upd H1 D (.dK []))) (hG : ∀ i H, i ≤ n → Pv i H → G H)
    (hs : ∀ i x H H', i < n → Pv i H → Y i H x H' → g x (wipe σ vs) H' fun σ2 H2 => wipe σ2 vs = wipe σ vs ∧ tt σ2 H2 fun b H3 =>
      if b = true then tk σ2 H3 fun y H4 => tv σ2 H4 fun z H5 => ∃ kvs k, y = kV k ∧ H5 D = some (.dK kvs) ∧ kvs.length < sizeLine ∧ Pv (i + 1) (upd H5 D (.dK (putK kvs k z))) else Pv (i + 1) H3) (hd : ∀ H, Pv n H → Qd H) :
    ∃ W : Nat → Nat → Hp → Prop, (∃ m, W 0 m (upd H1 D (.dK []))) ∧ ∀ i m H, W i m H →
      (J.stop i H ∧ Qd H) ∨ (J.go i H ∧ ∃ Nx : Hp → Prop, (∀ H', Nx H' → ∃ m', m' < m ∧ W (i + 1) m' H') ∧ ∀ x H', J.yld i H x H' → g x (wipe σ vs) H' fun σ2 H2 => wipe σ2 vs = wipe σ vs ∧ tt σ2 H2 fun b H3 =>
        if b = true then tk σ2 H3 fun y H4 => tv σ2 H4 fun z H5 => ∃ kvs k, y = kV k ∧ H5 D = some (.dK kvs) ∧ kvs.length < sizeLine ∧ Nx (upd H5 D (.dK (putK kvs k z))) else Nx H3) := by
  refine ⟨fun i m H => m = n - i ∧ i ≤ n ∧ Pv i H, ⟨n, by simp, Nat.zero_le _, h0⟩, ?_⟩
  rintro i m H ⟨rfl, hi, p⟩
  have q := hG i H hi p
  by_cases hlt : i < n
  · refine .inr ⟨w.goes i H hlt q, Pv (i + 1), fun H' p' => ⟨n - (i + 1), by omega, rfl, hlt, p'⟩, fun x H' y => hs i x H H' hlt p (w.yields i H x H' hlt q y)⟩
  · have e : i = n := by omega
    subst e
    exact .inl ⟨w.stops H q, hd H p⟩
theorem nmKvs_take {ps : List Pt} {i : Nat} {p : Pt} (h : ps[i]? = some p) : nmKvs (ps.take (i + 1)) = nmKvs (ps.take i) ++ [(Sum.inr p.name, V.int (i : Nat))] := by
  obtain ⟨hi, e⟩ := List.getElem?_eq_some_iff.mp h
  unfold nmKvs
  rw [List.take_succ_eq_append_getElem hi, List.zipIdx_append, List.map_append, List.length_take, Nat.min_eq_left (by omega), e]
  simp
theorem nmKvs_none {ps : List Pt} {i : Nat} {p : Pt} (nd : (ps.map Pt.name).Nodup) (h : ps[i]? = some p) : valV (nmKvs (ps.take i)) (Sum.inr p.name) = none := by
  unfold valV
  have e : (nmKvs (ps.take i)).find? (fun kv => decide (kv.1 = Sum.inr p.name)) = none := by
    rw [List.find?_eq_none]
    intro kv hkv hd
    have hd := of_decide_eq_true hd
    unfold nmKvs at hkv
    obtain ⟨⟨q, j⟩, hm, rfl⟩ := List.mem_map.mp hkv
    have hq := List.mem_zipIdx hm
    obtain ⟨_, hj, eq⟩ := hq
    rw [List.length_take] at hj
    have en : q.name = p.name := Sum.inr.inj hd
    obtain ⟨hi1, hi2⟩ := List.getElem?_eq_some_iff.mp h
    have hjl : j < ps.length := by omega
    simp only [Nat.sub_zero, List.getElem_take] at eq
    have en2 : ps[j].name = p.name := by rw [← eq]; exact en
    have := nm_ix nd (List.getElem?_eq_getElem hjl) h en2
    omega
  rw [e]
  rfl
end Pp

end
section
set_option Elab.async false
set_option linter.all false
set_option maxRecDepth 100000
set_option maxHeartbeats 4000000
/-! Fences are made. -/
namespace Pp
open PySem PySem.Spec PyProof.Rows L2 StX Rg NdefX LamX
section
variable {P : Program} {w : World} {K : PySem.W.Frag} {mg : Str → Option Value} {base : Heap}
abbrev NFI : List Str := ["self", "painters", "index", "painter", "names", "name"]
theorem scFI : FnScope NFI ["self", "painters"] (defScope sFInit) := ⟨rfl, rfl, rfl, by decide +kernel, rfl, by decide +kernel, by decide +kernel⟩
/-- .. the painters in the tuple at p -/
def spFIn (K : PySem.W.Frag) : Sp := fun vs H Q _ => ∃ (x dx lt : Addr) (as : List Addr) (ps : List Pt), vs = [.ref x, .ref lt] ∧ H x = some (.ins (aF K) dx []) ∧ H lt = some (.tup (as.map V.ref)) ∧ PAll K H as ps ∧ FnsOk ps ∧
  ∀ pl H', H' x = some (.ins (aF K) dx (fFs lt pl)) → H' pl = some (.dK (nmKvs ps)) → Kp x H H' → Q .non H'
def spFInit (K : PySem.W.Frag) : Sp := fun vs H Q _ => ∃ (x dx : Addr) (as : List Addr) (ps : List Pt), vs = .ref x :: as.map V.ref ∧ H x = some (.ins (aF K) dx []) ∧ PAll K H as ps ∧ FnsOk ps ∧
  ∀ H', FAt K H' x ps → Kp x H H' → Q .non H'
theorem cut_all {xs : List V} {lo hi : Option Int} {f : V → Bool} (h : xs.all f = true) : (cutV xs lo hi).all f = true := by
  unfold cutV
  exact List.all_eq_true.mpr fun y hy => List.all_eq_true.mp h y (List.mem_of_mem_drop (List.mem_of_mem_take hy))
theorem cut_take (xs : List V) (i : Nat) (h : i ≤ xs.length) : cutV xs none (some (i : Nat)) = xs.take i := by
  have e1 : HT.sIx xs.length 0 none = 0 := rfl
  have e2 : HT.sIx xs.length xs.length (some ((i : Nat) : Int)) = i := by
    rw [HT.sIx_nat]
    exact Nat.min_eq_left h
  unfold cutV
  rw [e1, e2]
  rfl
theorem ref_ix {as : List Addr} {i : Nat} {v : V} (h : (as.map V.ref)[i]? = some v) : ∃ a, as[i]? = some a ∧ v = .ref a := by
  rw [List.getElem?_map] at h
  cases e : as[i]? with
  | none => rw [e] at h; cases h
  | some a => rw [e] at h; exact ⟨a, rfl, (Option.some.inj h).symm⟩
theorem ok_finit (T : Tx K mg) : FnR P w K mg base CX0 3 (ma K (aF K) "__init__") (spFInit K) := by
  obtain ⟨fd, F⟩ := T.d_sFInit
  obtain ⟨oc, od, kV, doc, pm, an, cdv, ct, osl, _, lk, hcd⟩ := F.ex
  rename_i efd
  subst efd
  obtain ⟨tn, hN⟩ := T.n_MAX_PAINTERS
  have nd := scFI.nd
  have G := fn_star (P := P) (w := w) (K := K) (mg := mg) (base := base) (CX := CX0) (k := 2) (N := NFI) (ps := ["self"]) (pv := "painters") (sp := spFIn K) lk hcd scFI cxUp_none (bind_star1 (B := fun us => bindArgs (PySem.W.fnOf "__init__" (("Fence" : Str) ++ "." ++ "__init__") (defArgs sFInit) (defBody sFInit) (defScope sFInit) .none kV doc pm an cdv ct) ⟨us, []⟩) (p1 := "self") (pv := "painters") (fun _ => rfl) (fun _ _ _ => rfl)) (fun A outer s H vs Q E hr h => ?_)
  · refine fun A outer s H us vs Q E hr e0 r hs => G A outer s H us vs Q E hr e0 r ?_
    obtain ⟨x, dx, as, ps, rfl, hx, hp, ok, k⟩ := hs
    have hl := hp.1
    have ok8 := ok.len
    refine ⟨[.ref x], as.map V.ref, rfl, rfl, by rw [List.length_map]; exact Nat.le_trans (show as.length ≤ 8 by omega) (by decide), fun p hp0 => ?_⟩
    have S0 : Same H (upd H p (.tup (as.map V.ref))) := Same.new hp0
    refine ⟨x, dx, p, as, ps, rfl, S0 _ _ hx, upd_same, hp.same S0, ok, fun pl H' h1 h2 h3 => ?_⟩
    have npx : p ≠ x := fun z => by rw [z, hx] at hp0; cases hp0
    refine k H' ⟨p, as, dx, pl, h1, h3 _ _ npx upd_same, (hp.same S0).kp h3 ⟨_, _, S0 _ _ hx⟩, h2⟩ fun b o n e => h3 b o n (S0 _ _ e)
  · obtain ⟨x, dx, lt, as, ps, rfl, hx, hlt, hp, ok, k⟩ := h
    have hr1 : Room 1 _ := hr.mono (by decide)
    suffices z : ∃ t, PSs (cxOf CX0 P w K mg base NFI (("Fence" : Str) ++ "." ++ "__init__") (defScope sFInit) (ma K (aF K) "__init__") cdv A outer s H E).nox (defBody sFInit) t ∧ t { nx := fun _ H' => Q .non H', rt := Q } (start NFI [.ref x, .ref lt]) H from let ⟨t, h1, h2⟩ := z; ⟨t, h1.nox, h2⟩
    refine ⟨_, pss_cons (ps_for PassesOwn.never rfl (pi_enumT inName T.z_enumerate (pa_cons (pv 1) pa_nil)) (pg_tup rfl (pgs_cons (pg_name (i := 2) nd rfl (.inl rfl)) (pgs_cons (pg_name (i := 3) nd rfl (.inl rfl)) pgs_nil)))
        (pss_one (ps_if (pt_not (pt_val (pe_callB call_isi inName T.z_isinstance (by decide +kernel) (pa_cons (pv 3) (pa_cons (pe_glob (v := .ref (aP K)) inName T.g_Painter rfl) pa_nil))))) pss_never pss_nil)))
      <| pss_cons (ps_setLc (i := 4) (own := [("painter", 3)]) (g := gName 3) (tt := tYes) rfl nd rfl rfl (sw_true rfl rfl rfl (by decide +kernel)) (pi_tup (pv 1)) (blkOk_by (N := NFI) (sc := defScope sFInit) (by decide +kernel)) (fun _ _ _ _ _ => pg_name (i := 3) nd rfl (Or.inl rfl)) (fun _ _ _ _ _ => pts_nil)
        (fun _ _ _ _ _ => pe_propR (pv 3) T.c_Painter T.p_Painter_name (ok_pname T) hr))
      <| pss_cons (ps_for PassesOwn.never rfl (pi_enum inName T.z_enumerate (pa_cons (pv 4) pa_nil)) (pg_tup rfl (pgs_cons (pg_name (i := 2) nd rfl (.inl rfl)) (pgs_cons (pg_name (i := 5) nd rfl (.inl rfl)) pgs_nil)))
        (pss_one (ps_if (pt_cmpR op_in_seq (pv 5) (pe_slice sl_list (pv 4) po_none (po_some (pv 2))) (by rfl)) pss_never pss_nil)))
      <| pss_cons (ps_if (pt_cmpR op_gt (pe_callB call_len_seq inName T.z_len (by decide +kernel) (pa_cons (pv 1) pa_nil)) (pe_glob (v := .int 40) inName hN ⟨tn, rfl⟩) (by rfl)) pss_never pss_nil)
      <| pss_cons (ps_fld (pv 0) (pv 1) rfl)
      <| pss_one (ps_fld (pv 0) (pe_dc (own := [("index", 2), ("name", 5)]) (g := gTup K 2 (gCons (gName 2) (gCons (gName 5) gNil))) (tt := tYes) rfl nd (pi_enum inName T.z_enumerate (pa_cons (pv 4) pa_nil)) (blkOk_by (N := NFI) (sc := defScope sFInit) (by decide +kernel))
          (fun _ _ _ _ _ => pg_tup rfl (pgs_cons (pg_name (i := 2) nd rfl (Or.inl rfl) (hf := .inr rfl)) (pgs_cons (pg_name (i := 5) nd rfl (Or.inl rfl) (hf := .inr rfl)) pgs_nil))) (fun _ _ _ _ _ => pts_nil) (fun _ _ _ _ _ => pv 5) (fun _ _ _ _ _ => pv 2)) rfl), ?_⟩
    have hl := hp.1
    have ok8 := ok.len
    -- the first loop
    refine ⟨_, rfl, lt, _, rfl, SqT.of hlt, for_it walk_enumT (fun i σ H' => Same H H' ∧ ∃ u v, σ = [some (.ref x), some (.ref lt), u, v, none, none]) ⟨Same.refl H, _, _, rfl⟩ (fun i σ H' _ ⟨S1, _⟩ => SqT.of (S1 _ _ hlt)) ?_ ?_⟩
    · rintro i y σ H1 H2 hi ⟨S1, u, v, rfl⟩ ⟨TT1, a0, b0, rfl, hT, rfl, e1, e2⟩
      cases e1
      obtain ⟨a, ha, rfl⟩ := ref_ix e2
      obtain ⟨p, hpi, dx2, t2, h1, h2⟩ := hp.get ha
      have S2 := S1.plus (o := .tup [.int (i : Nat), .ref a]) hT
      refine ⟨TT1, _, rfl, SqT.of upd_same, rfl, _, _, rfl, _, _, rfl, rfl, ?_⟩
      refine ⟨_, rfl, _, _, _, _, true, rfl, .own _, .base (.ins (S2 _ _ h1) T.c_Painter T.o_is_Painter.ha T.o_is_Painter.hn T.o_is_Painter.ht T.o_is_Painter.hm), T.o_is_Painter.me, _, rfl, iteF ?_⟩
      exact ⟨S2, _, _, rfl⟩
    rintro σ H1 ⟨S1, u, v, rfl⟩
    -- the names
    refine ⟨_, rfl, lt, rfl, ⟨_, SqT.of (S1 _ _ hlt)⟩, fun D hD => ?_⟩
    have hD0 : H D = none := S1.free hD
    refine lc_it walk_tup (fun i H' => Same H H' ∧ H' D = some (.lst ((ps.take i).map fun p => V.str p.name))) ⟨S1.plus hD, upd_same⟩ (fun i H' _ h => SqT.of (h.1 _ _ hlt)) ?_ ?_
    · rintro i y H2 H3 hi ⟨S2, hd⟩ ⟨rfl, e2⟩
      obtain ⟨a, ha, rfl⟩ := ref_ix e2
      obtain ⟨p, hpi, hpa⟩ := hp.get ha
      have hpa2 := hpa.same S2
      obtain ⟨dx2, t2, h1, h2⟩ := id hpa2
      refine ⟨rfl, _, rfl, _, _, _, rfl, h1, a, p, rfl, hpa2, _, hd, ?_, fun b o e => ?_, ?_⟩
      · rw [List.length_map, List.length_take]
        exact Nat.lt_of_lt_of_le (show _ < 9 by omega) (by decide)
      · rw [upd_ne (ne_of_none e hD0)]
        exact S2 _ _ e
      · have hil := (List.getElem?_eq_some_iff.mp hpi)
        obtain ⟨hil, hie⟩ := hil
        rw [upd_same, List.take_succ_eq_append_getElem hil, List.map_append, hie]
        rfl
    rintro H2 ⟨S2, hd⟩
    have en : (ps.take (as.map V.ref).length).map (fun p => V.str p.name) = ps.map fun p => V.str p.name := by rw [List.length_map, hl, List.take_length]
    rw [en] at hd
    have dl : (ps.map fun p => V.str p.name).length = ps.length := List.length_map ..
    -- the second loop
    refine ⟨_, rfl, D, _, rfl, SqL.of hd, for_it walk_enum (fun i σ H' => Same H H' ∧ H' D = some (.lst (ps.map fun p => V.str p.name)) ∧ ∃ u v t, σ = [some (.ref x), some (.ref lt), u, v, some (.ref D), t]) ⟨S2, hd, _, _, _, rfl⟩ (fun i σ H' _ h => SqL.of h.2.1) ?_ ?_⟩
    · rintro i y σ H1 H2 hi ⟨S1, hd, u, v, t, rfl⟩ ⟨TT1, a0, b0, rfl, hT, rfl, e1, e2⟩
      cases e1
      have hD2 := (upd_ne (o := .tup [.int (i : Nat), b0]) (ne_of_none hd hT)).trans hd
      have S2 := S1.plus (o := .tup [.int (i : Nat), b0]) hT
      obtain ⟨p, hpi, rfl⟩ : ∃ p, ps[i]? = some p ∧ b0 = .str p.name := by
        have e2 : (ps.map fun p => V.str p.name)[i]? = some b0 := e2
        rw [List.getElem?_map] at e2
        cases q : ps[i]? with
        | none => rw [q] at e2; cases e2
        | some p => rw [q] at e2; exact ⟨p, rfl, (Option.some.inj e2).symm⟩
      refine ⟨TT1, _, rfl, SqT.of upd_same, rfl, _, _, rfl, _, _, rfl, rfl, ?_⟩
      refine ⟨_, rfl, _, rfl, _, rfl, _, rfl, _, _, rfl, SqL.of hD2, fun q hq => ?_⟩
      have S3 := S2.plus (o := .lst (cutV (ps.map fun p => V.str p.name) none (some (i : Nat)))) hq
      refine ⟨q, _, rfl, .inl (SqL.of upd_same), rfl, ?_, _, rfl, ?_⟩
      · exact cut_all (by rw [List.all_map]; exact List.all_eq_true.mpr fun _ _ => rfl)
      · have hil := (List.getElem?_eq_some_iff.mp hpi).1
        have hD3 := (upd_ne (o := .lst (cutV (ps.map fun p => V.str p.name) none (some (i : Nat)))) (ne_of_none hD2 hq)).trans hD2
        rw [cut_take _ i (by rw [dl]; omega)] at S3 hD3 ⊢
        refine ite2 (fun z => ?_) (fun _ => ?_)
        · rw [show (if false = true then !inV (V.str p.name) ((ps.map fun p => V.str p.name).take i) else inV (V.str p.name) ((ps.map fun p => V.str p.name).take i)) = inV (V.str p.name) ((ps.map fun p => V.str p.name).take i) from rfl, inV_no ok.nd hpi] at z
          exact Bool.noConfusion z
        · exact ⟨S3, hD3, _, _, _, rfl⟩
    rintro σ H3 ⟨S3, hd3, u3, v3, t3, rfl⟩
    refine ⟨_, rfl, _, _, rfl, .inr (SqT.of (S3 _ _ hlt)), _, _, rfl, rfl, _, rfl, iteD (fun z => ?_) (fun _ => ?_)⟩
    · exfalso
      rw [List.length_map] at z
      omega
    have hx3 := S3 _ _ hx
    refine ⟨_, rfl, _, rfl, _, _, _, _, rfl, hx3, T.c_Fence, T.a_Fence_listed, by show 0 < 1000; decide, ?_⟩
    have nDx : D ≠ x := fun z => by rw [z, hx] at hD0; cases hD0
    have hd4 : upd H3 x (.ins (aF K) dx (putF "listed" (.ref lt) [])) D = some (.lst (ps.map fun p => V.str p.name)) := (upd_ne nDx).trans hd3
    have k4 : Kp x H (upd H3 x (.ins (aF K) dx (putF "listed" (.ref lt) []))) := Kp.put fun b o _ e => S3 _ _ e
    refine ⟨_, rfl, D, _, rfl, SqL.of hd4, fun pl hpl => ?_⟩
    have npx : pl ≠ x := fun z => by rw [z, upd_same] at hpl; cases hpl
    have npD : pl ≠ D := fun z => by rw [z, hd4] at hpl; cases hpl
    have hpl0 : H pl = none := by
      cases q : H pl with
      | none => rfl
      | some o => rw [k4 _ _ npx q] at hpl; cases hpl
    refine dc_it walk_enum (fun i H' => Kp x H H' ∧ H' x = some (.ins (aF K) dx (putF "listed" (.ref lt) [])) ∧ H' D = some (.lst (ps.map fun p => V.str p.name)) ∧ H' pl = some (.dK (nmKvs (ps.take i)))) ⟨fun b o n e => ?_, ?_, ?_, upd_same⟩ (fun i H' _ h => SqL.of h.2.2.1) ?_ ?_
    · rw [upd_ne (ne_of_none e hpl0)]
      exact k4 _ _ n e
    · rw [upd_ne npx.symm, upd_same]
    · rw [upd_ne npD.symm, hd4]
    · rintro i y H5 H6 hi ⟨k5, hx5, hd5, hp5⟩ ⟨TT1, a0, b0, rfl, hT, rfl, e1, e2⟩
      cases e1
      obtain ⟨p, hpi, rfl⟩ : ∃ p, ps[i]? = some p ∧ b0 = .str p.name := by
        have e2 : (ps.map fun p => V.str p.name)[i]? = some b0 := e2
        rw [List.getElem?_map] at e2
        cases q : ps[i]? with
        | none => rw [q] at e2; cases e2
        | some p => rw [q] at e2; exact ⟨p, rfl, (Option.some.inj e2).symm⟩
      have n1 : pl ≠ TT1 := ne_of_none hp5 hT
      have n2 : x ≠ TT1 := ne_of_none hx5 hT
      have n3 : D ≠ TT1 := ne_of_none hd5 hT
      refine ⟨TT1, _, rfl, SqT.of upd_same, rfl, _, _, rfl, _, _, rfl, rfl, ?_⟩
      refine ⟨rfl, _, rfl, _, rfl, _, Sum.inr p.name, rfl, (upd_ne n1).trans hp5, ?_, fun b o n e => ?_, ?_, ?_, ?_⟩
      · unfold nmKvs
        rw [List.length_map, List.length_zipIdx, List.length_take]
        exact Nat.lt_of_lt_of_le (show _ < 9 by omega) (by decide)
      · rw [upd_ne (ne_of_none e hpl0), upd_ne (ne_of_none (k5 _ _ n e) hT)]
        exact k5 _ _ n e
      · rw [upd_ne npx.symm, upd_ne n2, hx5]
      · rw [upd_ne npD.symm, upd_ne n3, hd5]
      · rw [upd_same, putK_new _ (nmKvs_none ok.nd hpi), ← nmKvs_take hpi]
    · rintro H5 ⟨k5, hx5, hd5, hp5⟩
      refine ⟨_, rfl, _, _, _, _, rfl, hx5, T.c_Fence, T.a_Fence_places, by show 1 < 1000; decide, ?_⟩
      rw [dl, List.take_length] at hp5
      exact k pl _ upd_same ((upd_ne npx).trans hp5) (Kp.put k5)
end
end Pp

end
section
set_option Elab.async false
set_option linter.all false
set_option maxRecDepth 100000
set_option maxHeartbeats 4000000
/-! Fences used. -/
namespace Pp
open PySem PySem.Spec PyProof.Rows L2 StX Rg NdefX LamX
section
variable {P : Program} {w : World} {K : PySem.W.Frag} {mg : Str → Option Value} {base : Heap}
/-- a new fence -/
def newF (K : PySem.W.Frag) (ps : List Pt) (H : Hp) (Q : VK) : Prop := ∀ r H', H r = none → FAt K H' r ps → Same H H' → Q (.ref r) H'
theorem made_f {H : Hp} {as : List Addr} {ps : List Pt} {Q : VK} (hp : PAll K H as ps) (ok : FnsOk ps) (h : newF K ps H Q) : ∀ x dx, H x = none → H dx = none → dx ≠ x → spFInit K (.ref x :: as.map V.ref) (upd (upd H dx (.own x)) x (.ins (aF K) dx [])) (fun v H2 => v = .non ∧ Q (.ref x) H2) E0 := by
  intro x dx hx hdx hne
  have S : Same H (upd (upd H dx (.own x)) x (.ins (aF K) dx [])) := fun b o e => by
    rw [upd_ne (ne_of_none e hx), upd_ne (ne_of_none e hdx)]
    exact e
  exact ⟨x, dx, as, ps, rfl, upd_same, hp.same S, ok, fun H' h1 h2 => ⟨rfl, h x H' hx h1 fun b o e => h2 b o (ne_of_none e hx) (S b o e)⟩⟩
theorem PAt.kp {x a : Addr} {H H' : Hp} {p : Pt} (h : PAt K H a p) (k : Kp x H H') (hx : (∃ xs, H x = some (.lst xs)) ∨ (∃ kvs, H x = some (.dK kvs)) ∨ H x = none) : PAt K H' a p := by
  obtain ⟨dx, t, h1, h2⟩ := h
  refine ⟨dx, t, k _ _ (fun z => ?_) h1, k _ _ (fun z => ?_) h2⟩
  · subst z
    rcases hx with ⟨xs, hx⟩ | ⟨xs, hx⟩ | hx <;> rw [hx] at h1 <;> cases h1
  · subst z
    rcases hx with ⟨xs, hx⟩ | ⟨xs, hx⟩ | hx <;> rw [hx] at h2 <;> cases h2
theorem PAll.lst {x : Addr} {H H' : Hp} {as : List Addr} {ps : List Pt} {xs : List V} (h : PAll K H as ps) (k : Kp x H H') (hx : H x = some (.lst xs)) : PAll K H' as ps := ⟨h.1, fun i a p h1 h2 => (h.2 i a p h1 h2).kp k (.inl ⟨xs, hx⟩)⟩
theorem PAll.snoc {H : Hp} {as : List Addr} {ps : List Pt} {a : Addr} {p : Pt} (h : PAll K H as ps) (k : PAt K H a p) : PAll K H (as ++ [a]) (ps ++ [p]) := by
  refine ⟨by rw [List.length_append, List.length_append, h.1]; rfl, fun i b q h1 h2 => ?_⟩
  by_cases hi : i < as.length
  · rw [List.getElem?_append_left hi] at h1
    rw [List.getElem?_append_left (by rw [← h.1]; exact hi)] at h2
    exact h.2 i b q h1 h2
  · rw [List.getElem?_append_right (by omega)] at h1
    rw [List.getElem?_append_right (by rw [← h.1]; omega)] at h2
    have e : i - as.length = 0 := by
      have := (List.getElem?_eq_some_iff.mp h1).1
      simp at this
      omega
    rw [e] at h1
    rw [← h.1, e] at h2
    cases h1
    cases h2
    exact k
theorem PAll.nil {H : Hp} : PAll K H [] [] := ⟨rfl, fun i a p h _ => by simp at h⟩
theorem scFP : FnScope ["self"] ["self"] (defScope sFPainters) := ⟨rfl, rfl, rfl, by decide +kernel, rfl, by decide +kernel, by decide +kernel⟩
theorem scFN : FnScope ["self"] ["self"] (defScope sFNames) := ⟨rfl, rfl, rfl, by decide +kernel, rfl, by decide +kernel, by decide +kernel⟩
theorem scFL : FnScope ["self"] ["self"] (defScope sFLen) := ⟨rfl, rfl, rfl, by decide +kernel, rfl, by decide +kernel, by decide +kernel⟩
def spFPainters (K : PySem.W.Frag) : Sp := fun vs H Q _ => ∃ (a lt : Addr) (as : List Addr) (ps : List Pt), vs = [.ref a] ∧ FAtL K H a ps lt as ∧ Q (.ref lt) H
theorem ok_fpainters (T : Tx K mg) : FnR P w K mg base CX0 1 (pg K "Fence" "painters") (spFPainters K) := by
  refine defR T.d_sFPainters scFP (fun _ _ _ _ _ _ us hl => match us, hl with | [_], _ => rfl) (fun vs H Q E h => ?_) (fun cdv A outer s H vs Q E hr h => ?_)
  · obtain ⟨_, _, _, _, rfl, _⟩ := h; rfl
  · obtain ⟨a, lt, as, ps, rfl, ⟨dx, pl, h1, _⟩, q⟩ := h
    refine ⟨_, pss_one (ps_ret (pe_fld (pv 0) rfl)), ?_⟩
    exact ⟨_, rfl, _, _, _, _, _, rfl, h1, T.c_Fence, T.a_Fence_listed, rfl, q⟩
def spFNames (K : PySem.W.Frag) : Sp := fun vs H Q _ => ∃ (a : Addr) (ps : List Pt), vs = [.ref a] ∧ FAt K H a ps ∧ ∀ t, H t = none → Q (.ref t) (upd H t (.tup (ps.map fun p => V.str p.name)))
theorem nmKvs_keys (ps : List Pt) : (nmKvs ps).map (fun kv => kV kv.1) = ps.map fun p => V.str p.name := by
  unfold nmKvs
  rw [List.map_map]
  have : ((fun kv : Key × V => kV kv.1) ∘ fun q : Pt × Nat => ((Sum.inr q.1.name : Key), V.int (q.2 : Nat))) = (fun p : Pt => V.str p.name) ∘ Prod.fst := rfl
  rw [this, ← List.map_map, List.zipIdx_map_fst]
theorem ok_fnames (T : Tx K mg) : FnR P w K mg base CX0 1 (pg K "Fence" "names") (spFNames K) := by
  refine defR T.d_sFNames scFN (fun _ _ _ _ _ _ us hl => match us, hl with | [_], _ => rfl) (fun vs H Q E h => ?_) (fun cdv A outer s H vs Q E hr h => ?_)
  · obtain ⟨_, _, rfl, _⟩ := h; rfl
  · obtain ⟨a, ps, rfl, ⟨lt, as, dx, pl, h1, h2, h3, h4⟩, q⟩ := h
    refine ⟨_, pss_one (ps_ret (pe_callTy (call_tuple_dK rfl) inName T.z_tuple (by decide +kernel) (pa_cons (pe_fld (pv 0) rfl) pa_nil))), ?_⟩
    refine ⟨_, rfl, _, _, _, _, _, rfl, h1, T.c_Fence, T.a_Fence_places, rfl, pl, _, rfl, h4, fun t ht => ?_⟩
    rw [nmKvs_keys]
    exact q t ht
def spFLen (K : PySem.W.Frag) : Sp := fun vs H Q _ => ∃ (a : Addr) (ps : List Pt), vs = [.ref a] ∧ FAt K H a ps ∧ Q (.int ps.length) H
theorem ok_flen (T : Tx K mg) : FnR P w K mg base CX0 1 (ma K (aF K) "__len__") (spFLen K) := by
  refine defR T.d_sFLen scFL (fun _ _ _ _ _ _ us hl => match us, hl with | [_], _ => rfl) (fun vs H Q E h => ?_) (fun cdv A outer s H vs Q E hr h => ?_)
  · obtain ⟨_, _, rfl, _⟩ := h; rfl
  · obtain ⟨a, ps, rfl, ⟨lt, as, dx, pl, h1, h2, h3, h4⟩, q⟩ := h
    refine ⟨_, pss_one (ps_ret (pe_callB call_len_seq inName T.z_len (by decide +kernel) (pa_cons (pe_fld (pv 0) rfl) pa_nil))), ?_⟩
    refine ⟨_, rfl, _, _, _, _, _, rfl, h1, T.c_Fence, T.a_Fence_listed, rfl, lt, _, rfl, .inr (SqT.of h2), ?_⟩
    rw [List.length_map, h3.1]
    exact q
/-! ### fence + painter -/
theorem scFA : FnScope ["self", "painter"] ["self", "painter"] (defScope sFAdd) := ⟨rfl, rfl, rfl, by decide +kernel, rfl, by decide +kernel, by decide +kernel⟩
def spFAdd (K : PySem.W.Frag) : Sp := fun vs H Q _ => ∃ (a b : Addr) (ps : List Pt) (p : Pt), vs = [.ref a, .ref b] ∧ FAt K H a ps ∧ PAt K H b p ∧ FnsOk (ps ++ [p]) ∧ newF K (ps ++ [p]) H Q
theorem ok_fadd (T : Tx K mg) : FnR P w K mg base CX0 5 (ma K (aF K) "__add__") (spFAdd K) := by
  refine defR T.d_sFAdd scFA (fun _ _ _ _ _ _ us hl => match us, hl with | [_, _], _ => rfl) (fun vs H Q E h => ?_) (fun cdv A outer s H vs Q E hr h => ?_)
  · obtain ⟨_, _, _, _, rfl, _⟩ := h; rfl
  · obtain ⟨a, b, ps, p, rfl, ⟨lt, as, dx, pl, h1, h2, h3, h4⟩, hb, ok, q⟩ := h
    obtain ⟨dx2, t2, k1, k2⟩ := id hb
    refine ⟨_, pss_cons (ps_if (pt_not (pt_val (pe_callB call_isi inName T.z_isinstance (by decide +kernel) (pa_cons (pv 1) (pa_cons (pe_glob (v := .ref (aP K)) inName T.g_Painter rfl) pa_nil))))) pss_never pss_nil)
      <| pss_one (ps_ret (pe_makeS2 T.k_Fence (ok_finit T) hr inName T.g_Fence pass0 (pe_fld (pv 0) rfl) (pv 1))), ?_⟩
    refine ⟨_, rfl, _, _, _, _, true, rfl, .own _, .base (.ins k1 T.c_Painter T.o_is_Painter.ha T.o_is_Painter.hn T.o_is_Painter.ht T.o_is_Painter.hm), T.o_is_Painter.me, _, rfl, iteF ?_⟩
    refine ⟨_, rfl, _, _, _, _, _, rfl, h1, T.c_Fence, T.a_Fence_listed, rfl, lt, _, rfl, .inl (SqT.of h2), _, rfl, ?_⟩
    have e : as.map V.ref ++ [V.ref b] = (as ++ [b]).map V.ref := by rw [List.map_append]; rfl
    show ∀ x dx, H x = none → H dx = none → dx ≠ x → _
    rw [e]
    exact made_f (h3.snoc hb) ok q
theorem own_add (T : Tx K mg) : OwnAdd K (aF K) (aP K) (ma K (aF K) "__add__") (ma K (aP K) "__add__") := by
  refine ⟨T.o_first_Fence, T.o_first_Painter, fun e => ?_, T.o_Fence_add.1, T.o_Fence_add.2, T.o_no_Fence_radd, T.o_Painter_add.1, T.o_no_Painter_radd, T.o_sub⟩
  obtain ⟨fd1, F1⟩ := T.d_sFInit
  obtain ⟨fd2, F2⟩ := T.d_sPInit
  obtain ⟨_, _, _, _, _, _, _, _, _, e1, l1, _⟩ := F1.ex
  obtain ⟨_, _, _, _, _, _, _, _, _, e2, l2, _⟩ := F2.ex
  rw [e1] at l1
  rw [e2] at l2
  have e3 : ga K "Fence" = ga K "Painter" := e
  rw [e3, l2] at l1
  have q := congrArg Obj.data (Option.some.inj l1)
  injection q with q
  have q2 : (("Painter" : Str) ++ "." ++ "__init__") = (("Fence" : Str) ++ "." ++ "__init__") := congrArg FuncData.qualname q
  exact absurd q2 (by decide +kernel)
end
end Pp

end
section
set_option Elab.async false
set_option linter.all false
set_option maxRecDepth 100000
set_option maxHeartbeats 4000000
/-! Fences moved, mirrored, widened. -/
namespace Pp
open PySem PySem.Spec PyProof.Rows L2 StX Rg NdefX LamX
section
variable {P : Program} {w : World} {K : PySem.W.Frag} {mg : Str → Option Value} {base : Heap}
def movP (a d : Int) (p : Pt) : Pt := ⟨p.name, p.day + d, p.post + a, p.stride⟩
def widP (f : Int) (p : Pt) : Pt := ⟨p.name, p.day, p.post * f, p.stride * f⟩
theorem mk_same {H1 H3 : Hp} {c dxc : Addr} {o1 o2 : HO} (k3 : Kp c (upd (upd H1 dxc o1) c o2) H3) (hc : H1 c = none) (hdc : H1 dxc = none) : Same H1 H3 := fun b o e => k3 b o (ne_of_none e hc) (by rw [upd_ne (ne_of_none e hc), upd_ne (ne_of_none e hdc)]; exact e)
theorem fns_map {ps : List Pt} {g : Pt → Pt} (ok : FnsOk ps) (hg : ∀ p, (g p).name = p.name) : FnsOk (ps.map g) := by
  refine ⟨?_, by rw [List.length_map]; exact ok.len⟩
  rw [List.map_map]
  have : (Pt.name ∘ g) = Pt.name := funext hg
  rw [this]
  exact ok.nd
theorem take_map {ps : List Pt} {g : Pt → Pt} {i : Nat} {p : Pt} (h : ps[i]? = some p) : (ps.take (i + 1)).map g = (ps.take i).map g ++ [g p] := by
  obtain ⟨hi, e⟩ := List.getElem?_eq_some_iff.mp h
  rw [List.take_succ_eq_append_getElem hi, List.map_append, e]
  rfl
abbrev NMv : List Str := ["self", "posts", "days", "found", "painter"]
theorem scMv : FnScope NMv ["self", "posts", "days"] (defScope sFMoved) := ⟨rfl, rfl, rfl, by decide +kernel, rfl, by decide +kernel, by decide +kernel⟩
def spMoved (K : PySem.W.Frag) : Sp := fun vs H Q _ => ∃ (a : Addr) (ps : List Pt) (po d : Int), vs = [.ref a, .int po, .int d] ∧ FAt K H a ps ∧ FnsOk ps ∧ (∀ p ∈ ps, PtOk (movP po d p)) ∧ newF K (ps.map (movP po d)) H Q
theorem ok_moved (T : Tx K mg) : FnR P w K mg base CX0 5 (ma K (aF K) "moved") (spMoved K) := by
  refine defR T.d_sFMoved scMv (fun _ _ _ _ _ _ us hl => match us, hl with | [_, _, _], _ => rfl) (fun vs H Q E h => ?_) (fun cdv A outer s H vs Q E hr h => ?_)
  · obtain ⟨_, _, _, _, rfl, _⟩ := h; rfl
  · obtain ⟨a, ps, po, d, rfl, ⟨lt, as, dx, pl, h1, h2, h3, h4⟩, ok, okp, q⟩ := h
    have nd := scMv.nd
    have hr2 : Room 2 _ := hr.mono (by decide)
    refine ⟨_, pss_cons (ps_set (i := 3) nd rfl (.inl rfl) (pe_lst pa_nil))
      <| pss_cons (ps_for PassesOwn.never rfl (pi_tup (pe_fld (pv 0) rfl)) (pg_name (i := 4) nd rfl (.inl rfl))
        (pss_one (ps_expr (pe_bm PySem.F.plainAttrs_list PySem.F.slot_list_append PySem.F.type_list_append mt_append (pv 3) (pa_cons (pe_makeR T.k_Painter (ok_pinit T) hr inName T.g_Painter pass0
          (pa_cons (pe_propR (pv 4) T.c_Painter T.p_Painter_name (ok_pname T) hr2) (pa_cons (pe_op op_add (pe_propR (pv 4) T.c_Painter T.p_Painter_day (ok_pday T) hr2) (pv 2)) (pa_cons (pe_op op_add (pe_propR (pv 4) T.c_Painter T.p_Painter_post (ok_ppost T) hr2) (pv 1))
            (pa_cons (pe_propR (pv 4) T.c_Painter T.p_Painter_stride (ok_pstride T) hr2) pa_nil))))) pa_nil)))))
      <| pss_one (ps_ret (pe_makeS T.k_Fence (ok_finit T) hr inName T.g_Fence pass0 (pv 3))), ?_⟩
    refine ⟨Nat.zero_le _, fun l hl => ?_⟩
    have S0 := Same.new (o := .lst []) hl
    refine ⟨_, rfl, _, _, _, _, _, rfl, S0 _ _ h1, T.c_Fence, T.a_Fence_listed, rfl, lt, rfl, ⟨_, SqT.of (S0 _ _ h2)⟩, ?_⟩
    refine for_it walk_tup (fun i σ H' => Same H H' ∧ ∃ bs v, σ = [some (.ref a), some (.int po), some (.int d), some (.ref l), v] ∧ H' l = some (.lst (bs.map V.ref)) ∧ PAll K H' bs ((ps.take i).map (movP po d))) ⟨S0, [], _, rfl, upd_same, PAll.nil⟩ (fun i σ H' _ h => SqT.of (h.1 _ _ h2)) ?_ ?_
    · rintro i y σ H1 H2 hi ⟨S1, bs, v, rfl, hb, hbs⟩ ⟨rfl, e2⟩
      obtain ⟨b, hbi, rfl⟩ := ref_ix e2
      obtain ⟨p, hpi, hpa⟩ := h3.get hbi
      have hp := hpa.same S1
      obtain ⟨dx2, t2, k1, k2⟩ := id hp
      refine ⟨_, rfl, .inl ⟨rfl, _, SqL.of hb⟩, _, rfl, _, _, _, rfl, k1, b, p, rfl, hp, _, rfl, _, _, _, rfl, k1, b, p, rfl, hp, _, rfl, _, _, rfl, rfl, _, rfl, _, _, _, rfl, k1, b, p, rfl, hp, _, rfl, _, _, rfl, rfl, _, rfl, _, _, _, rfl, k1, b, p, rfl, hp, ?_⟩
      intro c dxc hc hdc hne
      refine ⟨c, dxc, movP po d p, rfl, upd_same, okp p (List.mem_of_getElem? hpi), fun H3 hpc k3 => ⟨rfl, ?_⟩⟩
      have S3 := mk_same k3 hc hdc
      have hb3 := S3 _ _ hb
      refine ⟨l, _, _, rfl, rfl, hb3, ?_, ?_⟩
      · rw [List.length_map, hbs.1, List.length_map, List.length_take]
        have := ok.len
        exact Nat.lt_of_le_of_lt (show _ ≤ 8 by omega) (by decide)
      have k4 : Kp l H3 (upd H3 l (.lst (bs.map V.ref ++ [.ref c]))) := Kp.put fun b o _ e => e
      refine ⟨fun x o e => ?_, bs ++ [c], _, rfl, ?_, ?_⟩
      · rw [upd_ne (ne_of_none e hl)]
        exact S3 _ _ (S1 _ _ e)
      · rw [upd_same, List.map_append]; rfl
      · rw [take_map hpi]
        exact ((hbs.same S3).lst k4 hb3).snoc (hpc.kp k4 (.inl ⟨_, hb3⟩))
    rintro σ H1 ⟨S1, bs, v, rfl, hb, hbs⟩
    rw [List.length_map, h3.1, List.take_length] at hbs
    refine ⟨_, rfl, l, _, rfl, .inr (SqL.of hb), ?_⟩
    show ∀ x dx, H1 x = none → H1 dx = none → dx ≠ x → _
    rw [List.append_nil]
    exact made_f hbs (fns_map ok fun _ => rfl) fun r H2 hr2 hf S2 => q r H2 (S1.free hr2) hf (S1.trans S2)
abbrev NMi : List Str := ["self", "found", "painter"]
theorem scMi : FnScope NMi ["self"] (defScope sFMirrored) := ⟨rfl, rfl, rfl, by decide +kernel, rfl, by decide +kernel, by decide +kernel⟩
def spMirrored (K : PySem.W.Frag) : Sp := fun vs H Q _ => ∃ (a : Addr) (ps : List Pt), vs = [.ref a] ∧ FAt K H a ps ∧ FnsOk ps ∧ (∀ p ∈ ps, PtOk p) ∧ newF K (ps.map negP) H Q
theorem ok_mirrored (T : Tx K mg) : FnR P w K mg base CX0 6 (ma K (aF K) "mirrored") (spMirrored K) := by
  refine defR T.d_sFMirrored scMi (fun _ _ _ _ _ _ us hl => match us, hl with | [_], _ => rfl) (fun vs H Q E h => ?_) (fun cdv A outer s H vs Q E hr h => ?_)
  · obtain ⟨_, _, rfl, _⟩ := h; rfl
  · obtain ⟨a, ps, rfl, ⟨lt, as, dx, pl, h1, h2, h3, h4⟩, ok, okp, q⟩ := h
    have nd := scMi.nd
    have hr4 : Room 4 _ := hr.mono (by decide)
    have ok8 := ok.len
    refine ⟨_, pss_cons (ps_setLc (i := 1) (own := [("painter", 2)]) (g := gName 2) (tt := tYes) rfl nd rfl rfl (sw_true rfl rfl rfl (by decide +kernel)) (pi_tup (pe_fld (pv 0) rfl)) (blkOk_by (N := NMi) (sc := defScope sFMirrored) (by decide +kernel)) (fun _ _ _ _ _ => pg_name (i := 2) nd rfl (Or.inl rfl)) (fun _ _ _ _ _ => pts_nil)
        (fun _ _ _ _ _ => pe_un (un_negOwn T.o_Painter_neg.1 T.o_Painter_neg.2 (ok_pneg T) hr pass0) (pv 2)))
      <| pss_one (ps_ret (pe_makeS T.k_Fence (ok_finit T) hr4 inName T.g_Fence pass0 (pv 1))), ?_⟩
    refine ⟨_, rfl, _, _, _, _, _, rfl, h1, T.c_Fence, T.a_Fence_listed, rfl, lt, rfl, ⟨_, SqT.of h2⟩, fun D hD => ?_⟩
    refine lc_it walk_tup (fun i H' => Same H H' ∧ ∃ bs, H' D = some (.lst (bs.map V.ref)) ∧ PAll K H' bs ((ps.take i).map negP)) ⟨Same.new hD, [], upd_same, PAll.nil⟩ (fun i H' _ h => SqT.of (h.1 _ _ h2)) ?_ ?_
    · rintro i y H1 H2 hi ⟨S1, bs, hb, hbs⟩ ⟨rfl, e2⟩
      obtain ⟨b, hbi, rfl⟩ := ref_ix e2
      obtain ⟨p, hpi, hpa⟩ := h3.get hbi
      have hp := hpa.same S1
      obtain ⟨dx2, t2, k1, k2⟩ := id hp
      refine ⟨rfl, _, rfl, _, _, _, rfl, k1, b, p, rfl, hp, okp p (List.mem_of_getElem? hpi), fun c H3 hc hpc S3 => ?_⟩
      have hb3 := S3 _ _ hb
      have k4 : Kp D H3 (upd H3 D (.lst (bs.map V.ref ++ [.ref c]))) := Kp.put fun b o _ e => e
      refine ⟨_, hb3, ?_, fun x o e => ?_, bs ++ [c], ?_, ?_⟩
      · rw [List.length_map, hbs.1, List.length_map, List.length_take]
        exact Nat.lt_of_le_of_lt (show _ ≤ 8 by omega) (by decide)
      · rw [upd_ne (ne_of_none e hD)]
        exact S3 _ _ (S1 _ _ e)
      · rw [upd_same, List.map_append]; rfl
      · rw [take_map hpi]
        exact ((hbs.same S3).lst k4 hb3).snoc (hpc.kp k4 (.inl ⟨_, hb3⟩))
    rintro H1 ⟨S1, bs, hb, hbs⟩
    rw [List.length_map, h3.1, List.take_length] at hbs
    refine ⟨_, rfl, D, _, rfl, .inr (SqL.of hb), ?_⟩
    show ∀ x dx, H1 x = none → H1 dx = none → dx ≠ x → _
    rw [List.append_nil]
    exact made_f hbs (fns_map ok fun _ => rfl) fun r H2 hr2 hf S2 => q r H2 (S1.free hr2) hf (S1.trans S2)
abbrev NWi : List Str := ["self", "factor", "found", "painter"]
theorem scWi : FnScope NWi ["self", "factor"] (defScope sFWidened) := ⟨rfl, rfl, rfl, by decide +kernel, rfl, by decide +kernel, by decide +kernel⟩
def spWidened (K : PySem.W.Frag) : Sp := fun vs H Q _ => ∃ (a : Addr) (ps : List Pt) (f : Int), vs = [.ref a, .int f] ∧ 1 ≤ f ∧ f ≤ 1000000000000000000 ∧ FAt K H a ps ∧ FnsOk ps ∧ (∀ p ∈ ps, PtOk (widP f p)) ∧ newF K (ps.map (widP f)) H Q
theorem ok_widened (T : Tx K mg) : FnR P w K mg base CX0 5 (ma K (aF K) "widened") (spWidened K) := by
  obtain ⟨tn, hN⟩ := T.n_MAX_STRIDE
  refine defR T.d_sFWidened scWi (fun _ _ _ _ _ _ us hl => match us, hl with | [_, _], _ => rfl) (fun vs H Q E h => ?_) (fun cdv A outer s H vs Q E hr h => ?_)
  · obtain ⟨_, _, _, rfl, _⟩ := h; rfl
  · obtain ⟨a, ps, f, rfl, f0, f1, ⟨lt, as, dx, pl, h1, h2, h3, h4⟩, ok, okp, q⟩ := h
    have nd := scWi.nd
    have hr2 : Room 2 _ := hr.mono (by decide)
    refine ⟨_, pss_cons (ps_if (pt_not (pt_val (pe_fn (ok_between T) hr2 inName T.g_is_between (kpOf T.d_sIsBetween) pass0 (pa_cons (pv 1) (pa_cons pe_int (pa_cons (pe_glob (v := .int 1000000000000000000) inName hN ⟨tn, rfl⟩) pa_nil)))))) pss_never pss_nil)
      <| pss_cons (ps_set (i := 2) nd rfl (.inl rfl) (pe_lst pa_nil))
      <| pss_cons (ps_for PassesOwn.never rfl (pi_tup (pe_fld (pv 0) rfl)) (pg_name (i := 3) nd rfl (.inl rfl))
        (pss_one (ps_expr (pe_bm PySem.F.plainAttrs_list PySem.F.slot_list_append PySem.F.type_list_append mt_append (pv 2) (pa_cons (pe_makeR T.k_Painter (ok_pinit T) hr inName T.g_Painter pass0
          (pa_cons (pe_propR (pv 3) T.c_Painter T.p_Painter_name (ok_pname T) hr2) (pa_cons (pe_propR (pv 3) T.c_Painter T.p_Painter_day (ok_pday T) hr2) (pa_cons (pe_op op_mul (pe_propR (pv 3) T.c_Painter T.p_Painter_post (ok_ppost T) hr2) (pv 1))
            (pa_cons (pe_op op_mul (pe_propR (pv 3) T.c_Painter T.p_Painter_stride (ok_pstride T) hr2) (pv 1)) pa_nil))))) pa_nil)))))
      <| pss_one (ps_ret (pe_makeS T.k_Fence (ok_finit T) hr inName T.g_Fence pass0 (pv 2))), ?_⟩
    refine ⟨_, rfl, _, _, _, rfl, _, rfl, iteND (fun z => absurd ⟨f0, f1⟩ z) (fun _ => ?_)⟩
    refine ⟨Nat.zero_le _, fun l hl => ?_⟩
    have S0 := Same.new (o := .lst []) hl
    refine ⟨_, rfl, _, _, _, _, _, rfl, S0 _ _ h1, T.c_Fence, T.a_Fence_listed, rfl, lt, rfl, ⟨_, SqT.of (S0 _ _ h2)⟩, ?_⟩
    refine for_it walk_tup (fun i σ H' => Same H H' ∧ ∃ bs v, σ = [some (.ref a), some (.int f), some (.ref l), v] ∧ H' l = some (.lst (bs.map V.ref)) ∧ PAll K H' bs ((ps.take i).map (widP f))) ⟨S0, [], _, rfl, upd_same, PAll.nil⟩ (fun i σ H' _ h => SqT.of (h.1 _ _ h2)) ?_ ?_
    · rintro i y σ H1 H2 hi ⟨S1, bs, v, rfl, hb, hbs⟩ ⟨rfl, e2⟩
      obtain ⟨b, hbi, rfl⟩ := ref_ix e2
      obtain ⟨p, hpi, hpa⟩ := h3.get hbi
      have hp := hpa.same S1
      obtain ⟨dx2, t2, k1, k2⟩ := id hp
      refine ⟨_, rfl, .inl ⟨rfl, _, SqL.of hb⟩, _, rfl, _, _, _, rfl, k1, b, p, rfl, hp, _, rfl, _, _, _, rfl, k1, b, p, rfl, hp, _, rfl, _, _, _, rfl, k1, b, p, rfl, hp, _, rfl, _, _, rfl, rfl, mul64r (by omega) (by omega), _, rfl, _, _, _, rfl, k1, b, p, rfl, hp, _, rfl, _, _, rfl, rfl, mul64r (by omega) (by omega), ?_⟩
      intro c dxc hc hdc hne
      refine ⟨c, dxc, widP f p, rfl, upd_same, okp p (List.mem_of_getElem? hpi), fun H3 hpc k3 => ⟨rfl, ?_⟩⟩
      have S3 := mk_same k3 hc hdc
      have hb3 := S3 _ _ hb
      refine ⟨l, _, _, rfl, rfl, hb3, ?_, ?_⟩
      · rw [List.length_map, hbs.1, List.length_map, List.length_take]
        have := ok.len
        exact Nat.lt_of_le_of_lt (show _ ≤ 8 by omega) (by decide)
      have k4 : Kp l H3 (upd H3 l (.lst (bs.map V.ref ++ [.ref c]))) := Kp.put fun b o _ e => e
      refine ⟨fun x o e => ?_, bs ++ [c], _, rfl, ?_, ?_⟩
      · rw [upd_ne (ne_of_none e hl)]
        exact S3 _ _ (S1 _ _ e)
      · rw [upd_same, List.map_append]; rfl
      · rw [take_map hpi]
        exact ((hbs.same S3).lst k4 hb3).snoc (hpc.kp k4 (.inl ⟨_, hb3⟩))
    rintro σ H1 ⟨S1, bs, v, rfl, hb, hbs⟩
    rw [List.length_map, h3.1, List.take_length] at hbs
    refine ⟨_, rfl, l, _, rfl, .inr (SqL.of hb), ?_⟩
    show ∀ x dx, H1 x = none → H1 dx = none → dx ≠ x → _
    rw [List.append_nil]
    exact made_f hbs (fns_map ok fun _ => rfl) fun r H2 hr2 hf S2 => q r H2 (S1.free hr2) hf (S1.trans S2)
end
end Pp

end
section
set_option linter.all false
/-! The model of a ring's stops. -/
namespace Rg
open Pp (lexI lexI_irr lexI_tr lexI_as lexI_anti gd_step gd_zero)
/-! ### crossings exist -/
theorem bez : ∀ (k : Nat) (a b : Int), 0 ≤ b → b.toNat ≤ k → 0 ≤ a → ∃ x y, x * a + y * b = gd a b
  | 0, a, b, h0, h1, ha => by
    have : b = 0 := by omega
    subst this
    exact ⟨1, 0, by rw [gd_zero ha]; omega⟩
  | k + 1, a, b, h0, h1, ha => by
    by_cases hb : b = 0
    · subst hb
      exact ⟨1, 0, by rw [gd_zero ha]; omega⟩
    · have e := Int.fmod_eq_emod_of_nonneg a h0
      have l1 := Int.emod_nonneg a hb
      have l2 := Int.emod_lt_of_pos a (show 0 < b by omega)
      obtain ⟨x, y, h⟩ := bez k b (a.fmod b) (by omega) (by omega) h0
      rw [gd_step hb, e] at h
      have d := Int.mul_ediv_add_emod a b
      exact ⟨y, x - y * (a / b), by grind⟩
theorem inv_ex {a m : Int} (ha : 0 ≤ a) (hm : 0 < m) (h : gd a m = 1) : ∃ r, m ∣ r * a - 1 := by
  obtain ⟨x, y, e⟩ := bez m.toNat a m (by omega) (Nat.le_refl _) ha
  rw [h] at e
  exact ⟨x, -y, by grind⟩
structure Wk where
  day : Int
  post : Int
  stride : Int
def IsRC (n : Int) (p q : Wk) (r : RC) : Prop := RCS n (p.day - q.day) (p.post - q.post) (p.stride % n) (q.stride % n) r
theorem rc_ex {n : Int} (hn : 0 < n) (p q : Wk) : ∃ r, IsRC n p q r := by
  have a0 := Int.emod_nonneg p.stride (show n ≠ 0 by omega)
  have b0 := Int.emod_nonneg q.stride (show n ≠ 0 by omega)
  obtain ⟨r1, h1⟩ := inv_ex (Int.ediv_nonneg a0 (gd_nn _ _)) (step_pos (a := p.stride % n) (b := q.stride % n) hn) (inv_one hn)
  obtain ⟨t, h2⟩ := inv_ex (Int.ediv_nonneg b0 (gd_nn _ _)) (cyc_pos (b := q.stride % n) hn) (inv_two hn)
  exact ⟨_, rcs_mk hn h1 h2⟩
noncomputable def rcC (n : Int) (p q : Wk) : RC := @Classical.epsilon RC ⟨⟨0, 0, 0, true, 0, 0, 0, 0⟩⟩ (IsRC n p q)
theorem rcC_ok {n : Int} (hn : 0 < n) (p q : Wk) : IsRC n p q (rcC n p q) := @Classical.epsilon_spec _ _ (rc_ex hn p q)
noncomputable def fbC (n : Int) (p q : Wk) (c : Option Int) (e : Bool) : Option Int := fb (rcC n p q) c e
theorem gd_one (n : Int) : gd 1 n = 1 := by unfold gd; simp
theorem fbC_eq {n : Int} {p q : Wk} {r : RC} (hn : 0 < n) (h : IsRC n p q r) (c : Option Int) (e : Bool) : fb r c e = fbC n p q c e :=
  fb_uniq (RCS.uniq hn (rcC_ok hn p q) h (gd_one n) ⟨0, by omega⟩ ⟨0, by omega⟩ ⟨0, by omega⟩) c e
/-! ### the least of a list -/
def IsMin (l : List (List Int)) : Option (List Int) → Prop
  | none => l = []
  | some y => y ∈ l ∧ ∀ z ∈ l, lexI z y = false
theorem IsMin.uniq {l : List (List Int)} {o o' : Option (List Int)} (h : IsMin l o) (h' : IsMin l o') : o = o' := by
  cases o with
  | none =>
    cases o' with
    | none => rfl
    | some y =>
      have h : l = [] := h
      rw [h] at h'
      exact absurd h'.1 (by simp)
  | some x =>
    cases o' with
    | none =>
      have h' : l = [] := h'
      rw [h'] at h
      exact absurd h.1 (by simp)
    | some y => rw [lexI_anti (h'.2 x h.1) (h.2 y h'.1)]
theorem min_ex : ∀ l : List (List Int), ∃ o, IsMin l o
  | [] => ⟨none, rfl⟩
  | x :: xs => by
    obtain ⟨o, h⟩ := min_ex xs
    cases o with
    | none =>
      have h : xs = [] := h
      subst h
      refine ⟨some x, List.mem_cons_self, fun z hz => ?_⟩
      rw [List.mem_singleton.mp hz]
      exact lexI_irr x
    | some y =>
      cases q : lexI x y with
      | true =>
        refine ⟨some x, List.mem_cons_self, fun z hz => ?_⟩
        rcases List.mem_cons.mp hz with rfl | hz
        · exact lexI_irr z
        · exact lexI_tr (h.2 z hz) (lexI_as q)
      | false =>
        refine ⟨some y, List.mem_cons_of_mem _ h.1, fun z hz => ?_⟩
        rcases List.mem_cons.mp hz with rfl | hz
        · exact q
        · exact h.2 z hz
noncomputable def minL (l : List (List Int)) : Option (List Int) := Classical.epsilon (IsMin l)
theorem minL_ok (l : List (List Int)) : IsMin l (minL l) := Classical.epsilon_spec (min_ex l)
theorem minL_eq {l : List (List Int)} {o : Option (List Int)} (h : IsMin l o) : minL l = o := (minL_ok l).uniq h
/-! ### the stops -/
structure Cf where
  n : Int
  ps : List Wk
def Cf.at (C : Cf) (i : Nat) : Wk := C.ps.getD i ⟨0, 0, 0⟩
abbrev Cf.m (C : Cf) : Nat := C.ps.length
def limAt (lim : List (Option Int)) (j : Nat) : Option Int := lim.getD j none
noncomputable def cand (C : Cf) (lim : List (Option Int)) (i j : Nat) : Option Int :=
  if i = j then some (C.n / gd ((C.at i).stride % C.n) C.n) else fbC C.n (C.at i) (C.at j) (limAt lim j) (decide (j < i))
noncomputable def stopsAt (C : Cf) (lim : List (Option Int)) (i : Nat) : List (List Int) :=
  if (limAt lim i).isSome = true then [] else (List.range C.m).filterMap fun j => (cand C lim i j).map fun c => [(C.at i).day + c, (i : Int), c, (j : Int)]
noncomputable def stopL (C : Cf) (lim : List (Option Int)) : List (List Int) := (List.range C.m).flatMap fun i => stopsAt C lim i
theorem mem_stop {C : Cf} {lim : List (Option Int)} {s : List Int} : s ∈ stopL C lim ↔ ∃ i j c, i < C.m ∧ j < C.m ∧ limAt lim i = none ∧ cand C lim i j = some c ∧ s = [(C.at i).day + c, (i : Int), c, (j : Int)] := by
  unfold stopL stopsAt
  rw [List.mem_flatMap]
  constructor
  · rintro ⟨i, hi, h⟩
    split at h
    · exact absurd h (by simp)
    · rename_i hn
      obtain ⟨j, hj, e⟩ := List.mem_filterMap.mp h
      obtain ⟨c, hc, rfl⟩ := Option.map_eq_some_iff.mp e
      refine ⟨i, j, c, List.mem_range.mp hi, List.mem_range.mp hj, ?_, hc, rfl⟩
      cases q : limAt lim i with
      | none => rfl
      | some v => rw [q] at hn; exact absurd rfl hn
  · rintro ⟨i, j, c, hi, hj, hl, hc, rfl⟩
    refine ⟨i, List.mem_range.mpr hi, ?_⟩
    rw [hl, if_neg (by simp)]
    exact List.mem_filterMap.mpr ⟨j, List.mem_range.mpr hj, by rw [hc]; rfl⟩
def nth (s : List Int) (k : Nat) : Int := s.getD k 0
def put (lim : List (Option Int)) (s : List Int) : List (Option Int) := lim.set (nth s 1).toNat (some (nth s 2))
noncomputable def runS (C : Cf) : Nat → List (Option Int) → List (List Int)
  | 0, _ => []
  | k + 1, lim => match minL (stopL C lim) with
    | none => []
    | some s => s :: runS C k (put lim s)
/-- how many are not settled -/
def opens (lim : List (Option Int)) : Nat := lim.countP fun o => o.isNone
theorem open_pos {C : Cf} {lim : List (Option Int)} {s : List Int} (hl : lim.length = C.m) (h : s ∈ stopL C lim) : opens (put lim s) + 1 = opens lim ∧ (put lim s).length = C.m := by
  obtain ⟨i, j, c, hi, hj, hn, hc, rfl⟩ := mem_stop.mp h
  refine ⟨?_, by unfold put; rw [List.length_set]; exact hl⟩
  unfold opens put
  have e1 : (nth [(C.at i).day + c, (i : Int), c, (j : Int)] 1).toNat = i := by show ((i : Int)).toNat = i; omega
  rw [e1]
  have hil : i < lim.length := by omega
  have e2 : lim[i] = none := by
    unfold limAt at hn
    rw [List.getD_eq_getElem?_getD, List.getElem?_eq_getElem hil] at hn
    exact hn
  have h1 : List.countP (fun o : Option Int => o.isNone) lim ≥ 1 := List.countP_pos_iff.mpr ⟨none, by rw [← e2]; exact List.getElem_mem hil, rfl⟩
  rw [List.countP_set hil, e2]
  simp
  omega
theorem stop_none {C : Cf} {lim : List (Option Int)} (h : opens lim = 0) (hl : lim.length = C.m) : minL (stopL C lim) = none := by
  refine minL_eq ?_
  show stopL C lim = []
  rw [List.eq_nil_iff_forall_not_mem]
  intro s hs
  have := (open_pos hl hs).1
  omega
/-- enough turns: one more changes nothing -/
theorem runS_stop {C : Cf} {lim : List (Option Int)} (h : minL (stopL C lim) = none) (k : Nat) : runS C k lim = [] := by
  cases k with
  | zero => rfl
  | succ k => unfold runS; rw [h]
theorem runS_go {C : Cf} {lim : List (Option Int)} {s : List Int} (h : minL (stopL C lim) = some s) (k : Nat) : runS C (k + 1) lim = s :: runS C k (put lim s) := by
  rw [runS, h]
noncomputable def stops (C : Cf) : List (List Int) := runS C C.m (List.replicate C.m none)
end Rg

end
section
set_option Elab.async false
set_option linter.all false
set_option maxRecDepth 100000
set_option maxHeartbeats 4000000
/-! The blocks' object. -/
namespace Pp
open PySem PySem.Spec PyProof.Rows L2 StX Rg NdefX LamX
def wkOf (p : Pt) : Wk := ⟨p.day, p.post, p.stride⟩
abbrev aB (K : PySem.W.Frag) : Addr := ga K "RingBlocks"
abbrev bf (n : Int) (wt ll fl cd : Addr) : Fs := [("around", .int n), ("walkers", .ref wt), ("limits", .ref ll), ("firsts", .ref fl), ("crossings", .ref cd)]
structure DOk (m : Nat) (kvs : List (Key × V)) (f : Nat → Option Int) : Prop where
  nd : (kvs.map (·.1)).Nodup
  all : ∀ kv ∈ kvs, ∃ (j : Nat) (c : Int), j < m ∧ kv = (Sum.inl (j : Int), V.int c)
  val : ∀ j, j < m → valV kvs (Sum.inl (j : Int)) = (f j).map V.int
/-- the keys are pairs of places -/
def CkOk (ck : List (List Key × V)) : Prop := (ck.map (·.1)).Nodup ∧ ∀ kv ∈ ck, ∃ i j : Nat, i < 8 ∧ j < 8 ∧ kv.1 = [Sum.inl (i : Int), Sum.inl (j : Int)]
structure BS (K : PySem.W.Frag) (C : Cf) (ps : List Pt) (H0 : Hp) (b dx wt ll fl cd : Addr) (ds as : List Addr) (lim : List (Option Int)) (D : Nat → Nat → Option Int) (cr : Nat → Nat → Prop) (H : Hp) : Prop where
  ext : ExtN H0 H
  tabs : TabsN (TT K) H
  ob : H b = some (.ins (aB K) dx (bf C.n wt ll fl cd))
  ob0 : H0 b = none
  lm : H ll = some (.lst (lim.map ov))
  lm0 : H0 ll = none
  fi : H fl = some (.lst (ds.map V.ref))
  fi0 : H0 fl = none
  nlf : ll ≠ fl
  dl : ds.length = C.m
  dn : ds.Nodup
  d0 : ∀ d ∈ ds, H0 d = none
  dk : ∀ (i : Nat) (d : Addr), ds[i]? = some d → ∃ kvs, H d = some (.dK kvs) ∧ DOk C.m kvs (D i)
  cd0 : H0 cd = none
  cx : ∃ ck, H cd = some (.dT ck) ∧ CkOk ck ∧ ∀ i j, cr i j → ∃ (x dxx : Addr) (r : RC), valV ck [Sum.inl (i : Nat), Sum.inl (j : Nat)] = some (.ref x) ∧ H x = some (.ins (aX K) dxx (xf r)) ∧ IsRC C.n (C.at i) (C.at j) r ∧ RcOk r
  ll' : lim.length = C.m
  lb : ∀ j c, limAt lim j = some c → 0 ≤ c ∧ c < 2 ^ 62
  wk : H0 wt = some (.tup (as.map V.ref))
  pa : PAll K H0 as ps
  cm : C.ps = ps.map wkOf
  m8 : C.m ≤ 8
  n0 : 0 < C.n
  n1 : C.n < 2 ^ 62
  nt : ∀ a q, H0 a ≠ some (.tbl q)
section
variable {K : PySem.W.Frag} {C : Cf} {ps : List Pt} {H0 H H' : Hp} {b dx wt ll fl cd : Addr} {ds as : List Addr} {lim : List (Option Int)} {D : Nat → Nat → Option Int} {cr : Nat → Nat → Prop}
theorem BS.extN (s : BS K C ps H0 b dx wt ll fl cd ds as lim D cr H) (e : ExtN H H') (t : TabsN (TT K) H') : BS K C ps H0 b dx wt ll fl cd ds as lim D cr H' where
  ext := s.ext.trans e
  tabs := t
  ob := e _ _ s.ob (fun _ z => by cases z)
  ob0 := s.ob0
  lm := e _ _ s.lm (fun _ z => by cases z)
  lm0 := s.lm0
  fi := e _ _ s.fi (fun _ z => by cases z)
  fi0 := s.fi0
  nlf := s.nlf
  dl := s.dl
  dn := s.dn
  d0 := s.d0
  dk := fun i d h => let ⟨kvs, h1, h2⟩ := s.dk i d h; ⟨kvs, e _ _ h1 (fun _ z => by cases z), h2⟩
  cd0 := s.cd0
  cx := by
    obtain ⟨ck, h1, h2, h3⟩ := s.cx
    refine ⟨ck, e _ _ h1 (fun _ z => by cases z), h2, fun i j h => ?_⟩
    obtain ⟨x, dxx, r, k1, k2, k3, k4⟩ := h3 i j h
    exact ⟨x, dxx, r, k1, e _ _ k2 (fun _ z => by cases z), k3, k4⟩
  ll' := s.ll'
  lb := s.lb
  wk := s.wk
  pa := s.pa
  cm := s.cm
  m8 := s.m8
  n0 := s.n0
  n1 := s.n1
  nt := s.nt
theorem BS.fresh (s : BS K C ps H0 b dx wt ll fl cd ds as lim D cr H) {l : Addr} (h : H l = none) : H0 l = none := by
  cases e : H0 l with
  | none => rfl
  | some o => rw [s.ext _ _ e (fun ps' z' => s.nt l ps' (by rw [e, z']))] at h; cases h
theorem BS.same (s : BS K C ps H0 b dx wt ll fl cd ds as lim D cr H) (e : Same H H') : BS K C ps H0 b dx wt ll fl cd ds as lim D cr H' := s.extN (SameN e) (s.tabs.ext e)
def upD (D : Nat → Nat → Option Int) (i j : Nat) (v : Option Int) : Nat → Nat → Option Int := fun i' j' => if i' = i ∧ j' = j then v else D i' j'
theorem tabs_upd {a : Addr} {o o' : HO} (t : TabsN (TT K) H) (h : H a = some o) (n : ∀ ps, o ≠ .tbl ps) (n2 : ∀ c q, o ≠ CodeO c q) : TabsN (TT K) (upd H a o') := fun p hp => by
  obtain ⟨ps', a1, a2, a3⟩ := t p hp
  refine ⟨ps', (upd_ne (fun z => ?_)).trans a1, a2, fun pos cv hc => ?_⟩
  · rw [z, h] at a1
    exact n _ (Option.some.inj a1)
  · obtain ⟨c, e1, e2⟩ := a3 pos cv hc
    refine ⟨c, e1, (upd_ne (fun z => ?_)).trans e2⟩
    rw [z, h] at e2
    exact n2 _ _ (Option.some.inj e2)
/-- one dict is changed -/
theorem BS.dict (s : BS K C ps H0 b dx wt ll fl cd ds as lim D cr H) {i : Nat} {d : Addr} {kvs : List (Key × V)} {D' : Nat → Nat → Option Int} (hi : ds[i]? = some d) (h : DOk C.m kvs (D' i)) (hD : ∀ i', i' ≠ i → D' i' = D i') :
    BS K C ps H0 b dx wt ll fl cd ds as lim D' cr (upd H d (.dK kvs)) := by
  obtain ⟨kv0, hd, hk⟩ := s.dk i d hi
  have hd0 := s.d0 d (List.mem_of_getElem? hi)
  refine { s with ext := fun a o e n => ?_, tabs := tabs_upd s.tabs hd (fun _ z => by cases z) (fun _ _ z => by cases z), ob := ?_, lm := ?_, fi := ?_, dk := fun i' d' h' => ?_, cx := ?_ }
  · rw [upd_ne (ne_of_none e hd0)]
    exact s.ext a o e n
  · exact (upd_ne (fun z => by have := s.ob; rw [z, hd] at this; cases this)).trans s.ob
  · exact (upd_ne (fun z => by have := s.lm; rw [z, hd] at this; cases this)).trans s.lm
  · exact (upd_ne (fun z => by have := s.fi; rw [z, hd] at this; cases this)).trans s.fi
  · by_cases e : i' = i
    · subst e
      rw [hi] at h'
      cases h'
      exact ⟨kvs, upd_same, h⟩
    · obtain ⟨k2, h1, h2⟩ := s.dk i' d' h'
      refine ⟨k2, (upd_ne (fun z => e (nd_ix s.dn h' (by rw [z]; exact hi)))).trans h1, ?_⟩
      rw [hD i' e]
      exact h2
  · obtain ⟨ck, h1, h2, h3⟩ := s.cx
    refine ⟨ck, (upd_ne (fun z => by rw [z, hd] at h1; cases h1)).trans h1, h2, fun i j h => ?_⟩
    obtain ⟨x, dxx, r, k1, k2, k3, k4⟩ := h3 i j h
    exact ⟨x, dxx, r, k1, (upd_ne (fun z => by rw [z, hd] at k2; cases k2)).trans k2, k3, k4⟩
theorem nodup_len : ∀ (m : Nat) (l : List Nat), l.Nodup → (∀ y ∈ l, y < m) → l.length ≤ m
  | 0, l, _, h => by
    cases l with
    | nil => exact Nat.le_refl _
    | cons a r => exact absurd (h a List.mem_cons_self) (by omega)
  | m + 1, l, nd, h => by
    have := nodup_len m (l.erase m) (nd.erase m) fun y hy => by
      have q := (List.Nodup.mem_erase_iff nd).mp hy
      have := h y q.2
      omega
    rw [List.length_erase] at this
    split at this <;> omega
theorem inl_inj {i j : Nat} (h : (Sum.inl (i : Int) : Key) = Sum.inl (j : Int)) : i = j := by
  have := Sum.inl.inj h
  omega
theorem putK_mem {κ : Type} [DecidableEq κ] {kvs : List (κ × V)} {k : κ} {v : V} {q : κ × V} (h : q ∈ putK kvs k v) : q ∈ kvs ∨ q = (k, v) := by
  unfold putK at h
  split at h
  · obtain ⟨p, hp, e⟩ := List.mem_map.mp h
    split at e
    · rename_i e2
      rw [← e, e2]
      exact .inr rfl
    · rw [← e]
      exact .inl hp
  · rcases List.mem_append.mp h with h | h
    · exact .inl h
    · exact .inr (List.mem_singleton.mp h)
theorem putK_nd {κ : Type} [DecidableEq κ] {kvs : List (κ × V)} {k : κ} {v : V} (h : (kvs.map (·.1)).Nodup) : ((putK kvs k v).map (·.1)).Nodup := by
  unfold putK
  split
  · have e : (kvs.map fun kv => if kv.1 = k then (kv.1, v) else kv).map (·.1) = kvs.map (·.1) := by
      rw [List.map_map]
      refine List.map_congr_left fun q _ => ?_
      show (if q.1 = k then (q.1, v) else q).1 = q.1
      split <;> rfl
    rw [e]
    exact h
  · rename_i hn
    rw [List.map_append]
    refine List.nodup_append.mpr ⟨h, by simp, fun a ha b hb e => ?_⟩
    have hb : b = k := by simpa using hb
    obtain ⟨p, hp, e2⟩ := List.mem_map.mp ha
    refine hn (List.any_eq_true.mpr ⟨p, hp, decide_eq_true ?_⟩)
    rw [e2, e, hb]
theorem DOk.put {m : Nat} {kvs : List (Key × V)} {f g : Nat → Option Int} {j : Nat} {c : Int} (h : DOk m kvs f) (hj : j < m) (h1 : g j = some c) (h2 : ∀ j', j' ≠ j → g j' = f j') : DOk m (putK kvs (Sum.inl (j : Int)) (.int c)) g := by
  refine ⟨putK_nd h.nd, fun kv hk => ?_, fun j' hj' => ?_⟩
  · rcases putK_mem hk with hk | rfl
    · exact h.all kv hk
    · exact ⟨j, c, hj, rfl⟩
  · rw [valV_put]
    by_cases e : j' = j
    · subst e
      rw [if_pos rfl, h1]
      rfl
    · rw [if_neg (fun z => e (inl_inj z)), h2 j' e]
      exact h.val j' hj'
theorem valV_drop (kvs : List (Key × V)) (k j : Key) : valV (dropK kvs k) j = if j = k then none else valV kvs j := by
  unfold valV dropK
  rw [List.find?_filter]
  split
  · rename_i e
    subst e
    have : kvs.find? (fun a => decide (decide (a.1 ≠ j) = true ∧ decide (a.1 = j) = true)) = none := by
      rw [List.find?_eq_none]
      intro x _ hx
      simp at hx
    rw [this]
    rfl
  · rename_i e
    have : (fun a : Key × V => decide (decide (a.1 ≠ k) = true ∧ decide (a.1 = j) = true)) = fun a => decide (a.1 = j) := by
      funext a
      by_cases q : a.1 = j
      · simp [q, e]
      · simp [q]
    rw [this]
theorem DOk.drop {m : Nat} {kvs : List (Key × V)} {f g : Nat → Option Int} {j : Nat} (h : DOk m kvs f) (h1 : g j = none) (h2 : ∀ j', j' ≠ j → g j' = f j') : DOk m (dropK kvs (Sum.inl (j : Int))) g := by
  refine ⟨?_, fun kv hk => h.all kv (List.mem_filter.mp hk).1, fun j' hj' => ?_⟩
  · exact h.nd.sublist ((List.filter_sublist).map _)
  · rw [valV_drop]
    by_cases e : j' = j
    · subst e
      rw [if_pos rfl, h1]
      rfl
    · rw [if_neg (fun z => e (inl_inj z)), h2 j' e]
      exact h.val j' hj'
theorem DOk.skip {m : Nat} {kvs : List (Key × V)} {f g : Nat → Option Int} {j : Nat} (h : DOk m kvs f) (h0 : valV kvs (Sum.inl (j : Int)) = none) (h1 : g j = none) (h2 : ∀ j', j' ≠ j → g j' = f j') : DOk m kvs g := by
  refine ⟨h.nd, h.all, fun j' hj' => ?_⟩
  by_cases e : j' = j
  · subst e
    rw [h0, h1]
    rfl
  · rw [h2 j' e]
    exact h.val j' hj'
theorem DOk.len {m : Nat} {kvs : List (Key × V)} {f : Nat → Option Int} (h : DOk m kvs f) : kvs.length ≤ m := by
  have h1 : (kvs.map fun kv => (match kv.1 with
    | Sum.inl i => i.toNat
    | Sum.inr _ => 0)).Nodup := by
    refine List.pairwise_iff_getElem.mpr fun i j hi hj hij e => ?_
    rw [List.getElem_map, List.getElem_map] at e
    rw [List.length_map] at hi hj
    obtain ⟨a, c, _, ea⟩ := h.all _ (List.getElem_mem hi)
    obtain ⟨a2, c2, _, ea2⟩ := h.all _ (List.getElem_mem hj)
    rw [ea, ea2] at e
    have e3 : a = a2 := by
      have e4 : ((a : Nat) : Int).toNat = ((a2 : Nat) : Int).toNat := e
      omega
    have z := List.pairwise_iff_getElem.mp h.nd i j (by rw [List.length_map]; exact hi) (by rw [List.length_map]; exact hj) hij
    rw [List.getElem_map, List.getElem_map, ea, ea2, e3] at z
    exact z rfl
  have h2 : (kvs.map fun kv => (match kv.1 with
    | Sum.inl i => i.toNat
    | Sum.inr _ => 0)) ⊆ List.range m := fun y hy => by
    obtain ⟨kv, hk, rfl⟩ := List.mem_map.mp hy
    obtain ⟨a, c, ha, ea⟩ := h.all _ hk
    rw [ea]
    exact List.mem_range.mpr (by show ((a : Nat) : Int).toNat < m; omega)
  have := nodup_len m _ h1 fun y hy => List.mem_range.mp (h2 hy)
  rw [List.length_map] at this
  exact this
theorem CkOk.len {ck : List (List Key × V)} (h : CkOk ck) : ck.length ≤ 64 := by
  have cd : ∀ i j : Nat, (match ([Sum.inl (i : Int), Sum.inl (j : Int)] : List Key) with
    | [Sum.inl a, Sum.inl b] => a.toNat * 8 + b.toNat
    | _ => 0) = i * 8 + j := fun i j => by
      show ((i : Nat) : Int).toNat * 8 + ((j : Nat) : Int).toNat = i * 8 + j
      omega
  have h1 : (ck.map fun kv => (match kv.1 with
    | [Sum.inl a, Sum.inl b] => a.toNat * 8 + b.toNat
    | _ => 0)).Nodup := by
    refine List.pairwise_iff_getElem.mpr fun i j hi hj hij e => ?_
    rw [List.getElem_map, List.getElem_map] at e
    rw [List.length_map] at hi hj
    obtain ⟨a, b, ha, hb, ea⟩ := h.2 _ (List.getElem_mem hi)
    obtain ⟨a2, b2, ha2, hb2, ea2⟩ := h.2 _ (List.getElem_mem hj)
    rw [ea, ea2, cd, cd] at e
    have z := List.pairwise_iff_getElem.mp h.1 i j (by rw [List.length_map]; exact hi) (by rw [List.length_map]; exact hj) hij
    rw [List.getElem_map, List.getElem_map, ea, ea2] at z
    have e1 : a = a2 := by omega
    have e2 : b = b2 := by omega
    rw [e1, e2] at z
    exact z rfl
  have := nodup_len 64 _ h1 fun y hy => by
    obtain ⟨kv, hk, rfl⟩ := List.mem_map.mp hy
    obtain ⟨a, b, ha, hb, ea⟩ := h.2 _ hk
    rw [ea, cd]
    omega
  rw [List.length_map] at this
  exact this
/-- a crossing is stored -/
theorem BS.cross (s : BS K C ps H0 b dx wt ll fl cd ds as lim D cr H) {ck : List (List Key × V)} {i j : Nat} {x dxx : Addr} {r : RC} {cr' : Nat → Nat → Prop} (hk : H cd = some (.dT ck)) (hi : i < C.m) (hj : j < C.m) (hx : H x = some (.ins (aX K) dxx (xf r))) (hr : IsRC C.n (C.at i) (C.at j) r) (ho : RcOk r)
    (hc : ∀ i' j', cr' i' j' → (i' = i ∧ j' = j) ∨ cr i' j') : BS K C ps H0 b dx wt ll fl cd ds as lim D cr' (upd H cd (.dT (putK ck [Sum.inl (i : Int), Sum.inl (j : Int)] (.ref x)))) := by
  have m8 := s.m8
  obtain ⟨ck0, h1, h2, h3⟩ := s.cx
  rw [hk] at h1
  cases h1
  refine { s with ext := fun a o e n => ?_, tabs := tabs_upd s.tabs hk (fun _ z => by cases z) (fun _ _ z => by cases z), ob := ?_, lm := ?_, fi := ?_, dk := fun i d h => ?_, cx := ⟨_, upd_same, ⟨putK_nd h2.1, fun kv hkv => ?_⟩, fun i' j' h => ?_⟩ }
  · rw [upd_ne (ne_of_none e s.cd0)]
    exact s.ext a o e n
  · exact (upd_ne (fun z => by have := s.ob; rw [z, hk] at this; cases this)).trans s.ob
  · exact (upd_ne (fun z => by have := s.lm; rw [z, hk] at this; cases this)).trans s.lm
  · exact (upd_ne (fun z => by have := s.fi; rw [z, hk] at this; cases this)).trans s.fi
  · obtain ⟨kvs, h1, h2⟩ := s.dk i d h
    exact ⟨kvs, (upd_ne (fun z => by rw [z, hk] at h1; cases h1)).trans h1, h2⟩
  · rcases putK_mem hkv with hkv | rfl
    · exact h2.2 kv hkv
    · exact ⟨i, j, by omega, by omega, rfl⟩
  · by_cases e : i' = i ∧ j' = j
    · obtain ⟨rfl, rfl⟩ := e
      refine ⟨x, dxx, r, by rw [valV_put, if_pos rfl], (upd_ne (fun z => by rw [z, hk] at hx; cases hx)).trans hx, hr, ho⟩
    · rcases hc i' j' h with z | z
      · exact absurd z e
      · obtain ⟨x2, dxx2, r2, k1, k2, k3, k4⟩ := h3 i' j' z
        refine ⟨x2, dxx2, r2, ?_, (upd_ne (fun z => by rw [z, hk] at k2; cases k2)).trans k2, k3, k4⟩
        rw [valV_put, if_neg (fun z => e ?_)]
        · exact k1
        · simp only [List.cons.injEq, Sum.inl.injEq, and_true] at z
          omega
end
end Pp

end
section
set_option Elab.async false
set_option linter.all false
set_option maxRecDepth 100000
set_option maxHeartbeats 4000000
/-! look. -/
namespace Pp
open PySem PySem.Spec PyProof.Rows L2 StX Rg NdefX LamX
theorem at_ref {as : List Addr} {i : Nat} {a : Addr} (h : as[i]? = some a) : atI (as.map V.ref) (i : Nat) = some (.ref a) := atI_nat (by rw [List.getElem?_map, h]; rfl)
theorem at_lim {lim : List (Option Int)} {j : Nat} (h : j < lim.length) : atI (lim.map ov) (j : Nat) = some (ov (limAt lim j)) := atI_nat (by
  rw [List.getElem?_map]
  unfold limAt
  rw [List.getD_eq_getElem?_getD, List.getElem?_eq_getElem h]
  rfl)
section
variable {P : Program} {w : World} {K : PySem.W.Frag} {mg : Str → Option Value} {base : Heap}
abbrev NLk : List Str := ["self", "place", "other_place", "crossing", "count"]
theorem scLk : FnScope NLk ["self", "place", "other_place"] (defScope sLook) := ⟨rfl, rfl, rfl, by decide +kernel, rfl, by decide +kernel, by decide +kernel⟩
noncomputable def fbAt (C : Cf) (lim : List (Option Int)) (i j : Nat) : Option Int := fbC C.n (C.at i) (C.at j) (limAt lim j) (decide (j < i))
def spLook (K : PySem.W.Frag) : Sp := fun vs H Q _ => ∃ (C : Cf) (ps : List Pt) (H0 : Hp) (b dx wt ll fl cd : Addr) (ds as : List Addr) (lim : List (Option Int)) (D : Nat → Nat → Option Int) (cr : Nat → Nat → Prop) (i j : Nat), vs = [.ref b, .int (i : Nat), .int (j : Nat)] ∧
  BS K C ps H0 b dx wt ll fl cd ds as lim D cr H ∧ cr i j ∧ i < C.m ∧ j < C.m ∧ ∀ H', BS K C ps H0 b dx wt ll fl cd ds as lim (upD D i j (fbAt C lim i j)) cr H' → Q .non H'
theorem dec_lt (i j : Nat) : decide ((i : Int) < (j : Int)) = decide (i < j) := by
  rw [Bool.eq_iff_iff, decide_eq_true_iff, decide_eq_true_iff]
  omega
theorem ok_look (T : Tx K mg) (B : Tb K mg base) : FnR P w K mg base CX0 7 (ma K (aB K) "look") (spLook K) := by
  refine defR T.d_sLook scLk (fun _ _ _ _ _ _ us hl => match us, hl with | [_, _, _], _ => rfl) (fun vs H Q E h => ?_) (fun cdv A outer s H vs Q E hr h => ?_)
  · obtain ⟨_, _, _, _, _, _, _, _, _, _, _, _, _, _, _, _, rfl, _⟩ := h; rfl
  · obtain ⟨C, ps, H0, b, dx, wt, ll, fl, cd, ds, as, lim, D, cr, i, j, rfl, S, hc, hi, hj, q⟩ := h
    have nd := scLk.nd
    have hu : ∀ {A : Around}, Room 6 A → A.units + 1 < cLine := fun r => by have := r.units; omega
    refine ⟨_, pss_cons (ps_set (i := 3) nd rfl (.inl rfl) (pe_dget (hu hr) (pe_fld (pv 0) rfl) (pe_tup (pa_cons (pv 1) (pa_cons (pv 2) pa_nil))) (fun _ _ => rfl)))
      <| pss_cons (ps_set (i := 4) nd rfl (.inl rfl) (pe_methR (pv 3) T.c_RingCrossing T.m_RingCrossing_first_block (ok_block T B) hr pass0 (pa_cons (pe_ix ix_list (pe_fld (pv 0) rfl) (pv 2) (fun _ _ => rfl)) (pa_cons (pe_cmpR op_lt (pv 2) (pv 1) (nomark _)) pa_nil))))
      <| pss_one (ps_if (pt_cmpR op_isN (pv 4) pe_non (nomark _))
        (pss_one (ps_expr (pe_dpop2 (pe_ix ix_list (pe_fld (pv 0) rfl) (pv 1) (fun _ _ => rfl)) (pv 2) pe_non ⟨rfl, rfl, rfl, rfl⟩)))
        (pss_one (ps_dput (hu hr) (pe_ix ix_list (pe_fld (pv 0) rfl) (pv 1) (fun _ _ => rfl)) (pv 2) (pv 4) rfl))), ?_⟩
    obtain ⟨ck, c1, c2, c3⟩ := S.cx
    obtain ⟨x, dxx, r, k1, k2, k3, k4⟩ := c3 i j hc
    have hjl : j < lim.length := by rw [S.ll']; exact hj
    refine ⟨_, rfl, _, _, _, _, _, rfl, S.ob, T.c_RingBlocks, T.a_RingBlocks_crossings, rfl, _, rfl, _, rfl, by show 2 ≤ sizeLine; decide, fun t ht => ?_⟩
    have S1 := S.same (Same.new (o := .tup [.int (i : Nat), .int (j : Nat)]) ht)
    have n1 := ne_of_none c1 ht
    have n2 := ne_of_none k2 ht
    refine ⟨cd, _, rfl, k1 ▸ DGet.t (k := [Sum.inl (i : Nat), Sum.inl (j : Nat)]) ((upd_ne n1).trans c1) upd_same, ?_⟩
    refine ⟨_, rfl, _, _, _, rfl, (upd_ne n2).trans k2, rfl, _, rfl, _, _, _, _, _, rfl, S1.ob, T.c_RingBlocks, T.a_RingBlocks_limits, rfl, _, rfl, _, _, _, _, rfl, rfl, SqL.of S1.lm, at_lim hjl, _, rfl, _, rfl, _, _, rfl, rfl, ?_⟩
    refine ⟨x, dxx, r, limAt lim j, _, rfl, (upd_ne n2).trans k2, k4, S.lb j, S1.tabs, fun H2 E2 T2 => ?_⟩
    have S2 := S1.extN E2 T2
    have ef : fb r (limAt lim j) (decide ((j : Int) < (i : Int))) = fbAt C lim i j := by rw [dec_lt]; exact fbC_eq S.n0 k3 _ _
    rw [ef]
    have hds : i < ds.length := by rw [S.dl]; exact hi
    have hd : ds[i]? = some ds[i] := List.getElem?_eq_getElem hds
    obtain ⟨kvs, h1, h2⟩ := S2.dk i _ hd
    have oth : ∀ v i', i' ≠ i → upD D i j v i' = D i' := fun v i' n => by
      funext j'
      unfold upD
      rw [if_neg (fun z => n z.1)]
    have oth2 : ∀ v j', j' ≠ j → upD D i j v i j' = D i j' := fun v j' n => by
      unfold upD
      rw [if_neg (fun z => n z.2)]
    have own : ∀ v, upD D i j v i j = v := fun v => by
      unfold upD
      rw [if_pos ⟨rfl, rfl⟩]
    cases hf : fbAt C lim i j with
    | none =>
      rw [hf] at q
      refine ⟨_, rfl, rfl, _, rfl, iteT ?_⟩
      refine ⟨_, rfl, _, _, _, _, _, rfl, S2.ob, T.c_RingBlocks, T.a_RingBlocks_firsts, rfl, _, rfl, _, _, _, _, rfl, rfl, SqL.of S2.fi, at_ref hd, ds[i], rfl, .inl ⟨_, .inl h1⟩, _, rfl, kvs, Sum.inl (j : Int), h1, rfl, fun v hv => ?_, fun hv => ?_⟩
      · exact q _ (S2.dict hd (h2.drop (own none) (oth2 none)) (oth none))
      · have e : upd H2 ds[i] (.dK kvs) = H2 := by
          funext a
          by_cases z : a = ds[i]
          · rw [z, upd_same, h1]
          · rw [upd_ne z]
        have z := S2.dict hd (h2.skip hv (own none) (oth2 none)) (oth none)
        rw [e] at z
        exact q _ z
    | some c =>
      rw [hf] at q
      refine ⟨_, rfl, rfl, _, rfl, iteF ?_⟩
      refine ⟨_, rfl, _, rfl, _, _, _, _, _, rfl, S2.ob, T.c_RingBlocks, T.a_RingBlocks_firsts, rfl, _, rfl, _, _, _, _, rfl, rfl, SqL.of S2.fi, at_ref hd, _, rfl, ds[i], _, rfl, DPut.k (k := Sum.inl (j : Int)) h1 ?_, ?_⟩
      · have := h2.len
        have := S.m8
        exact Nat.lt_of_le_of_lt (show _ ≤ 8 by omega) (by decide)
      · exact q _ (S2.dict hd (h2.put hj (own (some c)) (oth2 (some c))) (oth (some c)))
end
end Pp

end
section
set_option Elab.async false
set_option linter.all false
set_option maxRecDepth 100000
set_option maxHeartbeats 4000000
/-! first_of. -/
namespace Pp
open PySem PySem.Spec PyProof.Rows L2 StX Rg NdefX LamX
section
variable {P : Program} {w : World} {K : PySem.W.Frag} {mg : Str → Option Value} {base : Heap}
def qV (q : Nat × Int) : Key × V := (Sum.inl (q.1 : Int), V.int q.2)
theorem DOk.qs {m : Nat} {f : Nat → Option Int} : ∀ {kvs : List (Key × V)}, (∀ kv ∈ kvs, ∃ (j : Nat) (c : Int), j < m ∧ kv = (Sum.inl (j : Int), V.int c)) → ∃ qs : List (Nat × Int), kvs = qs.map qV ∧ ∀ q ∈ qs, q.1 < m
  | [], _ => ⟨[], rfl, fun q h => by simp at h⟩
  | kv :: r, h => by
    obtain ⟨qs, e, l⟩ := DOk.qs (f := f) (kvs := r) fun x hx => h x (List.mem_cons_of_mem _ hx)
    obtain ⟨j, c, hj, e2⟩ := h kv List.mem_cons_self
    refine ⟨(j, c) :: qs, by rw [e, e2]; rfl, fun q hq => ?_⟩
    rcases List.mem_cons.mp hq with rfl | hq
    · exact hj
    · exact l q hq
theorem valV_mem {kvs : List (Key × V)} {k : Key} {v : V} (nd : (kvs.map (·.1)).Nodup) (h : (k, v) ∈ kvs) : valV kvs k = some v := by
  induction kvs with
  | nil => simp at h
  | cons p r ih =>
    rw [List.map_cons, List.nodup_cons] at nd
    by_cases e : p.1 = k
    · rw [valV_pos e]
      rcases List.mem_cons.mp h with h | h
      · rw [← h]
      · exact absurd (List.mem_map.mpr ⟨_, h, e.symm⟩) nd.1
    · rw [valV_neg e]
      rcases List.mem_cons.mp h with h | h
      · rw [← h] at e
        exact absurd rfl e
      · exact ih nd.2 h
theorem valV_in {kvs : List (Key × V)} {k : Key} {v : V} (h : valV kvs k = some v) : (k, v) ∈ kvs := by
  unfold valV at h
  obtain ⟨kv, h1, h2⟩ := Option.map_eq_some_iff.mp h
  have := List.mem_of_find?_eq_some h1
  have e := List.find?_some h1
  have e := of_decide_eq_true e
  rw [← e, ← h2]
  exact this
theorem dpAll_of {K : PySem.W.Frag} {H : Hp} : ∀ {xs : List V} {ds : List PyData}, xs.length = ds.length → (∀ (k : Nat) (x : V) (d : PyData), xs[k]? = some x → ds[k]? = some d → Dp K H x d) → DpAll K H xs ds
  | [], [], _, _ => .nil
  | x :: xs, d :: ds, hl, h => .cons (h 0 x d rfl rfl) (dpAll_of (by simpa using hl) fun k y e h1 h2 => h (k + 1) y e (by simpa using h1) (by simpa using h2))
  | [], d :: ds, hl, _ => by simp at hl
  | x :: xs, [], hl, _ => by simp at hl
abbrev NFo : List Str := ["self", "place", "count", "other_place"]
theorem scFo : FnScope NFo ["self", "place"] (defScope sFirstOf) := ⟨rfl, rfl, rfl, by decide +kernel, rfl, by decide +kernel, by decide +kernel⟩
def spFirst (K : PySem.W.Frag) : Sp := fun vs H Q _ => ∃ (C : Cf) (ps : List Pt) (H0 : Hp) (b dx wt ll fl cd : Addr) (ds as : List Addr) (lim : List (Option Int)) (D : Nat → Nat → Option Int) (cr : Nat → Nat → Prop) (i : Nat), vs = [.ref b, .int (i : Nat)] ∧
  BS K C ps H0 b dx wt ll fl cd ds as lim D cr H ∧ i < C.m ∧ ((∀ j, j < C.m → D i j = none) → ∀ H', Same H H' → Q .non H') ∧
  ∀ H' t j c, j < C.m → D i j = some c → (∀ j' c', j' < C.m → D i j' = some c' → lexI [c', (j' : Int)] [c, (j : Int)] = false) → Same H H' → H' t = some (.tup [.int c, .int (j : Nat)]) → Q (.ref t) H'
theorem ok_first (T : Tx K mg) : FnR P w K mg base CX0 1 (ma K (aB K) "first_of") (spFirst K) := by
  refine defR T.d_sFirstOf scFo (fun _ _ _ _ _ _ us hl => match us, hl with | [_, _], _ => rfl) (fun vs H Q E h => ?_) (fun cdv A outer s H vs Q E hr h => ?_)
  · obtain ⟨_, _, _, _, _, _, _, _, _, _, _, _, _, _, _, rfl, _⟩ := h; rfl
  · obtain ⟨C, ps, H0, b, dx, wt, ll, fl, cd, ds, as, lim, D, cr, i, rfl, S, hi, q0, q1⟩ := h
    have nd := scFo.nd
    refine ⟨_, pss_one (ps_ret (pe_callBK (cr_minT rfl hr.units) inName T.z_min (by decide +kernel) (pa_cons (pe_lock (pe_lc (own := [("count", 2), ("other_place", 3)]) (g := gTup K 2 (gCons (gName 3) (gCons (gName 2) gNil))) (tt := tYes) rfl nd (pi_items (pe_ix ix_list (pe_fld (pv 0) rfl) (pv 1) (fun _ _ => rfl))) (blkOk_by (N := NFo) (sc := defScope sFirstOf) (by decide +kernel))
        (fun _ _ _ _ _ => pg_tup rfl (pgs_cons (pg_name (i := 3) nd rfl (Or.inl rfl) (hf := .inr rfl)) (pgs_cons (pg_name (i := 2) nd rfl (Or.inl rfl) (hf := .inr rfl)) pgs_nil))) (fun _ _ _ _ _ => pts_nil)
        (fun _ _ _ _ _ => pe_tup (pa_cons (pv 2) (pa_cons (pv 3) pa_nil))))) pa_nil) (pk_cons pe_non pk_nil))), ?_⟩
    have hds : i < ds.length := by rw [S.dl]; exact hi
    have hd : ds[i]? = some ds[i] := List.getElem?_eq_getElem hds
    obtain ⟨kvs, h1, h2⟩ := S.dk i _ hd
    obtain ⟨qs, rfl, hqs⟩ := DOk.qs (f := D i) h2.all
    refine ⟨ds[i], _, h1, trivial, fun od => ?_⟩
    have nb : b ≠ ds[i] := fun z => by have := S.ob; rw [z, h1] at this; cases this
    have nf : fl ≠ ds[i] := fun z => by have := S.fi; rw [z, h1] at this; cases this
    refine ⟨_, rfl, _, _, _, _, _, rfl, (upd_ne nb).trans S.ob, T.c_RingBlocks, T.a_RingBlocks_firsts, rfl, _, rfl, _, _, _, _, rfl, rfl, SqL.of ((upd_ne nf).trans S.fi), at_ref hd, ds[i], od, qs.map qV, rfl, upd_same, fun L hL => ?_⟩
    have hLd : L ≠ ds[i] := fun z => by rw [z, upd_same] at hL; cases hL
    have hL0 : H L = none := by rw [upd_ne hLd] at hL; exact hL
    have len8 : qs.length ≤ 8 := by
      have := h2.len
      rw [List.length_map] at this
      have := S.m8
      omega
    refine lc_it walk_items (fun k H' => Same (upd H ds[i] (.frz od (.dK (qs.map qV)))) H' ∧ ∃ ts : List Addr, ts.length = k ∧ H' L = some (.lst (ts.map V.ref)) ∧ ∀ (e : Nat) (t : Addr) (q : Nat × Int), ts[e]? = some t → qs[e]? = some q → H' t = some (.tup [.int q.2, .int (q.1 : Nat)])) ⟨Same.new hL, [], rfl, upd_same, fun e t q h => by simp at h⟩ (fun k H' _ h => h.1 _ _ upd_same) ?_ ?_
    · rintro k y H1 H2 hk ⟨S1, ts, tl, hl, ht⟩ ⟨TP, a0, b0, rfl, hT, rfl, e1, e2⟩
      rw [List.length_map] at hk
      have e1 : (qs.map qV)[k]?.map (fun kv => kV kv.1) = some a0 := e1
      have e2 : (qs.map qV)[k]?.map Prod.snd = some b0 := e2
      rw [List.getElem?_map, List.getElem?_eq_getElem hk] at e1 e2
      cases e1
      cases e2
      refine ⟨TP, _, rfl, SqT.of upd_same, rfl, _, _, rfl, _, _, rfl, rfl, rfl, _, rfl, _, rfl, by show 2 ≤ sizeLine; decide, fun t htf => ?_⟩
      have n1 : L ≠ TP := ne_of_none hl hT
      have hl2 := (upd_ne (o := .tup [V.int qs[k].1, V.int qs[k].2]) n1).trans hl
      have n2 : L ≠ t := ne_of_none hl2 htf
      have hLf : (upd H ds[i] (.frz od (.dK (qs.map qV)))) L = none := by rw [upd_ne hLd]; exact hL0
      have S3 := (S1.plus (o := .tup [V.int qs[k].1, V.int qs[k].2]) hT).plus (o := .tup [V.int qs[k].2, V.int qs[k].1]) htf
      refine ⟨_, (upd_ne n2).trans hl2, ?_, fun x o ex => ?_, ts ++ [t], by rw [List.length_append, tl]; rfl, ?_, fun e t' q h1' h2' => ?_⟩
      · rw [List.length_map, tl]
        exact Nat.lt_of_lt_of_le (show k < 8 by omega) (by decide)
      · rw [upd_ne (ne_of_none ex hLf)]
        exact S3 _ _ ex
      · rw [upd_same, List.map_append]; rfl
      · by_cases he : e < ts.length
        · rw [List.getElem?_append_left he] at h1'
          have h3 := ht e t' q h1' h2'
          have n3 : t' ≠ L := fun z => by rw [z, hl] at h3; cases h3
          rw [upd_ne n3]
          have h4 := (upd_ne (o := .tup [V.int qs[k].1, V.int qs[k].2]) (ne_of_none h3 hT)).trans h3
          exact (upd_ne (ne_of_none h4 htf)).trans h4
        · rw [List.getElem?_append_right (by omega)] at h1'
          have e0 : e - ts.length = 0 := by
            have := (List.getElem?_eq_some_iff.mp h1').1
            simp at this
            omega
          rw [e0] at h1'
          cases h1'
          have ek : e = k := by omega
          subst ek
          rw [List.getElem?_eq_getElem hk] at h2'
          cases h2'
          rw [upd_ne n2.symm, upd_same]
          rfl
    rintro H1 ⟨S1, ts, tl, hl, ht⟩
    rw [List.length_map] at tl
    have hfz := S1 _ _ upd_same
    refine ⟨hfz, ?_⟩
    have SA : Same H (upd H1 ds[i] (.dK (qs.map qV))) := fun x o e => by
      by_cases z : x = ds[i]
      · rw [z, h1] at e
        cases e
        rw [z, upd_same]
      · rw [upd_ne z]
        exact S1 _ _ ((upd_ne z).trans e)
    have nLd : L ≠ ds[i] := hLd
    have hl2 := (upd_ne (o := .dK (qs.map qV)) nLd).trans hl
    have ht2 : ∀ (e : Nat) (t : Addr) (q : Nat × Int), ts[e]? = some t → qs[e]? = some q → (upd H1 ds[i] (.dK (qs.map qV))) t = some (.tup [.int q.2, .int (q.1 : Nat)]) := fun e t q h1' h2' => by
      have h3 := ht e t q h1' h2'
      rw [upd_ne (fun z => by rw [z, hfz] at h3; cases h3)]
      exact h3
    have inD : ∀ q : Nat × Int, q ∈ qs → q.1 < C.m ∧ D i q.1 = some q.2 := fun q hq => by
      refine ⟨hqs q hq, ?_⟩
      have h3 := h2.val q.1 (hqs q hq)
      rw [valV_mem h2.nd (List.mem_map.mpr ⟨q, hq, rfl⟩)] at h3
      cases e : D i q.1 with
      | none => rw [e] at h3; cases h3
      | some c =>
        rw [e] at h3
        have h3 : V.int q.2 = V.int c := Option.some.inj h3
        rw [V.int.inj h3]
    have toD : ∀ (j : Nat) (c : Int), j < C.m → D i j = some c → (j, c) ∈ qs := fun j c hj e => by
      have h3 := h2.val j hj
      rw [e] at h3
      obtain ⟨q, hq, e2⟩ := List.mem_map.mp (valV_in h3)
      have e3 : q.1 = j := inl_inj (congrArg Prod.fst e2)
      have e4 : q.2 = c := V.int.inj (congrArg Prod.snd e2)
      rw [← e3, ← e4]
      exact hq
    refine ⟨L, _, qs.map (fun q => [q.2, (q.1 : Int)]), rfl, rfl, SqL.of hl2, dpAll_of (by rw [List.length_map, List.length_map, List.length_map, tl]) (fun k x d hx hdd => ?_), fun e => ?_, fun k v n hv hn hmin => ?_⟩
    · obtain ⟨t, htk, rfl⟩ := ref_ix hx
      rw [List.map_map, List.getElem?_map] at hdd
      cases eq : qs[k]? with
      | none => rw [eq] at hdd; cases hdd
      | some q =>
        rw [eq] at hdd
        cases hdd
        exact .tup (SqT.of (ht2 k t q htk eq)) (.cons (.int _) (.cons (.int _) .nil))
    · have eq : qs = [] := List.map_eq_nil_iff.mp e
      refine q0 (fun j hj => ?_) _ SA
      cases e2 : D i j with
      | none => rfl
      | some c =>
        have := toD j c hj e2
        rw [eq] at this
        simp at this
    · obtain ⟨t, htk, rfl⟩ := ref_ix hv
      rw [List.getElem?_map] at hn
      cases eq : qs[k]? with
      | none => rw [eq] at hn; cases hn
      | some q =>
        rw [eq] at hn
        cases hn
        obtain ⟨k1, k2⟩ := inD q (List.mem_of_getElem? eq)
        refine q1 _ t q.1 q.2 k1 k2 (fun j' c' hj' hc' => ?_) SA (ht2 k t q htk eq)
        exact hmin _ (List.mem_map.mpr ⟨_, toD j' c' hj' hc', rfl⟩)
end
end Pp

end
section
set_option Elab.async false
set_option linter.all false
set_option maxRecDepth 100000
set_option maxHeartbeats 4000000
/-! next_stop. -/
namespace Pp
open PySem PySem.Spec PyProof.Rows L2 StX Rg NdefX LamX
theorem lex4 {d i c j c' j' : Int} (h : lexI [c', j'] [c, j] = false) : lexI [d + c', i, c', j'] [d + c, i, c, j] = false := by
  simp only [lexI] at h ⊢
  grind
section
variable {P : Program} {w : World} {K : PySem.W.Frag} {mg : Str → Option Value} {base : Heap}
theorem at_wk {C : Cf} {ps : List Pt} {i : Nat} {p : Pt} (h : C.ps = ps.map wkOf) (e : ps[i]? = some p) : C.at i = wkOf p := by
  unfold Cf.at
  rw [h, List.getD_eq_getElem?_getD, List.getElem?_map, e]
  rfl
abbrev NNx : List Str := ["self", "found", "place", "painter", "block"]
theorem scNx : FnScope NNx ["self"] (defScope sNextStop) := ⟨rfl, rfl, rfl, by decide +kernel, rfl, by decide +kernel, by decide +kernel⟩
def stV (s : List Int) : HO := .tup (s.map V.int)
def stop2V (o : Option (List Int)) (H : Hp) (v : V) : Prop := match o with
  | none => v = .non
  | some s => ∃ t, v = .ref t ∧ H t = some (stV s)
def spNext (K : PySem.W.Frag) : Sp := fun vs H Q _ => ∃ (C : Cf) (ps : List Pt) (H0 : Hp) (b dx wt ll fl cd : Addr) (ds as : List Addr) (lim : List (Option Int)) (D : Nat → Nat → Option Int) (cr : Nat → Nat → Prop), vs = [.ref b] ∧
  BS K C ps H0 b dx wt ll fl cd ds as lim D cr H ∧ (∀ i, i < C.m → limAt lim i = none → ∀ j, j < C.m → D i j = cand C lim i j) ∧ ∀ v H', Same H H' → stop2V (minL (stopL C lim)) H' v → Q v H'
structure FdOk (C : Cf) (lim : List (Option Int)) (i : Nat) (l : Addr) (ts : List Addr) (fs : List (List Int)) (H : Hp) : Prop where
  hl : H l = some (.lst (ts.map V.ref))
  len : ts.length = fs.length
  at_ : ∀ (k : Nat) (t : Addr) (f : List Int), ts[k]? = some t → fs[k]? = some f → H t = some (stV f)
  sub : ∀ f ∈ fs, f ∈ stopL C lim
  min : ∀ s ∈ stopL C lim, nth s 1 < (i : Int) → ∃ f ∈ fs, lexI s f = false
  le : fs.length ≤ i
theorem FdOk.same {C : Cf} {lim : List (Option Int)} {i : Nat} {l : Addr} {ts : List Addr} {fs : List (List Int)} {H H' : Hp} (h : FdOk C lim i l ts fs H) (e : Same H H') : FdOk C lim i l ts fs H' :=
  ⟨e _ _ h.hl, h.len, fun k t f h1 h2 => e _ _ (h.at_ k t f h1 h2), h.sub, h.min, h.le⟩
/-- nothing of this place -/
theorem FdOk.skip {C : Cf} {lim : List (Option Int)} {i : Nat} {l : Addr} {ts : List Addr} {fs : List (List Int)} {H : Hp} (h : FdOk C lim i l ts fs H) (n : ∀ s ∈ stopL C lim, nth s 1 ≠ (i : Int)) : FdOk C lim (i + 1) l ts fs H :=
  ⟨h.hl, h.len, h.at_, h.sub, fun s hs hi => h.min s hs (by have := n s hs; omega), by have := h.le; omega⟩
theorem FdOk.more {C : Cf} {lim : List (Option Int)} {i : Nat} {l t : Addr} {ts : List Addr} {fs : List (List Int)} {f : List Int} {H : Hp} (h : FdOk C lim i l ts fs H) (ht : H t = some (stV f)) (hf : f ∈ stopL C lim) (n : ∀ s ∈ stopL C lim, nth s 1 = (i : Int) → lexI s f = false) :
    FdOk C lim (i + 1) l (ts ++ [t]) (fs ++ [f]) (upd H l (.lst (ts.map V.ref ++ [.ref t]))) := by
  have nl : ∀ a f, H a = some (stV f) → a ≠ l := fun a f e z => by rw [z, h.hl] at e; cases e
  refine ⟨by rw [upd_same, List.map_append]; rfl, by rw [List.length_append, List.length_append, h.len]; rfl, fun k t' f' h1 h2 => ?_, fun f' hf' => ?_, fun s hs hi => ?_, by rw [List.length_append]; have := h.le; show fs.length + 1 ≤ i + 1; omega⟩
  · by_cases hk : k < ts.length
    · rw [List.getElem?_append_left hk] at h1
      rw [List.getElem?_append_left (by rw [← h.len]; exact hk)] at h2
      have h3 := h.at_ k t' f' h1 h2
      exact (upd_ne (nl _ _ h3)).trans h3
    · rw [List.getElem?_append_right (by omega)] at h1
      rw [List.getElem?_append_right (by rw [← h.len]; omega)] at h2
      have e0 : k - ts.length = 0 := by
        have := (List.getElem?_eq_some_iff.mp h1).1
        simp at this
        omega
      rw [e0] at h1
      rw [← h.len, e0] at h2
      cases h1
      cases h2
      exact (upd_ne (nl _ _ ht)).trans ht
  · rcases List.mem_append.mp hf' with q | q
    · exact h.sub f' q
    · rw [List.mem_singleton.mp q]; exact hf
  · by_cases q : nth s 1 < (i : Int)
    · obtain ⟨f', h1, h2⟩ := h.min s hs q
      exact ⟨f', List.mem_append_left _ h1, h2⟩
    · exact ⟨f, List.mem_append_right _ (List.mem_singleton.mpr rfl), n s hs (by omega)⟩
theorem ok_next (T : Tx K mg) : FnR P w K mg base CX0 3 (ma K (aB K) "next_stop") (spNext K) := by
  refine defR T.d_sNextStop scNx (fun _ _ _ _ _ _ us hl => match us, hl with | [_], _ => rfl) (fun vs H Q E h => ?_) (fun cdv A outer s H vs Q E hr h => ?_)
  · obtain ⟨_, _, _, _, _, _, _, _, _, _, _, _, _, _, rfl, _⟩ := h; rfl
  · obtain ⟨C, ps, H0, b, dx, wt, ll, fl, cd, ds, as, lim, D, cr, rfl, S, hD, qq⟩ := h
    have q0 : minL (stopL C lim) = none → ∀ H', Same H H' → Q .non H' := fun e H' S' => qq .non H' S' (by rw [e]; rfl)
    have q1 : ∀ s t H', minL (stopL C lim) = some s → Same H H' → H' t = some (stV s) → Q (.ref t) H' := fun s t H' e S' ht => qq (.ref t) H' S' (by rw [e]; exact ⟨t, rfl, ht⟩)
    have nd := scNx.nd
    have hr1 : Room 1 _ := hr.mono (by decide)
    refine ⟨_, pss_cons (ps_set (i := 1) nd rfl (.inl rfl) (pe_lst pa_nil))
      <| pss_cons (ps_for PassesOwn.never rfl (pi_enumT inName T.z_enumerate (pa_cons (pe_fld (pv 0) rfl) pa_nil)) (pg_tup rfl (pgs_cons (pg_name (i := 2) nd rfl (.inl rfl)) (pgs_cons (pg_name (i := 3) nd rfl (.inl rfl)) pgs_nil)))
        (pss_cons (ps_set (i := 4) nd rfl (.inl rfl) (pe_ifExp (pt_cmpR op_isN (pe_ix ix_list (pe_fld (pv 0) rfl) (pv 2) (fun _ _ => rfl)) pe_non (nomark _)) (pe_methR (pv 0) T.c_RingBlocks T.m_RingBlocks_first_of (ok_first T) hr1 pass0 (pa_cons (pv 2) pa_nil)) pe_non))
        (pss_one (ps_if (pt_cmpR op_notN (pv 4) pe_non (nomark _)) (pss_one (ps_expr (pe_bm PySem.F.plainAttrs_list PySem.F.slot_list_append PySem.F.type_list_append mt_append (pv 1)
          (pa_cons (pe_tup (pa_cons (pe_op op_add (pe_propR (pv 3) T.c_Painter T.p_Painter_day (ok_pday T) hr) (pe_ix ix_tup (pv 4) pe_int (fun _ _ => rfl))) (pa_cons (pv 2) (pa_cons (pe_ix ix_tup (pv 4) pe_int (fun _ _ => rfl)) (pa_cons (pe_ix ix_tup (pv 4) pe_int (fun _ _ => rfl)) pa_nil))))) pa_nil)))) pss_nil))))
      <| pss_one (ps_ret (pe_callBK (cr_minT rfl hr.units) inName T.z_min (by decide +kernel) (pa_cons (pv 1) pa_nil) (pk_cons pe_non pk_nil))), ?_⟩
    refine ⟨Nat.zero_le _, fun l hl => ?_⟩
    have S0 := Same.new (o := .lst []) hl
    have al : as.length = C.m := by rw [S.pa.1, Cf.m, S.cm, List.length_map]
    have hwt : H wt = some (.tup (as.map V.ref)) := S.ext _ _ S.wk (fun _ z => by cases z)
    have hpa := S.pa.extN S.ext
    refine ⟨_, rfl, _, _, _, _, _, rfl, S0 _ _ S.ob, T.c_RingBlocks, T.a_RingBlocks_walkers, rfl, wt, _, rfl, SqT.of (S0 _ _ hwt), ?_⟩
    refine for_it walk_enumT (fun i σ H' => Same H H' ∧ ∃ ts fs u v t, σ = [some (.ref b), some (.ref l), u, v, t] ∧ FdOk C lim i l ts fs H') ⟨S0, [], [], _, _, _, rfl, ⟨upd_same, rfl, fun k t f h => by simp at h, fun f h => by simp at h, fun s hs hi => ?_, Nat.le_refl _⟩⟩ (fun i σ H' _ h => SqT.of (h.1 _ _ hwt)) ?_ ?_
    · obtain ⟨i', j', c', _, _, _, _, rfl⟩ := mem_stop.mp hs
      have : nth [(C.at i').day + c', (i' : Int), c', (j' : Int)] 1 = (i' : Int) := rfl
      omega
    · rintro i y σ H1 H2 hi ⟨S1, ts, fs, u, v, t, rfl, F⟩ ⟨TP, a0, b0, rfl, hT, rfl, e1, e2⟩
      cases e1
      obtain ⟨a, hai, rfl⟩ := ref_ix e2
      rw [List.length_map, al] at hi
      obtain ⟨p, hpi, hpp⟩ := hpa.get hai
      have S2 := S1.plus (o := .tup [.int (i : Nat), .ref a]) hT
      have F2 := F.same (Same.new (o := .tup [.int (i : Nat), .ref a]) hT)
      have B2 := S.same S2
      have hlim : i < lim.length := by rw [S.ll']; exact hi
      refine ⟨TP, _, rfl, SqT.of upd_same, rfl, _, _, rfl, _, _, rfl, rfl, ?_⟩
      refine ⟨_, rfl, _, _, _, _, _, rfl, B2.ob, T.c_RingBlocks, T.a_RingBlocks_limits, rfl, _, rfl, _, _, _, _, rfl, rfl, SqL.of B2.lm, at_lim hlim, rfl, _, rfl, ?_⟩
      have fle := F.le
      cases hlm : limAt lim i with
      | some c0 =>
        refine iteF ⟨_, rfl, rfl, _, rfl, iteF ?_⟩
        refine ⟨S2, ts, fs, _, _, _, rfl, F2.skip fun s hs e => ?_⟩
        obtain ⟨i', j', c', _, _, hn, _, rfl⟩ := mem_stop.mp hs
        have e : (i' : Int) = (i : Int) := e
        have e : i' = i := by omega
        rw [e, hlm] at hn
        cases hn
      | none =>
        refine iteT ?_
        have hc := hD i hi hlm
        refine ⟨_, rfl, _, _, _, rfl, B2.ob, rfl, _, rfl, C, ps, H0, b, dx, wt, ll, fl, cd, ds, as, lim, D, cr, i, rfl, B2, hi, fun hno H3 S3 => ?_, fun H3 tt j c hj hcj hmin S3 htt => ?_⟩
        · refine ⟨_, rfl, rfl, _, rfl, iteF ?_⟩
          refine ⟨S2.trans S3, ts, fs, _, _, _, rfl, (F2.same S3).skip fun s hs e => ?_⟩
          obtain ⟨i', j', c', _, hj', hn, hcc, rfl⟩ := mem_stop.mp hs
          have e : (i' : Int) = (i : Int) := e
          have e : i' = i := by omega
          rw [e, ← hc j' hj', hno j' hj'] at hcc
          cases hcc
        · have F3 := F2.same S3
          have hp3 := hpp.same (S2.trans S3)
          obtain ⟨dx2, t2, k1, k2⟩ := id hp3
          have hst : SqT K H3 tt [.int c, .int (j : Nat)] := SqT.of htt
          refine ⟨_, rfl, rfl, _, rfl, iteT ?_⟩
          refine ⟨_, rfl, .inl ⟨rfl, _, SqL.of F3.hl⟩, _, rfl, _, _, _, rfl, k1, a, p, rfl, hp3, _, rfl, _, _, _, _, rfl, rfl, hst, rfl, _, _, rfl, rfl, _, rfl, _, rfl, _, _, _, _, rfl, rfl, hst, rfl, _, rfl, _, _, _, _, rfl, rfl, hst, rfl, by show 4 ≤ sizeLine; decide, fun t4 ht4 => ?_⟩
          have eday : p.day = (C.at i).day := by rw [at_wk S.cm hpi]; rfl
          have F4 := F3.same (Same.new (o := .tup [.int (p.day + c), .int (i : Nat), .int c, .int (j : Nat)]) ht4)
          refine ⟨l, _, _, rfl, rfl, F4.hl, ?_, ?_⟩
          · rw [List.length_map, F.len]
            have := S.m8
            exact Nat.lt_of_lt_of_le (show _ < 9 by omega) (by decide)
          refine ⟨fun x o e => ?_, ts ++ [t4], fs ++ [[(C.at i).day + c, (i : Int), c, (j : Int)]], _, _, _, rfl, F4.more (by rw [upd_same, eday]; rfl) (mem_stop.mpr ⟨i, j, c, hi, hj, hlm, by rw [← hc j hj]; exact hcj, rfl⟩) fun s hs e => ?_⟩
          · rw [upd_ne (ne_of_none e hl), upd_ne (ne_of_none ((S2.trans S3) _ _ e) ht4)]
            exact (S2.trans S3) _ _ e
          · obtain ⟨i', j', c', _, hj', hn, hcc, rfl⟩ := mem_stop.mp hs
            have e : (i' : Int) = (i : Int) := e
            have e : i' = i := by omega
            subst e
            exact lex4 (hmin j' c' hj' (by rw [hc j' hj']; exact hcc))
    · rintro σ H1 ⟨S1, ts, fs, u, v, t, rfl, F⟩
      rw [List.length_map, al] at F
      have all : ∀ s ∈ stopL C lim, ∃ f ∈ fs, lexI s f = false := fun s hs => by
        refine F.min s hs ?_
        obtain ⟨i', j', c', hi', _, _, _, rfl⟩ := mem_stop.mp hs
        have : nth [(C.at i').day + c', (i' : Int), c', (j' : Int)] 1 = (i' : Int) := rfl
        omega
      refine ⟨_, rfl, l, _, fs, rfl, rfl, SqL.of F.hl, dpAll_of (by rw [List.length_map, List.length_map, F.len]) (fun k x d hx hdd => ?_), fun e => ?_, fun k v n hv hn hmin => ?_⟩
      · obtain ⟨t, htk, rfl⟩ := ref_ix hx
        rw [List.getElem?_map] at hdd
        cases eq : fs[k]? with
        | none => rw [eq] at hdd; cases hdd
        | some f =>
          rw [eq] at hdd
          cases hdd
          refine .tup (SqT.of (F.at_ k t f htk eq)) (dpAll_of (by rw [List.length_map, List.length_map]) fun k2 x d h1 h2 => ?_)
          rw [List.getElem?_map] at h1 h2
          cases e3 : f[k2]? with
          | none => rw [e3] at h1; cases h1
          | some z =>
            rw [e3] at h1 h2
            cases h1
            cases h2
            exact .int z
      · refine q0 (minL_eq ?_) _ S1
        show stopL C lim = []
        rw [List.eq_nil_iff_forall_not_mem]
        intro s hs
        obtain ⟨f, hf, _⟩ := all s hs
        rw [e] at hf
        simp at hf
      · obtain ⟨t, htk, rfl⟩ := ref_ix hv
        refine q1 n t _ (minL_eq ⟨F.sub n (List.mem_of_getElem? hn), fun z hz => ?_⟩) S1 (F.at_ k t n htk hn)
        obtain ⟨f, hf, h1⟩ := all z hz
        exact lexI_tr h1 (hmin f hf)
end
end Pp

end
section
set_option linter.all false
/-! The model, further. -/
namespace Rg
open Pp (lexI)
theorem cand_b {C : Cf} {lim : List (Option Int)} {i j : Nat} {c : Int} (hn : 0 < C.n) (h : cand C lim i j = some c) : 0 ≤ c ∧ c ≤ C.n := by
  unfold cand at h
  split at h
  · cases h
    exact ⟨Int.ediv_nonneg (by omega) (gd_nn _ _), Int.ediv_le_self _ (by omega)⟩
  · have R : IsRC C.n (C.at i) (C.at j) (rcC C.n (C.at i) (C.at j)) := rcC_ok hn _ _
    have e3 := R.step
    have e1 := R.length
    have s2 := step_pos (n := C.n) (a := (C.at i).stride % C.n) (b := (C.at j).stride % C.n) hn
    have c2 := cyc_le (n := C.n) (b := (C.at i).stride % C.n) hn
    obtain ⟨a, b⟩ := fb_in (r := rcC C.n (C.at i) (C.at j)) (by rw [e3]; exact s2) R.start0 h
    omega
theorem limAt_set {lim : List (Option Int)} {i j : Nat} {o : Option Int} (h : i < lim.length) : limAt (lim.set i o) j = if j = i then o else limAt lim j := by
  unfold limAt
  rw [List.getD_eq_getElem?_getD, List.getD_eq_getElem?_getD, List.getElem?_set]
  by_cases e : i = j
  · subst e
    rw [if_pos rfl, if_pos h, if_pos rfl]
    rfl
  · rw [if_neg e, if_neg (Ne.symm e)]
theorem limAt_rep {m j : Nat} : limAt (List.replicate m none) j = none := by
  unfold limAt
  rw [List.getD_eq_getElem?_getD, List.getElem?_replicate]
  split <;> rfl
theorem opens_rep (m : Nat) : opens (List.replicate m none) = m := by
  unfold opens
  rw [List.countP_replicate]
  rfl
/-- only what changes at i -/
theorem cand_set {C : Cf} {lim : List (Option Int)} {i j k : Nat} {o : Option Int} (h : i < lim.length) (hk : k ≠ i) : cand C (lim.set i o) j k = cand C lim j k := by
  unfold cand
  rw [limAt_set h, if_neg hk]
end Rg

end
section
set_option Elab.async false
set_option linter.all false
set_option maxRecDepth 100000
set_option maxHeartbeats 4000000
/-! settle, all_stops. -/
namespace Pp
open PySem PySem.Spec PyProof.Rows L2 StX Rg NdefX LamX
section
variable {P : Program} {w : World} {K : PySem.W.Frag} {mg : Str → Option Value} {base : Heap}
/-- the list of limits is changed -/
theorem BS.limit {C : Cf} {ps : List Pt} {H0 H : Hp} {b dx wt ll fl cd : Addr} {ds as : List Addr} {lim lim' : List (Option Int)} {D : Nat → Nat → Option Int} {cr : Nat → Nat → Prop} (s : BS K C ps H0 b dx wt ll fl cd ds as lim D cr H) (hl : lim'.length = C.m) (hb : ∀ j c, limAt lim' j = some c → 0 ≤ c ∧ c < 2 ^ 62) :
    BS K C ps H0 b dx wt ll fl cd ds as lim' D cr (upd H ll (.lst (lim'.map ov))) := by
  refine { s with ext := fun a o e n => ?_, tabs := tabs_upd s.tabs s.lm (fun _ z => by cases z) (fun _ _ z => by cases z), ob := ?_, lm := upd_same, fi := ?_, dk := fun i d h => ?_, cx := ?_, ll' := hl, lb := hb }
  · rw [upd_ne (ne_of_none e s.lm0)]
    exact s.ext a o e n
  · exact (upd_ne (fun z => by have := s.ob; rw [z, s.lm] at this; cases this)).trans s.ob
  · exact (upd_ne (Ne.symm s.nlf)).trans s.fi
  · obtain ⟨kvs, h1, h2⟩ := s.dk i d h
    exact ⟨kvs, (upd_ne (fun z => by rw [z, s.lm] at h1; cases h1)).trans h1, h2⟩
  · obtain ⟨ck, h1, h2, h3⟩ := s.cx
    refine ⟨ck, (upd_ne (fun z => by rw [z, s.lm] at h1; cases h1)).trans h1, h2, fun i j h => ?_⟩
    obtain ⟨x, dxx, r, k1, k2, k3, k4⟩ := h3 i j h
    exact ⟨x, dxx, r, k1, (upd_ne (fun z => by rw [z, s.lm] at k2; cases k2)).trans k2, k3, k4⟩
def DSet (C : Cf) (lim : List (Option Int)) (D : Nat → Nat → Option Int) : Prop := ∀ i, i < C.m → limAt lim i = none → ∀ j, j < C.m → D i j = cand C lim i j
abbrev NSe : List Str := ["self", "place", "count", "other_place", "known"]
theorem scSe : FnScope NSe ["self", "place", "count"] (defScope sSettle) := ⟨rfl, rfl, rfl, by decide +kernel, rfl, by decide +kernel, by decide +kernel⟩
def spSettle (K : PySem.W.Frag) : Sp := fun vs H Q _ => ∃ (C : Cf) (ps : List Pt) (H0 : Hp) (b dx wt ll fl cd : Addr) (ds as : List Addr) (lim : List (Option Int)) (D : Nat → Nat → Option Int) (cr : Nat → Nat → Prop) (i : Nat) (c : Int), vs = [.ref b, .int (i : Nat), .int c] ∧
  BS K C ps H0 b dx wt ll fl cd ds as lim D cr H ∧ DSet C lim D ∧ (∀ i j, i < C.m → j < C.m → i ≠ j → cr i j) ∧ i < C.m ∧ 0 ≤ c ∧ c < 2 ^ 62 ∧
  ∀ D' H', BS K C ps H0 b dx wt ll fl cd ds as (lim.set i (some c)) D' cr H' → DSet C (lim.set i (some c)) D' → Q .non H'
theorem ok_settle (T : Tx K mg) (B : Tb K mg base) : FnR P w K mg base CX0 8 (ma K (aB K) "settle") (spSettle K) := by
  refine defR T.d_sSettle scSe (fun _ _ _ _ _ _ us hl => match us, hl with | [_, _, _], _ => rfl) (fun vs H Q E h => ?_) (fun cdv A outer s H vs Q E hr h => ?_)
  · obtain ⟨_, _, _, _, _, _, _, _, _, _, _, _, _, _, _, _, rfl, _⟩ := h; rfl
  · obtain ⟨C, ps, H0, b, dx, wt, ll, fl, cd, ds, as, lim, D, cr, i, c, rfl, S, hD, hcr, hi, c0, c1, q⟩ := h
    have nd := scSe.nd
    refine ⟨_, pss_cons (ps_asg (pv 2) (pg_sub (pe_fld (pv 0) rfl) (pv 1) set_list))
      <| pss_one (ps_for PassesOwn.never rfl (pi_enum inName T.z_enumerate (pa_cons (pe_fld (pv 0) rfl) pa_nil)) (pg_tup rfl (pgs_cons (pg_name (i := 3) nd rfl (.inl rfl)) (pgs_cons (pg_name (i := 4) nd rfl (.inl rfl)) pgs_nil)))
        (pss_one (ps_if (pw_and (pt_cmpR op_ne (pv 3) (pv 1) (nomark _)) (pw_and1 (pt_cmpR op_isN (pv 4) pe_non (nomark _)))).pt
          (pss_one (ps_expr (pe_methR (pv 0) T.c_RingBlocks T.m_RingBlocks_look (ok_look T B) hr pass0 (pa_cons (pv 3) (pa_cons (pv 1) pa_nil))))) pss_nil))), ?_⟩
    have hil : i < lim.length := by rw [S.ll']; exact hi
    have hix : ixN (lim.map ov).length ((i : Nat) : Int) = some i := by
      unfold ixN
      rw [List.length_map, if_pos (by omega), if_pos (by omega)]
      rfl
    refine ⟨_, rfl, _, rfl, _, _, _, _, _, rfl, S.ob, T.c_RingBlocks, T.a_RingBlocks_limits, rfl, _, rfl, ll, _, _, i, rfl, rfl, S.lm, hix, ?_⟩
    have e0 : (lim.map ov).set i (.int c) = (lim.set i (some c)).map ov := by rw [List.map_set]; rfl
    rw [e0]
    have S1 := S.limit (lim' := lim.set i (some c)) (by rw [List.length_set]; exact S.ll') (fun j c' hj => by
      rw [limAt_set hil] at hj
      split at hj
      · cases hj; exact ⟨c0, c1⟩
      · exact S.lb j c' hj)
    refine ⟨_, rfl, _, _, _, _, _, rfl, S1.ob, T.c_RingBlocks, T.a_RingBlocks_limits, rfl, ll, _, rfl, SqL.of S1.lm, ?_⟩
    have len1 : ((lim.set i (some c)).map ov).length = C.m := by rw [List.length_map, List.length_set, S.ll']
    refine for_it walk_enum (fun t σ H' => ∃ D' u v, σ = [some (.ref b), some (.int (i : Nat)), some (.int c), u, v] ∧ BS K C ps H0 b dx wt ll fl cd ds as (lim.set i (some c)) D' cr H' ∧ (∀ j, j < t → limAt (lim.set i (some c)) j = none → ∀ k, k < C.m → D' j k = cand C (lim.set i (some c)) j k) ∧ ∀ j, t ≤ j → D' j = D j)
      ⟨D, _, _, rfl, S1, fun j hj => by omega, fun j _ => rfl⟩ (fun t σ H' _ h => by obtain ⟨D', u, v, _, S2, _⟩ := h; exact SqL.of S2.lm) ?_ ?_
    · rintro t y σ H1 H2 ht ⟨D', u, v, rfl, S2, h1, h2⟩ ⟨TP, a0, b0, rfl, hT, rfl, e1, e2⟩
      cases e1
      rw [len1] at ht
      have e2 : ((lim.set i (some c)).map ov)[t]? = some b0 := e2
      have hb0 : b0 = ov (limAt (lim.set i (some c)) t) := by
        have htl : t < (lim.set i (some c)).length := by rw [List.length_set, S.ll']; exact ht
        rw [List.getElem?_map, List.getElem?_eq_getElem htl] at e2
        unfold limAt
        rw [List.getD_eq_getElem?_getD, List.getElem?_eq_getElem htl]
        exact (Option.some.inj e2).symm
      subst hb0
      have S3 := S2.same (Same.new (o := .tup [.int (t : Nat), ov (limAt (lim.set i (some c)) t)]) hT)
      refine ⟨TP, _, rfl, SqT.of upd_same, rfl, _, _, rfl, _, _, rfl, rfl, ?_⟩
      refine ⟨_, rfl, _, rfl, rfl, _, rfl, iteND (fun hti => ?_) (fun hti => ?_)⟩
      · have hti : t ≠ i := fun z => hti (by rw [z])
        have hlt : limAt (lim.set i (some c)) t = limAt lim t := by rw [limAt_set hil, if_neg hti]
        refine ⟨_, rfl, rfl, _, rfl, ?_⟩
        cases hlm : limAt (lim.set i (some c)) t with
        | some c9 =>
          rw [hlm] at S3
          refine iteF ?_
          refine ⟨D', _, _, rfl, S3, fun j hj hjn k hk => ?_, fun j hj => h2 j (by omega)⟩
          by_cases e : j = t
          · rw [e, hlm] at hjn; cases hjn
          · exact h1 j (by omega) hjn k hk
        | none =>
          rw [hlm] at S3
          refine iteT ?_
          refine ⟨_, rfl, _, _, _, rfl, S3.ob, rfl, _, rfl, _, rfl, C, ps, H0, b, dx, wt, ll, fl, cd, ds, as, lim.set i (some c), D', cr, t, i, rfl, S3, hcr t i ht hi hti, ht, hi, fun H4 S4 => ?_⟩
          refine ⟨_, _, _, rfl, S4, fun j hj hjn k hk => ?_, fun j hj => ?_⟩
          · by_cases e : j = t
            · subst e
              unfold upD
              by_cases ek : k = i
              · subst ek
                rw [if_pos ⟨rfl, rfl⟩]
                unfold cand fbAt
                rw [if_neg hti]
              · rw [if_neg (fun z => ek z.2), h2 j (Nat.le_refl _), cand_set hil ek]
                exact hD j ht (by rw [← hlt]; exact hlm) k hk
            · unfold upD
              rw [if_neg (fun z => e z.1)]
              exact h1 j (by omega) hjn k hk
          · funext k
            unfold upD
            rw [if_neg (fun z => by omega)]
            rw [h2 j (by omega)]
      · have hti : t = i := by have := V.int.inj hti; omega
        refine ⟨D', _, _, rfl, S3, fun j hj hjn k hk => ?_, fun j hj => h2 j (by omega)⟩
        by_cases e : j = t
        · rw [e, hti, limAt_set hil, if_pos rfl] at hjn; cases hjn
        · exact h1 j (by omega) hjn k hk
    · rintro σ H1 ⟨D', u, v, rfl, S2, h1, h2⟩
      rw [len1] at h1
      exact q D' H1 S2 fun j hj hjn k hk => h1 j hj hjn k hk
end
end Pp

end
section
set_option Elab.async false
set_option linter.all false
set_option maxRecDepth 100000
set_option maxHeartbeats 4000000
/-! all_stops. -/
namespace Pp
open PySem PySem.Spec PyProof.Rows L2 StX Rg NdefX LamX
section
variable {P : Program} {w : World} {K : PySem.W.Frag} {mg : Str → Option Value} {base : Heap}
/-- a list of stops -/
structure StL (H : Hp) (l : Addr) (ts : List Addr) (fs : List (List Int)) : Prop where
  hl : H l = some (.lst (ts.map V.ref))
  len : ts.length = fs.length
  at_ : ∀ (k : Nat) (t : Addr) (f : List Int), ts[k]? = some t → fs[k]? = some f → H t = some (stV f)
theorem StL.extN {H H' : Hp} {l : Addr} {ts : List Addr} {fs : List (List Int)} (h : StL H l ts fs) (e : ExtN H H') : StL H' l ts fs :=
  ⟨e _ _ h.hl (fun _ z => by cases z), h.len, fun k t f h1 h2 => e _ _ (h.at_ k t f h1 h2) (fun _ z => by cases z)⟩
theorem StL.add {H : Hp} {l t : Addr} {ts : List Addr} {fs : List (List Int)} {f : List Int} (h : StL H l ts fs) (ht : H t = some (stV f)) : StL (upd H l (.lst (ts.map V.ref ++ [.ref t]))) l (ts ++ [t]) (fs ++ [f]) := by
  have nl : ∀ a f, H a = some (stV f) → a ≠ l := fun a f e z => by rw [z, h.hl] at e; cases e
  refine ⟨by rw [upd_same, List.map_append]; rfl, by rw [List.length_append, List.length_append, h.len]; rfl, fun k t' f' h1 h2 => ?_⟩
  by_cases hk : k < ts.length
  · rw [List.getElem?_append_left hk] at h1
    rw [List.getElem?_append_left (by rw [← h.len]; exact hk)] at h2
    have h3 := h.at_ k t' f' h1 h2
    exact (upd_ne (nl _ _ h3)).trans h3
  · rw [List.getElem?_append_right (by omega)] at h1
    rw [List.getElem?_append_right (by rw [← h.len]; omega)] at h2
    have e0 : k - ts.length = 0 := by
      have := (List.getElem?_eq_some_iff.mp h1).1
      simp at this
      omega
    rw [e0] at h1
    rw [← h.len, e0] at h2
    cases h1
    cases h2
    exact (upd_ne (nl _ _ ht)).trans ht
/-- what isn't the blocks' own -/
def coreH (ms : List Addr) (H : Hp) : Hp := fun a => if a ∈ ms then none else match H a with
  | some (.tbl _) => none
  | o => o
theorem core_some {ms : List Addr} {H : Hp} {a : Addr} {o : HO} (h : coreH ms H a = some o) : a ∉ ms ∧ H a = some o ∧ ∀ q, o ≠ .tbl q := by
  unfold coreH at h
  split at h
  · cases h
  · rename_i hn
    split at h
    · cases h
    · rename_i hne
      refine ⟨hn, h, fun q z => ?_⟩
      rw [z] at h
      exact hne q h
theorem core_of {ms : List Addr} {H : Hp} {a : Addr} {o : HO} (h1 : a ∉ ms) (h : H a = some o) (h2 : ∀ q, o ≠ .tbl q) : coreH ms H a = some o := by
  unfold coreH
  rw [if_neg h1, h]
  cases o <;> first | rfl | exact absurd rfl (h2 _)
section
variable {C : Cf} {ps : List Pt} {H0 H H' : Hp} {b dx wt ll fl cd : Addr} {ds as : List Addr} {lim lim' : List (Option Int)} {D D' : Nat → Nat → Option Int} {cr : Nat → Nat → Prop}
abbrev own (b ll fl cd : Addr) (ds : List Addr) : List Addr := b :: ll :: fl :: cd :: ds
theorem own_ne {a : Addr} (h : a ∉ own b ll fl cd ds) : a ≠ b ∧ a ≠ ll ∧ a ≠ fl ∧ a ≠ cd ∧ a ∉ ds := by
  simp only [List.mem_cons, not_or] at h
  exact h
theorem BS.no {a : Addr} {o : HO} (s : BS K C ps H0 b dx wt ll fl cd ds as lim D cr H) (e : H0 a = some o) : a ∉ own b ll fl cd ds := by
  intro hm
  simp only [List.mem_cons] at hm
  rcases hm with z | z | z | z | z
  · rw [z, s.ob0] at e; cases e
  · rw [z, s.lm0] at e; cases e
  · rw [z, s.fi0] at e; cases e
  · rw [z, s.cd0] at e; cases e
  · rw [s.d0 a z] at e; cases e
theorem BS.rebase (s : BS K C ps H0 b dx wt ll fl cd ds as lim D cr H) : BS K C ps (coreH (own b ll fl cd ds) H) b dx wt ll fl cd ds as lim D cr H := by
  have nn : ∀ a, a ∈ own b ll fl cd ds → coreH (own b ll fl cd ds) H a = none := fun a ha => by unfold coreH; rw [if_pos ha]
  have up : ∀ a o, H0 a = some o → (∀ q, o ≠ .tbl q) → coreH (own b ll fl cd ds) H a = some o := fun a o e n => core_of (s.no e) (s.ext a o e n) n
  refine { s with ext := fun a o e n => (core_some e).2.1, ob0 := nn _ (by simp), lm0 := nn _ (by simp), fi0 := nn _ (by simp), d0 := fun d hd => nn _ (by simp [hd]), cd0 := nn _ (by simp), wk := up _ _ s.wk (fun _ z => by cases z), pa := ⟨s.pa.1, fun i a p h1 h2 => ?_⟩, nt := fun a q z => (core_some z).2.2 q rfl }
  obtain ⟨dx2, t, k1, k2⟩ := s.pa.2 i a p h1 h2
  exact ⟨dx2, t, up _ _ k1 (fun _ z => by cases z), up _ _ k2 (fun _ z => by cases z)⟩
theorem BS.back (s : BS K C ps H0 b dx wt ll fl cd ds as lim D cr H) (s' : BS K C ps (coreH (own b ll fl cd ds) H) b dx wt ll fl cd ds as lim' D' cr H') : BS K C ps H0 b dx wt ll fl cd ds as lim' D' cr H' :=
  { s' with ext := fun a o e n => s'.ext a o (core_of (s.no e) (s.ext a o e n) n) n, ob0 := s.ob0, lm0 := s.lm0, fi0 := s.fi0, d0 := s.d0, cd0 := s.cd0, wk := s.wk, pa := s.pa, nt := s.nt }
/-- a list of another's is changed -/
theorem BS.other {l : Addr} {xs ys : List V} (s : BS K C ps H0 b dx wt ll fl cd ds as lim D cr H) (hl : H l = some (.lst xs)) (h0 : H0 l = none) (n1 : l ≠ ll) (n2 : l ≠ fl) : BS K C ps H0 b dx wt ll fl cd ds as lim D cr (upd H l (.lst ys)) := by
  refine { s with ext := fun a o e n => ?_, tabs := tabs_upd s.tabs hl (fun _ z => by cases z) (fun _ _ z => by cases z), ob := ?_, lm := (upd_ne (Ne.symm n1)).trans s.lm, fi := (upd_ne (Ne.symm n2)).trans s.fi, dk := fun i d h => ?_, cx := ?_ }
  · rw [upd_ne (ne_of_none e h0)]
    exact s.ext a o e n
  · exact (upd_ne (fun z => by have := s.ob; rw [z, hl] at this; cases this)).trans s.ob
  · obtain ⟨kvs, h1, h2⟩ := s.dk i d h
    exact ⟨kvs, (upd_ne (fun z => by rw [z, hl] at h1; cases h1)).trans h1, h2⟩
  · obtain ⟨ck, h1, h2, h3⟩ := s.cx
    refine ⟨ck, (upd_ne (fun z => by rw [z, hl] at h1; cases h1)).trans h1, h2, fun i j h => ?_⟩
    obtain ⟨x, dxx, r, k1, k2, k3, k4⟩ := h3 i j h
    exact ⟨x, dxx, r, k1, (upd_ne (fun z => by rw [z, hl] at k2; cases k2)).trans k2, k3, k4⟩
/-- what stands elsewhere -/
theorem BS.apart {a : Addr} {o : HO} (s : BS K C ps H0 b dx wt ll fl cd ds as lim D cr H) (h : H a = some o) (n1 : a ≠ ll) (n2 : a ≠ fl) (k : (∃ xs, o = .lst xs) ∨ ∃ xs, o = .tup xs) : a ∉ own b ll fl cd ds := by
  intro hm
  simp only [List.mem_cons] at hm
  rcases hm with z | z | z | z | z
  · rw [z, s.ob] at h
    rcases k with ⟨xs, rfl⟩ | ⟨xs, rfl⟩ <;> cases h
  · exact n1 z
  · exact n2 z
  · obtain ⟨ck, h1, _⟩ := s.cx
    rw [z, h1] at h
    rcases k with ⟨xs, rfl⟩ | ⟨xs, rfl⟩ <;> cases h
  · obtain ⟨i, hi⟩ := List.mem_iff_getElem?.mp z
    obtain ⟨kvs, h1, _⟩ := s.dk i a hi
    rw [h1] at h
    rcases k with ⟨xs, rfl⟩ | ⟨xs, rfl⟩ <;> cases h
end
theorem StL.core {C : Cf} {ps : List Pt} {H0 H H' : Hp} {b dx wt ll fl cd l : Addr} {ds as ts : List Addr} {fs : List (List Int)} {lim : List (Option Int)} {D : Nat → Nat → Option Int} {cr : Nat → Nat → Prop} (h : StL H l ts fs) (s : BS K C ps H0 b dx wt ll fl cd ds as lim D cr H) (n1 : l ≠ ll) (n2 : l ≠ fl)
    (e : ExtN (coreH (own b ll fl cd ds) H) H') : StL H' l ts fs := by
  refine ⟨e _ _ (core_of (s.apart h.hl n1 n2 (.inl ⟨_, rfl⟩)) h.hl (fun _ z => by cases z)) (fun _ z => by cases z), h.len, fun k t f h1 h2 => ?_⟩
  have h3 := h.at_ k t f h1 h2
  refine e _ _ (core_of (s.apart h3 (fun z => ?_) (fun z => ?_) (.inr ⟨_, rfl⟩)) h3 (fun _ z => by cases z)) (fun _ z => by cases z)
  · rw [z, s.lm] at h3; cases h3
  · rw [z, s.fi] at h3; cases h3
abbrev NAs : List Str := ["self", "found", "stop", "day", "place", "count", "blocker"]
theorem scAs : FnScope NAs ["self"] (defScope sAllStops) := ⟨rfl, rfl, rfl, by decide +kernel, rfl, by decide +kernel, by decide +kernel⟩
def spAll (K : PySem.W.Frag) : Sp := fun vs H Q _ => ∃ (C : Cf) (ps : List Pt) (H0 : Hp) (b dx wt ll fl cd : Addr) (ds as : List Addr) (D : Nat → Nat → Option Int) (cr : Nat → Nat → Prop), vs = [.ref b] ∧
  BS K C ps H0 b dx wt ll fl cd ds as (List.replicate C.m none) D cr H ∧ DSet C (List.replicate C.m none) D ∧ (∀ i j, i < C.m → j < C.m → i ≠ j → cr i j) ∧
  ∀ l ts H', ExtN H0 H' → TabsN (TT K) H' → H0 l = none → StL H' l ts (stops C) → Q (.ref l) H'
theorem ok_all (T : Tx K mg) (B : Tb K mg base) : FnR P w K mg base CX0 9 (ma K (aB K) "all_stops") (spAll K) := by
  refine defR T.d_sAllStops scAs (fun _ _ _ _ _ _ us hl => match us, hl with | [_], _ => rfl) (fun vs H Q E h => ?_) (fun cdv A outer s H vs Q E hr h => ?_)
  · obtain ⟨_, _, _, _, _, _, _, _, _, _, _, _, _, rfl, _⟩ := h; rfl
  · obtain ⟨C, ps, H0, b, dx, wt, ll, fl, cd, ds, as, D, cr, rfl, S, hD, hcr, q⟩ := h
    have nd := scAs.nd
    have hr3 : Room 3 _ := hr.mono (by decide)
    refine ⟨_, pss_cons (ps_par (i := 1) (j := 2) rfl nd rfl rfl (by decide) rfl rfl (pa_cons (pe_lst pa_nil) (pa_cons (pe_methR0 (pv 0) T.c_RingBlocks T.m_RingBlocks_next_stop (ok_next T) hr3 pass0) pa_nil)) (by rfl))
      <| pss_cons (ps_while PassesOwn.never (pt_cmpR op_notN (pv 2) pe_non (nomark _))
        (pss_cons (ps_expr (pe_bm PySem.F.plainAttrs_list PySem.F.slot_list_append PySem.F.type_list_append mt_append (pv 1) (pa_cons (pv 2) pa_nil)))
        <| pss_cons (ps_asg (pv 2) (pg_tup rfl (pgs_cons (pg_name (i := 3) nd rfl (.inl rfl)) (pgs_cons (pg_name (i := 4) nd rfl (.inl rfl)) (pgs_cons (pg_name (i := 5) nd rfl (.inl rfl)) (pgs_cons (pg_name (i := 6) nd rfl (.inl rfl)) pgs_nil))))))
        <| pss_cons (ps_expr (pe_methR (pv 0) T.c_RingBlocks T.m_RingBlocks_settle (ok_settle T B) hr pass0 (pa_cons (pv 4) (pa_cons (pv 5) pa_nil))))
        <| pss_one (ps_set (i := 2) nd rfl (.inl rfl) (pe_methR0 (pv 0) T.c_RingBlocks T.m_RingBlocks_next_stop (ok_next T) hr3 pass0))))
      <| pss_one (ps_ret (pv 1)), ?_⟩
    refine ⟨Nat.zero_le _, fun l hl => ?_⟩
    have S0 := S.same (Same.new (o := .lst []) hl)
    have hl0 : H0 l = none := S.fresh hl
    have nl1 : l ≠ ll := fun z => by rw [z, S.lm] at hl; cases hl
    have nl2 : l ≠ fl := fun z => by rw [z, S.fi] at hl; cases hl
    refine ⟨_, rfl, _, _, _, rfl, S0.ob, rfl, C, ps, H0, b, dx, wt, ll, fl, cd, ds, as, List.replicate C.m none, D, cr, rfl, S0, hD, fun v H1 S1 hv => ?_⟩
    refine ⟨_, _, rfl, ?_⟩
    refine ⟨fun m σ H' => ∃ (lim : List (Option Int)) (D' : Nat → Nat → Option Int) (done : List (List Int)) (ts : List Addr) (v : V) (o3 o4 o5 o6 : Option V), σ = [some (.ref b), some (.ref l), some v, o3, o4, o5, o6] ∧ BS K C ps H0 b dx wt ll fl cd ds as lim D' cr H' ∧ DSet C lim D' ∧ StL H' l ts done ∧ done.length + opens lim ≤ C.m ∧
        stop2V (minL (stopL C lim)) H' v ∧ done ++ runS C (opens lim) lim = stops C ∧ m = opens lim,
      ⟨_, List.replicate C.m none, D, [], [], v, _, _, _, _, rfl, S0.same S1, hD, ⟨S1 _ _ upd_same, rfl, fun k t f h => by simp at h⟩, by rw [opens_rep]; exact Nat.le_of_eq (Nat.zero_add _), hv, by rw [opens_rep]; rfl, rfl⟩, ?_⟩
    rintro m σ H2 ⟨lim, D', done, ts, v, o3, o4, o5, o6, rfl, S2, hD2, hst, hlen, hv2, hrun, rfl⟩
    refine ⟨_, rfl, rfl, _, rfl, ?_⟩
    cases hm : minL (stopL C lim) with
    | none =>
      rw [hm] at hv2
      have hv2 : v = .non := hv2
      subst hv2
      refine iteF ?_
      rw [runS_stop hm, List.append_nil] at hrun
      rw [hrun] at hst
      exact ⟨_, rfl, q l ts H2 S2.ext S2.tabs hl0 hst⟩
    | some s =>
      rw [hm] at hv2
      obtain ⟨t, rfl, ht⟩ := hv2
      refine iteT ?_
      have hmem : s ∈ stopL C lim := by
        have := minL_ok (stopL C lim)
        rw [hm] at this
        exact this.1
      obtain ⟨i, j, c, hi, hj, hni, hc, rfl⟩ := mem_stop.mp hmem
      obtain ⟨op1, op2⟩ := open_pos S2.ll' hmem
      have eput : put lim [(C.at i).day + c, (i : Int), c, (j : Int)] = lim.set i (some c) := by
        show lim.set ((i : Int)).toNat (some c) = _
        rw [show ((i : Nat) : Int).toNat = i by omega]
      rw [eput] at op1
      obtain ⟨cb0, cb1⟩ := cand_b S.n0 hc
      have n1 := S.n1
      refine ⟨fun σ' H' => ∃ (D'' : Nat → Nat → Option Int) (v : V) (o3 o4 o5 o6 : Option V), σ' = [some (.ref b), some (.ref l), some v, o3, o4, o5, o6] ∧ BS K C ps H0 b dx wt ll fl cd ds as (lim.set i (some c)) D'' cr H' ∧ DSet C (lim.set i (some c)) D'' ∧ StL H' l (ts ++ [t]) (done ++ [[(C.at i).day + c, (i : Int), c, (j : Int)]]) ∧
          stop2V (minL (stopL C (lim.set i (some c)))) H' v, ?_, ?_⟩
      · rintro σ' H' ⟨D'', v, o3, o4, o5, o6, rfl, S3, hD3, hst3, hv3⟩
        refine ⟨opens (lim.set i (some c)), by omega, lim.set i (some c), D'', _, _, v, _, _, _, _, rfl, S3, hD3, hst3, ?_, hv3, ?_, rfl⟩
        · rw [List.length_append]
          show done.length + 1 + _ ≤ _
          omega
        · rw [← op1, runS_go hm, eput] at hrun
          rw [List.append_assoc]
          exact hrun
      · refine ⟨_, rfl, .inl ⟨rfl, _, SqL.of hst.hl⟩, _, rfl, l, _, _, rfl, rfl, hst.hl, ?_, ?_⟩
        · rw [List.length_map, hst.len]
          have := S.m8
          exact Nat.lt_of_lt_of_le (show _ < 9 by omega) (by decide)
        have hst3 := hst.add ht
        have ht3 : (upd H2 l (.lst (ts.map V.ref ++ [.ref t]))) t = some (stV [(C.at i).day + c, (i : Int), c, (j : Int)]) := (upd_ne (fun z => by rw [z, hst.hl] at ht; cases ht)).trans ht
        have k3 : Kp l H2 (upd H2 l (.lst (ts.map V.ref ++ [.ref t]))) := Kp.put fun _ _ _ e => e
        have S3 : BS K C ps H0 b dx wt ll fl cd ds as lim D' cr (upd H2 l (.lst (ts.map V.ref ++ [.ref t]))) := S2.other hst.hl hl0 nl1 nl2
        refine ⟨_, rfl, t, _, rfl, SqT.of ht3, rfl, _, _, rfl, _, _, rfl, _, _, rfl, _, _, rfl, rfl, ?_⟩
        refine ⟨_, rfl, _, _, _, rfl, S3.ob, rfl, _, rfl, _, rfl, C, ps, _, b, dx, wt, ll, fl, cd, ds, as, lim, D', cr, i, c, rfl, S3.rebase, hD2, hcr, hi, cb0, by omega, fun D'' H4 S4' hD4 => ?_⟩
        have S4 := S3.back S4'
        refine ⟨_, rfl, _, _, _, rfl, S4.ob, rfl, C, ps, H0, b, dx, wt, ll, fl, cd, ds, as, _, D'', cr, rfl, S4, hD4, fun v5 H5 S5 hv5 => ?_⟩
        exact ⟨D'', v5, _, _, _, _, rfl, S4.same S5, hD4, (hst3.core S3 nl1 nl2 S4'.ext).extN (SameN S5), hv5⟩
end
end Pp

end
section
set_option Elab.async false
set_option linter.all false
set_option maxRecDepth 100000
set_option maxHeartbeats 4000000
/-! Blocks are made. -/
namespace Pp
open PySem PySem.Spec PyProof.Rows L2 StX Rg NdefX LamX
section
variable {P : Program} {w : World} {K : PySem.W.Frag} {mg : Str → Option Value} {base : Heap}
theorem scRc : FnScope ["self", "painter", "other"] ["self", "painter", "other"] (defScope sRbCross) := ⟨rfl, rfl, rfl, by decide +kernel, rfl, by decide +kernel, by decide +kernel⟩
/-- the days are this near -/
def DayOk (ps : List Pt) : Prop := ∀ p ∈ ps, ∀ q ∈ ps, -(2 ^ 110) < p.day - q.day ∧ p.day - q.day < 2 ^ 110
def spCross (K : PySem.W.Frag) : Sp := fun vs H Q _ => ∃ (b dx a1 a2 : Addr) (fs : Fs) (n : Int) (p q : Pt), vs = [.ref b, .ref a1, .ref a2] ∧ H b = some (.ins (aB K) dx fs) ∧ fs.lookup ("around" : Str) = some (.int n) ∧ PAt K H a1 p ∧ PAt K H a2 q ∧ 0 < n ∧ n < 2 ^ 62 ∧ -(2 ^ 110) < p.day - q.day ∧ p.day - q.day < 2 ^ 110 ∧
  ∀ x dxx r H', H x = none → H' x = some (.ins (aX K) dxx (xf r)) → IsRC n (wkOf p) (wkOf q) r → RcOk r → Same H H' → Q (.ref x) H'
theorem ok_cross (T : Tx K mg) : FnR P w K mg base CX0 4 (ma K (aB K) "crossing") (spCross K) := by
  refine defR T.d_sRbCross scRc (fun _ _ _ _ _ _ us hl => match us, hl with | [_, _, _], _ => rfl) (fun vs H Q E h => ?_) (fun cdv A outer s H vs Q E hr h => ?_)
  · obtain ⟨_, _, _, _, _, _, _, _, rfl, _⟩ := h; rfl
  · obtain ⟨b, dx, a1, a2, fs, n, p, q, rfl, hb, hf, hp, hq, n0, n1, w0, w1, k⟩ := h
    have hr2 : Room 2 _ := hr.mono (by decide)
    refine ⟨_, pss_one (ps_ret (pe_makeR T.k_RingCrossing (ok_xinit T) hr inName T.g_RingCrossing pass0 (pa_cons (pe_fld (pv 0) rfl) (pa_cons (pe_propR (pv 1) T.c_Painter T.p_Painter_way (ok_pway T) hr2) (pa_cons (pe_propR (pv 2) T.c_Painter T.p_Painter_way (ok_pway T) hr2) pa_nil))))), ?_⟩
    obtain ⟨dx1, t1, k1, k2⟩ := id hp
    refine ⟨_, rfl, _, _, _, _, _, rfl, hb, T.c_RingBlocks, T.a_RingBlocks_around, hf, _, rfl, _, _, _, rfl, k1, a1, p, rfl, hp, fun u1 hu1 => ?_⟩
    have S1 := Same.new (o := .tup [.int p.day, .int p.post, .int p.stride]) hu1
    have hq1 := hq.same S1
    obtain ⟨dx2, t2, k3, k4⟩ := id hq1
    refine ⟨_, rfl, _, _, _, rfl, k3, a2, q, rfl, hq1, fun u2 hu2 => ?_⟩
    have S2 := Same.new (o := .tup [.int q.day, .int q.post, .int q.stride]) hu2
    intro x dxx hx hdx hne
    have e1 : (upd (upd H u1 (.tup [.int p.day, .int p.post, .int p.stride])) u2 (.tup [.int q.day, .int q.post, .int q.stride])) u1 = some (.tup [.int p.day, .int p.post, .int p.stride]) := S2 _ _ upd_same
    have e2 : (upd (upd H u1 (.tup [.int p.day, .int p.post, .int p.stride])) u2 (.tup [.int q.day, .int q.post, .int q.stride])) u2 = some (.tup [.int q.day, .int q.post, .int q.stride]) := upd_same
    have S3 : Same (upd (upd H u1 (.tup [.int p.day, .int p.post, .int p.stride])) u2 (.tup [.int q.day, .int q.post, .int q.stride])) (upd (upd (upd (upd H u1 (.tup [.int p.day, .int p.post, .int p.stride])) u2 (.tup [.int q.day, .int q.post, .int q.stride])) dxx (.own x)) x (.ins (aX K) dxx [])) := fun b o e => by
      rw [upd_ne (ne_of_none e hx), upd_ne (ne_of_none e hdx)]
      exact e
    refine ⟨x, dxx, u1, u2, n, p.day, p.post, p.stride, q.day, q.post, q.stride, rfl, upd_same, S3 _ _ e1, S3 _ _ e2, n0, n1, fun r H' hR hx' kp => ⟨rfl, ?_⟩⟩
    have hx0 : H x = none := (S1.trans S2).free hx
    exact k x dxx r H' hx0 hx' hR (rc_ok n0 n1 w0 w1 hR) fun a o e => mk_same kp hx hdx a o ((S1.trans S2) _ _ e)
/-! ### Blocks.__init__ -/
abbrev NBi : List Str := ["self", "painters", "place", "painter", "other_place", "other"]
theorem scBi : FnScope NBi ["self", "painters"] (defScope sBlInit) := ⟨rfl, rfl, rfl, by decide +kernel, rfl, by decide +kernel, by decide +kernel⟩
/-- the pairs that are done: all of the places below i, of i those below j -/
def doneP (m i j : Nat) : Nat → Nat → Prop := fun i' j' => i' ≠ j' ∧ j' < m ∧ (i' < i ∨ (i' = i ∧ j' < j))
instance (m i j i' j' : Nat) : Decidable (doneP m i j i' j') := by unfold doneP; infer_instance
noncomputable def D0 (C : Cf) (i j : Nat) : Nat → Nat → Option Int := fun i' j' => if doneP C.m i j i' j' then fbAt C (List.replicate C.m none) i' j' else none
theorem done_skip (m i : Nat) : doneP m i i = doneP m i (i + 1) := by
  funext i' j'
  refine propext ⟨fun h => ?_, fun h => ?_⟩
  · unfold doneP at *; omega
  · unfold doneP at *; omega
theorem done_row (m i : Nat) : doneP m i m = doneP m (i + 1) 0 := by
  funext i' j'
  refine propext ⟨fun h => ?_, fun h => ?_⟩
  · unfold doneP at *; omega
  · unfold doneP at *; omega
theorem D0_eq {C : Cf} {i j i2 j2 : Nat} (h : doneP C.m i j = doneP C.m i2 j2) : D0 C i j = D0 C i2 j2 := by
  funext i' j'
  unfold D0
  have e : doneP C.m i j i' j' ↔ doneP C.m i2 j2 i' j' := by rw [h]
  by_cases q : doneP C.m i j i' j'
  · rw [if_pos q, if_pos (e.mp q)]
  · rw [if_neg q, if_neg (fun z => q (e.mpr z))]
theorem D0_step {C : Cf} {i j : Nat} (hj : j < C.m) (h : j ≠ i) : upD (D0 C i j) i j (fbAt C (List.replicate C.m none) i j) = D0 C i (j + 1) := by
  funext i' j'
  unfold upD D0
  by_cases e : i' = i ∧ j' = j
  · obtain ⟨rfl, rfl⟩ := e
    rw [if_pos ⟨rfl, rfl⟩, if_pos (by unfold doneP; omega)]
  · rw [if_neg e]
    by_cases q : doneP C.m i j i' j'
    · rw [if_pos q, if_pos (by unfold doneP at *; omega)]
    · rw [if_neg q, if_neg (by unfold doneP at *; omega)]
theorem core1_none {H H1 : Hp} {a b : Addr} (k : Kp b H H1) (h : H1 a = none) : coreH [b] H a = none := by
  cases e : coreH [b] H a with
  | none => rfl
  | some o =>
    obtain ⟨h1, h2, _⟩ := core_some e
    rw [k a o (by simpa using h1) h2] at h
    cases h
theorem core1_ext {H H1 : Hp} {b : Addr} (k : Kp b H H1) : ExtN (coreH [b] H) H1 := fun a o e _ => by
  obtain ⟨h1, h2, _⟩ := core_some e
  exact k a o (by simpa using h1) h2
theorem Kp.new {x a : Addr} {H H1 : Hp} {o : HO} (k : Kp x H H1) (h : H1 a = none) : Kp x H (upd H1 a o) := k.same (Same.new h)
def spBInit (K : PySem.W.Frag) : Sp := fun vs H Q _ => ∃ (C : Cf) (ps : List Pt) (b dx wt : Addr) (as : List Addr), vs = [.ref b, .ref wt] ∧ H b = some (.ins (aB K) dx [("around", .int C.n)]) ∧ H wt = some (.tup (as.map V.ref)) ∧ PAll K H as ps ∧ C.ps = ps.map wkOf ∧ C.m ≤ 8 ∧ 0 < C.n ∧ C.n < 2 ^ 62 ∧ DayOk ps ∧ TabsN (TT K) H ∧
  ∀ ll fl cd ds H', BS K C ps (coreH [b] H) b dx wt ll fl cd ds as (List.replicate C.m none) (D0 C C.m 0) (doneP C.m C.m 0) H' → Q .non H'
theorem ok_binit (T : Tx K mg) (B : Tb K mg base) : FnR P w K mg base CX0 8 (ma K (ga K "Blocks") "__init__") (spBInit K) := by
  refine defR T.d_sBlInit scBi (fun _ _ _ _ _ _ us hl => match us, hl with | [_, _], _ => rfl) (fun vs H Q E h => ?_) (fun cdv A outer s H vs Q E hr h => ?_)
  · obtain ⟨_, _, _, _, _, _, rfl, _⟩ := h; rfl
  · obtain ⟨C, ps, b, dx, wt, as, rfl, hb, hwt, hpa, hcm, m8, n0, n1, hday, hT, q⟩ := h
    have nd := scBi.nd
    have hu : ∀ {A : Around}, Room 7 A → A.units + 1 < cLine := fun r => by have := r.units; omega
    have hr4 : Room 4 _ := hr.mono (by decide)
    refine ⟨_, pss_cons (ps_fld (pv 0) (pv 1) rfl)
      <| pss_cons (ps_fld (pv 0) (pe_lc (own := [("painter", 3)]) (g := gName 3) (tt := tYes) rfl nd (pi_tup (pv 1)) (blkOk_by (N := NBi) (sc := defScope sBlInit) (by decide +kernel)) (fun _ _ _ _ _ => pg_name (i := 3) nd rfl (Or.inl rfl)) (fun _ _ _ _ _ => pts_nil) (fun _ _ _ _ _ => pe_non)) rfl)
      <| pss_cons (ps_fld (pv 0) (pe_lc (own := [("painter", 3)]) (g := gName 3) (tt := tYes) rfl nd (pi_tup (pv 1)) (blkOk_by (N := NBi) (sc := defScope sBlInit) (by decide +kernel)) (fun _ _ _ _ _ => pg_name (i := 3) nd rfl (Or.inl rfl)) (fun _ _ _ _ _ => pts_nil) (fun _ _ _ _ _ => pe_dnewK)) rfl)
      <| pss_cons (ps_fld (pv 0) pe_dnewT rfl)
      <| pss_one (ps_for PassesOwn.never rfl (pi_enumT inName T.z_enumerate (pa_cons (pv 1) pa_nil)) (pg_tup rfl (pgs_cons (pg_name (i := 2) nd rfl (.inl rfl)) (pgs_cons (pg_name (i := 3) nd rfl (.inl rfl)) pgs_nil)))
        (pss_one (ps_for PassesOwn.never rfl (pi_enumT inName T.z_enumerate (pa_cons (pv 1) pa_nil)) (pg_tup rfl (pgs_cons (pg_name (i := 4) nd rfl (.inl rfl)) (pgs_cons (pg_name (i := 5) nd rfl (.inl rfl)) pgs_nil)))
          (pss_one (ps_if (pt_cmpR op_ne (pv 4) (pv 2) (nomark _))
            (pss_cons (ps_dput (hu hr) (pe_fld (pv 0) rfl) (pe_tup (pa_cons (pv 2) (pa_cons (pv 4) pa_nil))) (pe_methR (pv 0) T.c_RingBlocks T.m_RingBlocks_crossing (ok_cross T) hr4 pass0 (pa_cons (pv 3) (pa_cons (pv 5) pa_nil))) rfl)
              (pss_one (ps_expr (pe_methR (pv 0) T.c_RingBlocks T.m_RingBlocks_look (ok_look T B) hr pass0 (pa_cons (pv 2) (pa_cons (pv 4) pa_nil)))))) pss_nil))))), ?_⟩
    have al : as.length = C.m := by rw [hpa.1, Cf.m, hcm, List.length_map]
    have nwb : wt ≠ b := fun z => by rw [z, hb] at hwt; cases hwt
    have hzs : ∀ k : Nat, k ≤ 8 → k < sizeLine := fun k h => Nat.lt_of_le_of_lt h (by decide)
    -- walkers
    refine ⟨_, rfl, _, rfl, _, _, _, _, rfl, hb, T.c_RingBlocks, T.a_RingBlocks_walkers, by show 1 < 1000; decide, ?_⟩
    have k1 : Kp b H (upd H b (.ins (aB K) dx (putF "walkers" (.ref wt) [("around", .int C.n)]))) := Kp.put fun _ _ _ e => e
    have T1 : TabsN (TT K) (upd H b (.ins (aB K) dx (putF "walkers" (.ref wt) [("around", .int C.n)]))) := tabs_upd hT hb (fun _ z => by cases z) (fun _ _ z => by cases z)
    have hb1 : (upd H b (.ins (aB K) dx (putF "walkers" (.ref wt) [("around", .int C.n)]))) b = some (.ins (aB K) dx (putF "walkers" (.ref wt) [("around", .int C.n)])) := upd_same
    generalize upd H b (.ins (aB K) dx (putF "walkers" (.ref wt) [("around", .int C.n)])) = H1 at k1 T1 hb1 ⊢
    have hw1 := k1 _ _ nwb hwt
    -- limits
    refine ⟨_, rfl, wt, rfl, ⟨_, SqT.of hw1⟩, fun ll hll => ?_⟩
    refine lc_it walk_tup (fun i H' => Same H1 H' ∧ H' ll = some (.lst (List.replicate i V.non))) ⟨Same.new hll, upd_same⟩ (fun i H' _ h => SqT.of (h.1 _ _ hw1)) ?_ ?_
    · rintro i y H2 H3 hi ⟨S1, h1⟩ ⟨rfl, e2⟩
      rw [List.length_map, al] at hi
      refine ⟨rfl, _, h1, by rw [List.length_replicate]; exact hzs _ (by omega), fun x o e => ?_, ?_⟩
      · rw [upd_ne (ne_of_none e hll)]
        exact S1 _ _ e
      · rw [upd_same, List.replicate_succ']
    rintro H2 ⟨S2, h2⟩
    rw [List.length_map, al] at h2
    refine ⟨_, rfl, _, _, _, _, rfl, S2 _ _ hb1, T.c_RingBlocks, T.a_RingBlocks_limits, by show 2 < 1000; decide, ?_⟩
    have nlb : ll ≠ b := fun z => by rw [z, hb1] at hll; cases hll
    have cl0 := core1_none k1 hll
    have k3 : Kp b H (upd H2 b (.ins (aB K) dx (putF "limits" (.ref ll) (putF "walkers" (.ref wt) [("around", .int C.n)])))) := Kp.put (k1.same S2)
    have T3 : TabsN (TT K) (upd H2 b (.ins (aB K) dx (putF "limits" (.ref ll) (putF "walkers" (.ref wt) [("around", .int C.n)])))) := tabs_upd (T1.ext S2) (S2 _ _ hb1) (fun _ z => by cases z) (fun _ _ z => by cases z)
    have hb3 : (upd H2 b (.ins (aB K) dx (putF "limits" (.ref ll) (putF "walkers" (.ref wt) [("around", .int C.n)])))) b = some (.ins (aB K) dx (putF "limits" (.ref ll) (putF "walkers" (.ref wt) [("around", .int C.n)]))) := upd_same
    have hl3 := (upd_ne (o := .ins (aB K) dx (putF "limits" (.ref ll) (putF "walkers" (.ref wt) [("around", .int C.n)]))) nlb).trans h2
    generalize upd H2 b (.ins (aB K) dx (putF "limits" (.ref ll) (putF "walkers" (.ref wt) [("around", .int C.n)]))) = H3 at k3 T3 hb3 hl3 ⊢
    have hw3 := k3 _ _ nwb hwt
    -- firsts
    refine ⟨_, rfl, wt, rfl, ⟨_, SqT.of hw3⟩, fun fl hfl => ?_⟩
    refine lc_it walk_tup (fun i H' => Same H3 H' ∧ ∃ ds : List Addr, ds.length = i ∧ ds.Nodup ∧ H' fl = some (.lst (ds.map V.ref)) ∧ ∀ d ∈ ds, H' d = some (.dK []) ∧ H3 d = none) ⟨Same.new hfl, [], rfl, List.nodup_nil, upd_same, fun d h => by simp at h⟩ (fun i H' _ h => SqT.of (h.1 _ _ hw3)) ?_ ?_
    · rintro i y H4 H5 hi ⟨S4, ds, dl, dn, hf, hds⟩ ⟨rfl, e2⟩
      rw [List.length_map, al] at hi
      refine ⟨rfl, fun d hd => ?_⟩
      have nfd : fl ≠ d := ne_of_none hf hd
      refine ⟨_, (upd_ne nfd).trans hf, by rw [List.length_map, dl]; exact hzs _ (by omega), fun x o e => ?_, ds ++ [d], by rw [List.length_append, dl]; rfl, List.nodup_append.mpr ⟨dn, by simp, fun x hx y hy z => ?_⟩, by rw [upd_same, List.map_append]; rfl, fun x hx => ?_⟩
      · rw [upd_ne (ne_of_none e hfl), upd_ne (ne_of_none (S4 _ _ e) hd)]
        exact S4 _ _ e
      · have hy : y = d := by simpa using hy
        rw [z, hy] at hx
        rw [(hds d hx).1] at hd
        cases hd
      · rcases List.mem_append.mp hx with hx | hx
        · obtain ⟨q1, q2⟩ := hds x hx
          have nxf : x ≠ fl := fun z => by rw [z, hf] at q1; cases q1
          exact ⟨(upd_ne nxf).trans ((upd_ne (ne_of_none q1 hd)).trans q1), q2⟩
        · have hx : x = d := by simpa using hx
          subst hx
          exact ⟨(upd_ne nfd.symm).trans upd_same, S4.free hd⟩
    rintro H4 ⟨S4, ds, dl, dn, hf4, hds⟩
    rw [List.length_map, al] at dl
    refine ⟨_, rfl, _, _, _, _, rfl, S4 _ _ hb3, T.c_RingBlocks, T.a_RingBlocks_firsts, by show 3 < 1000; decide, ?_⟩
    have nfb : fl ≠ b := fun z => by rw [z, hb3] at hfl; cases hfl
    have nlf : ll ≠ fl := ne_of_none hl3 hfl
    have cf0 := core1_none k3 hfl
    have cd0 : ∀ d ∈ ds, coreH [b] H d = none := fun d hd => core1_none k3 (hds d hd).2
    have ndb : ∀ d ∈ ds, d ≠ b := fun d hd z => by have := (hds d hd).2; rw [z, hb3] at this; cases this
    have k5 : Kp b H (upd H4 b (.ins (aB K) dx (putF "firsts" (.ref fl) (putF "limits" (.ref ll) (putF "walkers" (.ref wt) [("around", .int C.n)]))))) := Kp.put (k3.same S4)
    have T5 : TabsN (TT K) (upd H4 b (.ins (aB K) dx (putF "firsts" (.ref fl) (putF "limits" (.ref ll) (putF "walkers" (.ref wt) [("around", .int C.n)]))))) := tabs_upd (T3.ext S4) (S4 _ _ hb3) (fun _ z => by cases z) (fun _ _ z => by cases z)
    have hb5 : (upd H4 b (.ins (aB K) dx (putF "firsts" (.ref fl) (putF "limits" (.ref ll) (putF "walkers" (.ref wt) [("around", .int C.n)]))))) b = some (.ins (aB K) dx (putF "firsts" (.ref fl) (putF "limits" (.ref ll) (putF "walkers" (.ref wt) [("around", .int C.n)])))) := upd_same
    have hl5 := (upd_ne (o := .ins (aB K) dx (putF "firsts" (.ref fl) (putF "limits" (.ref ll) (putF "walkers" (.ref wt) [("around", .int C.n)])))) nlb).trans (S4 _ _ hl3)
    have hf5 := (upd_ne (o := .ins (aB K) dx (putF "firsts" (.ref fl) (putF "limits" (.ref ll) (putF "walkers" (.ref wt) [("around", .int C.n)])))) nfb).trans hf4
    have hd5 : ∀ d ∈ ds, (upd H4 b (.ins (aB K) dx (putF "firsts" (.ref fl) (putF "limits" (.ref ll) (putF "walkers" (.ref wt) [("around", .int C.n)]))))) d = some (.dK []) := fun d hd => (upd_ne (ndb d hd)).trans (hds d hd).1
    generalize upd H4 b (.ins (aB K) dx (putF "firsts" (.ref fl) (putF "limits" (.ref ll) (putF "walkers" (.ref wt) [("around", .int C.n)])))) = H5 at k5 T5 hb5 hl5 hf5 hd5 ⊢
    -- crossings
    intro cd hcd
    have ncb : cd ≠ b := fun z => by rw [z, hb5] at hcd; cases hcd
    refine ⟨_, rfl, _, _, _, _, rfl, (upd_ne ncb.symm).trans hb5, T.c_RingBlocks, T.a_RingBlocks_crossings, by show 4 < 1000; decide, ?_⟩
    have S6 := Same.new (o := .dT []) hcd
    have B6 : BS K C ps (coreH [b] H) b dx wt ll fl cd ds as (List.replicate C.m none) (D0 C 0 0) (doneP C.m 0 0) (upd (upd H5 cd (.dT [])) b (.ins (aB K) dx (bf C.n wt ll fl cd))) := by
      have nb0 : coreH [b] H b = none := by unfold coreH; rw [if_pos (by simp)]
      have kk : Kp b H (upd (upd H5 cd (.dT [])) b (.ins (aB K) dx (bf C.n wt ll fl cd))) := Kp.put (k5.same S6)
      refine ⟨core1_ext kk, tabs_upd (T5.ext S6) (S6 _ _ hb5) (fun _ z => by cases z) (fun _ _ z => by cases z), upd_same, nb0, ?_, cl0, ?_, cf0, nlf, dl, dn, cd0, fun i d hid => ⟨[], ?_, ⟨by simp, fun kv h => by simp at h, fun j _ => ?_⟩⟩, core1_none k5 hcd, ⟨[], ?_, ⟨by simp, fun kv h => by simp at h⟩, fun i j h => ?_⟩, List.length_replicate .., fun j c h => ?_, ?_, ?_, hcm, m8, n0, n1, fun a q z => (core_some z).2.2 q rfl⟩
      · rw [upd_ne nlb, S6 _ _ hl5, List.map_replicate]; rfl
      · rw [upd_ne nfb, S6 _ _ hf5]
      · have hd := List.mem_of_getElem? hid
        rw [upd_ne (ndb d hd), S6 _ _ (hd5 d hd)]
      · rw [valV_nil]
        unfold D0
        rw [if_neg (by unfold doneP; omega)]
        rfl
      · rw [upd_ne ncb, upd_same]
      · unfold doneP at h; omega
      · rw [limAt_rep] at h; cases h
      · exact core_of (by simpa using nwb) hwt (fun _ z => by cases z)
      · refine ⟨hpa.1, fun i a p h1 h2 => ?_⟩
        obtain ⟨dx2, t, q1, q2⟩ := hpa.2 i a p h1 h2
        refine ⟨dx2, t, core_of ?_ q1 (fun _ z => by cases z), core_of ?_ q2 (fun _ z => by cases z)⟩
        · simp only [List.mem_singleton]
          intro z
          rw [z, hb] at q1
          have := HO.ins.inj (Option.some.inj q1)
          have := this.2.2
          simp at this
        · simp only [List.mem_singleton]
          intro z
          rw [z, hb] at q2
          cases q2
    have hw6 := B6.ext _ _ B6.wk (fun _ z => by cases z)
    refine ⟨_, rfl, wt, _, rfl, SqT.of hw6, ?_⟩
    refine for_it walk_enumT (fun i σ H' => ∃ u v s t, σ = [some (.ref b), some (.ref wt), u, v, s, t] ∧ BS K C ps (coreH [b] H) b dx wt ll fl cd ds as (List.replicate C.m none) (D0 C i 0) (doneP C.m i 0) H') ⟨_, _, _, _, rfl, B6⟩ (fun i σ H' _ h => by
      obtain ⟨_, _, _, _, _, B⟩ := h
      exact SqT.of (B.ext _ _ B.wk (fun _ z => by cases z))) ?_ ?_
    · rintro i y σ H7 H8 hi ⟨u, v, s', t', rfl, B7⟩ ⟨TP, a0, b0, rfl, hTP, rfl, e1, e2⟩
      cases e1
      obtain ⟨a, hai, rfl⟩ := ref_ix e2
      rw [List.length_map, al] at hi
      obtain ⟨p, hpi, _⟩ := hpa.get hai
      have hpm := List.mem_of_getElem? hpi
      have B8 := B7.same (Same.new (o := .tup [.int (i : Nat), .ref a]) hTP)
      refine ⟨TP, _, rfl, SqT.of upd_same, rfl, _, _, rfl, _, _, rfl, rfl, ?_⟩
      refine ⟨_, rfl, wt, _, rfl, SqT.of (B8.ext _ _ B8.wk (fun _ z => by cases z)), ?_⟩
      refine for_it walk_enumT (fun j σ H' => ∃ s t, σ = [some (.ref b), some (.ref wt), some (.int (i : Nat)), some (.ref a), s, t] ∧ BS K C ps (coreH [b] H) b dx wt ll fl cd ds as (List.replicate C.m none) (D0 C i j) (doneP C.m i j) H') ⟨_, _, rfl, B8⟩ (fun i σ H' _ h => by
        obtain ⟨_, _, _, B⟩ := h
        exact SqT.of (B.ext _ _ B.wk (fun _ z => by cases z))) ?_ ?_
      · rintro j y σ H9 H10 hj ⟨s', t', rfl, B9⟩ ⟨TP2, a0, b0, rfl, hTP2, rfl, e1, e2⟩
        cases e1
        obtain ⟨a2, haj, rfl⟩ := ref_ix e2
        rw [List.length_map, al] at hj
        obtain ⟨p2, hpj, _⟩ := hpa.get haj
        have hpm2 := List.mem_of_getElem? hpj
        have B10 := B9.same (Same.new (o := .tup [.int (j : Nat), .ref a2]) hTP2)
        refine ⟨TP2, _, rfl, SqT.of upd_same, rfl, _, _, rfl, _, _, rfl, rfl, ?_⟩
        refine ⟨_, rfl, _, rfl, rfl, _, rfl, iteND (fun hji => ?_) (fun hji => ?_)⟩
        · have hji : j ≠ i := fun z => hji (by rw [z])
          have pa10 := B10.pa.extN B10.ext
          refine ⟨_, rfl, _, _, _, rfl, B10.ob, rfl, _, rfl, _, rfl, b, dx, a, a2, _, C.n, p, p2, rfl, B10.ob, rfl, pa10.2 i a p hai hpi, pa10.2 j a2 p2 haj hpj, n0, n1, (hday p hpm p2 hpm2).1, (hday p hpm p2 hpm2).2, fun x dxx r H11 hx0 hx hR hok S11 => ?_⟩
          have B11 := B10.same S11
          refine ⟨_, rfl, _, _, _, _, _, rfl, B11.ob, T.c_RingBlocks, T.a_RingBlocks_crossings, rfl, _, rfl, _, rfl, by show 2 ≤ sizeLine; decide, fun t ht => ?_⟩
          have B12 := B11.same (Same.new (o := .tup [.int (i : Nat), .int (j : Nat)]) ht)
          obtain ⟨ck, c1, c2, _⟩ := B12.cx
          have hx12 := (upd_ne (o := .tup [.int (i : Nat), .int (j : Nat)]) (ne_of_none hx ht)).trans hx
          refine ⟨cd, _, rfl, DPut.t (k := [Sum.inl (i : Nat), Sum.inl (j : Nat)]) c1 upd_same (Nat.lt_of_le_of_lt c2.len (by decide)), ?_⟩
          have hR' : IsRC C.n (C.at i) (C.at j) r := by rw [at_wk hcm hpi, at_wk hcm hpj]; exact hR
          have B13 := B12.cross (cr' := doneP C.m i (j + 1)) c1 hi hj hx12 hR' hok fun i' j' h => by unfold doneP at *; omega
          refine ⟨_, rfl, _, _, _, rfl, B13.ob, rfl, _, rfl, _, rfl, C, ps, _, b, dx, wt, ll, fl, cd, ds, as, _, D0 C i j, _, i, j, rfl, B13, by unfold doneP; omega, hi, hj, fun H14 B14 => ?_⟩
          rw [D0_step hj hji] at B14
          exact ⟨_, _, rfl, B14⟩
        · have hji : j = i := by have := V.int.inj hji; omega
          subst hji
          refine ⟨_, _, rfl, ?_⟩
          rw [done_skip] at B10
          rw [D0_eq (done_skip C.m j)] at B10
          exact B10
      · rintro σ H9 ⟨s', t', rfl, B9⟩
        rw [List.length_map, al, done_row] at B9
        rw [D0_eq (done_row C.m i)] at B9
        exact ⟨_, _, _, _, rfl, B9⟩
    · rintro σ H7 ⟨u, v, s', t', rfl, B7⟩
      rw [List.length_map, al] at B7
      exact q ll fl cd ds H7 B7
end
end Pp

end
section
set_option Elab.async false
set_option linter.all false
set_option maxRecDepth 100000
set_option maxHeartbeats 4000000
/-! RingBlocks.__init__: super().__init__(painters). -/
namespace Pp
open PySem PySem.Spec PyProof.Rows L2 StX Rg NdefX LamX
/-- what is asked of the program at super() -/
structure PrOk (P : Program) : Prop where
  file : ((P.main.file : Str) == ("/claim/cut.py" : Str)) = true
  top : (P.main.scope.names.lookup ("super" : Str)).isSome = false
abbrev NRb : List Str := ["self", "size", "painters", "__class__", "place", "painter"]
theorem nscRb : NScope NRb ["self", "size", "painters"] ["__class__"] (defScope sRbInit) := nscope_by (by decide +kernel)
def rb0 : Stmt := (defBody sRbInit).getD 0 (.Pass ⟨0, 0, 0, 0⟩)
def rb1 : Stmt := (defBody sRbInit).getD 1 (.Pass ⟨0, 0, 0, 0⟩)
def rb2 : Stmt := (defBody sRbInit).getD 2 (.Pass ⟨0, 0, 0, 0⟩)
section
variable {P : Program} {w : World} {K : PySem.W.Frag} {mg : Str → Option Value} {base : Heap}
abbrev qRb : Str := ("RingBlocks" : Str) ++ "." ++ "__init__"
def rbF (cc cda : Addr) : NF := ⟨"__init__", qRb, defArgs sRbInit, defBody sRbInit, defScope sRbInit, [("__class__", cc)], cda⟩
abbrev rbX (P : Program) (w : World) (K : PySem.W.Frag) (mg : Str → Option Value) (base : Heap) (cc cda : Addr) (A : Around) (outer : List Env) (s : Shared) (H : Hp) (E : XK) : Cx := ncx CX0 P w K mg base NRb (rbF cc cda) (ma K (aB K) "__init__") A outer s H E
theorem rbInit {sp : Sp} {k : Nat} (T : Tx K mg) (PR : PrOk P)
    (len : ∀ vs H Q E, sp vs H Q E → vs.length = 3)
    (hbody : ∀ (cc cda : Addr) (A : Around) (outer : List Env) (s : Shared) (H : Hp) (vs : List V) (Q : VK) (E : XK), Room k (A.deeper (envF (rbF cc cda) (ma K (aB K) "__init__") s.heap.objs.size)) → sp vs H Q E →
      ∃ t0 t2, PS (ncx CX0 P w K mg base NRb (rbF cc cda) (ma K (aB K) "__init__") A outer s H E) rb0 t0 ∧ PSs (ncx CX0 P w K mg base NRb (rbF cc cda) (ma K (aB K) "__init__") A outer s H E) [rb2] t2 ∧
        FnR P w K mg base CX0 k (ma K (ga K "Blocks") "__init__") (spBInit K) ∧
        t0 { nx := fun σ H1 => ∃ b wt dx fs, σ[0]? = some (some (.ref b)) ∧ σ[2]? = some (some (.ref wt)) ∧ H1 b = some (.ins (aB K) dx fs) ∧
          ∀ q, H1 q = none → spBInit K [.ref b, .ref wt] (upd H1 q (.met (ma K (ga K "Blocks") "__init__") b)) (fun _ H2 => t2 { nx := fun _ H3 => Q .non H3, rt := Q } σ H2) E0, rt := Q } (startF NRb vs [none]) H) :
    FnR P w K mg base CX0 (k + 1) (ma K (aB K) "__init__") sp := by
  intro A outer s H us vs Q E hr e0 r hsp
  have S := T.sup
  obtain ⟨oc, od, kV, doc, pm, an, cda, ct, osl, cc, ccl, cdd, vsc, ccs, tf, cl, cld, csl, lk, hcd, lcd, hv2, lcc⟩ := S.lk
  obtain ⟨cdD, hclsD⟩ := S.cls
  have KX : K.In s.heap := e0.mod.kin.keeps fun b o e => (e0.bs b o e).1
  have lim : s.heap.NoLimit := e0.mod.nolimit.keeps fun b o e => (e0.bs b o e).1
  have hl := len _ _ _ _ hsp
  have hus : us.length = 3 := by rw [← r.length]; exact hl
  obtain ⟨t0, t2, h0, h2, FB, hq⟩ := hbody cc cda A outer s H vs Q E (hr.deeper _) hsp
  refine ks_codeAny_call_defAt (fd := PySem.W.ksFn "__init__" qRb (defArgs sRbInit) (defBody sRbInit) (defScope sRbInit) .none kV doc pm an (.ref cda) ct cc) (body := defBody sRbInit) (binds := (["self", "size", "painters"] : List Str).zip us) hr.depth (KX _ _ lk) rfl lim (PySem.W.codeRec_of KX hcd) rfl (.of_eq ?_) nscRb.nocell (fun ⟨n, _⟩ hy => nscRb.par n (List.of_mem_zip hy).1) (fun h₁ hns kp => ?_)
  · match us, hus with
    | [_, _, _], _ => rfl
  have hcell : base.get? cc = some ⟨cl, cld, .cell (some (.ref (ga K "RingBlocks"))), csl⟩ := e0.mod.kin _ _ lcc
  have hcell2 := e0.bs _ _ hcell
  have C : CellsAt (rbF cc cda).cl ["__class__"] [none] s.heap H := by
    have only : ∀ y c, (rbF cc cda).cl.lookup y = some c → y = "__class__" ∧ c = cc := fun y c h => by
      have h : ([(("__class__" : Str), cc)] : List (Str × Addr)).lookup y = some c := h
      simp only [List.lookup] at h
      split at h
      · rename_i e
        exact ⟨eq_of_beq e, (Option.some.inj h).symm⟩
      · cases h
    refine ⟨rfl, fun y c h => ?_, fun x y c h1 h2 => ?_, fun i y hi => ?_⟩
    · obtain ⟨_, rfl⟩ := only y c h
      exact ⟨hcell2.2, _, _, hcell2.1, rfl⟩
    · rw [(only x c h1).1, (only y c h2).1]
    · cases i with
      | zero =>
        have hi : some ("__class__" : Str) = some y := hi
        cases hi
        exact ⟨cc, by rfl, fun v hv => by have hv : some (none : Option V) = some (some v) := hv; cases hv⟩
      | succ i => simp at hi
  have I := inv_startN (CX := CX0) (w := w) (P := P) (K := K) (mg := mg) (base := base) (N := NRb) (F := rbF cc cda) (f := ma K (aB K) "__init__") (E := E) (tk := s.toks + ((["self", "size", "painters"] : List Str).zip us).length) nscRb hr.hd e0 hl r C hns kp
  have fin : ∀ {σ' : L2.St} {H' : Hp} {v : V} {u : Value} {s' : Shared}, Inv (rbX P w K mg base cc cda A outer s H E) [] σ' H' s' → L2.RelV v u → Q v H' → CE outer P w H s Q u s' :=
    fun {σ' H' v u s'} J rv q => ⟨v, H', J.os, J.bare, J.base, J.hok, rv, q⟩
  show PySem.wpAt (model P w) (rbX P w K mg base cc cda A outer s H E).A (.func (defBody sRbInit) (rbX P w K mg base cc cda A outer s H E).env) (execs [rb0, rb1, rb2] (rbX P w K mg base cc cda A outer s H E).env) _ _ _
  refine ks_wpAt_execs_cons (PySem.wpAt_of_wpAny (wpAny_mono (h0.run [] _ _ H _ I hq) (fun fl s1 h1 => ?_) fun e s' z => z))
  cases fl with
  | ret u =>
    obtain ⟨v, σ', H', J, rv, q⟩ := h1
    exact fin J rv q
  | brk =>
    obtain ⟨_, _, _, q⟩ := h1
    exact False.elim q
  | cont =>
    obtain ⟨_, _, _, q⟩ := h1
    exact False.elim q
  | next =>
    obtain ⟨σ1, H1, I1, b, wt, dx, fs, z0, z2, hb, hsp2⟩ := h1
    have K1 : K.In s1.heap := I1.kIn
    have hD : ∃ oD, s1.heap.get? (ga K "RingBlocks") = some oD ∧ oD.data = .cls cdD := by
      unfold PySem.W.clsIn at hclsD
      split at hclsD
      · rename_i c d cd' sl ho
        cases hclsD
        exact ⟨_, K1 _ _ ho, rfl⟩
      · cases hclsD
    obtain ⟨oD, hD1, hD2⟩ := hD
    obtain ⟨mA, O, _, _, _, _⟩ := ins_get I1.hok hb
    obtain ⟨odb, J, _⟩ := O.look
    show PySem.wpAt (model P w) (rbX P w K mg base cc cda A outer s H E).A (.func (defBody sRbInit) (rbX P w K mg base cc cda A outer s H E).env) (execs [rb1, rb2] (rbX P w K mg base cc cda A outer s H E).env) _ _ _
    refine ks_wpAt_execs_cons (ks_wpAt_Expr_any (ks_wpAt_MethodCall ?_))
    obtain ⟨hp, g, d, t, os⟩ := s1
    refine ks_wpAt_super_base (env := (rbX P w K mg base cc cda A outer s H E).env) rfl rfl rfl rfl (K1 _ _ lk) rfl rfl rfl (K1 _ _ lcd) rfl hv2 PR.file PR.top ?_
    have hldS : wpAny (model P w) (rbX P w K mg base cc cda A outer s H E).A (loadName (rbX P w K mg base cc cda A outer s H E).env "super") (fun g' s' => g' = .type "super" ∧ s' = ⟨hp, g, d, t, os⟩) (rbX P w K mg base cc cda A outer s H E).xe ⟨hp, g, d, t, os⟩ := by
      obtain ⟨mb, b1, b2⟩ := I1.mod.blt
      exact PySem.W.ks_loadName_global rfl rfl (Calls.loadGlobal_builtin (env := (rbX P w K mg base cc cda A outer s H E).env) (I1.mod.glob.keeps I1.bk) T.z_super (b1.keeps I1.bk) ((b2 _ (by decide +kernel)).trans (by decide +kernel)) ⟨rfl, rfl⟩)
    refine wpAny_mono hldS (fun g' s' hg' => ?_) fun _ _ z => z
    obtain ⟨rfl, rfl⟩ := hg'
    refine ⟨rfl, ?_⟩
    refine wpAny_loadName_free rfl rfl (c := cc) rfl ⟨_, K1 _ _ lcc, rfl⟩ ?_
    have hself : ∃ m, (⟨hp, g, d, t, os⟩ : Shared).heap.Ns (rbX P w K mg base cc cda A outer s H E).env.locals m ∧ m "self" = some (.ref b) := by
      obtain ⟨m, hn, hl2⟩ := I1.loc
      obtain ⟨u, ru, lo⟩ := hl2 0 "self" (.ref b) rfl z0 (.inl rfl)
      obtain rfl : u = Value.ref b := ru
      rcases lo with ⟨_, e⟩ | ⟨k, _⟩
      · exact ⟨m, hn, e⟩
      · have k0 : (rbX P w K mg base cc cda A outer s H E).env.kindOf "self" = some .local := by rfl
        rcases k with k | k <;> rw [k0] at k <;> cases k
    obtain ⟨m, hn, hm⟩ := hself
    refine wpAny_loadName_local rfl rfl hn hm ?_
    refine ks_wpAny_isType_cls hD1 hD2 ⟨rfl, ?_⟩
    refine ks_wpAny_call_super hD1 hD2 J.at_ J.cls (fun c e => ?_) (PySem.W.looks_mroIn K1 S.mro) (fun h' e k => ?_)
    · have := J.no
      unfold PySem.W.notCls at this
      rw [e] at this
      exact Bool.noConfusion this
    have I2 : Inv (rbX P w K mg base cc cda A outer s H E) [] σ1 H1 ⟨h', g, d, t, os⟩ := I1.kept (h' := h') (t' := t) k
    have K2 : K.In h' := I2.kIn
    obtain ⟨mA2, O2, _, _, _, _⟩ := ins_get I2.hok hb
    obtain ⟨odb2, J2, _⟩ := O2.look
    have hof : ∃ of, h'.get? (ma K (ga K "Blocks") "__init__") = some of ∧ of.cls = .type "function" := by
      have ht' : (K.lookup (ma K (ga K "Blocks") "__init__")).map (·.cls) = some (.type "function") := S.ty
      cases z : K.lookup (ma K (ga K "Blocks") "__init__") with
      | none => rw [z] at ht'; cases ht'
      | some of => rw [z] at ht'; exact ⟨of, K2 _ _ z, Option.some.inj ht'⟩
    obtain ⟨of, hof1, hof2⟩ := hof
    have hm2 : PySem.W.alongIn K "__init__" ((cdD.mro.dropWhile (· != .ref (ga K "RingBlocks"))).drop 1) = some (some (.ref (ma K (ga K "Blocks") "__init__"))) := by
      have z := S.sup
      unfold PySem.W.ks_superIn at z
      rw [hclsD] at z
      exact z
    refine ks_wpAny_getMethod_super e (PySem.W.looks_opaque K2 S.tp) (l₀ := cdD.mro) (fun A Q E s k q => wpAny_bind ((PySem.W.looks_clsIn K2 hclsD) A _ E s k (wpAny_pure q))) rfl K2 hm2 hof1 hof2 (PySem.W.ks_ne K2 J2 hclsD) rfl ?_
    have I3 : Inv (rbX P w K mg base cc cda A outer s H E) [] σ1 (upd H1 h'.objs.size (.met (ma K (ga K "Blocks") "__init__") b)) ⟨h'.push { cls := .type "method", data := .fields #[.ref (ma K (ga K "Blocks") "__init__"), .ref b] }, g, d, t + 1, os⟩ :=
      I2.laid (a := h'.objs.size) (o := .met (ma K (ga K "Blocks") "__init__") b) (t' := t + 1) (fun b u e => Heap.get?_push_of_some _ e) (Nat.le_refl _) (Heap.get?_push_size _ rfl)
    have hfn : PySem.W.fnIn K (ma K (ga K "Blocks") "__init__") = true := by
      obtain ⟨fd, F⟩ := T.d_sBlInit
      obtain ⟨_, _, _, _, _, _, _, _, _, ef, lf, _⟩ := F.ex
      unfold PySem.W.fnIn
      rw [lf]
    have hq0 : H1 h'.objs.size = none := I2.hok.fresh (Nat.le_refl _)
    refine callwith_met (X := rbX P w K mg base cc cda A outer s H E) (q := h'.objs.size) (g := ma K (ga K "Blocks") "__init__") (a := b) rfl hfn ?_
    have ha : PA (rbX P w K mg base cc cda A outer s H E) [.Name "painters" ⟨260, 25, 260, 33⟩] (tCons (tVar 2) tNil) := pa_cons (pv 2) pa_nil
    refine Calls.evalArgs_plain (thn (ha.run _ [] _ σ1 _ (fun vs H4 => vs = [.ref wt] ∧ H4 = upd H1 h'.objs.size (.met (ma K (ga K "Blocks") "__init__") b)) I3 ⟨_, z2, rfl, rfl⟩) fun us4 s4 ⟨vs4, H4, I4, r4, ev4, eH4⟩ => ?_)
    subst ev4 eH4
    refine ⟨met_P I4 upd_same, ?_⟩
    refine wpAny_call (call_met I4 upd_same (codeAny_mono (FB _ _ s4 _ (.ref b :: us4) [.ref b, .ref wt] _ E0 (hr.deeper _) I4.env0 (.cons rfl r4) (hsp2 _ hq0)) fun r5 s5 hq5 => ?_))
    cases r5 with
    | error e => exact False.elim hq5
    | ok fl5 =>
      cases fl5 with
      | next => exact False.elim hq5
      | brk => exact False.elim hq5
      | cont => exact False.elim hq5
      | ret u5 =>
        obtain ⟨v5, H5, I5, r5, q5⟩ := I4.after hq5
        refine PySem.wpAt_of_wpAny (wpAny_mono (h2.run [] _ σ1 H5 _ I5 q5) (fun fl6 s6 h6 => ?_) fun e s' z => z)
        cases fl6 with
        | ret u =>
          obtain ⟨v, σ', H', J, rv, q⟩ := h6
          exact fin J rv q
        | brk =>
          obtain ⟨_, _, _, q⟩ := h6
          exact False.elim q
        | cont =>
          obtain ⟨_, _, _, q⟩ := h6
          exact False.elim q
        | next =>
          obtain ⟨σ', H', J, q⟩ := h6
          exact fin (v := V.non) (u := Value.none) J rfl q
end
end Pp

end
section
set_option Elab.async false
set_option linter.all false
set_option maxRecDepth 100000
set_option maxHeartbeats 4000000
/-! RingBlocks are made. -/
namespace Pp
open PySem PySem.Spec PyProof.Rows L2 StX Rg NdefX LamX
section
variable {P : Program} {w : World} {K : PySem.W.Frag} {mg : Str → Option Value} {base : Heap}
theorem BS.sub {C : Cf} {ps : List Pt} {H0 H0' H : Hp} {b dx wt ll fl cd : Addr} {ds as : List Addr} {lim : List (Option Int)} {D : Nat → Nat → Option Int} {cr : Nat → Nat → Prop} (s : BS K C ps H0 b dx wt ll fl cd ds as lim D cr H) (h : ∀ a o, H0' a = some o → H0 a = some o) (hwk : H0' wt = some (.tup (as.map V.ref))) (hpa : PAll K H0' as ps) :
    BS K C ps H0' b dx wt ll fl cd ds as lim D cr H := by
  have nn : ∀ a, H0 a = none → H0' a = none := fun a e => by
    cases q : H0' a with
    | none => rfl
    | some o => rw [h a o q] at e; cases e
  exact { s with ext := fun a o e n => s.ext a o (h a o e) n, ob0 := nn _ s.ob0, lm0 := nn _ s.lm0, fi0 := nn _ s.fi0, d0 := fun d hd => nn _ (s.d0 d hd), cd0 := nn _ s.cd0, wk := hwk, pa := hpa, nt := fun a q z => s.nt a q (h a _ z) }
noncomputable def D1 (C : Cf) (i : Nat) : Nat → Nat → Option Int := fun i' j' => if i' = j' ∧ i' < i then some (C.n / gd ((C.at i').stride % C.n) C.n) else D0 C C.m 0 i' j'
theorem D1_zero (C : Cf) : D1 C 0 = D0 C C.m 0 := by
  funext i' j'
  unfold D1
  rw [if_neg (by omega)]
theorem D1_end (C : Cf) : DSet C (List.replicate C.m none) (D1 C C.m) := fun i hi _ j hj => by
  unfold D1 cand
  by_cases e : i = j
  · rw [if_pos ⟨e, hi⟩, if_pos e]
  · rw [if_neg (fun z => e z.1), if_neg e]
    unfold D0
    rw [if_pos (by unfold doneP; omega)]
    rfl
def spRInit (K : PySem.W.Frag) : Sp := fun vs H Q _ => ∃ (C : Cf) (ps : List Pt) (b dx wt : Addr) (as : List Addr), vs = [.ref b, .int C.n, .ref wt] ∧ H b = some (.ins (aB K) dx []) ∧ H wt = some (.tup (as.map V.ref)) ∧ PAll K H as ps ∧ C.ps = ps.map wkOf ∧ C.m ≤ 8 ∧ 0 < C.n ∧ C.n < 2 ^ 62 ∧ DayOk ps ∧ TabsN (TT K) H ∧
  ∀ ll fl cd ds D cr H', BS K C ps (coreH [b] H) b dx wt ll fl cd ds as (List.replicate C.m none) D cr H' → DSet C (List.replicate C.m none) D → (∀ i j, i < C.m → j < C.m → i ≠ j → cr i j) → Q .non H'
theorem ok_rinit (T : Tx K mg) (B : Tb K mg base) (PR : PrOk P) : FnR P w K mg base CX0 9 (ma K (aB K) "__init__") (spRInit K) := by
  refine rbInit (k := 8) T PR (fun vs H Q E h => by obtain ⟨_, _, _, _, _, _, rfl, _⟩ := h; rfl) fun cc cda A outer s H vs Q E hr h => ?_
  obtain ⟨C, ps, b, dx, wt, as, rfl, hb, hwt, hpa, hcm, m8, n0, n1, hday, hT, q⟩ := h
  have nd := nscRb.nd
  have hr2 : Room 2 _ := hr.mono (by decide)
  have hr1 : Room 1 _ := hr.mono (by decide)
  have hu : ∀ {A : Around}, Room 8 A → A.units + 1 < cLine := fun r => by have := r.units; omega
  have h2 : PSs (rbX P w K mg base cc cda A outer s H E).nox [rb2] _ := pss_one (ps_for PassesOwn.never rfl (pi_enumT inName T.z_enumerate (pa_cons (pv 2) pa_nil)) (pg_tup rfl (pgs_cons (pg_name (i := 4) nd rfl (.inl rfl) (hf := .inr rfl)) (pgs_cons (pg_name (i := 5) nd rfl (.inl rfl) (hf := .inr rfl)) pgs_nil)))
    (pss_one (ps_dput (hu hr) (pe_ix ix_list (pe_fld (pv 0) rfl) (pv 4) (fun _ _ => rfl)) (pv 4) (pe_op op_fdivW (pv 1) (pe_fn (ok_gcd T) hr1 inName T.g_greatest_divisor (kpOf T.d_sGcd) pass0 (pa_cons (pe_op op_mod (pe_propR (pv 5) T.c_Painter T.p_Painter_stride (ok_pstride T) hr2) (pv 1)) (pa_cons (pv 1) pa_nil)))) rfl)))
  refine ⟨_, _, ps_fld (pv 0) (pv 1) rfl, h2.nox, ok_binit T B, ?_⟩
  have al : as.length = C.m := by rw [hpa.1, Cf.m, hcm, List.length_map]
  have nwb : wt ≠ b := fun z => by rw [z, hb] at hwt; cases hwt
  refine ⟨_, rfl, _, rfl, _, _, _, _, rfl, hb, T.c_RingBlocks, T.a_RingBlocks_around, by show 0 < 1000; decide, ?_⟩
  refine ⟨b, wt, dx, _, rfl, rfl, upd_same, fun q' hq' => ?_⟩
  have k1 : Kp b H (upd H b (.ins (aB K) dx (putF "around" (.int C.n) []))) := Kp.put fun _ _ _ e => e
  have k2 := k1.new (o := .met (ma K (ga K "Blocks") "__init__") b) hq'
  have nbq : b ≠ q' := ne_of_none upd_same hq'
  have pa2 : PAll K (upd (upd H b (.ins (aB K) dx (putF "around" (.int C.n) []))) q' (.met (ma K (ga K "Blocks") "__init__") b)) as ps := hpa.kp k2 ⟨_, _, hb⟩
  refine ⟨C, ps, b, dx, wt, as, rfl, (upd_ne nbq).trans upd_same, k2 _ _ nwb hwt, pa2, hcm, m8, n0, n1, hday, ?_, fun ll fl cd ds H2 B2' => ?_⟩
  · exact (tabs_upd hT hb (fun _ z => by cases z) (fun _ _ z => by cases z)).ext (Same.new hq')
  have B2 : BS K C ps (coreH [b] H) b dx wt ll fl cd ds as (List.replicate C.m none) (D1 C 0) (doneP C.m C.m 0) H2 := by
    rw [D1_zero]
    refine B2'.sub (fun a o e => ?_) (core_of (by simpa using nwb) hwt (fun _ z => by cases z)) ⟨hpa.1, fun i a p e1 e2 => ?_⟩
    · obtain ⟨h1, h2, h3⟩ := core_some e
      exact core_of h1 (k2 a o (by simpa using h1) h2) h3
    · obtain ⟨dx2, t, q1, q2⟩ := hpa.2 i a p e1 e2
      refine ⟨dx2, t, core_of ?_ q1 (fun _ z => by cases z), core_of ?_ q2 (fun _ z => by cases z)⟩
      · simp only [List.mem_singleton]
        intro z
        rw [z, hb] at q1
        have := (HO.ins.inj (Option.some.inj q1)).2.2
        simp at this
      · simp only [List.mem_singleton]
        intro z
        rw [z, hb] at q2
        cases q2
  clear B2'
  have wkq : ∀ {H'' D' cr'}, BS K C ps (coreH [b] H) b dx wt ll fl cd ds as (List.replicate C.m none) D' cr' H'' → H'' wt = some (.tup (as.map V.ref)) := fun B => B.ext _ _ B.wk (fun _ z => by cases z)
  refine ⟨_, rfl, wt, _, rfl, SqT.of (wkq B2), ?_⟩
  refine for_it walk_enumT (fun i σ H' => ∃ u v x3, σ = [some (.ref b), some (.int C.n), some (.ref wt), x3, u, v] ∧ BS K C ps (coreH [b] H) b dx wt ll fl cd ds as (List.replicate C.m none) (D1 C i) (doneP C.m C.m 0) H') ⟨_, _, _, rfl, B2⟩ (fun i σ H' _ h => by
    obtain ⟨_, _, _, _, B⟩ := h
    exact SqT.of (wkq B)) ?_ ?_
  · rintro i y σ H3 H4 hi ⟨u, v, x3, rfl, B3⟩ ⟨TP, a0, b0, rfl, hTP, rfl, e1, e2⟩
    cases e1
    obtain ⟨a, hai, rfl⟩ := ref_ix e2
    rw [List.length_map, al] at hi
    obtain ⟨p, hpi, _⟩ := hpa.get hai
    have B4 := B3.same (Same.new (o := .tup [.int (i : Nat), .ref a]) hTP)
    have hpp := (B4.pa.extN B4.ext).2 i a p hai hpi
    obtain ⟨dx2, t2, q1, q2⟩ := id hpp
    have hds : i < ds.length := by rw [B4.dl]; exact hi
    have hd : ds[i]? = some ds[i] := List.getElem?_eq_getElem hds
    obtain ⟨kvs, d1, d2⟩ := B4.dk i _ hd
    have gp := gd_pos (a := p.stride % C.n) n0
    have gl := gd_le (b := p.stride % C.n) n0
    refine ⟨TP, _, rfl, SqT.of upd_same, rfl, _, _, rfl, _, _, rfl, rfl, ?_⟩
    refine ⟨_, rfl, _, rfl, _, _, _, rfl, q1, a, p, rfl, hpp, _, rfl, _, _, rfl, rfl, n0, _, rfl, _, _, rfl, _, _, rfl, rfl, div64 gp (by omega), ?_⟩
    refine ⟨_, rfl, _, _, _, _, _, rfl, B4.ob, T.c_RingBlocks, T.a_RingBlocks_firsts, rfl, _, rfl, _, _, _, _, rfl, rfl, SqL.of B4.fi, at_ref hd, _, rfl, ds[i], _, rfl, DPut.k (k := Sum.inl (i : Int)) d1 (Nat.lt_of_le_of_lt (Nat.le_trans d2.len m8) (by decide)), ?_⟩
    have est : p.stride = (C.at i).stride := by rw [at_wk hcm hpi]; rfl
    rw [est]
    refine ⟨_, _, _, rfl, B4.dict (D' := D1 C (i + 1)) hd (d2.put hi ?_ fun j' n => ?_) fun i' n => ?_⟩
    · unfold D1
      rw [if_pos ⟨rfl, by omega⟩]
    · unfold D1
      rw [if_neg (fun z => n z.1.symm), if_neg (fun z => n z.1.symm)]
    · funext j'
      unfold D1
      by_cases e : i' = j' ∧ i' < i
      · rw [if_pos e, if_pos ⟨e.1, by omega⟩]
      · rw [if_neg e, if_neg (fun z => e ⟨z.1, by omega⟩)]
  · rintro σ H3 ⟨u, v, x3, rfl, B3⟩
    rw [List.length_map, al] at B3
    exact q ll fl cd ds _ _ H3 B3 (D1_end C) fun i j hi hj hij => by unfold doneP; omega
end
end Pp

end
section
set_option linter.all false
/-! The model: each place stops once. -/
namespace Rg
open Pp (lexI)
theorem run_mem {C : Cf} (hn : 0 < C.n) : ∀ (k : Nat) (lim : List (Option Int)), lim.length = C.m → ∀ s ∈ runS C k lim, ∃ (i j : Nat) (c : Int), i < C.m ∧ j < C.m ∧ limAt lim i = none ∧ 0 ≤ c ∧ c ≤ C.n ∧ s = [(C.at i).day + c, (i : Int), c, (j : Int)]
  | 0, lim, _, s, h => by unfold runS at h; simp at h
  | k + 1, lim, hl, s, h => by
    cases hm : minL (stopL C lim) with
    | none => rw [runS_stop hm] at h; simp at h
    | some s0 =>
      have hmem : s0 ∈ stopL C lim := by
        have := minL_ok (stopL C lim)
        rw [hm] at this
        exact this.1
      rw [runS_go hm] at h
      rcases List.mem_cons.mp h with rfl | h
      · obtain ⟨i, j, c, hi, hj, hni, hc, rfl⟩ := mem_stop.mp hmem
        obtain ⟨b0, b1⟩ := cand_b hn hc
        exact ⟨i, j, c, hi, hj, hni, b0, b1, rfl⟩
      · obtain ⟨i, j, c, hi, hj, hni, b0, b1, rfl⟩ := run_mem hn k (put lim s0) (open_pos hl hmem).2 s h
        refine ⟨i, j, c, hi, hj, ?_, b0, b1, rfl⟩
        obtain ⟨i0, j0, c0, hi0, _, hn0, _, rfl⟩ := mem_stop.mp hmem
        have e : put lim [(C.at i0).day + c0, (i0 : Int), c0, (j0 : Int)] = lim.set i0 (some c0) := by
          show lim.set ((i0 : Int)).toNat (some c0) = _
          rw [show ((i0 : Nat) : Int).toNat = i0 by omega]
        rw [e, limAt_set (by omega)] at hni
        split at hni
        · cases hni
        · exact hni
theorem run_nd {C : Cf} (hn : 0 < C.n) : ∀ (k : Nat) (lim : List (Option Int)), lim.length = C.m → (runS C k lim).Pairwise fun s s' => nth s 1 ≠ nth s' 1
  | 0, lim, _ => by unfold runS; exact .nil
  | k + 1, lim, hl => by
    cases hm : minL (stopL C lim) with
    | none => rw [runS_stop hm]; exact .nil
    | some s0 =>
      have hmem : s0 ∈ stopL C lim := by
        have := minL_ok (stopL C lim)
        rw [hm] at this
        exact this.1
      have hl2 := (open_pos hl hmem).2
      rw [runS_go hm]
      refine .cons (fun s hs e => ?_) (run_nd hn k (put lim s0) hl2)
      obtain ⟨i, j, c, hi, hj, hni, _, _, rfl⟩ := run_mem hn k (put lim s0) hl2 s hs
      obtain ⟨i0, j0, c0, hi0, _, hn0, _, rfl⟩ := mem_stop.mp hmem
      have e : (i0 : Int) = (i : Int) := e
      have e : i = i0 := by omega
      have e2 : put lim [(C.at i0).day + c0, (i0 : Int), c0, (j0 : Int)] = lim.set i0 (some c0) := by
        show lim.set ((i0 : Int)).toNat (some c0) = _
        rw [show ((i0 : Nat) : Int).toNat = i0 by omega]
      rw [e2, limAt_set (by omega), if_pos e] at hni
      cases hni
theorem run_all {C : Cf} : ∀ (k : Nat) (lim : List (Option Int)), lim.length = C.m → opens lim ≤ k → ∀ i, i < C.m → limAt lim i = none → ∃ s ∈ runS C k lim, nth s 1 = (i : Int)
  | k, lim, hl, hk, i, hi, hn => by
    cases hm : minL (stopL C lim) with
    | none =>
      have := minL_ok (stopL C lim)
      rw [hm] at this
      have e : stopL C lim = [] := this
      have : [(C.at i).day + C.n / gd ((C.at i).stride % C.n) C.n, (i : Int), C.n / gd ((C.at i).stride % C.n) C.n, (i : Int)] ∈ stopL C lim :=
        mem_stop.mpr ⟨i, i, _, hi, hi, hn, by unfold cand; rw [if_pos rfl], rfl⟩
      rw [e] at this
      simp at this
    | some s0 =>
      have hmem : s0 ∈ stopL C lim := by
        have := minL_ok (stopL C lim)
        rw [hm] at this
        exact this.1
      obtain ⟨op, hl2⟩ := open_pos hl hmem
      cases k with
      | zero => omega
      | succ k =>
        rw [runS_go hm]
        obtain ⟨i0, j0, c0, hi0, _, hn0, _, rfl⟩ := mem_stop.mp hmem
        by_cases e : i0 = i
        · subst e
          exact ⟨_, List.mem_cons_self, rfl⟩
        · have e2 : put lim [(C.at i0).day + c0, (i0 : Int), c0, (j0 : Int)] = lim.set i0 (some c0) := by
            show lim.set ((i0 : Int)).toNat (some c0) = _
            rw [show ((i0 : Nat) : Int).toNat = i0 by omega]
          obtain ⟨s, hs, h1⟩ := run_all k (put lim [(C.at i0).day + c0, (i0 : Int), c0, (j0 : Int)]) hl2 (by omega) i hi (by rw [e2, limAt_set (by omega), if_neg (fun z => e z.symm)]; exact hn)
          exact ⟨s, List.mem_cons_of_mem _ hs, h1⟩
theorem stops_mem {C : Cf} (hn : 0 < C.n) {s : List Int} (h : s ∈ stops C) : ∃ (i j : Nat) (c : Int), i < C.m ∧ j < C.m ∧ 0 ≤ c ∧ c ≤ C.n ∧ s = [(C.at i).day + c, (i : Int), c, (j : Int)] := by
  obtain ⟨i, j, c, h1, h2, _, h3, h4, h5⟩ := run_mem hn _ _ (List.length_replicate ..) s h
  exact ⟨i, j, c, h1, h2, h3, h4, h5⟩
theorem stops_nd {C : Cf} (hn : 0 < C.n) : (stops C).Pairwise fun s s' => nth s 1 ≠ nth s' 1 := run_nd hn _ _ (List.length_replicate ..)
theorem stops_all {C : Cf} {i : Nat} (h : i < C.m) : ∃ s ∈ stops C, nth s 1 = (i : Int) := run_all _ _ (List.length_replicate ..) (Nat.le_of_eq (opens_rep _)) i h limAt_rep
/-- the stop of a place -/
noncomputable def stopOf (C : Cf) (i : Nat) : List Int := ((stops C).find? fun s => decide (nth s 1 = (i : Int))).getD []
theorem stopOf_mem {C : Cf} {i : Nat} (h : i < C.m) : stopOf C i ∈ stops C ∧ nth (stopOf C i) 1 = (i : Int) := by
  unfold stopOf
  cases e : (stops C).find? fun s => decide (nth s 1 = (i : Int)) with
  | none =>
    obtain ⟨s, hs, h1⟩ := stops_all h
    have := List.find?_eq_none.mp e s hs
    simp [h1] at this
  | some s =>
    have q := List.find?_some e
    exact ⟨List.mem_of_find?_eq_some e, of_decide_eq_true q⟩
theorem stopOf_eq {C : Cf} (hn : 0 < C.n) {i : Nat} {s : List Int} (hs : s ∈ stops C) (h : nth s 1 = (i : Int)) (hi : i < C.m) : stopOf C i = s := by
  obtain ⟨h1, h2⟩ := stopOf_mem hi
  obtain ⟨a, ha, e1⟩ := List.mem_iff_getElem.mp h1
  obtain ⟨b, hb, e2⟩ := List.mem_iff_getElem.mp hs
  have nd := List.pairwise_iff_getElem.mp (stops_nd hn)
  rcases Nat.lt_trichotomy a b with q | q | q
  · have := nd a b ha hb q
    rw [e1, e2, h2, h] at this
    exact absurd rfl this
  · subst q
    rw [← e1, e2]
  · have := nd b a hb ha q
    rw [e1, e2, h2, h] at this
    exact absurd rfl this
end Rg
namespace Rg
theorem runS_len {C : Cf} : ∀ (k : Nat) (lim : List (Option Int)), (runS C k lim).length ≤ k
  | 0, lim => by unfold runS; exact Nat.le_refl _
  | k + 1, lim => by
    cases hm : minL (stopL C lim) with
    | none => rw [runS_stop hm]; exact Nat.zero_le _
    | some s0 =>
      rw [runS_go hm, List.length_cons]
      have := runS_len (C := C) k (put lim s0)
      omega
theorem stops_len {C : Cf} : (stops C).length ≤ C.m := runS_len _ _
end Rg

end
section
set_option Elab.async false
set_option linter.all false
set_option maxRecDepth 100000
set_option maxHeartbeats 4000000
/-! Rings. -/
namespace Pp
open PySem PySem.Spec PyProof.Rows L2 StX Rg NdefX LamX
section
variable {P : Program} {w : World} {K : PySem.W.Frag} {mg : Str → Option Value} {base : Heap}
abbrev aR (K : PySem.W.Frag) : Addr := ga K "Ring"
abbrev rfs (t d1 d2 : Addr) : Fs := [("parts", .ref t), ("limits", .ref d1), ("halts", .ref d2)]
/-- post and blocker of a place's stop -/
def haltV (C : Cf) (ps : List Pt) (p : Pt) (s : List Int) : HO := .tup [.int (nth s 0), .int ((p.post + nth s 2 * p.stride) % C.n), .str (ps.getD (nth s 3).toNat ⟨"", 0, 0, 0⟩).name]
/-- the two dicts tell of the stops in S -/
structure RgD (C : Cf) (ps : List Pt) (S : List (List Int)) (k1 k2 : List (Key × V)) (H : Hp) : Prop where
  l1 : k1.length ≤ S.length
  l2 : k2.length ≤ S.length
  at_ : ∀ s ∈ S, ∀ (i : Nat) (p : Pt), nth s 1 = (i : Int) → ps[i]? = some p → valV k1 (Sum.inr p.name) = some (.int (nth s 2)) ∧ ∃ h, valV k2 (Sum.inr p.name) = some (.ref h) ∧ H h = some (haltV C ps p s)
theorem RgD.extN {C : Cf} {ps : List Pt} {S : List (List Int)} {k1 k2 : List (Key × V)} {H H' : Hp} (r : RgD C ps S k1 k2 H) (e : ∀ a xs, H a = some (.tup xs) → H' a = some (.tup xs)) : RgD C ps S k1 k2 H' :=
  ⟨r.l1, r.l2, fun s hs i p h1 h2 => let ⟨q1, h, q2, q3⟩ := r.at_ s hs i p h1 h2; ⟨q1, h, q2, e _ _ q3⟩⟩
def RAt (K : PySem.W.Frag) (H : Hp) (x : Addr) (C : Cf) (ps : List Pt) : Prop := ∃ dx t d1 d2 f k1 k2, H x = some (.ins (aR K) dx (rfs t d1 d2)) ∧ H t = some (.tup [.int C.n, .ref f]) ∧ FAt K H f ps ∧ H d1 = some (.dK k1) ∧ H d2 = some (.dK k2) ∧ RgD C ps (stops C) k1 k2 H
theorem RAt.extN {H H' : Hp} {x : Addr} {C : Cf} {ps : List Pt} (h : RAt K H x C ps) (e : ExtN H H') : RAt K H' x C ps := by
  obtain ⟨dx, t, d1, d2, f, k1, k2, h1, h2, h3, h4, h5, h6⟩ := h
  exact ⟨dx, t, d1, d2, f, k1, k2, e _ _ h1 (fun _ z => by cases z), e _ _ h2 (fun _ z => by cases z), h3.extN e, e _ _ h4 (fun _ z => by cases z), e _ _ h5 (fun _ z => by cases z), h6.extN fun a xs q => e _ _ q (fun _ z => by cases z)⟩
/-- all but the object at x is kept; the tables grow -/
def KpN (x : Addr) (H H' : Hp) : Prop := ∀ a o, a ≠ x → H a = some o → (∀ q, o ≠ .tbl q) → H' a = some o
theorem KpN.put {x : Addr} {H H1 : Hp} {o : HO} (k : KpN x H H1) : KpN x H (upd H1 x o) := fun b u n e t => by rw [upd_ne n]; exact k b u n e t
theorem KpN.ext {x : Addr} {H H1 H2 : Hp} (k : KpN x H H1) (e : ExtN H1 H2) : KpN x H H2 := fun b u n h t => e b u (k b u n h t) t
theorem KpN.own {x d : Addr} {H H1 : Hp} {o : HO} (k : KpN x H H1) (h : H d = none) : KpN x H (upd H1 d o) := fun b u n e t => by rw [upd_ne (ne_of_none e h)]; exact k b u n e t
theorem FAtL.kpN {H H' : Hp} {x C dx f lt : Addr} {ps : List Pt} {as : List Addr} (h : FAtL K H f ps lt as) (k : KpN x H H') (hx : H x = some (.ins C dx [])) : FAtL K H' f ps lt as := by
  obtain ⟨dx2, pl, h1, h2, h3, h4⟩ := h
  have ne : ∀ a o, H a = some o → (∀ dx2, o ≠ .ins C dx2 []) → a ≠ x := fun a o e n z => by
    rw [z, hx] at e
    exact n dx (Option.some.inj e).symm
  refine ⟨dx2, pl, k _ _ (ne _ _ h1 fun _ z => by cases z) h1 (fun _ z => by cases z), k _ _ (ne _ _ h2 fun _ z => by cases z) h2 (fun _ z => by cases z), ⟨h3.1, fun i a p e1 e2 => ?_⟩, k _ _ (ne _ _ h4 fun _ z => by cases z) h4 (fun _ z => by cases z)⟩
  obtain ⟨dx3, t, q1, q2⟩ := h3.2 i a p e1 e2
  exact ⟨dx3, t, k _ _ (ne _ _ q1 fun _ z => by cases z) q1 (fun _ z => by cases z), k _ _ (ne _ _ q2 fun _ z => by cases z) q2 (fun _ z => by cases z)⟩
theorem Kp.fresh {x d : Addr} {H H1 : Hp} (k : Kp x H H1) (h : H1 d = none) (n : d ≠ x) : H d = none := by
  cases e : H d with
  | none => rfl
  | some o => rw [k d o n e] at h; cases h
theorem Kp.n {x : Addr} {H H1 : Hp} (k : Kp x H H1) : KpN x H H1 := fun a o n e _ => k a o n e
theorem up1 {H : Hp} {a d : Addr} {o o' : HO} {kv : List (Key × V)} (h : H a = some o) (n : ∀ k, o ≠ .dK k) (hd : H d = some (.dK kv)) : upd H d o' a = some o := by
  rw [upd_ne (fun z => by rw [z, hd] at h; exact n _ (Option.some.inj h).symm)]
  exact h
theorem StL.dict {H : Hp} {l d : Addr} {ts : List Addr} {fs : List (List Int)} {kv : List (Key × V)} {o' : HO} (h : StL H l ts fs) (hd : H d = some (.dK kv)) : StL (upd H d o') l ts fs :=
  ⟨up1 h.hl (fun _ z => by cases z) hd, h.len, fun k t f h1 h2 => up1 (h.at_ k t f h1 h2) (fun _ z => by cases z) hd⟩
theorem RgD.more {C : Cf} {ps : List Pt} {S : List (List Int)} {s : List Int} {k1 k2 : List (Key × V)} {H H' : Hp} {i : Nat} {p : Pt} {h : Addr} (r : RgD C ps S k1 k2 H) (e : ∀ a xs, H a = some (.tup xs) → H' a = some (.tup xs)) (nd : (ps.map Pt.name).Nodup) (hi : nth s 1 = (i : Int)) (hp : ps[i]? = some p) (hS : ∀ s' ∈ S, nth s' 1 ≠ (i : Int)) (hh : H' h = some (haltV C ps p s)) :
    RgD C ps (S ++ [s]) (putK k1 (Sum.inr p.name) (.int (nth s 2))) (putK k2 (Sum.inr p.name) (.ref h)) H' := by
  refine ⟨?_, ?_, fun s' hs' i' p' h1 h2 => ?_⟩
  · rw [List.length_append]
    have := length_putK k1 (Sum.inr p.name : Key) (.int (nth s 2))
    have := r.l1
    show _ ≤ S.length + 1
    omega
  · rw [List.length_append]
    have := length_putK k2 (Sum.inr p.name : Key) (.ref h)
    have := r.l2
    show _ ≤ S.length + 1
    omega
  · rw [valV_put, valV_put]
    rcases List.mem_append.mp hs' with q | q
    · have ne : ¬ ((Sum.inr p'.name : Key) = Sum.inr p.name) := fun z => by
        have := nm_ix nd h2 hp (Sum.inr.inj z)
        exact hS s' q (by rw [h1, this])
      rw [if_neg ne, if_neg ne]
      obtain ⟨q1, h', q2, q3⟩ := r.at_ s' q i' p' h1 h2
      exact ⟨q1, h', q2, e _ _ q3⟩
    · have q : s' = s := List.mem_singleton.mp q
      subst q
      have ei : i' = i := by rw [hi] at h1; omega
      subst ei
      rw [hp] at h2
      cases h2
      rw [if_pos rfl, if_pos rfl]
      exact ⟨rfl, h, rfl, hh⟩
abbrev NRg : List Str := ["self", "size", "fence", "stops", "day", "place", "count", "blocker", "painter", "post"]
theorem scRg : FnScope NRg ["self", "size", "fence"] (defScope sRiInit) := ⟨rfl, rfl, rfl, by decide +kernel, rfl, by decide +kernel, by decide +kernel⟩
def spRing (K : PySem.W.Frag) : Sp := fun vs H Q _ => ∃ (x dx f : Addr) (n : Int) (ps : List Pt), vs = [.ref x, .int n, .ref f] ∧ H x = some (.ins (aR K) dx []) ∧ FAt K H f ps ∧ FnsOk ps ∧ 0 < n ∧ n < 2 ^ 62 ∧ DayOk ps ∧ TabsN (TT K) H ∧
  ∀ H', RAt K H' x ⟨n, ps.map wkOf⟩ ps → KpN x H H' → TabsN (TT K) H' → Q .non H'
theorem ok_ring (T : Tx K mg) (B : Tb K mg base) (PR : PrOk P) : FnR P w K mg base CX0 11 (ma K (aR K) "__init__") (spRing K) := by
  obtain ⟨t1, hM⟩ := T.n_MAX_SIZE
  obtain ⟨t2, hF⟩ := T.n_MAX_FEW
  refine defR T.d_sRiInit scRg (fun _ _ _ _ _ _ us hl => match us, hl with | [_, _, _], _ => rfl) (fun vs H Q E h => ?_) (fun cdv A outer s H vs Q E hr h => ?_)
  · obtain ⟨_, _, _, _, _, rfl, _⟩ := h; rfl
  · obtain ⟨x, dx, f, n, ps, rfl, hx, hf, ok, n0, n1, hday, hT, q⟩ := h
    have nd := scRg.nd
    have hr2 : Room 2 _ := hr.mono (by decide)
    have hr9 : Room 9 _ := hr.mono (by decide)
    have hu : ∀ {A : Around}, Room 10 A → A.units + 1 < cLine := fun r => by have := r.units; omega
    refine ⟨_, pss_cons (ps_if (pt_not (pt_val (pe_fn (ok_between T) hr2 inName T.g_is_between (kpOf T.d_sIsBetween) pass0 (pa_cons (pv 1) (pa_cons pe_int (pa_cons (pe_glob (v := .int 1000000000000000000000000000000) inName hM ⟨t1, rfl⟩) pa_nil)))))) pss_never pss_nil)
      <| pss_cons (ps_if (pt_cmpR op_gt (pe_callB (call_lenOwn T.o_Fence_len.1 T.o_Fence_len.2 (ok_flen T) hr2 pass0) inName T.z_len (by decide +kernel) (pa_cons (pv 2) pa_nil)) (pe_glob (v := .int 8) inName hF ⟨t2, rfl⟩) (by rfl)) pss_never pss_nil)
      <| pss_cons (ps_fld (pv 0) (pe_tup (pa_cons (pv 1) (pa_cons (pv 2) pa_nil))) rfl)
      <| pss_cons (ps_fld (pv 0) pe_dnewK rfl)
      <| pss_cons (ps_fld (pv 0) pe_dnewK rfl)
      <| pss_cons (ps_set (i := 3) nd rfl (.inl rfl) (pe_methR0 (pe_makeR T.k_RingBlocks (ok_rinit T B PR) hr inName T.g_RingBlocks pass0 (pa_cons (pv 1) (pa_cons (pe_propR (pv 2) T.c_Fence T.p_Fence_painters (ok_fpainters T) hr2) pa_nil))) T.c_RingBlocks T.m_RingBlocks_all_stops (ok_all T B) hr9 pass0))
      <| pss_one (ps_for PassesOwn.never rfl (pi_list (pv 3)) (pg_tup rfl (pgs_cons (pg_name (i := 4) nd rfl (.inl rfl)) (pgs_cons (pg_name (i := 5) nd rfl (.inl rfl)) (pgs_cons (pg_name (i := 6) nd rfl (.inl rfl)) (pgs_cons (pg_name (i := 7) nd rfl (.inl rfl)) pgs_nil)))))
        (pss_cons (ps_set (i := 8) nd rfl (.inl rfl) (pe_ix ix_tup (pe_propR (pv 2) T.c_Fence T.p_Fence_painters (ok_fpainters T) hr2) (pv 5) (fun _ _ => rfl)))
        <| pss_cons (ps_dput (hu hr) (pe_fld (pv 0) rfl) (pe_propR (pv 8) T.c_Painter T.p_Painter_name (ok_pname T) hr2) (pv 6) rfl)
        <| pss_cons (ps_set (i := 9) nd rfl (.inl rfl) (pe_op op_mod (pe_op op_add (pe_propR (pv 8) T.c_Painter T.p_Painter_post (ok_ppost T) hr2) (pe_op op_mul (pv 6) (pe_propR (pv 8) T.c_Painter T.p_Painter_stride (ok_pstride T) hr2))) (pv 1)))
        <| pss_one (ps_dput (hu hr) (pe_fld (pv 0) rfl) (pe_propR (pv 8) T.c_Painter T.p_Painter_name (ok_pname T) hr2) (pe_tup (pa_cons (pv 4) (pa_cons (pv 9) (pa_cons (pe_propR (pe_ix ix_tup (pe_propR (pv 2) T.c_Fence T.p_Fence_painters (ok_fpainters T) hr2) (pv 7) (fun _ _ => rfl)) T.c_Painter T.p_Painter_name (ok_pname T) hr2) pa_nil)))) rfl))), ?_⟩
    obtain ⟨lt, as, hfL⟩ := hf
    have kf : ∀ {H'}, KpN x H H' → FAtL K H' f ps lt as := fun k => hfL.kpN k hx
    obtain ⟨dxf, pl, f1, f2, f3, f4⟩ := id hfL
    refine ⟨_, rfl, _, _, _, rfl, _, rfl, iteND (fun z => absurd ⟨by omega, by omega⟩ z) (fun _ => ?_)⟩
    have ok8 := ok.len
    refine ⟨_, rfl, f, dxf, _, rfl, f1, f, ps, rfl, ⟨lt, as, hfL⟩, ps.length, rfl, by omega, _, _, rfl, rfl, _, rfl, iteD (fun z => absurd z (by omega)) (fun _ => ?_)⟩
    -- parts
    refine ⟨_, rfl, _, rfl, by show 2 ≤ sizeLine; decide, fun t ht => ?_⟩
    have nxt : x ≠ t := ne_of_none hx ht
    refine ⟨_, rfl, _, _, _, _, rfl, (upd_ne nxt).trans hx, T.c_Ring, T.a_Ring_parts, by show 0 < 1000; decide, fun d1 hd1 => ?_⟩
    have k1 : Kp x H (upd (upd H t (.tup [.int n, .ref f])) x (.ins (aR K) dx (putF "parts" (.ref t) []))) := Kp.put (Kp.new (fun _ _ _ e => e) ht)
    have T1 : TabsN (TT K) (upd (upd H t (.tup [.int n, .ref f])) x (.ins (aR K) dx (putF "parts" (.ref t) []))) := tabs_upd (hT.ext (Same.new ht)) ((upd_ne nxt).trans hx) (fun _ z => by cases z) (fun _ _ z => by cases z)
    have ht1 : (upd (upd H t (.tup [.int n, .ref f])) x (.ins (aR K) dx (putF "parts" (.ref t) []))) t = some (.tup [.int n, .ref f]) := (upd_ne nxt.symm).trans upd_same
    have hx1 : (upd (upd H t (.tup [.int n, .ref f])) x (.ins (aR K) dx (putF "parts" (.ref t) []))) x = some (.ins (aR K) dx (putF "parts" (.ref t) [])) := upd_same
    generalize upd (upd H t (.tup [.int n, .ref f])) x (.ins (aR K) dx (putF "parts" (.ref t) [])) = H1 at hd1 k1 T1 ht1 hx1 ⊢
    have nxd1 : x ≠ d1 := ne_of_none hx1 hd1
    have d10 : H d1 = none := k1.fresh hd1 nxd1.symm
    refine ⟨_, rfl, _, _, _, _, rfl, (upd_ne nxd1).trans hx1, T.c_Ring, T.a_Ring_limits, by show 1 < 1000; decide, fun d2 hd2 => ?_⟩
    have k2 : Kp x H (upd (upd H1 d1 (.dK [])) x (.ins (aR K) dx (putF "limits" (.ref d1) (putF "parts" (.ref t) [])))) := Kp.put (k1.new hd1)
    have T2 : TabsN (TT K) (upd (upd H1 d1 (.dK [])) x (.ins (aR K) dx (putF "limits" (.ref d1) (putF "parts" (.ref t) [])))) := tabs_upd (T1.ext (Same.new hd1)) ((upd_ne nxd1).trans hx1) (fun _ z => by cases z) (fun _ _ z => by cases z)
    have nxt1 : t ≠ d1 := ne_of_none ht1 hd1
    have ht2 : (upd (upd H1 d1 (.dK [])) x (.ins (aR K) dx (putF "limits" (.ref d1) (putF "parts" (.ref t) [])))) t = some (.tup [.int n, .ref f]) := (upd_ne nxt.symm).trans ((upd_ne nxt1).trans ht1)
    have hx2 : (upd (upd H1 d1 (.dK [])) x (.ins (aR K) dx (putF "limits" (.ref d1) (putF "parts" (.ref t) [])))) x = some (.ins (aR K) dx (putF "limits" (.ref d1) (putF "parts" (.ref t) []))) := upd_same
    have hd12 : (upd (upd H1 d1 (.dK [])) x (.ins (aR K) dx (putF "limits" (.ref d1) (putF "parts" (.ref t) [])))) d1 = some (.dK []) := (upd_ne nxd1.symm).trans upd_same
    generalize upd (upd H1 d1 (.dK [])) x (.ins (aR K) dx (putF "limits" (.ref d1) (putF "parts" (.ref t) []))) = H2 at hd2 k2 T2 ht2 hx2 hd12 ⊢
    have nxd2 : x ≠ d2 := ne_of_none hx2 hd2
    have d20 : H d2 = none := k2.fresh hd2 nxd2.symm
    have nd12 : d1 ≠ d2 := ne_of_none hd12 hd2
    refine ⟨_, rfl, _, _, _, _, rfl, (upd_ne nxd2).trans hx2, T.c_Ring, T.a_Ring_halts, by show 2 < 1000; decide, ?_⟩
    have k3 : Kp x H (upd (upd H2 d2 (.dK [])) x (.ins (aR K) dx (putF "halts" (.ref d2) (putF "limits" (.ref d1) (putF "parts" (.ref t) []))))) := Kp.put (k2.new hd2)
    have T3 : TabsN (TT K) (upd (upd H2 d2 (.dK [])) x (.ins (aR K) dx (putF "halts" (.ref d2) (putF "limits" (.ref d1) (putF "parts" (.ref t) []))))) := tabs_upd (T2.ext (Same.new hd2)) ((upd_ne nxd2).trans hx2) (fun _ z => by cases z) (fun _ _ z => by cases z)
    have ht3 : (upd (upd H2 d2 (.dK [])) x (.ins (aR K) dx (putF "halts" (.ref d2) (putF "limits" (.ref d1) (putF "parts" (.ref t) []))))) t = some (.tup [.int n, .ref f]) := (upd_ne nxt.symm).trans ((upd_ne (ne_of_none ht2 hd2)).trans ht2)
    have hx3 : (upd (upd H2 d2 (.dK [])) x (.ins (aR K) dx (putF "halts" (.ref d2) (putF "limits" (.ref d1) (putF "parts" (.ref t) []))))) x = some (.ins (aR K) dx (rfs t d1 d2)) := upd_same
    have hd13 : (upd (upd H2 d2 (.dK [])) x (.ins (aR K) dx (putF "halts" (.ref d2) (putF "limits" (.ref d1) (putF "parts" (.ref t) []))))) d1 = some (.dK []) := (upd_ne nxd1.symm).trans ((upd_ne nd12).trans hd12)
    have hd23 : (upd (upd H2 d2 (.dK [])) x (.ins (aR K) dx (putF "halts" (.ref d2) (putF "limits" (.ref d1) (putF "parts" (.ref t) []))))) d2 = some (.dK []) := (upd_ne nxd2.symm).trans upd_same
    generalize upd (upd H2 d2 (.dK [])) x (.ins (aR K) dx (putF "halts" (.ref d2) (putF "limits" (.ref d1) (putF "parts" (.ref t) [])))) = H3 at k3 T3 ht3 hx3 hd13 hd23 ⊢
    -- the stops
    have hf3 := kf k3.n
    obtain ⟨dxf3, pl3, f13, f23, f33, f43⟩ := id hf3
    refine ⟨_, rfl, _, rfl, _, _, _, rfl, f13, f, lt, as, ps, rfl, hf3, fun b dxb hb hdxb hneb => ?_⟩
    have S4 : Same H3 (upd (upd H3 dxb (.own b)) b (.ins (aB K) dxb [])) := fun a o e => by
      rw [upd_ne (ne_of_none e hb), upd_ne (ne_of_none e hdxb)]
      exact e
    refine ⟨⟨n, ps.map wkOf⟩, ps, b, dxb, lt, as, rfl, upd_same, S4 _ _ f23, f33.same S4, rfl, by rw [Cf.m, List.length_map]; exact ok8, n0, n1, hday, T3.ext S4, fun ll fl cd ds D cr H5 B5 hD hcr => ⟨rfl, ?_⟩⟩
    refine ⟨b, dxb, _, rfl, B5.ob, rfl, ⟨n, ps.map wkOf⟩, ps, _, b, dxb, lt, ll, fl, cd, ds, as, D, cr, rfl, B5, hD, hcr, fun l ts H6 e6 T6 hl0 hst => ?_⟩
    have up6 : ∀ a o, H3 a = some o → (∀ q, o ≠ .tbl q) → H6 a = some o := fun a o e nt => e6 a o (core_of (by simpa using ne_of_none e hb) (S4 _ _ e) nt) nt
    have k6 : KpN x H H6 := fun a o ne e nt => up6 a o (k3 a o ne e) nt
    have hx6 := up6 _ _ hx3 (fun _ z => by cases z)
    have ht6 := up6 _ _ ht3 (fun _ z => by cases z)
    have hd16 := up6 _ _ hd13 (fun _ z => by cases z)
    have hd26 := up6 _ _ hd23 (fun _ z => by cases z)
    clear B5 hD hcr
    have slen := stops_len (C := ⟨n, ps.map wkOf⟩)
    have sm8 : (stops ⟨n, ps.map wkOf⟩).length ≤ 8 := Nat.le_trans slen (by rw [Cf.m, List.length_map]; exact ok8)
    have hzs : ∀ k : Nat, k ≤ 8 → k < sizeLine := fun k h => Nat.lt_of_le_of_lt h (by decide)
    refine ⟨_, rfl, l, rfl, ⟨_, SqL.of hst.hl⟩, ?_⟩
    refine for_it walk_list (fun k σ H' => ∃ k1 k2 o4 o5 o6 o7 o8 o9, σ = [some (.ref x), some (.int n), some (.ref f), some (.ref l), o4, o5, o6, o7, o8, o9] ∧ H' x = some (.ins (aR K) dx (rfs t d1 d2)) ∧ H' t = some (.tup [.int n, .ref f]) ∧ H' d1 = some (.dK k1) ∧ H' d2 = some (.dK k2) ∧ RgD ⟨n, ps.map wkOf⟩ ps ((stops ⟨n, ps.map wkOf⟩).take k) k1 k2 H' ∧ KpN x H H' ∧ TabsN (TT K) H' ∧ StL H' l ts (stops ⟨n, ps.map wkOf⟩))
      ⟨[], [], _, _, _, _, _, _, rfl, hx6, ht6, hd16, hd26, ⟨Nat.zero_le _, Nat.zero_le _, fun s hs => by simp at hs⟩, k6, T6, hst⟩ (fun k σ H' _ h => by
        obtain ⟨_, _, _, _, _, _, _, _, _, _, _, _, _, _, _, _, hs⟩ := h
        exact SqL.of hs.hl) ?_ ?_
    · rintro k y σ H7a H7 hk ⟨k1', k2', o4, o5, o6, o7, o8, o9, rfl, hx7, ht7, hd17, hd27, R7, K7, T7, St7⟩ ⟨rfl, e2⟩
      obtain ⟨a, hak, rfl⟩ := ref_ix e2
      have hkl : k < (stops ⟨n, ps.map wkOf⟩).length := by rw [← St7.len]; exact (List.getElem?_eq_some_iff.mp hak).1
      have hsk := List.getElem?_eq_getElem hkl
      have hmem := List.getElem_mem hkl
      have hpl : ∀ s' ∈ (stops ⟨n, ps.map wkOf⟩).take k, nth s' 1 ≠ nth (stops ⟨n, ps.map wkOf⟩)[k] 1 := fun s' hs' => by
        obtain ⟨k', hk', e'⟩ := List.mem_iff_getElem.mp hs'
        rw [List.length_take] at hk'
        rw [List.getElem_take] at e'
        have := List.pairwise_iff_getElem.mp (stops_nd (C := ⟨n, ps.map wkOf⟩) n0) k' k (by omega) hkl (by omega)
        rw [e'] at this
        exact this
      have htk : (stops ⟨n, ps.map wkOf⟩).take (k + 1) = (stops ⟨n, ps.map wkOf⟩).take k ++ [(stops ⟨n, ps.map wkOf⟩)[k]] := List.take_succ_eq_append_getElem hkl
      have hst7 := St7.at_ k a _ hak hsk
      have r1 := R7.l1
      have r2 := R7.l2
      rw [List.length_take] at r1 r2
      rw [htk]
      generalize (stops ⟨n, ps.map wkOf⟩)[k] = s0 at hmem hpl hst7
      obtain ⟨i, j, c, hi, hj, c0, c1, rfl⟩ := stops_mem (C := ⟨n, ps.map wkOf⟩) n0 hmem
      have c1 : c ≤ n := c1
      rw [Cf.m, List.length_map] at hi hj
      have hpi := List.getElem?_eq_getElem hi
      have hpj := List.getElem?_eq_getElem hj
      have al := f3.1
      have hai := List.getElem?_eq_getElem (show i < as.length by omega)
      have haj := List.getElem?_eq_getElem (show j < as.length by omega)
      -- facts of a heap of this turn
      have tup : SqT K H7 a [.int (((Cf.mk n (ps.map wkOf)).at i).day + c), .int (i : Nat), .int c, .int (j : Nat)] := SqT.of hst7
      obtain ⟨e1, e2, e3, e4, e5, e6⟩ := kf K7
      have hpa := e5.2 i _ _ hai hpi
      obtain ⟨dxa, ta, q1, q2⟩ := id hpa
      refine ⟨a, _, rfl, tup, rfl, _, _, rfl, _, _, rfl, _, _, rfl, _, _, rfl, rfl, ?_⟩
      refine ⟨_, rfl, _, _, _, rfl, e3, f, lt, as, ps, rfl, kf K7, _, rfl, _, _, _, _, rfl, rfl, SqT.of e4, at_ref hai, ?_⟩
      -- limits
      refine ⟨_, rfl, _, rfl, _, _, _, _, _, rfl, hx7, T.c_Ring, T.a_Ring_limits, rfl, _, rfl, _, _, _, rfl, q1, _, _, rfl, hpa, d1, _, rfl, DPut.k (k := Sum.inr ps[i].name) hd17 (hzs _ (by omega)), ?_⟩
      have K8 : KpN x H (upd H7 d1 (.dK (putK k1' (Sum.inr ps[i].name) (.int c)))) := K7.own d10
      have hd18 : (upd H7 d1 (.dK (putK k1' (Sum.inr ps[i].name) (.int c)))) d1 = some (.dK (putK k1' (Sum.inr ps[i].name) (.int c))) := upd_same
      have hd28 := (upd_ne (o := .dK (putK k1' (Sum.inr ps[i].name) (.int c))) nd12.symm).trans hd27
      have hx8 := up1 (o' := .dK (putK k1' (Sum.inr ps[i].name) (.int c))) hx7 (fun _ z => by cases z) hd17
      have ht8 := up1 (o' := .dK (putK k1' (Sum.inr ps[i].name) (.int c))) ht7 (fun _ z => by cases z) hd17
      have T8 : TabsN (TT K) (upd H7 d1 (.dK (putK k1' (Sum.inr ps[i].name) (.int c)))) := tabs_upd T7 hd17 (fun _ z => by cases z) (fun _ _ z => by cases z)
      have St8 := St7.dict (o' := .dK (putK k1' (Sum.inr ps[i].name) (.int c))) hd17
      have tp8 : ∀ b xs, H7 b = some (.tup xs) → (upd H7 d1 (.dK (putK k1' (Sum.inr ps[i].name) (.int c)))) b = some (.tup xs) := fun b xs e => up1 e (fun _ z => by cases z) hd17
      generalize upd H7 d1 (.dK (putK k1' (Sum.inr ps[i].name) (.int c))) = H8 at K8 hd18 hd28 hx8 ht8 T8 St8 tp8 ⊢
      obtain ⟨g1, g2, g3, g4, g5, g6⟩ := kf K8
      have hpa8 := g5.2 i _ _ hai hpi
      obtain ⟨dxa8, ta8, q18, q28⟩ := id hpa8
      have hpj8 := g5.2 j _ _ haj hpj
      obtain ⟨dxj8, tj8, qj1, qj2⟩ := id hpj8
      refine ⟨_, rfl, _, _, _, rfl, q18, _, _, rfl, hpa8, _, rfl, _, rfl, _, _, _, rfl, q18, _, _, rfl, hpa8, _, _, rfl, rfl, mul64 (by omega) (by omega), _, _, rfl, rfl, _, rfl, _, _, rfl, rfl, n0, ?_⟩
      -- halts
      refine ⟨_, rfl, _, rfl, _, rfl, _, _, _, rfl, g3, f, lt, as, ps, rfl, kf K8, _, rfl, _, _, _, _, rfl, rfl, SqT.of g4, at_ref haj, _, _, _, rfl, qj1, _, _, rfl, hpj8, by show 3 ≤ sizeLine; decide, fun h hh => ?_⟩
      have S9 := Same.new (o := .tup [.int (((Cf.mk n (ps.map wkOf)).at i).day + c), .int ((ps[i].post + c * ps[i].stride) % n), .str ps[j].name]) hh
      have K9 := K8.ext (SameN S9)
      obtain ⟨u1, u2, u3, u4, u5, u6⟩ := kf K9
      have hpa9 := u5.2 i _ _ hai hpi
      obtain ⟨dxa9, ta9, q19, q29⟩ := id hpa9
      have hd29 := S9 _ _ hd28
      refine ⟨_, rfl, _, _, _, _, _, rfl, S9 _ _ hx8, T.c_Ring, T.a_Ring_halts, rfl, _, rfl, _, _, _, rfl, q19, _, _, rfl, hpa9, d2, _, rfl, DPut.k (k := Sum.inr ps[i].name) hd29 (hzs _ (by omega)), ?_⟩
      have tp9 : ∀ b xs, H7 b = some (.tup xs) → (upd (upd H8 h (.tup [.int (((Cf.mk n (ps.map wkOf)).at i).day + c), .int ((ps[i].post + c * ps[i].stride) % n), .str ps[j].name])) d2 (.dK (putK k2' (Sum.inr ps[i].name) (.ref h)))) b = some (.tup xs) := fun b xs e => up1 (S9 _ _ (tp8 b xs e)) (fun _ z => by cases z) hd29
      refine ⟨putK k1' (Sum.inr ps[i].name) (.int c), putK k2' (Sum.inr ps[i].name) (.ref h), _, _, _, _, _, _, rfl, up1 (S9 _ _ hx8) (fun _ z => by cases z) hd29, up1 (S9 _ _ ht8) (fun _ z => by cases z) hd29, (upd_ne nd12).trans (S9 _ _ hd18), upd_same, R7.more (h := h) tp9 ok.nd rfl hpi hpl ?_, K9.own d20, tabs_upd (T8.ext S9) hd29 (fun _ z => by cases z) (fun _ _ z => by cases z), (St8.extN (SameN S9)).dict hd29⟩
      have hh9 : (upd H8 h (.tup [.int (((Cf.mk n (ps.map wkOf)).at i).day + c), .int ((ps[i].post + c * ps[i].stride) % n), .str ps[j].name])) h = some (.tup [.int (((Cf.mk n (ps.map wkOf)).at i).day + c), .int ((ps[i].post + c * ps[i].stride) % n), .str ps[j].name]) := upd_same
      refine (up1 hh9 (fun _ z => by cases z) hd29).trans ?_
      have ej : (ps.getD (nth [((Cf.mk n (ps.map wkOf)).at i).day + c, (i : Int), c, (j : Int)] 3).toNat ⟨"", 0, 0, 0⟩).name = ps[j].name := by
        show (ps.getD ((j : Int)).toNat ⟨"", 0, 0, 0⟩).name = ps[j].name
        rw [show ((j : Nat) : Int).toNat = j by omega, List.getD_eq_getElem?_getD, hpj]
        rfl
      unfold haltV
      rw [ej]
      rfl
    · rintro σ H7 ⟨k1', k2', o4, o5, o6, o7, o8, o9, rfl, hx7, ht7, hd17, hd27, R7, K7, T7, St7⟩
      rw [List.length_map, hst.len, List.take_length] at R7
      exact q H7 ⟨dx, t, d1, d2, f, k1', k2', hx7, ht7, ⟨lt, as, kf K7⟩, hd17, hd27, R7⟩ K7 T7
end
end Pp

end
section
set_option Elab.async false
set_option linter.all false
set_option maxRecDepth 100000
set_option maxHeartbeats 4000000
/-! A ring's rows. -/
namespace Pp
open PySem PySem.Spec PyProof.Rows L2 StX Rg NdefX LamX
noncomputable def rowOf (C : Cf) (ps : List Pt) (i : Nat) (p : Pt) : Row := ⟨p.name, nth (stopOf C i) 2, nth (stopOf C i) 0, (p.post + nth (stopOf C i) 2 * p.stride) % C.n, (ps.getD (nth (stopOf C i) 3).toNat ⟨"", 0, 0, 0⟩).name⟩
noncomputable def rowsOf (C : Cf) (ps : List Pt) : List Row := ps.zipIdx.map fun q => rowOf C ps q.2 q.1
def RowAt (H : Hp) (b : Addr) (r : Row) : Prop := ∃ h, H b = some (.tup [.str r.name, .int r.count, .ref h]) ∧ H h = some (.tup [.int r.day, .int r.post, .str r.by_])
structure RowsL (H : Hp) (as : List Addr) (rs : List Row) : Prop where
  len : as.length = rs.length
  at_ : ∀ (k : Nat) (b : Addr) (r : Row), as[k]? = some b → rs[k]? = some r → RowAt H b r
def RowsAt (H : Hp) (a : Addr) (rs : List Row) : Prop := ∃ as, H a = some (.tup (as.map V.ref)) ∧ RowsL H as rs
theorem RowAt.tups {H H' : Hp} {b : Addr} {r : Row} (h : RowAt H b r) (e : ∀ a xs, H a = some (.tup xs) → H' a = some (.tup xs)) : RowAt H' b r := let ⟨x, h1, h2⟩ := h; ⟨x, e _ _ h1, e _ _ h2⟩
theorem RowsL.tups {H H' : Hp} {as : List Addr} {rs : List Row} (h : RowsL H as rs) (e : ∀ a xs, H a = some (.tup xs) → H' a = some (.tup xs)) : RowsL H' as rs := ⟨h.len, fun k b r h1 h2 => (h.at_ k b r h1 h2).tups e⟩
theorem RowsAt.tups {H H' : Hp} {a : Addr} {rs : List Row} (h : RowsAt H a rs) (e : ∀ a xs, H a = some (.tup xs) → H' a = some (.tup xs)) : RowsAt H' a rs := let ⟨as, h1, h2⟩ := h; ⟨as, e _ _ h1, h2.tups e⟩
theorem RowsAt.extN {H H' : Hp} {a : Addr} {rs : List Row} (h : RowsAt H a rs) (e : ExtN H H') : RowsAt H' a rs := h.tups fun a xs q => e _ _ q (fun _ z => by cases z)
theorem RowsL.snoc {H : Hp} {as : List Addr} {rs : List Row} {b : Addr} {r : Row} (h : RowsL H as rs) (k : RowAt H b r) : RowsL H (as ++ [b]) (rs ++ [r]) := by
  refine ⟨by rw [List.length_append, List.length_append, h.len]; rfl, fun i c q h1 h2 => ?_⟩
  by_cases hi : i < as.length
  · rw [List.getElem?_append_left hi] at h1
    rw [List.getElem?_append_left (by rw [← h.len]; exact hi)] at h2
    exact h.at_ i c q h1 h2
  · rw [List.getElem?_append_right (by omega)] at h1
    rw [List.getElem?_append_right (by rw [← h.len]; omega)] at h2
    have e : i - as.length = 0 := by
      have := (List.getElem?_eq_some_iff.mp h1).1
      simp at this
      omega
    rw [e] at h1
    rw [← h.len, e] at h2
    cases h1
    cases h2
    exact k
theorem rowsOf_len {C : Cf} {ps : List Pt} : (rowsOf C ps).length = ps.length := by unfold rowsOf; rw [List.length_map, List.length_zipIdx]
theorem rowsOf_at {C : Cf} {ps : List Pt} {i : Nat} {p : Pt} (h : ps[i]? = some p) : (rowsOf C ps)[i]? = some (rowOf C ps i p) := by
  unfold rowsOf
  rw [List.getElem?_map, List.getElem?_zipIdx, h]
  simp
section
variable {P : Program} {w : World} {K : PySem.W.Frag} {mg : Str → Option Value} {base : Heap}
theorem scRiF : FnScope ["self"] ["self"] (defScope sRiFence) := ⟨rfl, rfl, rfl, by decide +kernel, rfl, by decide +kernel, by decide +kernel⟩
def spRiFence (K : PySem.W.Frag) : Sp := fun vs H Q _ => ∃ (x dx t d1 d2 f : Addr) (n : Int), vs = [.ref x] ∧ H x = some (.ins (aR K) dx (rfs t d1 d2)) ∧ H t = some (.tup [.int n, .ref f]) ∧ Q (.ref f) H
theorem ok_rifence (T : Tx K mg) : FnR P w K mg base CX0 1 (pg K "Ring" "fence") (spRiFence K) := by
  refine defR T.d_sRiFence scRiF (fun _ _ _ _ _ _ us hl => match us, hl with | [_], _ => rfl) (fun vs H Q E h => ?_) (fun cdv A outer s H vs Q E hr h => ?_)
  · obtain ⟨_, _, _, _, _, _, _, rfl, _⟩ := h; rfl
  · obtain ⟨x, dx, t, d1, d2, f, n, rfl, h1, h2, q⟩ := h
    refine ⟨_, pss_one (ps_ret (pe_ix ix_tup (pe_fld (pv 0) rfl) pe_int (fun _ _ => rfl))), ?_⟩
    exact ⟨_, rfl, _, _, _, _, _, rfl, h1, T.c_Ring, T.a_Ring_parts, rfl, _, _, _, _, rfl, rfl, SqT.of h2, rfl, q⟩
theorem scRow : FnScope ["self", "name"] ["self", "name"] (defScope sRiRow) := ⟨rfl, rfl, rfl, by decide +kernel, rfl, by decide +kernel, by decide +kernel⟩
def spRow (K : PySem.W.Frag) : Sp := fun vs H Q _ => ∃ (x : Addr) (C : Cf) (ps : List Pt) (i : Nat) (p : Pt), vs = [.ref x, .str p.name] ∧ RAt K H x C ps ∧ C.ps = ps.map wkOf ∧ ps[i]? = some p ∧ 0 < C.n ∧ ∀ b H', H b = none → RowAt H' b (rowOf C ps i p) → Same H H' → Q (.ref b) H'
theorem ok_row (T : Tx K mg) : FnR P w K mg base CX0 1 (ma K (aR K) "row") (spRow K) := by
  refine defR T.d_sRiRow scRow (fun _ _ _ _ _ _ us hl => match us, hl with | [_, _], _ => rfl) (fun vs H Q E h => ?_) (fun cdv A outer s H vs Q E hr h => ?_)
  · obtain ⟨_, _, _, _, _, rfl, _⟩ := h; rfl
  · obtain ⟨x, C, ps, i, p, rfl, ⟨dx, t, d1, d2, f, k1, k2, h1, h2, h3, h4, h5, h6⟩, hcm, hpi, n0, q⟩ := h
    have hu : ∀ {A : Around}, Room 0 A → A.units + 1 < cLine := fun r => by have := r.units; omega
    refine ⟨_, pss_one (ps_ret (pe_tup (pa_cons (pv 1) (pa_cons (pe_dget (hu hr) (pe_fld (pv 0) rfl) (pv 1) (fun _ _ => rfl)) (pa_cons (pe_dget (hu hr) (pe_fld (pv 0) rfl) (pv 1) (fun _ _ => rfl)) pa_nil))))), ?_⟩
    have him : i < C.m := by rw [Cf.m, hcm, List.length_map]; exact (List.getElem?_eq_some_iff.mp hpi).1
    obtain ⟨m1, m2⟩ := stopOf_mem him
    obtain ⟨v1, h, v2, hh⟩ := h6.at_ _ m1 i p m2 hpi
    refine ⟨_, rfl, _, rfl, _, _, _, _, _, rfl, h1, T.c_Ring, T.a_Ring_limits, rfl, _, rfl, d1, _, rfl, v1 ▸ DGet.k (k := Sum.inr p.name) h4, _, rfl, _, _, _, _, _, rfl, h1, T.c_Ring, T.a_Ring_halts, rfl, _, rfl, d2, _, rfl, v2 ▸ DGet.k (k := Sum.inr p.name) h5, by show 3 ≤ sizeLine; decide, fun b hb => ?_⟩
    have S1 := Same.new (o := .tup [.str p.name, .int (nth (stopOf C i) 2), .ref h]) hb
    exact q b _ hb ⟨h, upd_same, S1 _ _ hh⟩ S1
theorem scRws : FnScope ["self", "name"] ["self"] (defScope sRiRows) := ⟨rfl, rfl, rfl, by decide +kernel, rfl, by decide +kernel, by decide +kernel⟩
def spRows (K : PySem.W.Frag) : Sp := fun vs H Q _ => ∃ (x : Addr) (C : Cf) (ps : List Pt), vs = [.ref x] ∧ RAt K H x C ps ∧ C.ps = ps.map wkOf ∧ 0 < C.n ∧ ps.length ≤ 8 ∧ ∀ a H', RowsAt H' a (rowsOf C ps) → Same H H' → Q (.ref a) H'
theorem ok_rows (T : Tx K mg) : FnR P w K mg base CX0 3 (pg K "Ring" "rows") (spRows K) := by
  refine defR T.d_sRiRows scRws (fun _ _ _ _ _ _ us hl => match us, hl with | [_], _ => rfl) (fun vs H Q E h => ?_) (fun cdv A outer s H vs Q E hr h => ?_)
  · obtain ⟨_, _, _, rfl, _⟩ := h; rfl
  · obtain ⟨x, C, ps, rfl, hR, hcm, n0, m8, q⟩ := h
    obtain ⟨dx, t, d1, d2, f, k1, k2, h1, h2, h3, h4, h5, h6⟩ := id hR
    have hr1 : Room 1 _ := hr.mono (by decide)
    have nd := scRws.nd
    refine ⟨_, pss_one (ps_ret (pe_callTy call_tuple_of inName T.z_tuple (by decide +kernel) (pa_cons (pe_lc (own := [("name", 1)]) (g := gName 1) (tt := tYes) rfl nd (pi_tup (pe_propR (pe_propR (pv 0) T.c_Ring T.p_Ring_fence (ok_rifence T) hr) T.c_Fence T.p_Fence_names (ok_fnames T) hr)) (blkOk_by (N := ["self", "name"]) (sc := defScope sRiRows) (by decide +kernel)) (fun _ _ _ _ _ => pg_name (i := 1) nd rfl (Or.inl rfl)) (fun _ _ _ _ _ => pts_nil)
      (fun _ _ _ _ _ => pe_methR (pv 0) T.c_Ring T.m_Ring_row (ok_row T) hr1 pass0 (pa_cons (pv 1) pa_nil))) pa_nil))), ?_⟩
    obtain ⟨lt, as, dxf, pl, f1, f2, f3, f4⟩ := id h3
    refine ⟨_, rfl, _, _, _, rfl, h1, x, dx, t, d1, d2, f, C.n, rfl, h1, h2, _, _, _, rfl, f1, f, ps, rfl, h3, fun nt hnt => ?_⟩
    have S1 := Same.new (o := .tup (ps.map fun p => V.str p.name)) hnt
    refine ⟨nt, rfl, ⟨_, SqT.of upd_same⟩, fun L hL => ?_⟩
    have hL0 : H L = none := S1.free hL
    refine lc_it (walk_tup (xs := ps.map fun p => V.str p.name)) (fun i H' => Same (upd H nt (.tup (ps.map fun p => V.str p.name))) H' ∧ ∃ rs : List Addr, H' L = some (.lst (rs.map V.ref)) ∧ RowsL H' rs ((rowsOf C ps).take i)) ⟨Same.new hL, [], upd_same, ⟨rfl, fun k b r h => by simp at h⟩⟩ (fun i H' _ h => SqT.of (h.1 _ _ upd_same)) ?_ ?_
    · rintro i y H2a H2 hi ⟨S2, rs, hrs, hl⟩ ⟨rfl, e2⟩
      rw [List.length_map] at hi
      have hpi := List.getElem?_eq_getElem hi
      have e2 : (ps.map fun p => V.str p.name)[i]? = some y := e2
      rw [List.getElem?_map, hpi] at e2
      cases e2
      have R2 := hR.extN ((SameN S1).trans (SameN S2))
      obtain ⟨_, _, _, _, _, _, _, h12, _⟩ := id R2
      refine ⟨rfl, _, rfl, _, _, _, rfl, h12, rfl, _, rfl, x, C, ps, i, ps[i], rfl, R2, hcm, hpi, n0, fun b H3 hb hrow S3 => ?_⟩
      have hrs3 := S3 _ _ hrs
      have tp : ∀ a xs, H3 a = some (.tup xs) → (upd H3 L (.lst (rs.map V.ref ++ [.ref b]))) a = some (.tup xs) := fun a xs e => by
        rw [upd_ne (fun z => by rw [z, hrs3] at e; cases e)]
        exact e
      refine ⟨_, hrs3, ?_, fun a o e => ?_, rs ++ [b], ?_, ?_⟩
      · rw [List.length_map, hl.len, List.length_take, rowsOf_len]
        exact Nat.lt_of_le_of_lt (show _ ≤ 8 by omega) (by decide)
      · rw [upd_ne (ne_of_none e hL)]
        exact S3 _ _ (S2 _ _ e)
      · rw [upd_same, List.map_append]; rfl
      · rw [List.take_succ_eq_append_getElem (by rw [rowsOf_len]; exact hi)]
        have er : (rowsOf C ps)[i]'(by rw [rowsOf_len]; exact hi) = rowOf C ps i ps[i] := by
          have := rowsOf_at (C := C) hpi
          rw [List.getElem?_eq_getElem (by rw [rowsOf_len]; exact hi)] at this
          exact Option.some.inj this
        rw [er]
        exact ((hl.tups fun a xs e => S3 _ _ e).tups tp).snoc (hrow.tups tp)
    rintro H2 ⟨S2, rs, hrs, hl⟩
    rw [List.length_map, ← rowsOf_len (C := C), List.take_length] at hl
    refine ⟨L, _, rfl, .inl ⟨SqL.of hrs, fun a ha => ?_⟩⟩
    have S3 := Same.new (o := .tup (rs.map V.ref)) ha
    exact q a _ ⟨rs, upd_same, hl.tups fun b xs e => S3 _ _ e⟩ ((S1.trans S2).trans S3)
end
end Pp

end
section
set_option Elab.async false
set_option linter.all false
set_option maxRecDepth 100000
set_option maxHeartbeats 4000000
/-! The law's pen. -/
namespace Pp
open PySem PySem.Spec PyProof.Rows L2 StX Rg NdefX LamX
def penK (c : Addr) (b r : Int) : List (Key × V) := [(Sum.inr "cells", .ref c), (Sum.inr "begun", .int b), (Sum.inr "rest", .int r)]
theorem pen_c (c : Addr) (b r : Int) : valV (penK c b r) (Sum.inr "cells") = some (.ref c) := by rfl
theorem pen_b (c : Addr) (b r : Int) : valV (penK c b r) (Sum.inr "begun") = some (.int b) := by rfl
theorem pen_r (c : Addr) (b r : Int) : valV (penK c b r) (Sum.inr "rest") = some (.int r) := by rfl
theorem pen_pb (c : Addr) (b r x : Int) : putK (penK c b r) (Sum.inr "begun") (.int x) = penK c x r := by rfl
theorem pen_pr (c : Addr) (b r x : Int) : putK (penK c b r) (Sum.inr "rest") (.int x) = penK c b x := by rfl
/-- a pen at d that has begun at most β cells -/
def PenAt (H : Hp) (d : Addr) (β : Int) : Prop := ∃ (c : Addr) (ns : List Int) (b r : Int), H d = some (.dK (penK c b r)) ∧ H c = some (.lst (ns.map V.int)) ∧ ns.length ≤ 63 ∧ 0 ≤ b ∧ b ≤ β
theorem PenAt.same {H H' : Hp} {d : Addr} {β : Int} (h : PenAt H d β) (e : Same H H') : PenAt H' d β := let ⟨c, ns, b, r, h1, h2, h3⟩ := h; ⟨c, ns, b, r, e _ _ h1, e _ _ h2, h3⟩
theorem PenAt.extN {H H' : Hp} {d : Addr} {β : Int} (h : PenAt H d β) (e : ExtN H H') : PenAt H' d β := let ⟨c, ns, b, r, h1, h2, h3⟩ := h; ⟨c, ns, b, r, e _ _ h1 (fun _ z => by cases z), e _ _ h2 (fun _ z => by cases z), h3⟩
theorem PenAt.mono {H : Hp} {d : Addr} {β γ : Int} (h : PenAt H d β) (e : β ≤ γ) : PenAt H d γ := let ⟨c, ns, b, r, h1, h2, h3, h4, h5⟩ := h; ⟨c, ns, b, r, h1, h2, h3, h4, by omega⟩
theorem Kp.refl (x : Addr) (H : Hp) : Kp x H H := fun _ _ _ e => e
theorem Kp.trans {x : Addr} {H1 H2 H3 : Hp} (a : Kp x H1 H2) (b : Kp x H2 H3) : Kp x H1 H3 := fun y o n e => b y o n (a y o n e)
/-- all but d kept, and at d a pen of the same cells -/
structure Kq (d : Addr) (H H' : Hp) : Prop where
  kp : Kp d H H'
  pn : ∀ c b r, H d = some (.dK (penK c b r)) → ∃ b' r', H' d = some (.dK (penK c b' r'))
theorem Kq.refl (d : Addr) (H : Hp) : Kq d H H := ⟨Kp.refl d H, fun c b r e => ⟨b, r, e⟩⟩
theorem Kq.trans {d : Addr} {H1 H2 H3 : Hp} (a : Kq d H1 H2) (b : Kq d H2 H3) : Kq d H1 H3 := ⟨a.kp.trans b.kp, fun c x r e => let ⟨_, _, e2⟩ := a.pn c x r e; b.pn _ _ _ e2⟩
theorem Kq.same {d : Addr} {H1 H2 H3 : Hp} (a : Kq d H1 H2) (b : Same H2 H3) : Kq d H1 H3 := ⟨a.kp.same b, fun c x r e => let ⟨b', r', e2⟩ := a.pn c x r e; ⟨b', r', b _ _ e2⟩⟩
theorem Kq.put {d c : Addr} {b r b' r' : Int} {H1 H2 : Hp} (a : Kq d H1 H2) (h : H2 d = some (.dK (penK c b r))) : Kq d H1 (upd H2 d (.dK (penK c b' r'))) := by
  refine ⟨Kp.put a.kp, fun c0 x y e => ?_⟩
  obtain ⟨x', y', e2⟩ := a.pn c0 x y e
  rw [e2] at h
  injection h with h
  injection h with h
  injection h with h
  injection h with _ h
  injection h with h
  subst h
  exact ⟨b', r', upd_same⟩
section
variable {P : Program} {w : World} {K : PySem.W.Frag} {mg : Str → Option Value} {base : Heap}
abbrev NDr : List Str := ["_law_pen_here", "_law_many", "_law_digit", "_law_place", "_law_cell", "_law_mixed"]
theorem scDr : FnScope NDr ["_law_pen_here", "_law_many"] (defScope sDraw) := ⟨rfl, rfl, rfl, by decide +kernel, rfl, by decide +kernel, by decide +kernel⟩
/-- what a draw leaves -/
def Drawn (H : Hp) (d : Addr) (β : Int) (Q : Int → Hp → Prop) (many cost : Int) : Prop := ∀ v H', 0 ≤ v → v < many → PenAt H' d (β + cost) → Kq d H H' → Q v H'
def spDraw (B cost : Int) : Sp := fun vs H Q _ => ∃ (d : Addr) (many β : Int), vs = [.ref d, .int many] ∧ PenAt H d β ∧ β + cost ≤ 1000010 ∧ 0 < many ∧ many ≤ B ∧ Drawn H d β (fun v H' => Q (.int v) H') many cost
abbrev recS : Stmt := match (defBody sDraw).getD 9 (.Pass ⟨0, 0, 0, 0⟩) with
  | .If _ (st :: _) _ _ => st
  | st => st
theorem dp_ints {H : Hp} : ∀ ns : List Int, DpAll K H (ns.map V.int) (ns.map PyData.int)
  | [] => .nil
  | n :: r => .cons (.int n) (dp_ints r)
theorem ints_lay : ∀ ns : List Int, PyData.canLayAll0 (ns.map PyData.int) = true
  | [] => by simp [PyData.canLayAll0]
  | z :: zs => by simp [PyData.canLayAll0, PyData.canLay0, ints_lay zs]
theorem ints_depth : ∀ ns : List Int, PyData.depthAll (ns.map PyData.int) ≤ 2
  | [] => by simp [PyData.depthAll]
  | z :: zs => by
    have h1 := ints_depth zs
    simp only [List.map_cons, PyData.depthAll, PyData.depth]
    omega
theorem ints_shaped (ns : List Int) : SeqAt.shaped (.list (ns.map PyData.int)) = true := by
  have h1 := ints_depth ns
  have h2 : PyData.depth (.list (ns.map PyData.int)) ≤ 64 := by
    simp only [PyData.depth]
    omega
  show (PyData.canLay0 (.list (ns.map PyData.int)) && decide (PyData.depth (.list (ns.map PyData.int)) ≤ 64)) = true
  rw [Bool.and_eq_true]
  exact ⟨by simp only [PyData.canLay0]; exact ints_lay ns, decide_eq_true h2⟩
theorem draw_gen (T : Tx K mg) (k : Nat) (B cost : Int) (hB : B < 2 ^ 110) (hc : 1 ≤ cost)
    (hrec : ∀ (cdv : Value) (A : Around) (outer : List Env) (s : Shared) (H : Hp) (E : XK), Room k (A.deeper (envOfC "_law_draw" (defScope sDraw) s.heap.objs.size (ga K "_law_draw") cdv)) →
      ∃ tr : TS, PSs (cxOf CX0 P w K mg base NDr "_law_draw" (defScope sDraw) (ga K "_law_draw") cdv A outer s H E).nox [recS] tr ∧ ∀ (d : Addr) (many β mixed : Int) (o2 o3 o4 : Option V) (Dn : Ends) (H1 : Hp), PenAt H1 d (β + 1) → β + cost ≤ 1000010 → 60000000 < many → many ≤ B →
        (∀ z H', PenAt H' d (β + cost) → Kq d H1 H' → Dn.nx [some (.ref d), some (.int many), o2, o3, o4, some (.int z)] H') → tr Dn [some (.ref d), some (.int many), o2, o3, o4, some (.int mixed)] H1) :
    FnR P w K mg base CX0 (k + 1) (ga K "_law_draw") (spDraw B cost) := by
  refine defR T.d_sDraw scDr (fun _ _ _ _ _ _ us hl => match us, hl with | [_, _], _ => rfl) (fun vs H Q E h => ?_) (fun cdv A outer s H vs Q E hr h => ?_)
  · obtain ⟨_, _, _, rfl, _⟩ := h; rfl
  · obtain ⟨tr, htr, hread⟩ := hrec cdv A outer s H E hr
    obtain ⟨d, many, β, rfl, ⟨c, ns, b, r, hd, hcl, hlen, hb0, hb1⟩, hβ, m0, m1, q⟩ := h
    have nd := scDr.nd
    have hu : ∀ {A : Around}, Room k A → A.units + 1 < cLine := fun r => by have := r.units; omega
    have ncd : c ≠ d := fun z => by rw [z, hd] at hcl; cases hcl
    have fin : ∀ (v : Int) (b' r' : Int) (H' : Hp), 0 ≤ v → v < many → H' d = some (.dK (penK c b' r')) → 0 ≤ b' → b' ≤ β + 1 → Kq d H H' → Q (.int v) H' := fun v b' r' H' v0 v1 e b0 b1 k => q v H' v0 v1 ⟨c, ns, b', r', e, k.kp _ _ ncd hcl, hlen, b0, by omega⟩ k
    have tail2 : ∃ t3, PSs (cxOf CX0 P w K mg base NDr "_law_draw" (defScope sDraw) (ga K "_law_draw") cdv A outer s H E).nox ((defBody sDraw).drop 6) t3 ∧ ∀ (cell : Int) (H2 : Hp), Kq d H H2 → H2 d = some (.dK (penK c (b + 1) r)) → t3 { nx := fun _ H' => Q .non H', rt := Q } [some (.ref d), some (.int many), none, some (.int b), some (.int cell), none] H2 := by
      refine ⟨_, pss_cons (ps_set (i := 5) nd rfl (.inl rfl) (pe_op op_mod (pe_callTy call_int1 inName T.z_int (by decide +kernel) (pa_cons (pe_op op_add (pe_op op_add (pe_op op_mul (pe_op op_mod (pe_callTy call_int1 inName T.z_int (by decide +kernel) (pa_cons (pv 4) pa_nil)) pe_int) pe_int) (pe_op op_mul (pe_op op_mul pe_int (pv 3)) (pv 3))) pe_int) pa_nil)) pe_int))
      <| pss_cons (ps_set (i := 5) nd rfl (.inl rfl) (pe_op op_mod (pe_callTy call_int1 inName T.z_int (by decide +kernel) (pa_cons (pe_op op_add (pe_op op_add (pe_op op_add (pe_op op_mul (pv 5) (pv 5)) (pe_op op_mul pe_int (pv 5))) (pe_op op_mul pe_int (pv 3))) pe_int) pa_nil)) pe_int))
      <| pss_cons (ps_set (i := 5) nd rfl (.inl rfl) (pe_op op_fdivW (pe_op op_mod (pe_callTy call_int1 inName T.z_int (by decide +kernel) (pa_cons (pe_op op_mul (pv 5) (pe_op op_add (pv 5) pe_int)) pa_nil)) pe_int) pe_int))
      <| pss_cons (ps_if (pt_cmpR op_gt (pv 1) pe_int (nomark _)) htr pss_nil)
      <| pss_one (ps_ret (pe_op op_mod (pe_callTy call_int1 inName T.z_int (by decide +kernel) (pa_cons (pv 5) pa_nil)) (pv 1))), fun cell H2 k2 hd2 => ?_⟩
      have hc2 := k2.kp _ _ ncd hcl
      have e1 := Int.emod_nonneg cell (show (4294967279 : Int) ≠ 0 by decide)
      have e2 := Int.emod_lt_of_pos cell (show (0 : Int) < 4294967279 by decide)
      refine ⟨_, rfl, .inl ⟨_, rfl, _, _, rfl, rfl, (show (0 : Int) < 4294967279 by decide), _, _, rfl, rfl, mul64r (by decide) (by decide), _, rfl, _, _, rfl, rfl, mul64 (by decide) (by decide), _, rfl, _, _, rfl, rfl, mul64r (by omega) (by omega), _, _, rfl, rfl, _, _, rfl, rfl, .inl ⟨_, rfl, _, _, rfl, rfl, (show (0 : Int) < 4294967291 by decide), ?_⟩⟩⟩
      generalize hm1 : (cell % 4294967279 * 69069 + 40503 * b * b + 101) % 4294967291 = x1
      have x10 : 0 ≤ x1 := by rw [← hm1]; exact Int.emod_nonneg _ (by decide)
      have x11 : x1 < 4294967291 := by rw [← hm1]; exact Int.emod_lt_of_pos _ (by decide)
      refine ⟨_, rfl, _, rfl, _, _, rfl, rfl, mul64 (by omega) (by omega), _, rfl, _, _, rfl, rfl, mul64 (by decide) (by decide), _, _, rfl, rfl, _, rfl, _, _, rfl, rfl, mul64 (by decide) (by decide), _, _, rfl, rfl, _, _, rfl, rfl, .inl ⟨_, rfl, _, _, rfl, rfl, (show (0 : Int) < 4294967279 by decide), ?_⟩⟩
      generalize hm2 : (x1 * x1 + 31337 * x1 + 17 * b + 3) % 4294967279 = x2
      have x20 : 0 ≤ x2 := by rw [← hm2]; exact Int.emod_nonneg _ (by decide)
      have x21 : x2 < 4294967279 := by rw [← hm2]; exact Int.emod_lt_of_pos _ (by decide)
      refine ⟨_, rfl, _, rfl, _, _, rfl, rfl, _, _, rfl, rfl, mul64 (by omega) (by omega), .inl ⟨_, rfl, _, _, rfl, rfl, (show (0 : Int) < 4294967197 by decide), _, _, rfl, rfl, div64 (by decide) (by decide), ?_⟩⟩
      have pen2 : PenAt H2 d (β + 1) := ⟨c, ns, b + 1, r, hd2, hc2, hlen, by omega, by omega⟩
      refine ⟨_, rfl, _, _, rfl, rfl, _, rfl, iteD (fun hm => ?_) (fun hm => ?_)⟩
      · refine hread d many β _ _ _ _ _ H2 pen2 hβ hm m1 fun z H' hpen hk => ?_
        exact ⟨_, rfl, .inl ⟨_, rfl, _, rfl, _, _, rfl, rfl, m0, q _ H' (Int.emod_nonneg _ (by omega)) (Int.emod_lt_of_pos _ m0) hpen (k2.trans hk)⟩⟩
      · exact ⟨_, rfl, .inl ⟨_, rfl, _, rfl, _, _, rfl, rfl, m0, q _ H2 (Int.emod_nonneg _ (by omega)) (Int.emod_lt_of_pos _ m0) (pen2.mono (by omega)) k2⟩⟩
    obtain ⟨t3, h3, r3⟩ := tail2
    have tail : ∃ t2, PSs (cxOf CX0 P w K mg base NDr "_law_draw" (defScope sDraw) (ga K "_law_draw") cdv A outer s H E).nox ((defBody sDraw).drop 5) t2 ∧ ∀ (cell : Int) (H2 : Hp), Kq d H H2 → H2 d = some (.dK (penK c (b + 1) r)) → t2 { nx := fun _ H' => Q .non H', rt := Q } [some (.ref d), some (.int many), none, some (.int b), some (.int cell), none] H2 := by
      refine ⟨_, pss_cons (ps_if (pw_and (pt_cmpR op_lt (pv 3) (pe_callB call_len_seq inName T.z_len (by decide +kernel) (pa_cons (pe_dget (hu hr) (pv 0) pe_str (fun _ _ => rfl)) pa_nil)) (by rfl)) (pw_and1 (pt_cmpR op_ge (pe_callB call_abs inName T.z_abs (by decide +kernel) (pa_cons (pv 4) pa_nil)) (pe_op op_pow pe_int pe_int) (by rfl)))).pt
        (pss_cons (ps_dput (hu hr) (pv 0) pe_str (pe_op op_fdivW (pe_op op_sub (pe_callB call_abs inName T.z_abs (by decide +kernel) (pa_cons (pv 4) pa_nil)) (pe_op op_pow pe_int pe_int)) (pv 1)) rfl)
        <| pss_one (ps_ret (pe_op op_mod (pe_op op_sub (pe_callB call_abs inName T.z_abs (by decide +kernel) (pa_cons (pv 4) pa_nil)) (pe_op op_pow pe_int pe_int)) (pv 1)))) pss_nil)
      <| h3, fun cell H2 k2 hd2 => ?_⟩
      have cw' : ∀ i, CDivW i many := fun i => wide_div (b := 120) m0 (Nat.lt_of_lt_of_le (show many.natAbs < 2 ^ 110 by omega) (by decide)) (by decide) (by decide)
      have hc2 := k2.kp _ _ ncd hcl
      have hz32 : (penK c (b + 1) r).length < sizeLine := by show 3 < sizeLine; decide
      refine ⟨_, rfl, _, rfl, d, _, rfl, pen_c c (b + 1) r ▸ DGet.k (k := Sum.inr "cells") hd2, c, _, rfl, .inl (SqL.of hc2), _, _, rfl, rfl, _, rfl, iteD (fun h1 => ?_) (fun h1 => ?_)⟩
      · refine ⟨_, rfl, _, rfl, _, _, rfl, rfl, ⟨by decide, by decide, by decide⟩, _, _, rfl, rfl, _, rfl, iteD (fun h2 => ?_) (fun h2 => ?_)⟩
        · refine ⟨_, rfl, _, rfl, _, _, rfl, rfl, ⟨by decide, by decide, by decide⟩, _, _, rfl, rfl, _, rfl, _, _, rfl, rfl, cw' _, _, rfl, d, _, rfl, DPut.k (k := Sum.inr "rest") hd2 hz32, ?_⟩
          rw [pen_pr]
          refine ⟨_, rfl, _, rfl, _, _, rfl, rfl, ⟨by decide, by decide, by decide⟩, _, _, rfl, rfl, _, rfl, _, _, rfl, rfl, m0, ?_⟩
          exact fin _ (b + 1) _ _ (Int.emod_nonneg _ (by omega)) (Int.emod_lt_of_pos _ m0) upd_same (by omega) (by omega) (Kq.put k2 hd2)
        · exact r3 cell H2 k2 hd2
      · exact r3 cell H2 k2 hd2
    obtain ⟨t2, h2, r2⟩ := tail
    refine ⟨_, pss_cons (ps_if (pt_cmpR op_gt (pe_dget (hu hr) (pv 0) pe_str (fun _ _ => rfl)) pe_int (nomark _))
        (pss_cons (ps_set (i := 2) nd rfl (.inl rfl) (pe_op op_mod (pe_callTy call_int1 inName T.z_int (by decide +kernel) (pa_cons (pe_dget (hu hr) (pv 0) pe_str (fun _ _ => rfl)) pa_nil)) (pv 1)))
        <| pss_cons (ps_dput (hu hr) (pv 0) pe_str (pe_op op_fdivW (pe_dget (hu hr) (pv 0) pe_str (fun _ _ => rfl)) (pv 1)) rfl)
        <| pss_one (ps_ret (pv 2))) pss_nil)
      <| pss_cons (ps_set (i := 3) nd rfl (.inl rfl) (pe_dget (hu hr) (pv 0) pe_str (fun _ _ => rfl)))
      <| pss_cons (ps_dput (hu hr) (pv 0) pe_str (pe_op op_add (pv 3) pe_int) rfl)
      <| pss_cons (ps_set (i := 4) nd rfl (.inl rfl) (pe_op op_add (pe_op op_mul pe_int (pv 3)) pe_int))
      <| pss_cons (ps_if (pt_cmpR (op_neD hr.units) (pe_dget (hu hr) (pv 0) pe_str (fun _ _ => rfl)) (pe_lst pa_nil) (by rfl))
        (pss_one (ps_set (i := 4) nd rfl (.inl rfl) (pe_ix ix_list (pe_dget (hu hr) (pv 0) pe_str (fun _ _ => rfl)) (pe_op op_mod (pe_callTy call_int1 inName T.z_int (by decide +kernel) (pa_cons (pv 3) pa_nil)) (pe_callB call_len_seq inName T.z_len (by decide +kernel) (pa_cons (pe_dget (hu hr) (pv 0) pe_str (fun _ _ => rfl)) pa_nil))) (fun _ _ => rfl)))) pss_nil)
      <| h2, ?_⟩
    have cw : CDivW r many := wide_div (b := 120) m0 (Nat.lt_of_lt_of_le (show many.natAbs < 2 ^ 110 by omega) (by decide)) (by decide) (by decide)
    have hz3 : (penK c b r).length < sizeLine := by show 3 < sizeLine; decide
    refine ⟨_, rfl, d, _, rfl, pen_r c b r ▸ DGet.k (k := Sum.inr "rest") hd, _, _, rfl, rfl, _, rfl, iteD (fun hr0 => ?_) (fun hr0 => ?_)⟩
    · refine ⟨_, rfl, d, _, rfl, pen_r c b r ▸ DGet.k (k := Sum.inr "rest") hd, .inl ⟨_, rfl, _, rfl, _, _, rfl, rfl, m0, ?_⟩⟩
      refine ⟨_, rfl, d, _, rfl, pen_r c b r ▸ DGet.k (k := Sum.inr "rest") hd, _, rfl, _, _, rfl, rfl, cw, _, rfl, d, _, rfl, DPut.k (k := Sum.inr "rest") hd hz3, ?_⟩
      rw [pen_pr]
      exact ⟨_, rfl, fin _ b _ _ (Int.emod_nonneg _ (by omega)) (Int.emod_lt_of_pos _ m0) upd_same hb0 (by omega) (Kq.put (Kq.refl d H) hd)⟩
    refine ⟨_, rfl, d, _, rfl, pen_b c b r ▸ DGet.k (k := Sum.inr "begun") hd, ?_⟩
    refine ⟨_, rfl, _, _, rfl, rfl, _, rfl, d, _, rfl, DPut.k (k := Sum.inr "begun") hd hz3, ?_⟩
    rw [pen_pb]
    have k1 : Kq d H (upd H d (.dK (penK c (b + 1) r))) := Kq.put (Kq.refl d H) hd
    have hd1 : (upd H d (.dK (penK c (b + 1) r))) d = some (.dK (penK c (b + 1) r)) := upd_same
    have hz31 : (penK c (b + 1) r).length < sizeLine := by show 3 < sizeLine; decide
    have hc1 := k1.kp _ _ ncd hcl
    generalize upd H d (.dK (penK c (b + 1) r)) = H1 at k1 hd1 hc1 ⊢
    refine ⟨_, rfl, _, _, rfl, rfl, mul64 (by decide) (by decide), _, _, rfl, rfl, ?_⟩
    refine ⟨_, rfl, d, _, rfl, pen_c c (b + 1) r ▸ DGet.k (k := Sum.inr "cells") hd1, Nat.zero_le _, fun l hl => ?_⟩
    have S2 := Same.new (o := .lst []) hl
    refine ⟨.list (ns.map PyData.int), .list [], .lst (SqL.of (S2 _ _ hc1)) (dp_ints ns), .lst (SqL.of upd_same) .nil, ints_shaped ns, ints_shaped [], _, rfl, ite2 (fun hne => ?_) (fun _ => ?_)⟩
    · have hlp : 0 < ns.length := by
        cases ns with
        | nil => exact absurd hne (by decide)
        | cons a r => simp
      have hm0 := Int.emod_nonneg b (show (((ns.map V.int).length : Nat) : Int) ≠ 0 by rw [List.length_map]; omega)
      have hm1 := Int.emod_lt_of_pos b (show (0 : Int) < (((ns.map V.int).length : Nat) : Int) by rw [List.length_map]; omega)
      obtain ⟨x, hx⟩ : ∃ x, atI (ns.map V.int) (b % (((ns.map V.int).length : Nat) : Int)) = some (V.int x) := by
        obtain ⟨k, hk⟩ : ∃ k : Nat, b % (((ns.map V.int).length : Nat) : Int) = (k : Int) := ⟨(b % (((ns.map V.int).length : Nat) : Int)).toNat, by omega⟩
        have hkl : k < ns.length := by rw [hk, List.length_map] at hm1; omega
        exact ⟨ns[k], by rw [hk]; exact atI_nat (by rw [List.getElem?_map, List.getElem?_eq_getElem hkl]; rfl)⟩
      refine ⟨_, rfl, d, _, rfl, pen_c c (b + 1) r ▸ DGet.k (k := Sum.inr "cells") (S2 _ _ hd1), _, rfl, .inl ⟨_, rfl, _, rfl, d, _, rfl, pen_c c (b + 1) r ▸ DGet.k (k := Sum.inr "cells") (S2 _ _ hd1), c, _, rfl, .inl (SqL.of (S2 _ _ hc1)), _, _, rfl, rfl, ?_, c, _, _, _, rfl, rfl, SqL.of (S2 _ _ hc1), hx, ?_⟩⟩
      · rw [List.length_map]; omega
      · exact r2 x _ (k1.same S2) (S2 _ _ hd1)
    · exact r2 _ _ (k1.same S2) (S2 _ _ hd1)
def Bd : Nat → Int
  | 0 => 60000000
  | k + 1 => 60000000 * (Bd k - 1)
theorem ok_draw (T : Tx K mg) : ∀ k : Nat, k ≤ 3 → FnR P w K mg base CX0 (k + 1) (ga K "_law_draw") (spDraw (Bd k) (k + 1))
  | 0, _ => by
    refine draw_gen T 0 (Bd 0) _ (by decide) (by decide) fun cdv A outer s H E hr => ⟨tNever, pss_never, fun d many β mixed o2 o3 o4 Dn H1 _ _ h1 h2 _ => ?_⟩
    have h2 : many ≤ 60000000 := h2
    omega
  | k + 1, hk => by
    have hB : Bd k ≤ Bd 2 ∧ 60000000 ≤ Bd k := by
      have : k = 0 ∨ k = 1 ∨ k = 2 := by omega
      rcases this with rfl | rfl | rfl <;> decide
    have e2 : Bd 2 = 60000000 * (60000000 * (60000000 - 1) - 1) := rfl
    have eB : Bd (k + 1) = 60000000 * (Bd k - 1) := rfl
    refine draw_gen T (k + 1) (Bd (k + 1)) _ (by omega) (by omega) fun cdv A outer s H E hr => ⟨_, pss_one (ps_set (i := 5) scDr.nd rfl (.inl rfl) (pe_op op_add (pe_op op_mod (pe_callTy call_int1 inName T.z_int (by decide +kernel) (pa_cons (pv 5) pa_nil)) pe_int)
      (pe_op op_mul pe_int (pe_fn (ok_draw T k (by omega)) hr inName T.g__law_draw (kpOf T.d_sDraw) pass0 (pa_cons (pv 0) (pa_cons (pe_op op_add (pe_op op_fdivW (pv 1) pe_int) pe_int) pa_nil)))))), fun d many β mixed o2 o3 o4 Dn H1 hp hβ h1 h2 hn => ?_⟩
    have q1 : many / 60000000 + 1 ≤ Bd k := by omega
    refine ⟨_, rfl, .inl ⟨_, rfl, _, _, rfl, rfl, (show (0 : Int) < 60000000 by decide), _, rfl, _, rfl, _, _, rfl, rfl, div64 (by decide) (by decide), _, _, rfl, rfl, d, _, β + 1, rfl, hp, by omega, by omega, q1, fun v H' v0 v1 hp' hk' => ?_⟩⟩
    exact ⟨_, _, rfl, rfl, mul64 (by decide) (by decide), _, _, rfl, rfl, hn _ H' (hp'.mono (by omega)) hk'⟩
end
end Pp

end
section
set_option Elab.async false
set_option linter.all false
set_option maxRecDepth 100000
set_option maxHeartbeats 4000000
/-! pick, around, power, great, gcd, unit. -/
namespace Pp
open PySem PySem.Spec PyProof.Rows L2 StX Rg NdefX LamX
section
variable {P : Program} {w : World} {K : PySem.W.Frag} {mg : Str → Option Value} {base : Heap}
def spD : Sp := fun vs H Q _ => ∃ (d : Addr) (many β : Int), vs = [.ref d, .int many] ∧ PenAt H d β ∧ β ≤ 1000000 ∧ 0 < many ∧ many ≤ 10 ^ 31 ∧ ∀ v H', 0 ≤ v → v < many → PenAt H' d (β + 4) → Kq d H H' → Q (.int v) H'
theorem ok_d (T : Tx K mg) : FnR P w K mg base CX0 4 (ga K "_law_draw") spD := by
  have F := ok_draw (P := P) (w := w) (base := base) T 3 (Nat.le_refl _)
  intro A outer s H us vs Q E hr e0 r ⟨d, many, β, e, hp, hb, m0, m1, q⟩
  refine F A outer s H us vs Q E hr e0 r ⟨d, many, β, e, hp, ?_, m0, ?_, q⟩
  · show β + ((3 : Nat) + 1 : Int) ≤ 1000010
    omega
  · have e2 : Bd 3 = 60000000 * (60000000 * (60000000 * (60000000 - 1) - 1) - 1) := rfl
    omega
/-! ### pick -/
theorem scPk : FnScope ["_law_pen_here", "_law_options"] ["_law_pen_here", "_law_options"] (defScope sPick) := ⟨rfl, rfl, rfl, by decide +kernel, rfl, by decide +kernel, by decide +kernel⟩
def spPick : Sp := fun vs H Q _ => ∃ (d : Addr) (β : Int) (x : V), vs = [.ref d, x] ∧ PenAt H d β ∧ β ≤ 1000000 ∧
  ((∃ l xs, x = .ref l ∧ l ≠ d ∧ H l = some (.lst xs) ∧ 0 < xs.length ∧ xs.length ≤ 100 ∧ ∀ (k : Nat) v H', xs[k]? = some v → PenAt H' d (β + 4) → Kq d H H' → Q v H') ∨
   (∃ z : Str, x = .str z ∧ 0 < z.length ∧ z.length ≤ 100 ∧ ∀ c H', c ∈ z.cps.toList → PenAt H' d (β + 4) → Kq d H H' → Q (.str ⟨#[c]⟩) H'))
theorem ok_pick (T : Tx K mg) : FnR P w K mg base CX0 5 (ga K "_law_pick") spPick := by
  refine defR T.d_sPick scPk (fun _ _ _ _ _ _ us hl => match us, hl with | [_, _], _ => rfl) (fun vs H Q E h => ?_) (fun cdv A outer s H vs Q E hr h => ?_)
  · obtain ⟨_, _, _, rfl, _⟩ := h; rfl
  · obtain ⟨d, β, x, rfl, hp, hb, h⟩ := h
    refine ⟨_, pss_one (ps_ret (pe_ix ix_seq (pv 1) (pe_fn (ok_d T) hr inName T.g__law_draw (kpOf T.d_sDraw) pass0 (pa_cons (pv 0) (pa_cons (pe_callB call_len inName T.z_len (by decide +kernel) (pa_cons (pv 1) pa_nil)) pa_nil))) (fun _ _ => rfl))), ?_⟩
    rcases h with ⟨l, xs, rfl, nld, hl, h0, h1, q⟩ | ⟨z, rfl, h0, h1, q⟩
    · refine ⟨_, rfl, _, rfl, _, rfl, _, xs.length, rfl, .inl ⟨xs, SqL.of hl, rfl⟩, d, _, β, rfl, hp, hb, by omega, by omega, fun v H' v0 v1 hp' hk => ?_⟩
      obtain ⟨k, rfl⟩ : ∃ k : Nat, v = (k : Int) := ⟨v.toNat, by omega⟩
      have hkl : k < xs.length := by omega
      exact .inl ⟨l, xs, _, _, rfl, rfl, SqL.of (hk.kp _ _ nld hl), atI_nat (List.getElem?_eq_getElem hkl), q k _ H' (List.getElem?_eq_getElem hkl) hp' hk⟩
    · have hz : z.length ≤ sizeLine := Nat.le_trans h1 (by decide)
      refine ⟨_, rfl, _, rfl, _, rfl, _, z.length, rfl, ⟨hz, rfl⟩, d, _, β, rfl, hp, hb, by omega, by omega, fun v H' v0 v1 hp' hk => ?_⟩
      · obtain ⟨k, rfl⟩ : ∃ k : Nat, v = (k : Int) := ⟨v.toNat, by omega⟩
        have hkl : k < z.cps.toList.length := by
          have : z.cps.toList.length = z.length := by rw [Array.length_toList]; rfl
          omega
        exact .inr (.inr ⟨z, _, _, rfl, rfl, hz, atI_nat (List.getElem?_eq_getElem hkl), q _ H' (List.getElem_mem hkl) hp' hk⟩)
/-! ### around -/
theorem scAr : FnScope ["_law_pen_here", "_law_most"] ["_law_pen_here", "_law_most"] (defScope sAround) := ⟨rfl, rfl, rfl, by decide +kernel, rfl, by decide +kernel, by decide +kernel⟩
def spAround : Sp := fun vs H Q _ => ∃ (d : Addr) (most β : Int), vs = [.ref d, .int most] ∧ PenAt H d β ∧ β ≤ 1000000 ∧ 0 ≤ most ∧ most ≤ 10 ^ 30 ∧ ∀ v H', -most ≤ v → v ≤ most → PenAt H' d (β + 4) → Kq d H H' → Q (.int v) H'
theorem ok_around (T : Tx K mg) : FnR P w K mg base CX0 5 (ga K "_law_around") spAround := by
  refine defR T.d_sAround scAr (fun _ _ _ _ _ _ us hl => match us, hl with | [_, _], _ => rfl) (fun vs H Q E h => ?_) (fun cdv A outer s H vs Q E hr h => ?_)
  · obtain ⟨_, _, _, rfl, _⟩ := h; rfl
  · obtain ⟨d, most, β, rfl, hp, hb, m0, m1, q⟩ := h
    refine ⟨_, pss_one (ps_ret (pe_op op_sub (pe_fn (ok_d T) hr inName T.g__law_draw (kpOf T.d_sDraw) pass0 (pa_cons (pv 0) (pa_cons (pe_op op_add (pe_op op_mul pe_int (pv 1)) pe_int) pa_nil))) (pv 1))), ?_⟩
    refine ⟨_, rfl, _, rfl, _, _, rfl, rfl, mul64 (by decide) (by decide), _, _, rfl, rfl, d, _, β, rfl, hp, hb, by omega, by omega, fun v H' v0 v1 hp' hk => ?_⟩
    exact ⟨_, rfl, _, _, rfl, rfl, q _ H' (by omega) (by omega) hp' hk⟩
/-! ### power -/
theorem scPo : FnScope ["_law_figures", "_law_found", "_law_k"] ["_law_figures"] (defScope sPower) := ⟨rfl, rfl, rfl, by decide +kernel, rfl, by decide +kernel, by decide +kernel⟩
def spPower : Sp := fun vs H Q _ => ∃ (n : Nat), vs = [.int (n : Nat)] ∧ n ≤ 100 ∧ ∀ H', Same H H' → Q (.int (10 ^ n)) H'
theorem ok_power (T : Tx K mg) : FnR P w K mg base CX0 1 (ga K "_law_power") spPower := by
  refine defR T.d_sPower scPo (fun _ _ _ _ _ _ us hl => match us, hl with | [_], _ => rfl) (fun vs H Q E h => ?_) (fun cdv A outer s H vs Q E hr h => ?_)
  · obtain ⟨_, rfl, _⟩ := h; rfl
  · obtain ⟨n, rfl, hn, q⟩ := h
    have nd := scPo.nd
    refine ⟨_, pss_cons (ps_set (i := 1) nd rfl (.inl rfl) pe_int)
      <| pss_cons (ps_for PassesOwn.never rfl (pi_range1 inName T.z_range (pa_cons (pv 0) pa_nil)) (pg_name (i := 2) nd rfl (.inl rfl)) (pss_one (ps_set (i := 1) nd rfl (.inl rfl) (pe_op op_mul (pv 1) pe_int))))
      <| pss_one (ps_ret (pv 1)), ?_⟩
    have en : ((n : Nat) : Int).toNat = n := by omega
    refine ⟨_, rfl, _, rfl, by omega, by omega, ?_⟩
    rw [en]
    refine for_it walk_range (fun i σ H' => Same H H' ∧ ∃ u, σ = [some (.int (n : Nat)), some (.int (10 ^ i)), u]) ⟨Same.refl H, _, rfl⟩ (fun _ _ _ _ _ => trivial) ?_ ?_
    · rintro i y σ H1 H2 hi ⟨S1, u, rfl⟩ ⟨rfl, rfl⟩
      refine ⟨_, rfl, _, _, rfl, rfl, mul64r (by decide) (by decide), S1, some (.int (0 + (i : Int))), ?_⟩
      rw [Int.pow_succ]
      rfl
    · rintro σ H1 ⟨S1, u, rfl⟩
      exact ⟨_, rfl, q H1 S1⟩
/-! ### great -/
theorem pow10b {n : Nat} (h : 2 ≤ n) (k : n ≤ 30) : 100 ≤ (10 : Int) ^ n ∧ (10 : Int) ^ n ≤ 10 ^ 30 := by
  have e : (10 : Int) ^ n = ((10 ^ n : Nat) : Int) := by rw [Int.natCast_pow]; rfl
  have h1 : 10 ^ 2 ≤ 10 ^ n := Nat.pow_le_pow_right (by decide) h
  have h2 : 10 ^ n ≤ 10 ^ 30 := Nat.pow_le_pow_right (by decide) k
  omega
theorem scGr : FnScope ["_law_pen_here", "_law_figures", "_law_most", "_law_some"] ["_law_pen_here", "_law_figures"] (defScope sGreat) := ⟨rfl, rfl, rfl, by decide +kernel, rfl, by decide +kernel, by decide +kernel⟩
def spGreat : Sp := fun vs H Q _ => ∃ (d : Addr) (n : Nat) (β : Int), vs = [.ref d, .int (n : Nat)] ∧ PenAt H d β ∧ β ≤ 999900 ∧ 2 ≤ n ∧ n ≤ 30 ∧ ∀ v H', 0 ≤ v → v < 10 ^ n → PenAt H' d (β + 24) → Kq d H H' → Q (.int v) H'
theorem pen_free {H : Hp} {d l : Addr} {β : Int} (h : PenAt H d β) (hl : H l = none) : l ≠ d := fun z => by
  obtain ⟨_, _, _, _, h1, _⟩ := h
  rw [← z, hl] at h1
  cases h1
theorem ok_great (T : Tx K mg) : FnR P w K mg base CX0 6 (ga K "_law_great") spGreat := by
  refine defR T.d_sGreat scGr (fun _ _ _ _ _ _ us hl => match us, hl with | [_, _], _ => rfl) (fun vs H Q E h => ?_) (fun cdv A outer s H vs Q E hr h => ?_)
  · obtain ⟨_, _, _, rfl, _⟩ := h; rfl
  · obtain ⟨d, n, β, rfl, hp, hb, n2, n30, q⟩ := h
    have nd := scGr.nd
    have hr1 : Room 1 _ := hr.mono (by decide)
    have hr4 : Room 4 _ := hr.mono (by decide)
    obtain ⟨p0, p1⟩ := pow10b n2 n30
    refine ⟨_, pss_cons (ps_set (i := 2) nd rfl (.inl rfl) (pe_fn (ok_power T) hr1 inName T.g__law_power (kpOf T.d_sPower) pass0 (pa_cons (pv 1) pa_nil)))
      <| pss_cons (ps_set (i := 3) nd rfl (.inl rfl) (pe_lst (pa_cons (pe_fn (ok_d T) hr4 inName T.g__law_draw (kpOf T.d_sDraw) pass0 (pa_cons (pv 0) (pa_cons pe_int pa_nil))) (pa_cons (pe_fn (ok_d T) hr4 inName T.g__law_draw (kpOf T.d_sDraw) pass0 (pa_cons (pv 0) (pa_cons (pv 2) pa_nil)))
          (pa_cons (pe_fn (ok_d T) hr4 inName T.g__law_draw (kpOf T.d_sDraw) pass0 (pa_cons (pv 0) (pa_cons (pv 2) pa_nil))) pa_nil)))))
      <| pss_one (ps_ret (pe_fn (ok_pick T) hr inName T.g__law_pick (kpOf T.d_sPick) pass0 (pa_cons (pv 0) (pa_cons (pe_op op_cat (pv 3) (pe_lst (pa_cons (pe_op op_add (pe_op op_fdiv (pv 2) pe_int) (pe_fn (ok_d T) hr4 inName T.g__law_draw (kpOf T.d_sDraw) pass0 (pa_cons (pv 0) (pa_cons pe_int pa_nil))))
          (pa_cons (pe_op op_sub (pe_op op_sub (pv 2) pe_int) (pe_fn (ok_d T) hr4 inName T.g__law_draw (kpOf T.d_sDraw) pass0 (pa_cons (pv 0) (pa_cons pe_int pa_nil)))) pa_nil)))) pa_nil)))), ?_⟩
    refine ⟨_, rfl, n, rfl, by omega, fun H1 S1 => ?_⟩
    refine ⟨_, rfl, d, _, β, rfl, hp.same S1, by omega, by decide, by decide, fun v1 H2 a1 b1 hp2 k2 => ?_⟩
    refine ⟨_, rfl, _, rfl, d, _, _, rfl, hp2, by omega, by omega, by omega, fun v2 H3 a2 b2 hp3 k3 => ?_⟩
    refine ⟨_, rfl, _, rfl, d, _, _, rfl, hp3, by omega, by omega, by omega, fun v3 H4 a3 b3 hp4 k4 => ?_⟩
    refine ⟨by show 3 ≤ sizeLine; decide, fun l hl => ?_⟩
    have S5 := Same.new (o := .lst [.int v1, .int v2, .int v3]) hl
    have hp5 := hp4.same S5
    have nld := pen_free hp4 hl
    refine ⟨_, rfl, _, rfl, _, rfl, _, _, rfl, rfl, ⟨by decide, by decide⟩, _, rfl, d, _, _, rfl, hp5, by omega, by decide, by decide, fun v4 H6 a4 b4 hp6 k6 => ?_⟩
    refine ⟨_, _, rfl, rfl, _, rfl, _, _, rfl, rfl, _, rfl, d, _, _, rfl, hp6, by omega, by decide, by decide, fun v5 H7 a5 b5 hp7 k7 => ?_⟩
    refine ⟨_, _, rfl, rfl, by show 2 ≤ sizeLine; decide, fun l2 hl2 => ?_⟩
    have hl7 := k7.kp _ _ nld (k6.kp _ _ nld upd_same)
    have S8 := Same.new (o := .lst [.int (10 ^ n / 10 + v4), .int (10 ^ n - 1 - v5)]) hl2
    refine ⟨l, l2, _, _, rfl, rfl, S8 _ _ hl7, upd_same, by show 3 + 2 ≤ sizeLine; decide, fun l3 hl3 => ?_⟩
    have hp8 := hp7.same S8
    have S9 := Same.new (o := .lst ([V.int v1, .int v2, .int v3] ++ [.int (10 ^ n / 10 + v4), .int (10 ^ n - 1 - v5)])) hl3
    refine ⟨d, _, .ref l3, rfl, hp8.same S9, by omega, .inl ⟨l3, _, rfl, pen_free hp8 hl3, upd_same, by show 0 < 5; decide, by show 5 ≤ 100; decide, fun k v H9 hk hp9 k9 => ?_⟩⟩
    have KK : Kq d H H9 := ((((((((Kq.refl d H).same S1).trans k2).trans k3).trans k4).same S5).trans k6).trans k7 |>.same S8 |>.same S9).trans k9
    have hm := List.mem_of_getElem? hk
    simp only [List.cons_append, List.nil_append, List.mem_cons, List.not_mem_nil, or_false] at hm
    have hp10 := hp9.mono (γ := β + 24) (by omega)
    rcases hm with rfl | rfl | rfl | rfl | rfl
    · exact q _ H9 a1 (by omega) hp10 KK
    · exact q _ H9 a2 (by omega) hp10 KK
    · exact q _ H9 a3 (by omega) hp10 KK
    · exact q _ H9 (by omega) (by omega) hp10 KK
    · exact q _ H9 (by omega) (by omega) hp10 KK
/-! ### gcd, unit -/
theorem scLg : FnScope ["_law_this", "_law_that"] ["_law_this", "_law_that"] (defScope sLGcd) := ⟨rfl, rfl, rfl, by decide +kernel, rfl, by decide +kernel, by decide +kernel⟩
theorem ok_lgcd (T : Tx K mg) : FnR P w K mg base CX0 1 (ga K "_law_gcd") spGcd := by
  refine defR T.d_sLGcd scLg (fun _ _ _ _ _ _ us hl => match us, hl with | [_, _], _ => rfl) (fun vs H Q E h => ?_) (fun cdv A outer s H vs Q E hr h => ?_)
  · obtain ⟨a, b, rfl, _⟩ := h; rfl
  · obtain ⟨a, b, rfl, q⟩ := h
    refine ⟨_, pss_cons (ps_par (i := 0) (j := 1) rfl scLg.nd rfl rfl (by decide) rfl rfl (pa_cons (pe_callB call_abs inName T.z_abs (by decide +kernel) (pa_cons (pv 0) pa_nil)) (pa_cons (pe_callB call_abs inName T.z_abs (by decide +kernel) (pa_cons (pv 1) pa_nil)) pa_nil)) (by rfl))
      (pss_cons (ps_while PassesOwn.never (pt_cmpR op_gt (pv 1) pe_int (nomark _))
        (pss_one (ps_par (i := 0) (j := 1) rfl scLg.nd rfl rfl (by decide) rfl rfl (pa_cons (pv 1) (pa_cons (pe_op op_modN (pe_callTy call_int1 inName T.z_int (by decide +kernel) (pa_cons (pv 0) pa_nil)) (pv 1)) pa_nil)) (by rfl))))
      (pss_one (ps_ret (pv 0)))), ?_⟩
    refine ⟨_, rfl, _, rfl, _, rfl, _, rfl, _, _, rfl, ?_⟩
    refine ⟨fun m σ H' => H' = H ∧ ∃ x y : Int, σ = [some (.int x), some (.int y)] ∧ 0 ≤ x ∧ 0 ≤ y ∧ gd x y = gd a b ∧ m = y.toNat, ⟨_, rfl, _, _, rfl, ?_, ?_, gd_abs a b, rfl⟩, ?_⟩
    · split <;> omega
    · split <;> omega
    · rintro m σ H' ⟨rfl, x, y, rfl, hx, hy, e, rfl⟩
      refine ⟨_, rfl, _, _, rfl, rfl, _, rfl, iteD (fun hy0 => ?_) (fun hy0 => ?_)⟩
      · have m1 := Int.fmod_eq_emod_of_nonneg x hy
        have l1 := Int.emod_nonneg x (show y ≠ 0 by omega)
        have l2 := Int.emod_lt_of_pos x (show 0 < y by omega)
        refine ⟨fun σ' H'' => H'' = H' ∧ σ' = [some (.int y), some (.int (x.fmod y))], fun σ' H'' h => ?_, ?_⟩
        · obtain ⟨rfl, rfl⟩ := h
          exact ⟨_, by rw [← m1] at l1 l2; omega, rfl, _, _, rfl, hy, by omega, (gd_step (by omega)).trans e, rfl⟩
        · exact ⟨_, rfl, _, rfl, .inl ⟨_, rfl, _, rfl, _, _, rfl, rfl, (show y ≠ 0 by omega), _, _, rfl, rfl, rfl⟩⟩
      · have : y = 0 := by omega
        subst this
        rw [gd_zero hx] at e
        rw [← e] at q
        exact ⟨_, rfl, q⟩
theorem scUn : FnScope ["_law_pen_here", "_law_size", "_law_found"] ["_law_pen_here", "_law_size"] (defScope sUnit) := ⟨rfl, rfl, rfl, by decide +kernel, rfl, by decide +kernel, by decide +kernel⟩
def spUnit : Sp := fun vs H Q _ => ∃ (d : Addr) (n β : Int), vs = [.ref d, .int n] ∧ PenAt H d β ∧ β ≤ 1000000 ∧ 0 < n ∧ n ≤ 10 ^ 30 ∧ ∀ v H', 1 ≤ v → v ≤ n + 1 → gd v n = 1 → PenAt H' d (β + 4) → Kq d H H' → Q (.int v) H'
theorem ok_unit (T : Tx K mg) : FnR P w K mg base CX0 5 (ga K "_law_unit") spUnit := by
  refine defR T.d_sUnit scUn (fun _ _ _ _ _ _ us hl => match us, hl with | [_, _], _ => rfl) (fun vs H Q E h => ?_) (fun cdv A outer s H vs Q E hr h => ?_)
  · obtain ⟨_, _, _, rfl, _⟩ := h; rfl
  · obtain ⟨d, n, β, rfl, hp, hb, n0, n1, q⟩ := h
    have nd := scUn.nd
    have hr1 : Room 1 _ := hr.mono (by decide)
    refine ⟨_, pss_cons (ps_set (i := 2) nd rfl (.inl rfl) (pe_op op_add pe_int (pe_fn (ok_d T) hr inName T.g__law_draw (kpOf T.d_sDraw) pass0 (pa_cons (pv 0) (pa_cons (pv 1) pa_nil)))))
      <| pss_cons (ps_while PassesOwn.never (pt_cmpR op_ne (pe_fn (ok_lgcd T) hr1 inName T.g__law_gcd (kpOf T.d_sLGcd) pass0 (pa_cons (pv 2) (pa_cons (pv 1) pa_nil))) pe_int (nomark _))
        (pss_one (ps_set (i := 2) nd rfl (.inl rfl) (pe_op op_add (pv 2) pe_int))))
      <| pss_one (ps_ret (pv 2)), ?_⟩
    refine ⟨_, rfl, _, rfl, d, n, β, rfl, hp, hb, n0, by omega, fun v H1 v0 v1 hp1 k1 => ⟨_, _, rfl, rfl, ?_⟩⟩
    have last : gd (n + 1) n = 1 := by
      have := gd_cong (n := n) (u := 1) (a := 1) (a' := n + 1) (gd_one n) ⟨1, by omega⟩
      rw [this]
      exact gd_one n
    refine ⟨fun m σ H' => H' = H1 ∧ ∃ f : Int, σ = [some (.ref d), some (.int n), some (.int f)] ∧ 1 ≤ f ∧ f ≤ n + 1 ∧ m = (n + 1 - f).toNat, ⟨_, rfl, _, rfl, by omega, by omega, rfl⟩, ?_⟩
    rintro m σ H' ⟨rfl, f, rfl, f0, f1, rfl⟩
    refine ⟨_, rfl, _, rfl, _, _, rfl, rfl, _, rfl, iteND (fun h => ?_) (fun h => ?_)⟩
    · have hne : f ≠ n + 1 := fun z => h (by rw [z, last])
      refine ⟨fun σ' H'' => H'' = H' ∧ σ' = [some (.ref d), some (.int n), some (.int (f + 1))], fun σ' H'' h => ?_, ?_⟩
      · obtain ⟨rfl, rfl⟩ := h
        exact ⟨_, by omega, rfl, f + 1, rfl, by omega, by omega, rfl⟩
      · exact ⟨_, rfl, _, _, rfl, rfl, rfl, rfl⟩
    · exact ⟨_, rfl, q f H' f0 f1 (V.int.inj h) hp1 k1⟩
end
end Pp

end
section
set_option Elab.async false
set_option linter.all false
set_option maxRecDepth 100000
set_option maxHeartbeats 4000000
/-! The law's pen and names. -/
namespace Pp
open PySem PySem.Spec PyProof.Rows L2 StX Rg NdefX LamX
section
variable {P : Program} {w : World} {K : PySem.W.Frag} {mg : Str → Option Value} {base : Heap}
theorem scPn : FnScope ["_law_script"] ["_law_script"] (defScope sPen) := ⟨rfl, rfl, rfl, by decide +kernel, rfl, by decide +kernel, by decide +kernel⟩
def spPen (K : PySem.W.Frag) : Sp := fun vs H Q _ => ∃ (a : Addr) (ns : List Int), vs = [.ref a] ∧ SqL K H a (ns.map V.int) ∧ ∀ d H', H d = none → PenAt H' d 0 → Same H H' → Q (.ref d) H'
theorem cut_ints (ns : List Int) : ∃ ms : List Int, cutV (ns.map V.int) none (some 63) = ms.map V.int ∧ ms.length ≤ 63 := by
  have e : HT.sIx (ns.map V.int).length 0 none = 0 := rfl
  refine ⟨ns.take (HT.sIx (ns.map V.int).length (ns.map V.int).length (some 63)), ?_, ?_⟩
  · unfold cutV
    rw [e, List.drop_zero, Nat.sub_zero, List.map_take]
  · rw [List.length_take]
    have : HT.sIx (ns.map V.int).length (ns.map V.int).length (some 63) ≤ 63 := by
      unfold HT.sIx
      simp only []
      rw [if_neg (by decide)]
      exact Nat.min_le_left _ _
    omega
theorem sqL_same {H H' : Hp} {a : Addr} {xs : List V} (h : SqL K H a xs) (e : Same H H') : SqL K H' a xs := by
  rcases h with (h | h) | h
  · exact .inl (.inl (e _ _ h))
  · exact .inl (.inr (let ⟨o, h⟩ := h; ⟨o, e _ _ h⟩))
  · exact .inr h
theorem ok_pen (T : Tx K mg) : FnR P w K mg base CX0 1 (ga K "_law_pen") (spPen K) := by
  refine defR T.d_sPen scPn (fun _ _ _ _ _ _ us hl => match us, hl with | [_], _ => rfl) (fun vs H Q E h => ?_) (fun cdv A outer s H vs Q E hr h => ?_)
  · obtain ⟨_, _, rfl, _⟩ := h; rfl
  · obtain ⟨a, ns, rfl, hs, q⟩ := h
    refine ⟨_, pss_one (ps_ret (pe_disp (pps_cons pe_str (pe_callTy call_list_of inName T.z_list (by decide +kernel) (pa_cons (pe_slice sl_list (pv 0) po_none (po_some pe_int)) pa_nil)) (pps_cons pe_str pe_int (pps_cons pe_str pe_int pps_nil))) rfl rfl (by decide) (by decide))), ?_⟩
    refine fun d hd => ?_
    have S1 := Same.new (o := .dK []) hd
    refine ⟨_, rfl, _, rfl, a, _, rfl, sqL_same hs S1, fun p hp => ?_⟩
    have S2 := S1.plus (o := .lst (cutV (ns.map V.int) none (some 63))) hp
    have npd : d ≠ p := fun z => by rw [← z, upd_same] at hp; cases hp
    refine ⟨p, _, rfl, .inl (SqL.of upd_same), fun c hc => ?_⟩
    obtain ⟨ms, em, hm⟩ := cut_ints ns
    rw [em] at S2 hc ⊢
    have S3 := S2.plus (o := .lst (ms.map V.int)) hc
    have ncd : d ≠ c := fun z => by rw [← z, upd_ne npd, upd_same] at hc; cases hc
    have ed : upd (upd (upd H d (.dK [])) p (.lst (ms.map V.int))) c (.lst (ms.map V.int)) d = some (.dK []) := by rw [upd_ne ncd, upd_ne npd, upd_same]
    refine ⟨ed, penK c 0 0, rfl, by show 3 ≤ 15; decide, q d _ hd ⟨c, ms, 0, 0, upd_same, ?_, hm, by decide, by decide⟩ ?_⟩
    · rw [upd_ne (Ne.symm ncd), upd_same]
    · intro b o e
      rw [upd_ne (ne_of_none e hd)]
      exact S3 _ _ e
/-! ### names -/
def oneS (c : Nat) : Str := ⟨#[c]⟩
theorem len_app (a b : Str) : (a ++ b).length = a.length + b.length := Array.size_append
theorem cps_app (a b : Str) : (a ++ b).cps.toList = a.cps.toList ++ b.cps.toList := Array.toList_append
theorem str_ext {a b : Str} (h : a.cps.toList = b.cps.toList) : a = b := by
  cases a; cases b
  exact congrArg Str.mk (Array.toList_inj.mp h)
theorem cps_one (c : Nat) : (oneS c).cps.toList = [c] := rfl
theorem len_cps (z : Str) : z.cps.toList.length = z.length := by rw [Array.length_toList]; rfl
def low (z : Str) : Prop := ∀ c ∈ z.cps.toList, 97 ≤ c ∧ c ≤ 122
theorem low_app {a b : Str} (h : low a) (k : low b) : low (a ++ b) := fun c hc => by
  rw [cps_app, List.mem_append] at hc
  exact hc.elim (h c) (k c)
theorem join_ones : ∀ cs : List Nat, (Str.join "" (cs.map oneS)).cps.toList = cs
  | [] => rfl
  | [_] => rfl
  | x :: z :: r => by
    have ih := join_ones (z :: r)
    show (oneS x ++ ("" : Str) ++ Str.join "" ((z :: r).map oneS)).cps.toList = _
    rw [cps_app, cps_app, ih]
    rfl
abbrev abc : Str := "abcdefghijklmnopqrstuvwxyz"
theorem abc_low : low abc := by
  have : ∀ c ∈ abc.cps.toList, 97 ≤ c ∧ c ≤ 122 := by decide +kernel
  exact this
theorem abc_nd : abc.cps.toList.Nodup := by decide +kernel
theorem abc_len : abc.cps.toList.length = 26 := by decide +kernel
/-- the k-th name's own letter -/
def ownL (front step k : Int) : Nat := abc.cps.toList.getD ((front + step * k) % 26).toNat 97
theorem ownL_low (f s k : Int) : 97 ≤ ownL f s k ∧ ownL f s k ≤ 122 := by
  unfold ownL
  have h1 := Int.emod_nonneg (f + s * k) (show (26 : Int) ≠ 0 by decide)
  have h2 := Int.emod_lt_of_pos (f + s * k) (show (0 : Int) < 26 by decide)
  have h3 : ((f + s * k) % 26).toNat < abc.cps.toList.length := by rw [abc_len]; omega
  rw [List.getD_eq_getElem?_getD, List.getElem?_eq_getElem h3]
  exact abc_low _ (List.getElem_mem h3)
theorem own_at {f s : Int} (k : Nat) : atI abc.cps.toList ((f + s * (k : Int)).fmod 26) = some (ownL f s k) := by
  have h1 := Int.emod_nonneg (f + s * k) (show (26 : Int) ≠ 0 by decide)
  have h2 := Int.emod_lt_of_pos (f + s * k) (show (0 : Int) < 26 by decide)
  have h3 : ((f + s * k) % 26).toNat < abc.cps.toList.length := by rw [abc_len]; omega
  rw [Int.fmod_eq_emod_of_nonneg _ (by decide)]
  obtain ⟨j, hj⟩ : ∃ j : Nat, (f + s * k) % 26 = (j : Int) := ⟨((f + s * k) % 26).toNat, by omega⟩
  unfold ownL
  rw [hj] at h3 ⊢
  have e : ((j : Nat) : Int).toNat = j := by omega
  rw [e] at h3 ⊢
  rw [List.getD_eq_getElem?_getD, List.getElem?_eq_getElem h3]
  exact atI_nat (List.getElem?_eq_getElem h3)
def Steps : List Int := [1, 3, 5, 7, 9, 11, 15, 17, 19, 21, 23, 25]
theorem ownL_inj {f s : Int} {i j : Nat} (hs : s ∈ Steps) (hi : i < 6) (hj : j < 6) (h : ownL f s i = ownL f s j) : i = j := by
  unfold ownL at h
  have a1 := Int.emod_nonneg (f + s * i) (show (26 : Int) ≠ 0 by decide)
  have a2 := Int.emod_lt_of_pos (f + s * i) (show (0 : Int) < 26 by decide)
  have b1 := Int.emod_nonneg (f + s * j) (show (26 : Int) ≠ 0 by decide)
  have b2 := Int.emod_lt_of_pos (f + s * j) (show (0 : Int) < 26 by decide)
  have a3 : ((f + s * i) % 26).toNat < abc.cps.toList.length := by rw [abc_len]; omega
  have b3 : ((f + s * j) % 26).toNat < abc.cps.toList.length := by rw [abc_len]; omega
  rw [List.getD_eq_getElem?_getD, List.getD_eq_getElem?_getD, List.getElem?_eq_getElem a3, List.getElem?_eq_getElem b3] at h
  have e := nd_ix abc_nd (List.getElem?_eq_getElem a3) ((List.getElem?_eq_getElem b3).trans (congrArg some h).symm)
  have e2 : (f + s * i) % 26 = (f + s * j) % 26 := by omega
  simp only [Steps, List.mem_cons, List.not_mem_nil, or_false] at hs
  rcases hs with rfl | rfl | rfl | rfl | rfl | rfl | rfl | rfl | rfl | rfl | rfl | rfl <;> omega
def nmOf (stem : Str) (f s : Int) (k : Nat) : Str := (if stem.length % 2 = 0 then stem ++ oneS (ownL f s k) else oneS (ownL f s k) ++ stem) ++ ("" : Str)
theorem nm_app0 (a : Str) : (a ++ ("" : Str)) = a := str_ext (by rw [cps_app]; exact List.append_nil _)
theorem nmOf_ok {stem : Str} {f s : Int} {k : Nat} (h1 : stem.length ≤ 6) (h2 : low stem) : NmOk (nmOf stem f s k) := by
  unfold nmOf
  rw [nm_app0]
  have lo : low (oneS (ownL f s k)) := fun c hc => by
    rw [cps_one, List.mem_singleton] at hc
    rw [hc]
    exact ownL_low f s k
  have l1 : (oneS (ownL f s k)).length = 1 := rfl
  split
  · exact ⟨by rw [len_app, l1]; omega, by rw [len_app, l1]; omega, low_app h2 lo⟩
  · exact ⟨by rw [len_app, l1]; omega, by rw [len_app, l1]; omega, low_app lo h2⟩
theorem nmOf_inj {stem : Str} {f s : Int} {i j : Nat} (hs : s ∈ Steps) (hi : i < 6) (hj : j < 6) (h : nmOf stem f s i = nmOf stem f s j) : i = j := by
  unfold nmOf at h
  rw [nm_app0, nm_app0] at h
  refine ownL_inj (f := f) hs hi hj ?_
  have key : ∀ a b : Str, a = b → a.cps.toList = b.cps.toList := fun a b e => by rw [e]
  split at h
  · have h := key _ _ h
    rw [cps_app, cps_app, cps_one, cps_one] at h
    have := List.append_cancel_left h
    injection this
  · have h := key _ _ h
    rw [cps_app, cps_app, cps_one, cps_one] at h
    injection h
theorem nmOf_nd {stem : Str} {f s : Int} {m : Nat} (hs : s ∈ Steps) (hm : m ≤ 6) : ((List.range m).map (nmOf stem f s)).Nodup := by
  rw [List.nodup_iff_pairwise_ne, List.pairwise_map, List.pairwise_iff_getElem]
  intro i j hi hj hij e
  rw [List.length_range] at hi hj
  rw [List.getElem_range, List.getElem_range] at e
  have := nmOf_inj hs (by omega) (by omega) e
  omega
abbrev NNm : List Str := ["_law_pen_here", "_law_many", "_law_letters", "_law_k", "_law_stem", "_law_front", "_law_found", "_law_step", "_law_own", "_law_tail"]
theorem scNm : FnScope NNm ["_law_pen_here", "_law_many"] (defScope sNames) := ⟨rfl, rfl, rfl, by decide +kernel, rfl, by decide +kernel, by decide +kernel⟩
def spNames : Sp := fun vs H Q _ => ∃ (d : Addr) (m : Nat) (β : Int), vs = [.ref d, .int m] ∧ PenAt H d β ∧ β ≤ 999900 ∧ m ≤ 6 ∧ ∀ (l : Addr) (ns : List Str) (H' : Hp), H l = none → H' l = some (.lst (ns.map V.str)) → ns.length = m → ns.Nodup → (∀ z ∈ ns, NmOk z) → PenAt H' d (β + 40) → Kq d H H' → Q (.ref l) H'
theorem penK_c {c c2 : Addr} {b r b2 r2 : Int} (h : penK c b r = penK c2 b2 r2) : c = c2 := by
  injection h with h
  injection h with _ h
  injection h
/-- what stands new since H1 may change -/
theorem Kq.upd {d D : Addr} {o : HO} {H1 H2 : Hp} (k : Kq d H1 H2) (hD : H1 D = none) (n : D ≠ d) : Kq d H1 (upd H2 D o) :=
  ⟨fun a u na e => by rw [upd_ne (ne_of_none e hD)]; exact k.kp _ _ na e, fun c b r e => let ⟨b', r', e2⟩ := k.pn c b r e; ⟨b', r', by rw [upd_ne (Ne.symm n)]; exact e2⟩⟩
theorem pen_upd {H1 H2 : Hp} {d D : Addr} {α β : Int} {o : HO} (h1 : PenAt H1 d α) (h2 : PenAt H2 d β) (k : Kq d H1 H2) (hD : H1 D = none) : PenAt (upd H2 D o) d β := by
  have n : D ≠ d := pen_free h1 hD
  obtain ⟨c, ns, b, r, e1, e2, e3⟩ := h2
  obtain ⟨c1, _, b1, r1, f1, f2, _⟩ := h1
  obtain ⟨b', r', g⟩ := k.pn _ _ _ f1
  rw [g] at e1
  injection e1 with e1
  injection e1 with e1
  have ec := penK_c e1
  subst ec
  exact ⟨c1, ns, b', r', by rw [upd_ne (Ne.symm n)]; exact g, by rw [upd_ne (ne_of_none f2 hD)]; exact e2, e3.1, by
    have := congrArg (fun l : List (Key × V) => valV l (Sum.inr "begun")) e1
    rw [pen_b, pen_b] at this
    injection this with this
    injection this with this
    omega⟩
theorem ok_names (T : Tx K mg) : FnR P w K mg base CX0 6 (ga K "_law_names") spNames := by
  refine defR T.d_sNames scNm (fun _ _ _ _ _ _ us hl => match us, hl with | [_, _], _ => rfl) (fun vs H Q E h => ?_) (fun cdv A outer s H vs Q E hr h => ?_)
  · obtain ⟨_, _, _, rfl, _⟩ := h; rfl
  · obtain ⟨d, m, β, rfl, hp, hb, hm, q⟩ := h
    have nd := scNm.nd
    have hr4 : Room 4 _ := hr.mono (by decide)
    refine ⟨_, pss_cons (ps_set (i := 2) nd rfl (.inr rfl) pe_str)
      <| pss_cons (ps_set (i := 4) nd rfl (.inl rfl) (pe_join pe_str (pe_lc (own := [("_law_k", 3)]) (g := gName 3) (tt := tYes) rfl nd (pi_range1 inName T.z_range (pa_cons (pe_fn (ok_d T) hr4 inName T.g__law_draw (kpOf T.d_sDraw) pass0 (pa_cons (pv 0) (pa_cons pe_int pa_nil))) pa_nil))
          (blkOk_by (N := NNm) (sc := defScope sNames) (by decide +kernel)) (fun _ _ _ _ _ => pg_name (i := 3) nd rfl (Or.inl rfl)) (fun _ _ _ _ _ => pts_nil)
          (fun _ _ _ _ _ => pe_fn (ok_pick T) hr inName T.g__law_pick (kpOf T.d_sPick) pass0 (pa_cons (pv 0) (pa_cons (pv 2) pa_nil))))))
      <| pss_cons (ps_par (i := 5) (j := 6) rfl nd rfl rfl (by decide) rfl rfl (pa_cons (pe_fn (ok_d T) hr4 inName T.g__law_draw (kpOf T.d_sDraw) pass0 (pa_cons (pv 0) (pa_cons pe_int pa_nil))) (pa_cons (pe_lst pa_nil) pa_nil)) (by rfl))
      <| pss_cons (ps_set (i := 7) nd rfl (.inl rfl) (pe_fn (ok_pick T) hr inName T.g__law_pick (kpOf T.d_sPick) pass0 (pa_cons (pv 0) (pa_cons (pe_lst (pa_cons pe_int (pa_cons pe_int (pa_cons pe_int (pa_cons pe_int (pa_cons pe_int (pa_cons pe_int (pa_cons pe_int (pa_cons pe_int (pa_cons pe_int (pa_cons pe_int (pa_cons pe_int (pa_cons pe_int pa_nil))))))))))))) pa_nil))))
      <| pss_cons (ps_for PassesOwn.never rfl (pi_range1 inName T.z_range (pa_cons (pv 1) pa_nil)) (pg_name (i := 3) nd rfl (.inl rfl))
        (pss_cons (ps_set (i := 8) nd rfl (.inl rfl) (pe_ix ix_str (pv 2) (pe_op op_modN (pe_callTy call_int1 inName T.z_int (by decide +kernel) (pa_cons (pe_op op_add (pv 5) (pe_op op_mul (pv 7) (pv 3))) pa_nil)) pe_int) (fun _ _ => rfl)))
        <| pss_cons (ps_set (i := 9) nd rfl (.inl rfl) (pe_ifExp (pt_cmpR op_lt (pv 3) pe_int (nomark _)) pe_str (pe_fn (ok_pick T) hr inName T.g__law_pick (kpOf T.d_sPick) pass0 (pa_cons (pv 0) (pa_cons (pv 2) pa_nil)))))
        <| pss_one (ps_expr (pe_bm PySem.F.plainAttrs_list PySem.F.slot_list_append PySem.F.type_list_append mt_append (pv 6) (pa_cons (pe_op op_add_str (pe_ix ix_list (pe_lst (pa_cons (pe_op op_add_str (pv 4) (pv 8)) (pa_cons (pe_op op_add_str (pv 8) (pv 4)) pa_nil)))
            (pe_op op_modN (pe_callB call_len_str inName T.z_len (by decide +kernel) (pa_cons (pv 4) pa_nil)) pe_int) (fun _ _ => rfl)) (pv 9)) pa_nil)))))
      <| pss_one (ps_ret (pv 6)), ?_⟩
    refine ⟨⟨_, rfl⟩, _, rfl, d, _, β, rfl, hp, by omega, by decide, by decide, fun v1 H1 a1 b1 hp1 k1 => ?_⟩
    refine ⟨_, rfl, by omega, by omega, fun D hD => ?_⟩
    have hDd : D ≠ d := pen_free hp1 hD
    refine lc_it walk_range (fun i H' => ∃ cs : List Nat, cs.length = i ∧ (∀ c ∈ cs, 97 ≤ c ∧ c ≤ 122) ∧ H' D = some (.lst ((cs.map oneS).map V.str)) ∧ Kq d H1 H' ∧ PenAt H' d (β + 4 + 4 * (i : Int))) ⟨[], rfl, (fun c h => by cases h), upd_same, (Kq.refl d H1).same (Same.new hD), (hp1.same (Same.new hD)).mono (by omega)⟩ (fun _ _ _ _ => trivial) ?_ ?_
    · rintro i x H' H2 hi ⟨cs, e1, e2, e3, e4, e5⟩ ⟨rfl, rfl⟩
      refine ⟨rfl, _, rfl, _, rfl, d, _, _, rfl, e5, by omega, .inr ⟨abc, rfl, by decide +kernel, by decide +kernel, fun c H3 hc hp3 k3 => ?_⟩⟩
      have hD3 := k3.kp _ _ hDd e3
      refine ⟨_, hD3, ?_, cs ++ [c], by rw [List.length_append, e1]; rfl, ?_, ?_, ?_, ?_⟩
      · rw [List.length_map, List.length_map, e1]
        exact Nat.lt_of_le_of_lt (show i ≤ 10 by omega) (by decide)
      · intro c' hc'
        rcases List.mem_append.mp hc' with h | h
        · exact e2 c' h
        · rw [List.mem_singleton.mp h]; exact abc_low c hc
      · rw [upd_same, List.map_append, List.map_append]; rfl
      · exact (e4.trans k3).upd hD hDd
      · exact (pen_upd hp1 hp3 (e4.trans k3) hD).mono (by omega)
    rintro H2 ⟨cs, e1, e2, e3, e4, e5⟩
    refine ⟨_, D, cs.map oneS, rfl, rfl, .inl (SqL.of e3), ?_, ?_⟩
    · have : ∀ l : List Nat, ((l.map oneS).map fun z : Str => z.length).sum = l.length := fun l => by
        induction l with
        | nil => rfl
        | cons a r ih => rw [List.map_cons, List.map_cons, List.sum_cons, ih, List.length_cons]; show 1 + _ = _; omega
      have e0 : (("" : Str)).length = 0 := rfl
      rw [this, e0, e1]
      omega
    have hst : Txt.join ("" : Str) (cs.map oneS) = ⟨cs.toArray⟩ := by
      rw [TL.join_eq]
      exact str_ext (join_ones cs)
    have k2 := k1.trans e4
    clear e3 hD hDd
    rw [hst]
    have lst : (⟨cs.toArray⟩ : Str).length ≤ 6 := by
      rw [← len_cps]
      show cs.length ≤ 6
      omega
    have lowst : low ⟨cs.toArray⟩ := fun c hc => e2 c hc
    generalize (⟨cs.toArray⟩ : Str) = stem at lst lowst ⊢
    refine ⟨_, rfl, d, _, _, rfl, e5, by omega, by decide, by decide, fun f H3 f0 f1 hp3 k3 => ?_⟩
    refine ⟨Nat.zero_le _, fun L hL => ⟨_, _, rfl, ?_⟩⟩
    have hLd : L ≠ d := pen_free hp3 hL
    have S4 := Same.new (o := .lst []) hL
    have hp4 := hp3.same S4
    have k4 := (k2.trans k3).same S4
    have hL4 : upd H3 L (.lst []) L = some (.lst []) := upd_same
    have kL : Kq d H3 (upd H3 L (.lst [])) := (Kq.refl d H3).same S4
    generalize upd H3 L (.lst []) = H4 at hp4 k4 hL4 kL ⊢
    clear S4
    refine ⟨_, rfl, by show 12 ≤ sizeLine; decide, fun l2 hl2 => ?_⟩
    have S5 := Same.new (o := .lst (Steps.map V.int)) hl2
    refine ⟨d, _, .ref l2, rfl, hp4.same S5, by omega, .inl ⟨l2, Steps.map V.int, rfl, pen_free hp4 hl2, upd_same, by decide, by decide, fun ks v H6 hks hp6 k6 => ?_⟩⟩
    rw [List.getElem?_map] at hks
    obtain ⟨st, hst2, rfl⟩ : ∃ st, st ∈ Steps ∧ v = .int st := by
      cases e : Steps[ks]? with
      | none => rw [e] at hks; cases hks
      | some z => rw [e] at hks; exact ⟨z, List.mem_of_getElem? e, (Option.some.inj hks).symm⟩
    have k7 := (k4.same S5).trans k6
    have kL6 := (kL.same S5).trans k6
    have hL6 := k6.kp _ _ hLd (S5 _ _ hL4)
    have en : ((m : Nat) : Int).toNat = m := by omega
    refine ⟨_, rfl, _, rfl, by omega, by omega, ?_⟩
    rw [en]
    refine for_it walk_range (fun i σ H' => (∃ u3 u8 u9, σ = [some (.ref d), some (.int m), some (.str abc), u3, some (.str stem), some (.int f), some (.ref L), some (.int st), u8, u9]) ∧ H' L = some (.lst (((List.range i).map (nmOf stem f st)).map V.str)) ∧ Kq d H3 H' ∧ Kq d H H' ∧ PenAt H' d (β + 40)) ⟨⟨_, _, _, rfl⟩, hL6, kL6, k7, hp6.mono (by omega)⟩ (fun _ _ _ _ _ => trivial) ?_ ?_
    · rintro i y σ H8 H9 hi ⟨⟨u3, u8, u9, rfl⟩, i2, i3, i4, i5⟩ ⟨rfl, rfl⟩
      have stb : 1 ≤ st ∧ st ≤ 25 := by
        simp only [Steps, List.mem_cons, List.not_mem_nil, or_false] at hst2
        omega
      have hat := own_at (f := f) (s := st) i
      have ei : (0 : Int) + (i : Int) = (i : Int) := by omega
      show gName 3 (.int (0 + (i : Int))) _ _ _
      rw [ei]
      refine ⟨_, rfl, _, rfl, _, rfl, _, rfl, _, _, rfl, rfl, mul64 (by omega) (by omega), _, _, rfl, rfl, .inl ⟨_, rfl, _, _, rfl, rfl, (show (26 : Int) ≠ 0 by decide), abc, _, _, rfl, rfl, by decide +kernel, hat, ?_⟩⟩
      refine ⟨_, rfl, _, _, rfl, rfl, _, rfl, iteD (fun _ => ?_) (fun h => absurd (show (i : Int) < 26 by omega) h)⟩
      have l1 : (oneS (ownL f st i)).length = 1 := rfl
      have sb : ∀ a : Nat, a ≤ 20 → a ≤ sizeLine := fun a h => Nat.le_trans h (by decide)
      refine ⟨_, rfl, .inl ⟨rfl, _, SqL.of i2⟩, _, rfl, _, rfl, _, _, rfl, rfl, sb _ (by show stem.length + 1 ≤ 20; omega), _, rfl, _, rfl, _, _, rfl, rfl, sb _ (by show 1 + stem.length ≤ 20; omega), by show 2 ≤ sizeLine; decide, fun l3 hl3 => ?_⟩
      have S9 := Same.new (o := .lst [.str (stem ++ oneS (ownL f st i)), .str (oneS (ownL f st i) ++ stem)]) hl3
      refine ⟨_, rfl, _, rfl, sb _ (by omega), _, _, rfl, rfl, (show (2 : Int) ≠ 0 by decide), l3, _, _, .str (if stem.length % 2 = 0 then stem ++ oneS (ownL f st i) else oneS (ownL f st i) ++ stem), rfl, rfl, SqL.of upd_same, ?_, ?_⟩
      · rw [Int.fmod_eq_emod_of_nonneg _ (by decide)]
        rcases Nat.mod_two_eq_zero_or_one stem.length with h | h
        · have e : ((stem.length : Nat) : Int) % 2 = ((0 : Nat) : Int) := by omega
          rw [if_pos h, e]
          exact atI_nat rfl
        · have e : ((stem.length : Nat) : Int) % 2 = ((1 : Nat) : Int) := by omega
          rw [if_neg (by omega), e]
          exact atI_nat rfl
      · refine ⟨_, rfl, _, _, rfl, rfl, sb _ ?_, L, _, _, rfl, rfl, S9 _ _ i2, ?_, ?_⟩
        · split
          · rw [len_app, l1]; show _ + 0 ≤ 20; omega
          · rw [len_app, l1]; show _ + 0 ≤ 20; omega
        · rw [List.length_map, List.length_map, List.length_range]
          exact Nat.lt_of_le_of_lt (show i ≤ 10 by omega) (by decide)
        · have k10 := i3.same S9
          refine ⟨⟨_, _, _, rfl⟩, ?_, k10.upd hL hLd, ?_, pen_upd hp3 (i5.same S9) k10 hL⟩
          · rw [upd_same, List.range_succ, List.map_append, List.map_append]; rfl
          · exact (k2.trans k3).trans (k10.upd hL hLd)
    · rintro σ H8 ⟨⟨u3, u8, u9, rfl⟩, i2, i3, i4, i5⟩
      exact ⟨_, rfl, q L _ H8 ((k2.trans k3).kp.fresh hL hLd) i2 (by rw [List.length_map, List.length_range]) (nmOf_nd hst2 hm) (fun z hz => by
        obtain ⟨k, _, rfl⟩ := List.mem_map.mp hz
        exact nmOf_ok lst lowst) i5 i4⟩
end
end Pp

end
section
set_option Elab.async false
set_option linter.all false
set_option maxRecDepth 100000
set_option maxHeartbeats 4000000
/-! The law's fence. -/
namespace Pp
open PySem PySem.Spec PyProof.Rows L2 StX Rg NdefX LamX
def TpAt (H : Hp) (b : Addr) (p : Pt) : Prop := H b = some (.tup [.str p.name, .int p.day, .int p.post, .int p.stride])
structure TpL (H : Hp) (bs : List Addr) (ps : List Pt) : Prop where
  len : bs.length = ps.length
  at_ : ∀ (k : Nat) (b : Addr) (p : Pt), bs[k]? = some b → ps[k]? = some p → TpAt H b p
/-- a list of tuples that tell painters -/
def TsAt (H : Hp) (l : Addr) (ps : List Pt) : Prop := ∃ bs, H l = some (.lst (bs.map V.ref)) ∧ TpL H bs ps
theorem TpL.tups {H H' : Hp} {bs : List Addr} {ps : List Pt} (h : TpL H bs ps) (e : ∀ a xs, H a = some (.tup xs) → H' a = some (.tup xs)) : TpL H' bs ps := ⟨h.len, fun k b r h1 h2 => e _ _ (h.at_ k b r h1 h2)⟩
theorem TpL.snoc {H : Hp} {as : List Addr} {rs : List Pt} {b : Addr} {r : Pt} (h : TpL H as rs) (k : TpAt H b r) : TpL H (as ++ [b]) (rs ++ [r]) := by
  refine ⟨by rw [List.length_append, List.length_append, h.len]; rfl, fun i c q h1 h2 => ?_⟩
  by_cases hi : i < as.length
  · rw [List.getElem?_append_left hi] at h1
    rw [List.getElem?_append_left (by rw [← h.len]; exact hi)] at h2
    exact h.at_ i c q h1 h2
  · rw [List.getElem?_append_right (by omega)] at h1
    rw [List.getElem?_append_right (by rw [← h.len]; omega)] at h2
    have e : i - as.length = 0 := by
      have := (List.getElem?_eq_some_iff.mp h1).1
      simp at this
      omega
    rw [e] at h1
    rw [← h.len, e] at h2
    cases h1
    cases h2
    exact k
theorem TpL.nil {H : Hp} : TpL H [] [] := ⟨rfl, fun k b p h => by simp at h⟩
theorem TpL.get {H : Hp} {bs : List Addr} {ps : List Pt} {k : Nat} {b : Addr} (h : TpL H bs ps) (e : bs[k]? = some b) : ∃ p, ps[k]? = some p ∧ TpAt H b p := by
  have hk : k < ps.length := by rw [← h.len]; exact (List.getElem?_eq_some_iff.mp e).1
  exact ⟨ps[k], List.getElem?_eq_getElem hk, h.at_ k b _ e (List.getElem?_eq_getElem hk)⟩
theorem TsAt.extN {H H' : Hp} {l : Addr} {ps : List Pt} (h : TsAt H l ps) (e : ExtN H H') : TsAt H' l ps := let ⟨bs, h1, h2⟩ := h; ⟨bs, e _ _ h1 (fun _ z => by cases z), h2.tups fun a xs q => e _ _ q (fun _ z => by cases z)⟩
theorem TsAt.same {H H' : Hp} {l : Addr} {ps : List Pt} (h : TsAt H l ps) (e : Same H H') : TsAt H' l ps := h.extN (SameN e)
theorem TsAt.kp {H H' : Hp} {l d : Addr} {ps : List Pt} {kvs : List (Key × V)} (h : TsAt H l ps) (k : Kp d H H') (hd : H d = some (.dK kvs)) : TsAt H' l ps := by
  obtain ⟨bs, h1, h2⟩ := h
  exact ⟨bs, k _ _ (fun z => by rw [z, hd] at h1; cases h1) h1, h2.tups fun a xs q => k _ _ (fun z => by rw [z, hd] at q; cases q) q⟩
theorem fns_take {ps : List Pt} (ok : FnsOk ps) (i : Nat) : FnsOk (ps.take i) := by
  refine ⟨?_, ?_⟩
  · rw [List.map_take]
    exact ok.nd.sublist (List.take_sublist _ _)
  · have := ok.len
    rw [List.length_take]
    omega
theorem take_snoc {α : Type} {ps : List α} {i : Nat} {p : α} (h : ps[i]? = some p) : ps.take (i + 1) = ps.take i ++ [p] := by
  obtain ⟨hi, e⟩ := List.getElem?_eq_some_iff.mp h
  rw [List.take_succ_eq_append_getElem hi, e]
section
variable {P : Program} {w : World} {K : PySem.W.Frag} {mg : Str → Option Value} {base : Heap}
theorem made_f0 {H : Hp} {R : Addr → VK} (h : ∀ r H', H r = none → FAt K H' r [] → Same H H' → R r .non H') : ∀ x dx, H x = none → H dx = none → dx ≠ x → spFInit K [.ref x] (upd (upd H dx (.own x)) x (.ins (aF K) dx [])) (R x) E0 := by
  intro x dx hx hdx hne
  have S : Same H (upd (upd H dx (.own x)) x (.ins (aF K) dx [])) := fun b o e => by
    rw [upd_ne (ne_of_none e hx), upd_ne (ne_of_none e hdx)]
    exact e
  exact ⟨x, dx, [], [], rfl, upd_same, PAll.nil, ⟨List.nodup_nil, Nat.zero_le _⟩, fun H' h1 h2 => h x H' hx h1 fun b o e => h2 b o (ne_of_none e hx) (S b o e)⟩
abbrev NFe : List Str := ["_law_painters", "_law_fence_here", "_law_name", "_law_day", "_law_post", "_law_stride"]
theorem scFe : FnScope NFe ["_law_painters"] (defScope sFence) := ⟨rfl, rfl, rfl, by decide +kernel, rfl, by decide +kernel, by decide +kernel⟩
def spLFence (K : PySem.W.Frag) : Sp := fun vs H Q _ => ∃ (l : Addr) (ps : List Pt), vs = [.ref l] ∧ TsAt H l ps ∧ FnsOk ps ∧ (∀ p ∈ ps, PtOk p) ∧ newF K ps H Q
theorem ok_lfence (T : Tx K mg) : FnR P w K mg base CX0 6 (ga K "_law_fence") (spLFence K) := by
  refine defR T.d_sFence scFe (fun _ _ _ _ _ _ us hl => match us, hl with | [_], _ => rfl) (fun vs H Q E h => ?_) (fun cdv A outer s H vs Q E hr h => ?_)
  · obtain ⟨_, _, rfl, _⟩ := h; rfl
  · obtain ⟨l, ps, rfl, ⟨bs, hl, hbs⟩, ok, okp, q⟩ := h
    have nd := scFe.nd
    have hr4 : Room 4 _ := hr.mono (by decide)
    refine ⟨_, pss_cons (ps_set (i := 1) nd rfl (.inl rfl) (pe_makeR0 T.k_Fence (ok_finit T) hr4 inName T.g_Fence pass0))
      <| pss_cons (ps_for PassesOwn.never rfl (pi_list (pv 0)) (pg_tup rfl (pgs_cons (pg_name (i := 2) nd rfl (.inl rfl)) (pgs_cons (pg_name (i := 3) nd rfl (.inl rfl)) (pgs_cons (pg_name (i := 4) nd rfl (.inl rfl)) (pgs_cons (pg_name (i := 5) nd rfl (.inl rfl)) pgs_nil)))))
        (pss_one (ps_set (i := 1) nd rfl (.inl rfl) (pe_op (op_addOwn (own_add T) (ok_fadd T) hr pass0) (pv 1) (pe_makeR T.k_Painter (ok_pinit T) hr4 inName T.g_Painter pass0 (pa_cons (pv 2) (pa_cons (pv 3) (pa_cons (pv 4) (pa_cons (pv 5) pa_nil)))))))))
      <| pss_one (ps_ret (pv 1)), ?_⟩
    show ∀ x dx, H x = none → H dx = none → dx ≠ x → _
    refine made_f0 fun r0 H0 hr0 hf0 S0 => ⟨rfl, ?_⟩
    refine ⟨_, rfl, l, rfl, ⟨_, SqL.of (S0 _ _ hl)⟩, ?_⟩
    refine for_it walk_list (fun i σ H' => (∃ u2 u3 u4 u5 r, σ = [some (.ref l), some (.ref r), u2, u3, u4, u5] ∧ FAt K H' r (ps.take i) ∧ H r = none) ∧ Same H H') ⟨⟨_, _, _, _, r0, rfl, hf0, hr0⟩, S0⟩ (fun i σ H' _ h => SqL.of (h.2 _ _ hl)) ?_ ?_
    · rintro i y σ H1 H2 hi ⟨⟨u2, u3, u4, u5, r, rfl, hfr, _⟩, S1⟩ ⟨rfl, e2⟩
      obtain ⟨b, hbi, rfl⟩ := ref_ix e2
      obtain ⟨p, hpi, hpa⟩ := hbs.get hbi
      have hp1 := S1 _ _ hpa
      refine ⟨b, _, rfl, SqT.of hp1, rfl, _, _, rfl, _, _, rfl, _, _, rfl, _, _, rfl, rfl, ?_⟩
      refine ⟨_, rfl, _, rfl, _, rfl, _, rfl, _, rfl, ?_⟩
      intro c dxc hc hdc hne
      refine ⟨c, dxc, p, rfl, upd_same, okp p (List.mem_of_getElem? hpi), fun H3 hpc k3 => ⟨rfl, ?_⟩⟩
      have S3 := mk_same k3 hc hdc
      obtain ⟨lt, as, dxf, pl, f1, f2, f3, f4⟩ := id (hfr.same S3)
      obtain ⟨dx2, t2, k1, k2⟩ := id hpc
      refine ⟨r, _, _, c, _, _, rfl, rfl, f1, k1, r, c, ps.take i, p, rfl, hfr.same S3, hpc, ?_, ?_⟩
      · rw [← take_snoc hpi]; exact fns_take ok _
      · rw [← take_snoc hpi]
        intro r2 H4 hr2 hf2 S4
        exact ⟨⟨_, _, _, _, r2, rfl, hf2, (S1.trans S3).free hr2⟩, (S1.trans S3).trans S4⟩
    · rintro σ H1 ⟨⟨u2, u3, u4, u5, r, rfl, hfr, hrn⟩, S1⟩
      rw [List.length_map, hbs.len, List.take_length] at hfr
      exact ⟨_, rfl, q r H1 hrn hfr S1⟩
end
end Pp

end
section
set_option Elab.async false
set_option linter.all false
set_option maxRecDepth 100000
set_option maxHeartbeats 4000000
/-! What the law says of the rows. -/
namespace Pp
open PySem PySem.Spec PyProof.Rows L2 StX Rg NdefX LamX
def sentR (f po wt n : Int) (r : Row) : Row := ⟨r.name, r.count, r.day + wt, (f * r.post + po) % n, r.by_⟩
theorem RowsL.get {H : Hp} {as : List Addr} {rs : List Row} {k : Nat} {b : Addr} (h : RowsL H as rs) (e : as[k]? = some b) : ∃ r, rs[k]? = some r ∧ RowAt H b r := by
  have hk : k < rs.length := by rw [← h.len]; exact (List.getElem?_eq_some_iff.mp e).1
  exact ⟨rs[k], List.getElem?_eq_getElem hk, h.at_ k b _ e (List.getElem?_eq_getElem hk)⟩
theorem RowsL.nil {H : Hp} : RowsL H [] [] := ⟨rfl, fun k b p h => by simp at h⟩
theorem take_mapA {α β : Type} {ps : List α} {g : α → β} {i : Nat} {p : α} (h : ps[i]? = some p) : (ps.take (i + 1)).map g = (ps.take i).map g ++ [g p] := by
  rw [take_snoc h, List.map_append]; rfl
section
variable {P : Program} {w : World} {K : PySem.W.Frag} {mg : Str → Option Value} {base : Heap}
abbrev NSn : List Str := ["_law_rows", "_law_size", "_law_change", "_law_factor", "_law_posts", "_law_wait", "_law_found", "_law_name", "_law_amount", "_law_stop"]
theorem scSn : FnScope NSn ["_law_rows", "_law_size", "_law_change"] (defScope sSent) := ⟨rfl, rfl, rfl, by decide +kernel, rfl, by decide +kernel, by decide +kernel⟩
def spSent : Sp := fun vs H Q _ => ∃ (a ch : Addr) (rs : List Row) (n f po wt : Int), vs = [.ref a, .int n, .ref ch] ∧ RowsAt H a rs ∧ rs.length ≤ 8 ∧ 0 < n ∧ H ch = some (.tup [.int f, .int po, .int wt]) ∧ -(2 ^ 64) < f ∧ f < 2 ^ 64 ∧
  ∀ b H', RowsAt H' b (rs.map (sentR f po wt n)) → Same H H' → Q (.ref b) H'
theorem ok_sent (T : Tx K mg) : FnR P w K mg base CX0 1 (ga K "_law_sent") spSent := by
  refine defR T.d_sSent scSn (fun _ _ _ _ _ _ us hl => match us, hl with | [_, _, _], _ => rfl) (fun vs H Q E h => ?_) (fun cdv A outer s H vs Q E hr h => ?_)
  · obtain ⟨_, _, _, _, _, _, _, rfl, _⟩ := h; rfl
  · obtain ⟨a, ch, rs, n, f, po, wt, rfl, ⟨as, ha, hrs⟩, r8, n0, hch, f0, f1, q⟩ := h
    have nd := scSn.nd
    refine ⟨_, pss_cons (ps_asg (pv 2) (pg_tup rfl (pgs_cons (pg_name (i := 3) nd rfl (.inl rfl)) (pgs_cons (pg_name (i := 4) nd rfl (.inl rfl)) (pgs_cons (pg_name (i := 5) nd rfl (.inl rfl)) pgs_nil)))))
      <| pss_cons (ps_set (i := 6) nd rfl (.inl rfl) (pe_lst pa_nil))
      <| pss_cons (ps_for PassesOwn.never rfl (pi_tup (pv 0)) (pg_tup rfl (pgs_cons (pg_name (i := 7) nd rfl (.inl rfl)) (pgs_cons (pg_name (i := 8) nd rfl (.inl rfl)) (pgs_cons (pg_name (i := 9) nd rfl (.inl rfl)) pgs_nil))))
        (pss_one (ps_expr (pe_bm PySem.F.plainAttrs_list PySem.F.slot_list_append PySem.F.type_list_append mt_append (pv 6) (pa_cons (pe_tup (pa_cons (pv 7) (pa_cons (pv 8) (pa_cons (pe_tup
          (pa_cons (pe_op op_add (pe_ix ix_tup (pv 9) pe_int (fun _ _ => rfl)) (pv 5))
          (pa_cons (pe_op op_modN (pe_callTy call_int1 inName T.z_int (by decide +kernel) (pa_cons (pe_op op_add (pe_op op_mul (pv 3) (pe_ix ix_tup (pv 9) pe_int (fun _ _ => rfl))) (pv 4)) pa_nil)) (pv 1))
          (pa_cons (pe_ix ix_tup (pv 9) pe_int (fun _ _ => rfl)) pa_nil)))) pa_nil)))) pa_nil)))))
      <| pss_one (ps_ret (pe_callTy call_tuple_of inName T.z_tuple (by decide +kernel) (pa_cons (pv 6) pa_nil))), ?_⟩
    refine ⟨_, rfl, ch, _, rfl, SqT.of hch, rfl, _, _, rfl, _, _, rfl, _, _, rfl, rfl, ?_⟩
    refine ⟨Nat.zero_le _, fun L hL => ?_⟩
    have S0 := Same.new (o := .lst []) hL
    refine ⟨_, rfl, a, rfl, ⟨_, SqT.of (S0 _ _ ha)⟩, ?_⟩
    refine for_it walk_tup (fun i σ H' => (∃ u7 u8 u9 bs, σ = [some (.ref a), some (.int n), some (.ref ch), some (.int f), some (.int po), some (.int wt), some (.ref L), u7, u8, u9] ∧ H' L = some (.lst (bs.map V.ref)) ∧ RowsL H' bs ((rs.take i).map (sentR f po wt n))) ∧ Same H H') ⟨⟨_, _, _, [], rfl, upd_same, RowsL.nil⟩, S0⟩ (fun i σ H' _ h => SqT.of (h.2 _ _ ha)) ?_ ?_
    · rintro i y σ H1 H2 hi ⟨⟨u7, u8, u9, bs, rfl, hb, hbs⟩, S1⟩ ⟨rfl, e2⟩
      obtain ⟨b, hbi, rfl⟩ := ref_ix e2
      obtain ⟨r, hri, h, v1, v2⟩ := hrs.get hbi
      have w1 := S1 _ _ v1
      have w2 := S1 _ _ v2
      refine ⟨b, _, rfl, SqT.of w1, rfl, _, _, rfl, _, _, rfl, _, _, rfl, rfl, ?_⟩
      refine ⟨_, rfl, .inl ⟨rfl, _, SqL.of hb⟩, _, rfl, _, rfl, _, rfl, _, _, _, _, rfl, rfl, SqT.of w2, rfl, _, rfl, _, _, rfl, rfl, ?_⟩
      refine ⟨_, rfl, _, rfl, _, _, _, _, rfl, rfl, SqT.of w2, rfl, _, _, rfl, rfl, mul64 f0 f1, _, rfl, _, _, rfl, rfl, .inl ⟨_, rfl, _, rfl, _, _, rfl, rfl, (show n ≠ 0 by omega), ?_⟩⟩
      refine ⟨_, rfl, _, _, _, _, rfl, rfl, SqT.of w2, rfl, by show 3 ≤ sizeLine; decide, fun t ht => ⟨by show 3 ≤ sizeLine; decide, fun t2 ht2 => ?_⟩⟩
      have ef : (f * r.post + po).fmod n = (f * r.post + po) % n := Int.fmod_eq_emod_of_nonneg _ (by omega)
      have S2 := Same.new (o := .tup [.int (r.day + wt), .int ((f * r.post + po).fmod n), .str r.by_]) ht
      have S3 := S2.plus (o := .tup [.str r.name, .int r.count, .ref t]) ht2
      have row : RowAt (upd (upd H2 t (.tup [.int (r.day + wt), .int ((f * r.post + po).fmod n), .str r.by_])) t2 (.tup [.str r.name, .int r.count, .ref t])) t2 (sentR f po wt n r) := by
        refine ⟨t, upd_same, ?_⟩
        rw [upd_ne (ne_of_none upd_same ht2), upd_same, ef]
        rfl
      have hl8 := hbs.len
      have hLL := S3 _ _ hb
      refine ⟨L, _, _, rfl, rfl, hLL, ?_, ?_⟩
      · rw [List.length_map, hl8, List.length_map, List.length_take]
        exact Nat.lt_of_le_of_lt (show _ ≤ 8 by omega) (by decide)
      have tp : ∀ a xs, (upd (upd H2 t (.tup [.int (r.day + wt), .int ((f * r.post + po).fmod n), .str r.by_])) t2 (.tup [.str r.name, .int r.count, .ref t])) a = some (.tup xs) → (upd (upd (upd H2 t (.tup [.int (r.day + wt), .int ((f * r.post + po).fmod n), .str r.by_])) t2 (.tup [.str r.name, .int r.count, .ref t])) L (.lst (bs.map V.ref ++ [.ref t2]))) a = some (.tup xs) := fun a xs e => by
        rw [upd_ne (fun z => by rw [z, hLL] at e; cases e)]
        exact e
      refine ⟨⟨_, _, _, bs ++ [t2], rfl, ?_, ?_⟩, fun x o e => ?_⟩
      · rw [upd_same, List.map_append]; rfl
      · rw [take_mapA hri]
        exact ((hbs.tups fun a xs e => S3 _ _ e).tups tp).snoc (row.tups tp)
      · rw [upd_ne (ne_of_none e hL)]
        exact S3 _ _ (S1 _ _ e)
    · rintro σ H1 ⟨⟨u7, u8, u9, bs, rfl, hb, hbs⟩, S1⟩
      rw [List.length_map, hrs.len, List.take_length] at hbs
      refine ⟨_, rfl, L, _, rfl, .inl ⟨SqL.of hb, fun l hl => ?_⟩⟩
      have S2 := Same.new (o := .tup (bs.map V.ref)) hl
      exact q l _ ⟨bs, upd_same, hbs.tups fun a xs e => S2 _ _ e⟩ (S1.trans S2)
end
end Pp

end
section
set_option Elab.async false
set_option linter.all false
set_option maxRecDepth 100000
set_option maxHeartbeats 4000000
/-! The small ring. -/
namespace Pp
open PySem PySem.Spec PyProof.Rows L2 StX Rg NdefX LamX
structure PtRaw (n : Int) (p : Pt) : Prop where
  name : NmOk p.name
  day : 0 ≤ p.day
  ne : p.stride ≠ 0
  lo : -(2 * n) ≤ p.stride
  hi : p.stride ≤ 2 * n
/-- a ring's list while it is made -/
structure RInv (H : Hp) (d L ln : Addr) (n : Int) (ns : List Str) (γ : Int) (i : Nat) (bs : List Addr) (ps : List Pt) (H1 : Hp) : Prop where
  hL : H1 L = some (.lst (bs.map V.ref))
  tp : TpL H1 bs ps
  nm : ps.map Pt.name = ns.take i
  raw : ∀ p ∈ ps, PtRaw n p
  hn : H1 ln = some (.lst (ns.map V.str))
  k : Kq d H H1
  pen : PenAt H1 d γ
theorem PenAt.dk {H : Hp} {d : Addr} {β : Int} (h : PenAt H d β) : ∃ kv, H d = some (.dK kv) := let ⟨_, _, _, _, h, _⟩ := h; ⟨_, h⟩
theorem RInv.step {H H1 H2 : Hp} {d L ln t : Addr} {n β γ δ da po st : Int} {ns : List Str} {i : Nat} {bs : List Addr} {ps : List Pt} {z : Str} (v : RInv H d L ln n ns γ i bs ps H1) (h0 : PenAt H d β) (hL0 : H L = none) (nl : ln ≠ L) (hi : ns[i]? = some z)
    (k : Kq d H1 H2) (pen : PenAt H2 d δ) (ht : H2 t = none) (raw : PtRaw n ⟨z, da, po, st⟩) (h8 : i < 8) :
    (upd H2 t (.tup [.str z, .int da, .int po, .int st])) L = some (.lst (bs.map V.ref)) ∧ (bs.map V.ref).length < sizeLine ∧
    RInv H d L ln n ns δ (i + 1) (bs ++ [t]) (ps ++ [⟨z, da, po, st⟩]) (upd (upd H2 t (.tup [.str z, .int da, .int po, .int st])) L (.lst (bs.map V.ref ++ [.ref t]))) := by
  obtain ⟨kv, hd⟩ := v.pen.dk
  have S := Same.new (o := .tup [.str z, .int da, .int po, .int st]) ht
  have nLd : L ≠ d := pen_free h0 hL0
  have nnd : ln ≠ d := fun e => by have := v.hn; rw [e, hd] at this; cases this
  have hL2 := S _ _ (k.kp _ _ nLd v.hL)
  have hn2 := S _ _ (k.kp _ _ nnd v.hn)
  have kk := (v.k.trans k).same S
  have tp2 := v.tp.tups (H' := upd H2 t (.tup [.str z, .int da, .int po, .int st])) fun a xs e => S _ _ (k.kp _ _ (fun y => by rw [y, hd] at e; cases e) e)
  have e : ∀ a xs, (upd H2 t (.tup [.str z, .int da, .int po, .int st])) a = some (.tup xs) → (upd (upd H2 t (.tup [.str z, .int da, .int po, .int st])) L (.lst (bs.map V.ref ++ [.ref t]))) a = some (.tup xs) := fun a xs e => by
    rw [upd_ne (fun z => by rw [z, hL2] at e; cases e)]
    exact e
  have hlen : bs.length ≤ i := by
    rw [v.tp.len]
    have := congrArg List.length v.nm
    rw [List.length_map, List.length_take] at this
    omega
  refine ⟨hL2, ?_, ?_, ?_, ?_, ?_, ?_, ?_, ?_⟩
  · rw [List.length_map]
    exact Nat.lt_of_le_of_lt (show _ ≤ 8 by omega) (by decide)
  · rw [upd_same, List.map_append]; rfl
  · exact (tp2.tups e).snoc (e _ _ upd_same)
  · rw [take_snoc hi, List.map_append, v.nm]; rfl
  · intro p hp
    rcases List.mem_append.mp hp with h | h
    · exact v.raw p h
    · rw [List.mem_singleton.mp h]; exact raw
  · rw [upd_ne nl]; exact hn2
  · exact kk.upd hL0 nLd
  · exact pen_upd h0 (pen.same S) kk hL0
/-- what a ring's draw leaves -/
def RingQ (d : Addr) (β : Int) (N : Int) (H : Hp) (Q : VK) : Prop := ∀ (t l : Addr) (n : Int) (ps : List Pt) (H' : Hp), H' t = some (.tup [.int n, .ref l]) → TsAt H' l ps → 0 < n → n ≤ N → FnsOk ps → (∀ p ∈ ps, PtRaw n p) → PenAt H' d (β + 300) → Kq d H H' → Q (.ref t) H'
theorem RInv.done {H H1 : Hp} {d L ln t : Addr} {n β N γ : Int} {ns : List Str} {i : Nat} {bs : List Addr} {ps : List Pt} {Q : VK} (v : RInv H d L ln n ns γ i bs ps H1) (hi : i = ns.length) (nd : ns.Nodup) (h6 : ns.length ≤ 6) (n0 : 0 < n) (nN : n ≤ N) (hγ : γ ≤ β + 300) (ht : H1 t = none)
    (q : RingQ d β N H Q) : Q (.ref t) (upd H1 t (.tup [.int n, .ref L])) := by
  have S := Same.new (o := .tup [.int n, .ref L]) ht
  have nm := v.nm
  rw [hi, List.take_length] at nm
  refine q t L n ps _ upd_same ⟨bs, S _ _ v.hL, v.tp.tups fun a xs e => S _ _ e⟩ n0 nN ⟨by rw [nm]; exact nd, ?_⟩ v.raw ((v.pen.same S).mono hγ) (v.k.same S)
  have := congrArg List.length nm
  rw [List.length_map] at this
  omega
section
variable {P : Program} {w : World} {K : PySem.W.Frag} {mg : Str → Option Value} {base : Heap}
abbrev NSm : List Str := ["_law_pen_here", "_law_most", "_law_size", "_law_found", "_law_label", "_law_speed"]
theorem scSm : FnScope NSm ["_law_pen_here", "_law_most"] (defScope sSmall) := ⟨rfl, rfl, rfl, by decide +kernel, rfl, by decide +kernel, by decide +kernel⟩
def spSmall : Sp := fun vs H Q _ => ∃ (d : Addr) (β : Int), vs = [.ref d, .int 6] ∧ PenAt H d β ∧ β ≤ 900000 ∧ RingQ d β 13 H Q
theorem ok_small (T : Tx K mg) : FnR P w K mg base CX0 7 (ga K "_law_small_ring") spSmall := by
  refine defR T.d_sSmall scSm (fun _ _ _ _ _ _ us hl => match us, hl with | [_, _], _ => rfl) (fun vs H Q E h => ?_) (fun cdv A outer s H vs Q E hr h => ?_)
  · obtain ⟨_, _, rfl, _⟩ := h; rfl
  · obtain ⟨d, β, rfl, hp, hb, q⟩ := h
    have nd := scSm.nd
    have hr4 : Room 4 _ := hr.mono (by decide)
    have hr5 : Room 5 _ := hr.mono (by decide)
    refine ⟨_, pss_cons (ps_par (i := 2) (j := 3) rfl nd rfl rfl (by decide) rfl rfl (pa_cons (pe_op op_add pe_int (pe_fn (ok_d T) hr4 inName T.g__law_draw (kpOf T.d_sDraw) pass0 (pa_cons (pv 0) (pa_cons (pe_fn (ok_pick T) hr5 inName T.g__law_pick (kpOf T.d_sPick) pass0 (pa_cons (pv 0) (pa_cons (pe_lst (pa_cons pe_int (pa_cons pe_int (pa_cons pe_int pa_nil)))) pa_nil))) pa_nil)))) (pa_cons (pe_lst pa_nil) pa_nil)) (by rfl))
      <| pss_cons (ps_for PassesOwn.never rfl (pi_list (pe_fn (ok_names T) hr inName T.g__law_names (kpOf T.d_sNames) pass0 (pa_cons (pv 0) (pa_cons (pe_op op_add pe_int (pe_fn (ok_d T) hr4 inName T.g__law_draw (kpOf T.d_sDraw) pass0 (pa_cons (pv 0) (pa_cons (pv 1) pa_nil)))) pa_nil)))) (pg_name (i := 4) nd rfl (.inl rfl))
        (pss_cons (ps_set (i := 5) nd rfl (.inl rfl) (pe_op op_mul (pe_op op_add pe_int (pe_fn (ok_d T) hr4 inName T.g__law_draw (kpOf T.d_sDraw) pass0 (pa_cons (pv 0) (pa_cons (pe_op op_mul pe_int (pv 2)) pa_nil)))) (pe_fn (ok_pick T) hr5 inName T.g__law_pick (kpOf T.d_sPick) pass0 (pa_cons (pv 0) (pa_cons (pe_lst (pa_cons pe_int (pa_cons (pe_un un_neg pe_int) pa_nil))) pa_nil)))))
        <| pss_one (ps_expr (pe_bm PySem.F.plainAttrs_list PySem.F.slot_list_append PySem.F.type_list_append mt_append (pv 3) (pa_cons (pe_tup (pa_cons (pv 4) (pa_cons (pe_fn (ok_d T) hr4 inName T.g__law_draw (kpOf T.d_sDraw) pass0 (pa_cons (pv 0) (pa_cons pe_int pa_nil)))
            (pa_cons (pe_fn (ok_around T) hr5 inName T.g__law_around (kpOf T.d_sAround) pass0 (pa_cons (pv 0) (pa_cons (pe_op op_mul pe_int (pv 2)) pa_nil))) (pa_cons (pv 5) pa_nil))))) pa_nil)))))
      <| pss_one (ps_ret (pe_tup (pa_cons (pv 2) (pa_cons (pv 3) pa_nil)))), ?_⟩
    refine ⟨_, rfl, _, rfl, by show 3 ≤ sizeLine; decide, fun l1 hl1 => ?_⟩
    have S1 := Same.new (o := .lst ([3, 8, 13].map V.int)) hl1
    refine ⟨d, β, .ref l1, rfl, hp.same S1, by omega, .inl ⟨l1, _, rfl, pen_free hp hl1, upd_same, by decide, by decide, fun ks v H2 hks hp2 k2 => ?_⟩⟩
    obtain ⟨m0, hm0, rfl⟩ : ∃ m0, (m0 = 3 ∨ m0 = 8 ∨ m0 = 13) ∧ v = .int m0 := by
      have hm := List.mem_of_getElem? hks
      simp only [List.mem_cons, List.not_mem_nil, or_false] at hm
      rcases hm with rfl | rfl | rfl
      · exact ⟨3, by decide, rfl⟩
      · exact ⟨8, by decide, rfl⟩
      · exact ⟨13, by decide, rfl⟩
    refine ⟨d, m0, _, rfl, hp2, by omega, by omega, by omega, fun v3 H3 a3 b3 hp3 k3 => ?_⟩
    have K3 : Kq d H H3 := (((Kq.refl d H).same S1).trans k2).trans k3
    obtain ⟨n, hn⟩ : ∃ n, 1 + v3 = n := ⟨_, rfl⟩
    have n0 : 0 < n := by omega
    have n13 : n ≤ 13 := by omega
    refine ⟨_, _, rfl, rfl, Nat.zero_le _, fun L hL => ⟨_, _, rfl, ?_⟩⟩
    simp only [hn]
    have hLd : L ≠ d := pen_free hp3 hL
    have hL0 : H L = none := K3.kp.fresh hL hLd
    have S4 := Same.new (o := .lst []) hL
    have K4 := K3.same S4
    have hp4 := hp3.same S4
    have hL4 : upd H3 L (.lst []) L = some (.lst []) := upd_same
    generalize upd H3 L (.lst []) = H4 at K4 hp4 hL4 ⊢
    clear S4
    refine ⟨_, rfl, _, rfl, _, rfl, d, 6, _, rfl, hp4, by omega, by decide, by decide, fun v5 H5 a5 b5 hp5 k5 => ?_⟩
    obtain ⟨m, hm⟩ : ∃ m : Nat, 1 + v5 = (m : Int) := ⟨(1 + v5).toNat, by omega⟩
    refine ⟨_, _, rfl, rfl, d, m, _, by rw [← hm], hp5, by omega, by omega, fun ln ns H6 hln hlns hlen hnd hok hp6 k6 => ?_⟩
    have nlL : ln ≠ L := fun e => by rw [e, k5.kp _ _ hLd hL4] at hln; cases hln
    refine ⟨ln, rfl, ⟨_, SqL.of hlns⟩, ?_⟩
    refine for_it walk_list (fun i σ H' => ∃ u4 u5 bs ps, σ = [some (.ref d), some (.int 6), some (.int n), some (.ref L), u4, u5] ∧ RInv H d L ln n ns (β + 60 + 16 * (i : Int)) i bs ps H')
      ⟨_, _, [], [], rfl, k6.kp _ _ hLd (k5.kp _ _ hLd hL4), TpL.nil, rfl, (fun p h => by cases h), hlns, (K4.trans k5).trans k6, hp6.mono (by omega)⟩ (fun i σ H' _ ⟨_, _, _, _, _, h⟩ => SqL.of h.hn) ?_ ?_
    · rintro i y σ H7 H7' hi ⟨u4, u5, bs, ps, rfl, v⟩ ⟨rfl, e2⟩
      rw [List.length_map] at hi
      have hzi := List.getElem?_eq_getElem hi
      have e2 : (ns.map V.str)[i]? = some y := e2
      rw [List.getElem?_map, hzi] at e2
      cases e2
      have hpn := v.pen
      have hz := hok _ (List.getElem_mem hi)
      refine ⟨_, rfl, _, rfl, _, _, rfl, rfl, mul64 (by decide) (by decide), d, _, _, rfl, hpn, by omega, by omega, by omega, fun v8 H8 a8 b8 hp8 k8 => ?_⟩
      refine ⟨_, _, rfl, rfl, _, rfl, _, rfl, by show 2 ≤ sizeLine; decide, fun l9 hl9 => ?_⟩
      have S9 := Same.new (o := .lst [.int 1, .int (-1)]) hl9
      refine ⟨d, _, .ref l9, rfl, hp8.same S9, by omega, .inl ⟨l9, _, rfl, pen_free hp8 hl9, upd_same, by decide, by decide, fun ks w9 H9 hks hp9 k9 => ?_⟩⟩
      obtain ⟨sg, hsg, rfl⟩ : ∃ sg : Int, (sg = 1 ∨ sg = -1) ∧ w9 = .int sg := by
        have hm := List.mem_of_getElem? hks
        simp only [List.mem_cons, List.not_mem_nil, or_false] at hm
        rcases hm with rfl | rfl
        · exact ⟨1, by decide, rfl⟩
        · exact ⟨-1, by decide, rfl⟩
      refine ⟨_, _, rfl, rfl, mul64r (by omega) (by omega), ?_⟩
      have k79 : Kq d H7' H9 := (k8.same S9).trans k9
      have hL9 := k79.kp _ _ hLd v.hL
      obtain ⟨sp, hsp⟩ : ∃ sp, (1 + v8) * sg = sp := ⟨_, rfl⟩
      have hsp2 : sp ≠ 0 ∧ -(2 * n) ≤ sp ∧ sp ≤ 2 * n := by
        rw [← hsp]
        rcases hsg with rfl | rfl <;> omega
      refine ⟨_, rfl, .inl ⟨rfl, _, SqL.of hL9⟩, _, rfl, _, rfl, d, _, _, rfl, hp9, by omega, by decide, by decide, fun v10 H10 a10 b10 hp10 k10 => ?_⟩
      refine ⟨_, rfl, _, rfl, _, _, rfl, rfl, mul64 (by decide) (by decide), d, _, _, rfl, hp10, by omega, by omega, by omega, fun v11 H11 a11 b11 hp11 k11 => ?_⟩
      refine ⟨_, rfl, by show 4 ≤ sizeLine; decide, fun t ht => ?_⟩
      simp only [hsp] at ht ⊢
      obtain ⟨r1, r2, r3⟩ := v.step hp hL0 nlL hzi ((k79.trans k10).trans k11) hp11 ht (da := v10) (po := v11) (st := sp) ⟨hz, a10, hsp2.1, hsp2.2.1, hsp2.2.2⟩ (by omega)
      have ec : β + 60 + 16 * (i : Int) + 4 + 4 + 4 + 4 = β + 60 + 16 * ((i + 1 : Nat) : Int) := by omega
      rw [ec] at r3
      exact ⟨L, _, _, rfl, rfl, r1, r2, _, _, _, _, rfl, r3⟩
    · rintro σ H7 ⟨u4, u5, bs, ps, rfl, v⟩
      rw [List.length_map] at v
      exact ⟨_, rfl, _, rfl, by show 2 ≤ sizeLine; decide, fun t ht => v.done rfl hnd (by omega) n0 n13 (by omega) ht q⟩
end
end Pp

end
section
set_option Elab.async false
set_option linter.all false
set_option maxRecDepth 100000
set_option maxHeartbeats 4000000
/-! The ring of a lot. -/
namespace Pp
open PySem PySem.Spec PyProof.Rows L2 StX Rg NdefX LamX
theorem lot_bounds {t l v sg : Int} (ht : 1 ≤ t) (hl : 1 ≤ l) (v0 : 0 ≤ v) (v1 : v < 2 * t) (hs : sg = 1 ∨ sg = -1) : l * (1 + v) * sg ≠ 0 ∧ -(2 * (t * l)) ≤ l * (1 + v) * sg ∧ l * (1 + v) * sg ≤ 2 * (t * l) := by
  have h1 : l * (1 + v) ≤ l * (2 * t) := Int.mul_le_mul_of_nonneg_left (by omega) (by omega)
  have h2 : 0 < l * (1 + v) := Int.mul_pos (by omega) (by omega)
  have h3 : l * (2 * t) = 2 * (t * l) := by rw [Int.mul_comm l, Int.mul_assoc]
  rw [h3] at h1
  generalize l * (1 + v) = a at h1 h2 ⊢
  generalize t * l = b at h1 ⊢
  rcases hs with rfl | rfl
  · rw [Int.mul_one]; omega
  · omega
theorem lot_size {t l : Int} (ht : 1 ≤ t) (hl : 1 ≤ l) (h1 : t ≤ 120) (h2 : l ≤ 10 ^ 15) : 0 < t * l ∧ t * l ≤ 120 * 10 ^ 15 := by
  refine ⟨Int.mul_pos (by omega) (by omega), ?_⟩
  have := Int.mul_le_mul h1 h2 (by omega) (by omega)
  exact this
section
variable {P : Program} {w : World} {K : PySem.W.Frag} {mg : Str → Option Value} {base : Heap}
abbrev NLo : List Str := ["_law_pen_here", "_law_most", "_law_turns", "_law_lot", "_law_size", "_law_found", "_law_base", "_law_hub", "_law_label", "_law_speed", "_law_spot"]
theorem scLo : FnScope NLo ["_law_pen_here", "_law_most"] (defScope sLot) := ⟨rfl, rfl, rfl, by decide +kernel, rfl, by decide +kernel, by decide +kernel⟩
def spLot : Sp := fun vs H Q _ => ∃ (d : Addr) (β : Int), vs = [.ref d, .int 6] ∧ PenAt H d β ∧ β ≤ 900000 ∧ RingQ d β (120 * 10 ^ 15) H Q
theorem ok_lot (T : Tx K mg) : FnR P w K mg base CX0 7 (ga K "_law_lot_ring") spLot := by
  refine defR T.d_sLot scLo (fun _ _ _ _ _ _ us hl => match us, hl with | [_, _], _ => rfl) (fun vs H Q E h => ?_) (fun cdv A outer s H vs Q E hr h => ?_)
  · obtain ⟨_, _, rfl, _⟩ := h; rfl
  · obtain ⟨d, β, rfl, hp, hb, q⟩ := h
    have nd := scLo.nd
    have hr4 : Room 4 _ := hr.mono (by decide)
    have hr5 : Room 5 _ := hr.mono (by decide)
    refine ⟨_, pss_cons (ps_par (i := 2) (j := 3) rfl nd rfl rfl (by decide) rfl rfl (pa_cons (pe_op op_add pe_int (pe_fn (ok_d T) hr4 inName T.g__law_draw (kpOf T.d_sDraw) pass0 (pa_cons (pv 0) (pa_cons (pe_fn (ok_pick T) hr5 inName T.g__law_pick (kpOf T.d_sPick) pass0 (pa_cons (pv 0) (pa_cons (pe_lst (pa_cons pe_int (pa_cons pe_int (pa_cons pe_int pa_nil)))) pa_nil))) pa_nil))))
          (pa_cons (pe_op op_add pe_int (pe_fn (ok_great T) hr inName T.g__law_great (kpOf T.d_sGreat) pass0 (pa_cons (pv 0) (pa_cons pe_int pa_nil)))) pa_nil)) (by rfl))
      <| pss_cons (ps_par3 (i := 4) (j := 5) (l := 6) rfl nd rfl rfl rfl (by decide) (by decide) (by decide) rfl rfl rfl (pa_cons (pe_op op_mul (pv 2) (pv 3)) (pa_cons (pe_lst pa_nil) (pa_cons (pe_fn (ok_around T) hr5 inName T.g__law_around (kpOf T.d_sAround) pass0 (pa_cons (pv 0) (pa_cons (pe_op op_pow pe_int pe_int) pa_nil))) pa_nil))) (by rfl))
      <| pss_cons (ps_set (i := 7) nd rfl (.inl rfl) (pe_fn (ok_pick T) hr5 inName T.g__law_pick (kpOf T.d_sPick) pass0 (pa_cons (pv 0) (pa_cons (pe_lst (pa_cons (pe_fn (ok_d T) hr4 inName T.g__law_draw (kpOf T.d_sDraw) pass0 (pa_cons (pv 0) (pa_cons pe_int pa_nil))) (pa_cons (pe_fn (ok_great T) hr inName T.g__law_great (kpOf T.d_sGreat) pass0 (pa_cons (pv 0) (pa_cons pe_int pa_nil))) pa_nil))) pa_nil))))
      <| pss_cons (ps_for PassesOwn.never rfl (pi_list (pe_fn (ok_names T) hr inName T.g__law_names (kpOf T.d_sNames) pass0 (pa_cons (pv 0) (pa_cons (pe_op op_add pe_int (pe_fn (ok_d T) hr4 inName T.g__law_draw (kpOf T.d_sDraw) pass0 (pa_cons (pv 0) (pa_cons (pv 1) pa_nil)))) pa_nil)))) (pg_name (i := 8) nd rfl (.inl rfl))
        (pss_cons (ps_set (i := 9) nd rfl (.inl rfl) (pe_op op_mul (pe_op op_mul (pv 3) (pe_op op_add pe_int (pe_fn (ok_d T) hr4 inName T.g__law_draw (kpOf T.d_sDraw) pass0 (pa_cons (pv 0) (pa_cons (pe_op op_mul pe_int (pv 2)) pa_nil))))) (pe_fn (ok_pick T) hr5 inName T.g__law_pick (kpOf T.d_sPick) pass0 (pa_cons (pv 0) (pa_cons (pe_lst (pa_cons pe_int (pa_cons (pe_un un_neg pe_int) pa_nil))) pa_nil)))))
        <| pss_cons (ps_set (i := 10) nd rfl (.inl rfl) (pe_op op_add (pe_op op_add (pv 6) (pe_op op_mul (pv 3) (pe_fn (ok_d T) hr4 inName T.g__law_draw (kpOf T.d_sDraw) pass0 (pa_cons (pv 0) (pa_cons (pe_op op_mul pe_int (pv 2)) pa_nil)))))
            (pe_fn (ok_d T) hr4 inName T.g__law_draw (kpOf T.d_sDraw) pass0 (pa_cons (pv 0) (pa_cons (pe_callB (call_minI rfl) inName T.z_min (by decide +kernel) (pa_cons (pv 3) (pa_cons pe_int pa_nil))) pa_nil)))))
        <| pss_one (ps_expr (pe_bm PySem.F.plainAttrs_list PySem.F.slot_list_append PySem.F.type_list_append mt_append (pv 5) (pa_cons (pe_tup (pa_cons (pv 8) (pa_cons (pe_op op_add (pv 7) (pe_fn (ok_pick T) hr5 inName T.g__law_pick (kpOf T.d_sPick) pass0 (pa_cons (pv 0) (pa_cons (pe_lst (pa_cons pe_int (pa_cons pe_int (pa_cons (pe_fn (ok_d T) hr4 inName T.g__law_draw (kpOf T.d_sDraw) pass0 (pa_cons (pv 0) (pa_cons (pv 2) pa_nil))) pa_nil)))) pa_nil))))
            (pa_cons (pv 10) (pa_cons (pv 9) pa_nil))))) pa_nil)))))
      <| pss_one (ps_ret (pe_tup (pa_cons (pv 4) (pa_cons (pv 5) pa_nil)))), ?_⟩
    refine ⟨_, rfl, _, rfl, by show 3 ≤ sizeLine; decide, fun l1 hl1 => ?_⟩
    have S1 := Same.new (o := .lst ([6, 30, 120].map V.int)) hl1
    refine ⟨d, β, .ref l1, rfl, hp.same S1, by omega, .inl ⟨l1, _, rfl, pen_free hp hl1, upd_same, by decide, by decide, fun ks v H2 hks hp2 k2 => ?_⟩⟩
    obtain ⟨m0, hm0, rfl⟩ : ∃ m0, (m0 = 6 ∨ m0 = 30 ∨ m0 = 120) ∧ v = .int m0 := by
      have hm := List.mem_of_getElem? hks
      simp only [List.mem_cons, List.not_mem_nil, or_false] at hm
      rcases hm with rfl | rfl | rfl
      · exact ⟨6, by decide, rfl⟩
      · exact ⟨30, by decide, rfl⟩
      · exact ⟨120, by decide, rfl⟩
    refine ⟨d, m0, _, rfl, hp2, by omega, by omega, by omega, fun v3 H3 a3 b3 hp3 k3 => ?_⟩
    have K3 : Kq d H H3 := (((Kq.refl d H).same S1).trans k2).trans k3
    obtain ⟨t, ht⟩ : ∃ t, 1 + v3 = t := ⟨_, rfl⟩
    refine ⟨_, _, rfl, rfl, _, rfl, d, 15, _, rfl, hp3, by omega, by decide, by decide, fun v4 H4 a4 b4 hp4 k4 => ?_⟩
    obtain ⟨lt, hlt⟩ : ∃ lt, 1 + v4 = lt := ⟨_, rfl⟩
    refine ⟨_, _, rfl, rfl, _, _, rfl, ?_⟩
    simp only [ht, hlt]
    have t1 : 1 ≤ t ∧ t ≤ 120 := by omega
    have l1b : 1 ≤ lt ∧ lt ≤ 10 ^ 15 := by omega
    obtain ⟨n0, nN⟩ := lot_size t1.1 l1b.1 t1.2 l1b.2
    refine ⟨_, rfl, _, rfl, _, _, rfl, rfl, mul64 (by omega) (by omega), Nat.zero_le _, fun L hL => ?_⟩
    have K4 := K3.trans k4
    have hLd : L ≠ d := pen_free hp4 hL
    have hL0 : H L = none := K4.kp.fresh hL hLd
    have S5 := Same.new (o := .lst []) hL
    have K5 := K4.same S5
    have hp5 := hp4.same S5
    have hL5 : upd H4 L (.lst []) L = some (.lst []) := upd_same
    generalize upd H4 L (.lst []) = H5 at K5 hp5 hL5 ⊢
    clear S5
    refine ⟨_, rfl, _, _, rfl, rfl, ⟨by decide, by decide, by decide⟩, d, _, _, rfl, hp5, by omega, by decide, by decide, fun v6 H6 a6 b6 hp6 k6 => ?_⟩
    refine ⟨_, _, _, rfl, ?_⟩
    obtain ⟨n, hn⟩ : ∃ n, t * lt = n := ⟨_, rfl⟩
    simp only [hn]
    rw [hn] at n0 nN
    -- the hub
    refine ⟨_, rfl, _, rfl, d, _, _, rfl, hp6, by omega, by decide, by decide, fun v7 H7 a7 b7 hp7 k7 => ?_⟩
    refine ⟨_, rfl, d, 29, _, rfl, hp7, by omega, by decide, by decide, fun v8 H8 a8 b8 hp8 k8 => ?_⟩
    refine ⟨by show 2 ≤ sizeLine; decide, fun l8 hl8 => ?_⟩
    have S8 := Same.new (o := .lst [.int v7, .int v8]) hl8
    refine ⟨d, _, .ref l8, rfl, hp8.same S8, by omega, .inl ⟨l8, _, rfl, pen_free hp8 hl8, upd_same, by show 0 < 2; decide, by show 2 ≤ 100; decide, fun ks9 w9 H9 hks9 hp9 k9 => ?_⟩⟩
    obtain ⟨hub, hub0, rfl⟩ : ∃ hub : Int, 0 ≤ hub ∧ w9 = .int hub := by
      have hm := List.mem_of_getElem? hks9
      simp only [List.mem_cons, List.not_mem_nil, or_false] at hm
      rcases hm with rfl | rfl
      · exact ⟨v7, a7, rfl⟩
      · exact ⟨v8, a8, rfl⟩
    have k59 : Kq d H5 H9 := (((k6.trans k7).trans k8).same S8).trans k9
    -- the names
    refine ⟨_, rfl, _, rfl, _, rfl, d, 6, _, rfl, hp9, by omega, by decide, by decide, fun v10 H10 a10 b10 hp10 k10 => ?_⟩
    obtain ⟨m, hm⟩ : ∃ m : Nat, 1 + v10 = (m : Int) := ⟨(1 + v10).toNat, by omega⟩
    refine ⟨_, _, rfl, rfl, d, m, _, by rw [← hm], hp10, by omega, by omega, fun ln ns H11 hln hlns hlen hnd hok hp11 k11 => ?_⟩
    have hL10 := k10.kp _ _ hLd (k59.kp _ _ hLd hL5)
    have nlL : ln ≠ L := fun e => by rw [e, hL10] at hln; cases hln
    refine ⟨ln, rfl, ⟨_, SqL.of hlns⟩, ?_⟩
    refine for_it walk_list (fun i σ H' => ∃ u8 u9 u10 bs ps, σ = [some (.ref d), some (.int 6), some (.int t), some (.int lt), some (.int n), some (.ref L), some (.int v6), some (.int hub), u8, u9, u10] ∧ RInv H d L ln n ns (β + 140 + 24 * (i : Int)) i bs ps H')
      ⟨_, _, _, [], [], rfl, k11.kp _ _ hLd hL10, TpL.nil, rfl, (fun p h => by cases h), hlns, ((K5.trans k59).trans k10).trans k11, hp11.mono (by omega)⟩ (fun i σ H' _ ⟨_, _, _, _, _, _, h⟩ => SqL.of h.hn) ?_ ?_
    · rintro i y σ H12 H12' hi ⟨u8, u9, u10, bs, ps, rfl, v⟩ ⟨rfl, e2⟩
      rw [List.length_map] at hi
      have hzi := List.getElem?_eq_getElem hi
      have e2 : (ns.map V.str)[i]? = some y := e2
      rw [List.getElem?_map, hzi] at e2
      cases e2
      have hpn := v.pen
      have hz := hok _ (List.getElem_mem hi)
      refine ⟨_, rfl, _, rfl, _, rfl, _, _, rfl, rfl, mul64 (by decide) (by decide), d, _, _, rfl, hpn, by omega, by omega, by omega, fun v13 H13 a13 b13 hp13 k13 => ?_⟩
      refine ⟨_, _, rfl, rfl, _, _, rfl, rfl, mul64 (by omega) (by omega), _, rfl, _, rfl, by show 2 ≤ sizeLine; decide, fun l9 hl9 => ?_⟩
      have S9 := Same.new (o := .lst [.int 1, .int (-1)]) hl9
      refine ⟨d, _, .ref l9, rfl, hp13.same S9, by omega, .inl ⟨l9, _, rfl, pen_free hp13 hl9, upd_same, by decide, by decide, fun ks w14 H14 hks hp14 k14 => ?_⟩⟩
      obtain ⟨sg, hsg, rfl⟩ : ∃ sg : Int, (sg = 1 ∨ sg = -1) ∧ w14 = .int sg := by
        have hm := List.mem_of_getElem? hks
        simp only [List.mem_cons, List.not_mem_nil, or_false] at hm
        rcases hm with rfl | rfl
        · exact ⟨1, by decide, rfl⟩
        · exact ⟨-1, by decide, rfl⟩
      refine ⟨_, _, rfl, rfl, mul64r (by omega) (by omega), ?_⟩
      have k1214 : Kq d H12' H14 := (k13.same S9).trans k14
      have hsp2 := lot_bounds t1.1 l1b.1 a13 b13 hsg
      obtain ⟨sp, hsp⟩ : ∃ sp, lt * (1 + v13) * sg = sp := ⟨_, rfl⟩
      rw [hsp, hn] at hsp2
      -- the spot
      refine ⟨_, rfl, _, rfl, _, rfl, _, rfl, _, _, rfl, rfl, mul64 (by decide) (by decide), d, _, _, rfl, hp14, by omega, by omega, by omega, fun v15 H15 a15 b15 hp15 k15 => ?_⟩
      refine ⟨_, _, rfl, rfl, mul64 (by omega) (by omega), _, _, rfl, rfl, _, rfl, _, rfl, _, _, rfl, d, _, _, rfl, hp15, by omega, by omega, by omega, fun v16 H16 a16 b16 hp16 k16 => ?_⟩
      refine ⟨_, _, rfl, rfl, ?_⟩
      obtain ⟨po, hpo⟩ : ∃ po, v6 + lt * v15 + v16 = po := ⟨_, rfl⟩
      have k1216 := (k1214.trans k15).trans k16
      have hL16 := k1216.kp _ _ hLd v.hL
      refine ⟨_, rfl, .inl ⟨rfl, _, SqL.of hL16⟩, _, rfl, _, rfl, _, rfl, _, rfl, _, rfl, d, _, _, rfl, hp16, by omega, by omega, by omega, fun v17 H17 a17 b17 hp17 k17 => ?_⟩
      refine ⟨by show 3 ≤ sizeLine; decide, fun l18 hl18 => ?_⟩
      have S18 := Same.new (o := .lst [.int 0, .int 0, .int v17]) hl18
      refine ⟨d, _, .ref l18, rfl, hp17.same S18, by omega, .inl ⟨l18, _, rfl, pen_free hp17 hl18, upd_same, by show 0 < 3; decide, by show 3 ≤ 100; decide, fun ks18 w18 H18 hks18 hp18 k18 => ?_⟩⟩
      obtain ⟨ex, ex0, rfl⟩ : ∃ ex : Int, 0 ≤ ex ∧ w18 = .int ex := by
        have hm := List.mem_of_getElem? hks18
        simp only [List.mem_cons, List.not_mem_nil, or_false] at hm
        rcases hm with rfl | rfl | rfl
        · exact ⟨0, by decide, rfl⟩
        · exact ⟨0, by decide, rfl⟩
        · exact ⟨v17, a17, rfl⟩
      refine ⟨_, _, rfl, rfl, _, rfl, _, rfl, by show 4 ≤ sizeLine; decide, fun tt htt => ?_⟩
      simp only [hsp, hpo] at htt ⊢
      obtain ⟨r1, r2, r3⟩ := v.step hp hL0 nlL hzi ((k1216.trans k17).same S18 |>.trans k18) hp18 htt (da := hub + ex) (po := po) (st := sp) ⟨hz, (show 0 ≤ hub + ex by omega), hsp2.1, hsp2.2.1, hsp2.2.2⟩ (by omega)
      have ec : β + 140 + 24 * (i : Int) + 4 + 4 + 4 + 4 + 4 + 4 = β + 140 + 24 * ((i + 1 : Nat) : Int) := by omega
      rw [ec] at r3
      exact ⟨L, _, _, rfl, rfl, r1, r2, _, _, _, _, _, rfl, r3⟩
    · rintro σ H12 ⟨u8, u9, u10, bs, ps, rfl, v⟩
      rw [List.length_map] at v
      exact ⟨_, rfl, _, rfl, by show 2 ≤ sizeLine; decide, fun tt htt => v.done rfl hnd (by omega) n0 nN (by omega) htt q⟩
end
end Pp

end
section
set_option linter.all false
/-! Two rings with the same stops. -/
namespace Rg
open Pp (lexI lexI_irr lexI_tr lexI_as lexI_anti gd_step gd_zero)
def sh (w : Int) : List Int → List Int
  | [] => []
  | x :: r => (x + w) :: r
theorem nth_sh1 {w : Int} {s : List Int} (k : Nat) : nth (sh w s) (k + 1) = nth s (k + 1) := by cases s <;> rfl
theorem nth_sh0 {w : Int} {s : List Int} (h : s ≠ []) : nth (sh w s) 0 = nth s 0 + w := by
  cases s with
  | nil => exact absurd rfl h
  | cons x r => rfl
theorem lex_sh (w : Int) : ∀ s t : List Int, lexI (sh w s) (sh w t) = lexI s t
  | [], [] => rfl
  | [], _ :: _ => rfl
  | _ :: _, [] => rfl
  | x :: r, y :: q => by
    show lexI ((x + w) :: r) ((y + w) :: q) = lexI (x :: r) (y :: q)
    unfold lexI
    by_cases h : x = y
    · subst h
      rw [if_pos rfl, if_pos rfl]
    · rw [if_neg h, if_neg (by omega)]
      rw [Bool.eq_iff_iff, decide_eq_true_iff, decide_eq_true_iff]
      omega
structure Like (C C' : Cf) (w : Int) : Prop where
  m : C'.m = C.m
  day : ∀ i, i < C.m → (C'.at i).day = (C.at i).day + w
  cand : ∀ lim i j, i < C.m → j < C.m → cand C' lim i j = cand C lim i j
theorem Like.mem {C C' : Cf} {w : Int} (L : Like C C' w) {lim : List (Option Int)} {z : List Int} : z ∈ stopL C' lim ↔ ∃ s ∈ stopL C lim, z = sh w s := by
  rw [mem_stop]
  constructor
  · rintro ⟨i, j, c, hi, hj, hl, hc, rfl⟩
    have hi : i < C'.m := hi
    have hj : j < C'.m := hj
    rw [L.m] at hi hj
    rw [L.cand lim i j hi hj] at hc
    refine ⟨_, mem_stop.mpr ⟨i, j, c, hi, hj, hl, hc, rfl⟩, ?_⟩
    rw [L.day i hi]
    show _ = [(C.at i).day + c + w, (i : Int), c, (j : Int)]
    congr 1
    omega
  · rintro ⟨s, hs, rfl⟩
    obtain ⟨i, j, c, hi, hj, hl, hc, rfl⟩ := mem_stop.mp hs
    refine ⟨i, j, c, ?_, ?_, hl, (L.cand lim i j hi hj).trans hc, ?_⟩
    · show i < C'.m
      rw [L.m]; exact hi
    · show j < C'.m
      rw [L.m]; exact hj
    · rw [L.day i hi]
      show [(C.at i).day + c + w, (i : Int), c, (j : Int)] = _
      congr 1
      omega
theorem Like.min {C C' : Cf} {w : Int} (L : Like C C' w) (lim : List (Option Int)) : minL (stopL C' lim) = (minL (stopL C lim)).map (sh w) := by
  refine minL_eq ?_
  have h := minL_ok (stopL C lim)
  cases e : minL (stopL C lim) with
  | none =>
    rw [e] at h
    have h : stopL C lim = [] := h
    show stopL C' lim = []
    rw [List.eq_nil_iff_forall_not_mem]
    intro z hz
    obtain ⟨s, hs, _⟩ := L.mem.mp hz
    rw [h] at hs
    cases hs
  | some y =>
    rw [e] at h
    refine ⟨L.mem.mpr ⟨y, h.1, rfl⟩, fun z hz => ?_⟩
    obtain ⟨s, hs, rfl⟩ := L.mem.mp hz
    rw [lex_sh]
    exact h.2 s hs
theorem put_sh {w : Int} {lim : List (Option Int)} {s : List Int} : put lim (sh w s) = put lim s := by
  unfold put
  rw [nth_sh1 0, nth_sh1 1]
theorem Like.run {C C' : Cf} {w : Int} (L : Like C C' w) : ∀ (k : Nat) (lim : List (Option Int)), runS C' k lim = (runS C k lim).map (sh w)
  | 0, _ => rfl
  | k + 1, lim => by
    unfold runS
    rw [L.min lim]
    cases minL (stopL C lim) with
    | none => rfl
    | some s =>
      show sh w s :: runS C' k (put lim (sh w s)) = sh w s :: (runS C k (put lim s)).map (sh w)
      rw [put_sh, L.run k]
theorem Like.stops {C C' : Cf} {w : Int} (L : Like C C' w) : Rg.stops C' = (Rg.stops C).map (sh w) := by
  unfold Rg.stops
  have hm : C'.m = C.m := L.m
  rw [hm, L.run]
theorem Like.stopOf {C C' : Cf} {w : Int} (L : Like C C' w) (hn : 0 < C'.n) {i : Nat} (h : i < C.m) : Rg.stopOf C' i = sh w (Rg.stopOf C i) := by
  obtain ⟨h1, h2⟩ := stopOf_mem h
  refine stopOf_eq hn ?_ ((nth_sh1 0).trans h2) (by show i < C'.m; rw [L.m]; exact h)
  rw [L.stops]
  exact List.mem_map.mpr ⟨_, h1, rfl⟩
/-! ### a unit -/
theorem dvd_modl {n a b u : Int} (h : n ∣ a - u * b) : n ∣ a % n - u * (b % n) := by
  have h1 := Int.mul_ediv_add_emod a n
  have h2 := Int.mul_ediv_add_emod b n
  obtain ⟨k, hk⟩ := h
  exact ⟨k - a / n + u * (b / n), by grind⟩
theorem like_unit {n u k w : Int} {ps ps' : List Wk} (hn : 0 < n) (hu : gd u n = 1) (hl : ps'.length = ps.length)
    (hd : ∀ i, i < ps.length → (Cf.at ⟨n, ps'⟩ i).day = (Cf.at ⟨n, ps⟩ i).day + w) (hs : ∀ i, i < ps.length → n ∣ (Cf.at ⟨n, ps'⟩ i).stride - u * (Cf.at ⟨n, ps⟩ i).stride)
    (hp : ∀ i, i < ps.length → n ∣ (Cf.at ⟨n, ps'⟩ i).post - (u * (Cf.at ⟨n, ps⟩ i).post + k)) : Like ⟨n, ps⟩ ⟨n, ps'⟩ w := by
  refine ⟨hl, hd, fun lim i j hi hj => ?_⟩
  have hi : i < ps.length := hi
  have hj : j < ps.length := hj
  unfold cand
  by_cases h : i = j
  · subst h
    rw [if_pos rfl, if_pos rfl]
    have : gd ((Cf.at ⟨n, ps'⟩ i).stride % n) n = gd ((Cf.at ⟨n, ps⟩ i).stride % n) n := gd_cong hu (dvd_modl (hs i hi))
    show some (n / gd ((Cf.at ⟨n, ps'⟩ i).stride % n) n) = some (n / gd ((Cf.at ⟨n, ps⟩ i).stride % n) n)
    rw [this]
  · rw [if_neg h, if_neg h]
    show fbC n (Cf.at ⟨n, ps'⟩ i) (Cf.at ⟨n, ps'⟩ j) _ _ = fbC n (Cf.at ⟨n, ps⟩ i) (Cf.at ⟨n, ps⟩ j) _ _
    have r1 := rcC_ok hn (Cf.at ⟨n, ps⟩ i) (Cf.at ⟨n, ps⟩ j)
    have r2 := rcC_ok hn (Cf.at ⟨n, ps'⟩ i) (Cf.at ⟨n, ps'⟩ j)
    unfold IsRC at r1 r2
    have ed : (Cf.at ⟨n, ps'⟩ i).day - (Cf.at ⟨n, ps'⟩ j).day = (Cf.at ⟨n, ps⟩ i).day - (Cf.at ⟨n, ps⟩ j).day := by rw [hd i hi, hd j hj]; omega
    rw [ed] at r2
    refine fb_uniq (RCS.uniq hn r1 r2 hu ?_ (dvd_modl (hs i hi)) (dvd_modl (hs j hj))) _ _
    obtain ⟨x, hx⟩ := hp i hi
    obtain ⟨y, hy⟩ := hp j hj
    exact ⟨x - y, by grind⟩
/-! ### twice the size -/
theorem like_twice {n : Int} {ps ps' : List Wk} (hn : 0 < n) (hl : ps'.length = ps.length)
    (hd : ∀ i, i < ps.length → Cf.at ⟨2 * n, ps'⟩ i = ⟨(Cf.at ⟨n, ps⟩ i).day, (Cf.at ⟨n, ps⟩ i).post * 2, (Cf.at ⟨n, ps⟩ i).stride * 2⟩) : Like ⟨n, ps⟩ ⟨2 * n, ps'⟩ 0 := by
  have em : ∀ x : Int, (x * 2) % (2 * n) = 2 * (x % n) := fun x => by rw [Int.mul_comm x, Int.mul_emod_mul_of_pos _ _ (by decide)]
  refine ⟨hl, fun i hi => by rw [hd i hi]; simp, fun lim i j hi hj => ?_⟩
  have hi : i < ps.length := hi
  have hj : j < ps.length := hj
  unfold cand
  by_cases h : i = j
  · subst h
    rw [if_pos rfl, if_pos rfl]
    show some (2 * n / gd ((Cf.at ⟨2 * n, ps'⟩ i).stride % (2 * n)) (2 * n)) = some (n / gd ((Cf.at ⟨n, ps⟩ i).stride % n) n)
    rw [hd i hi]
    simp only []
    rw [em, gd_scale (by decide), div_scale (by decide)]
  · rw [if_neg h, if_neg h]
    show fbC (2 * n) (Cf.at ⟨2 * n, ps'⟩ i) (Cf.at ⟨2 * n, ps'⟩ j) _ _ = fbC n (Cf.at ⟨n, ps⟩ i) (Cf.at ⟨n, ps⟩ j) _ _
    have r2 := rcC_ok (show 0 < 2 * n by omega) (Cf.at ⟨2 * n, ps'⟩ i) (Cf.at ⟨2 * n, ps'⟩ j)
    have r3 : IsRC n (Cf.at ⟨n, ps⟩ i) (Cf.at ⟨n, ps⟩ j) (rcC (2 * n) (Cf.at ⟨2 * n, ps'⟩ i) (Cf.at ⟨2 * n, ps'⟩ j)) := by
      unfold IsRC at r2 ⊢
      generalize rcC (2 * n) (Cf.at ⟨2 * n, ps'⟩ i) (Cf.at ⟨2 * n, ps'⟩ j) = r at r2 ⊢
      rw [hd i hi, hd j hj] at r2
      simp only [] at r2
      rw [em, em] at r2
      have eg : (Cf.at ⟨n, ps⟩ i).post * 2 - (Cf.at ⟨n, ps⟩ j).post * 2 = 2 * ((Cf.at ⟨n, ps⟩ i).post - (Cf.at ⟨n, ps⟩ j).post) := by omega
      rw [eg] at r2
      exact RCS.scaled (by decide) r2
    exact fbC_eq hn r3 _ _
end Rg

end
section
set_option Elab.async false
set_option linter.all false
/-! The rows of a changed ring. -/
namespace Pp
open PySem PySem.Spec PyProof.Rows L2 Rg
theorem at_wkP {n : Int} {ps : List Pt} {i : Nat} {p : Pt} (h : ps[i]? = some p) : (Cf.mk n (ps.map wkOf)).at i = wkOf p := by
  unfold Cf.at
  show (ps.map wkOf).getD i _ = _
  rw [List.getD_eq_getElem?_getD, List.getElem?_map, h]
  rfl
theorem stop_form {C : Cf} (hn : 0 < C.n) {i : Nat} (h : i < C.m) : ∃ j c day, j < C.m ∧ Rg.stopOf C i = [day, (i : Int), c, ((j : Nat) : Int)] := by
  obtain ⟨h1, h2⟩ := stopOf_mem h
  obtain ⟨i', j, c, hi, hj, _, _, e⟩ := stops_mem hn h1
  rw [e] at h2 ⊢
  have h2 : (i' : Int) = (i : Int) := h2
  exact ⟨j, c, _, hj, by rw [h2]⟩
theorem nm_getD {ps ps' : List Pt} (h : ps'.map Pt.name = ps.map Pt.name) (k : Nat) : (ps'.getD k ⟨"", 0, 0, 0⟩).name = (ps.getD k ⟨"", 0, 0, 0⟩).name := by
  have e : ∀ qs : List Pt, (qs.getD k ⟨"", 0, 0, 0⟩).name = (qs.map Pt.name).getD k "" := fun qs => by
    rw [List.getD_eq_getElem?_getD, List.getD_eq_getElem?_getD, List.getElem?_map]
    cases qs[k]? <;> rfl
  rw [e, e, h]
theorem rows_like {n n' w : Int} {ps ps' : List Pt} {g : Row → Row} (hn : 0 < n) (hn' : 0 < n') (hm : ps'.map Pt.name = ps.map Pt.name) (L : Like ⟨n, ps.map wkOf⟩ ⟨n', ps'.map wkOf⟩ w)
    (hg : ∀ (i : Nat) (p p' : Pt) (day c : Int) (b : Str), ps[i]? = some p → ps'[i]? = some p' → g ⟨p.name, c, day, (p.post + c * p.stride) % n, b⟩ = ⟨p'.name, c, day + w, (p'.post + c * p'.stride) % n', b⟩) :
    rowsOf ⟨n', ps'.map wkOf⟩ ps' = (rowsOf ⟨n, ps.map wkOf⟩ ps).map g := by
  have hl : ps'.length = ps.length := by have := congrArg List.length hm; rwa [List.length_map, List.length_map] at this
  refine List.ext_getElem? fun i => ?_
  rw [List.getElem?_map]
  by_cases hi : i < ps.length
  · have e1 := List.getElem?_eq_getElem hi
    have e2 := List.getElem?_eq_getElem (show i < ps'.length by omega)
    rw [rowsOf_at e1, rowsOf_at e2]
    have him : i < (Cf.mk n (ps.map wkOf)).m := by rw [Cf.m, List.length_map]; exact hi
    obtain ⟨j, c, day, _, es⟩ := stop_form (C := ⟨n, ps.map wkOf⟩) hn him
    have es' := L.stopOf hn' him
    rw [es] at es'
    unfold rowOf
    rw [es, es']
    show some (Row.mk ps'[i].name c (day + w) ((ps'[i].post + c * ps'[i].stride) % n') (ps'.getD ((j : Nat) : Int).toNat ⟨"", 0, 0, 0⟩).name) = some (g (Row.mk ps[i].name c day ((ps[i].post + c * ps[i].stride) % n) (ps.getD ((j : Nat) : Int).toNat ⟨"", 0, 0, 0⟩).name))
    rw [hg i _ _ day c _ e1 e2, nm_getD hm]
  · rw [List.getElem?_eq_none (by rw [rowsOf_len]; omega), List.getElem?_eq_none (by rw [rowsOf_len]; omega)]
    rfl
theorem mod_eq {n a b : Int} (h : n ∣ a - b) : a % n = b % n := Int.emod_eq_emod_iff_emod_sub_eq_zero.mpr (Int.emod_eq_zero_of_dvd h)
/-- moved, mirrored, set far, multiplied -/
theorem rows_unit {n u k w : Int} {ps ps' : List Pt} (hn : 0 < n) (hu : gd u n = 1) (hm : ps'.map Pt.name = ps.map Pt.name)
    (hc : ∀ (i : Nat) (p p' : Pt), ps[i]? = some p → ps'[i]? = some p' → p'.day = p.day + w ∧ n ∣ p'.stride - u * p.stride ∧ n ∣ p'.post - (u * p.post + k)) :
    rowsOf ⟨n, ps'.map wkOf⟩ ps' = (rowsOf ⟨n, ps.map wkOf⟩ ps).map (sentR u k w n) := by
  have hl : ps'.length = ps.length := by have := congrArg List.length hm; rwa [List.length_map, List.length_map] at this
  have get : ∀ i, i < (ps.map wkOf).length → ∃ p p', ps[i]? = some p ∧ ps'[i]? = some p' := fun i hi => by
    rw [List.length_map] at hi
    exact ⟨_, _, List.getElem?_eq_getElem hi, List.getElem?_eq_getElem (show i < ps'.length by omega)⟩
  refine rows_like (w := w) hn hn hm (like_unit (u := u) (k := k) (w := w) hn hu (by rw [List.length_map, List.length_map, hl]) (fun i hi => ?_) (fun i hi => ?_) (fun i hi => ?_)) (fun i p p' day c b e1 e2 => ?_)
  · obtain ⟨p, p', e1, e2⟩ := get i hi
    rw [at_wkP e1, at_wkP e2]
    exact (hc i p p' e1 e2).1
  · obtain ⟨p, p', e1, e2⟩ := get i hi
    rw [at_wkP e1, at_wkP e2]
    exact (hc i p p' e1 e2).2.1
  · obtain ⟨p, p', e1, e2⟩ := get i hi
    rw [at_wkP e1, at_wkP e2]
    exact (hc i p p' e1 e2).2.2
  · have hnm : p'.name = p.name := by
      have := congrArg (fun l => l[i]?) hm
      simp only [List.getElem?_map, e1, e2] at this
      exact Option.some.inj this
    obtain ⟨_, ⟨x, hx⟩, ⟨y, hy⟩⟩ := hc i p p' e1 e2
    unfold sentR
    simp only []
    rw [hnm]
    have : (u * ((p.post + c * p.stride) % n) + k) % n = (p'.post + c * p'.stride) % n := by
      refine mod_eq ?_
      have h2 := Int.mul_ediv_add_emod (p.post + c * p.stride) n
      exact ⟨-y - c * x - u * ((p.post + c * p.stride) / n), by grind⟩
    rw [this]
theorem rows_twice {n : Int} {ps ps' : List Pt} (hn : 0 < n) (e : ps' = ps.map (widP 2)) :
    rowsOf ⟨2 * n, ps'.map wkOf⟩ ps' = (rowsOf ⟨n, ps.map wkOf⟩ ps).map (sentR 2 0 0 (2 * n)) := by
  subst e
  refine rows_like hn (by omega) (by rw [List.map_map]; rfl) (like_twice hn (by rw [List.length_map, List.length_map, List.length_map]) fun i hi => ?_) fun i p p' day c b e1 e2 => ?_
  · rw [List.length_map] at hi
    have e1 := List.getElem?_eq_getElem hi
    have e2 : (ps.map (widP 2))[i]? = some (widP 2 ps[i]) := by rw [List.getElem?_map, e1]; rfl
    rw [at_wkP (n := n) e1, at_wkP (n := 2 * n) e2]
    rfl
  · rw [List.getElem?_map, e1] at e2
    have e2 := Option.some.inj e2
    subst e2
    unfold sentR widP
    simp only []
    have h1 : (p.post * 2 + c * (p.stride * 2)) = 2 * (p.post + c * p.stride) := by grind
    rw [h1, Int.mul_emod_mul_of_pos _ _ (by decide), Int.add_zero, Int.add_zero, Int.mul_emod_mul_of_pos _ _ (by decide), Int.emod_emod]
/-- nothing said -/
theorem rows_same {n : Int} {ps : List Pt} (hn : 0 < n) : (rowsOf ⟨n, ps.map wkOf⟩ ps).map (sentR 1 0 0 n) = rowsOf ⟨n, ps.map wkOf⟩ ps := by
  unfold rowsOf
  rw [List.map_map]
  refine List.map_congr_left fun q _ => ?_
  show sentR 1 0 0 n (rowOf _ ps q.2 q.1) = rowOf _ ps q.2 q.1
  unfold sentR rowOf
  simp only []
  rw [Int.one_mul, Int.add_zero, Int.add_zero, Int.emod_emod]
end Pp

end
section
set_option Elab.async false
set_option linter.all false
set_option maxRecDepth 100000
set_option maxHeartbeats 4000000
/-! A ring's rows, shown. -/
namespace Pp
open PySem PySem.Spec PyProof.Rows L2 StX Rg NdefX LamX
theorem day_ok {ps : List Pt} (h : ∀ p ∈ ps, PtOk p) : DayOk ps := fun p hp q hq => by
  have a := h p hp
  have b := h q hq
  have a0 := a.d0
  have a1 := a.d1
  have b0 := b.d0
  have b1 := b.d1
  have e : (1000000000000000000000000000000 : Int) < 2 ^ 110 := by decide
  omega
theorem nm_fit {z : Str} (h : NmOk z) : z.length ≤ 8 ∧ ∀ c ∈ z.cps.toList, c < 128 := ⟨h.2.1, fun c hc => by have := h.2.2 c hc; omega⟩
theorem rows_fitP {n : Int} {ps : List Pt} (hn : 0 < n) (hn2 : n < 2 ^ 62) (h : ∀ p ∈ ps, PtOk p) : ∀ r ∈ rowsOf ⟨n, ps.map wkOf⟩ ps, RowFit r := fun r hr => by
  obtain ⟨i, hi⟩ := List.mem_iff_getElem?.mp hr
  have hil : i < ps.length := by
    have := (List.getElem?_eq_some_iff.mp hi).1
    rwa [rowsOf_len] at this
  have e1 := List.getElem?_eq_getElem hil
  rw [rowsOf_at e1] at hi
  have him : i < (Cf.mk n (ps.map wkOf)).m := by rw [Cf.m, List.length_map]; exact hil
  obtain ⟨h1, h2⟩ := stopOf_mem him
  obtain ⟨i', j, c, hi', hj', c0, c1, es⟩ := stops_mem (C := ⟨n, ps.map wkOf⟩) hn h1
  rw [es] at h2
  have e2 : (i' : Int) = (i : Int) := h2
  have e3 : i' = i := by omega
  subst e3
  rw [at_wkP e1] at es
  have hjl : j < ps.length := by rw [Cf.m, List.length_map] at hj'; exact hj'
  have c1 : c ≤ n := c1
  have p1 := h _ (List.getElem_mem hil)
  have p2 := h _ (List.getElem_mem hjl)
  have q1 := nm_fit p1.name
  have q2 := nm_fit p2.name
  have d0 := p1.d0
  have d1 := p1.d1
  have hr := (Option.some.inj hi).symm
  unfold rowOf at hr
  rw [es] at hr
  have ej : ((j : Nat) : Int).toNat = j := by omega
  have hr : r = ⟨ps[i'].name, c, ps[i'].day + c, (ps[i'].post + c * ps[i'].stride) % n, (ps.getD ((j : Nat) : Int).toNat ⟨"", 0, 0, 0⟩).name⟩ := hr
  rw [ej, List.getD_eq_getElem?_getD, List.getElem?_eq_getElem hjl] at hr
  have m0 := Int.emod_nonneg (ps[i'].post + c * ps[i'].stride) (show n ≠ 0 by omega)
  have m1 := Int.emod_lt_of_pos (ps[i'].post + c * ps[i'].stride) hn
  rw [hr]
  refine ⟨q1.1, q2.1, ?_, ?_, ?_, q1.2, q2.2⟩
  · show c.natAbs < 10 ^ 40
    omega
  · show (ps[i'].day + c).natAbs < 10 ^ 40
    omega
  · show ((ps[i'].post + c * ps[i'].stride) % n).natAbs < 10 ^ 40
    generalize (ps[i'].post + c * ps[i'].stride) % n = x at m0 m1 ⊢
    omega
theorem rows_dpA {K : PySem.W.Frag} {H : Hp} : ∀ {as : List Addr} {rs : List Row}, RowsL H as rs → DpAll K H (as.map V.ref) (rs.map rowD)
  | [], [], _ => .nil
  | [], _ :: _, h => by have := h.len; cases this
  | _ :: _, [], h => by have := h.len; cases this
  | a :: as, r :: rs, h => by
    obtain ⟨hh, h1, h2⟩ := h.at_ 0 a r rfl rfl
    refine .cons (.tup (SqT.of h1) (.cons (.str _) (.cons (.int _) (.cons (.tup (SqT.of h2) (.cons (.int _) (.cons (.int _) (.cons (.str _) .nil)))) .nil)))) (rows_dpA ⟨?_, fun k b q e1 e2 => h.at_ (k + 1) b q e1 e2⟩)
    have := h.len
    rw [List.length_cons, List.length_cons] at this
    omega
theorem rows_dp {K : PySem.W.Frag} {H : Hp} {a : Addr} {rs : List Row} (h : RowsAt H a rs) : Dp K H (.ref a) (rowsD rs) := let ⟨_, h1, h2⟩ := h; .tup (SqT.of h1) (rows_dpA h2)
theorem ring_in {K : PySem.W.Frag} {n : Int} {f : Addr} {ps : List Pt} {H2 : Hp} {Q : VK} (hf : FAt K H2 f ps) (ok : FnsOk ps) (n0 : 0 < n) (n1 : n < 2 ^ 62) (okp : ∀ p ∈ ps, PtOk p) (hT : TabsN (TT K) H2)
    (q : ∀ a H', RowsAt H' a (rowsOf ⟨n, ps.map wkOf⟩ ps) → ExtN H2 H' → TabsN (TT K) H' → Q (.ref a) H') :
    ∀ x dx, H2 x = none → H2 dx = none → dx ≠ x → spRing K [.ref x, .int n, .ref f] (upd (upd H2 dx (.own x)) x (.ins (aR K) dx [])) (fun v H3 => v = .non ∧ ∃ a dx fs, V.ref x = .ref a ∧ H3 a = some (.ins (aR K) dx fs) ∧ spRows K [.ref a] H3 Q E0) E0 := by
  intro x dx hx hdx hne
  have S : Same H2 (upd (upd H2 dx (.own x)) x (.ins (aR K) dx [])) := fun b o e => by
    rw [upd_ne (ne_of_none e hx), upd_ne (ne_of_none e hdx)]
    exact e
  refine ⟨x, dx, f, n, ps, rfl, upd_same, hf.same S, ok, n0, n1, day_ok okp, hT.ext S, fun H' hR k hT' => ⟨rfl, ?_⟩⟩
  obtain ⟨dx2, t, d1, d2, f2, k1, k2, h1, h2⟩ := id hR
  refine ⟨x, dx2, _, rfl, h1, x, ⟨n, ps.map wkOf⟩, ps, rfl, hR, rfl, n0, ok.len, fun a H'' hrows S2 => q a H'' hrows (fun b o e t => ?_) (hT'.ext S2)⟩
  exact S2 _ _ (k b o (ne_of_none e hx) (S _ _ e) t)
theorem repr_in {K : PySem.W.Frag} {H : Hp} {a : Addr} {rs : List Row} {Q : VK} (h : RowsAt H a rs) (fit : ∀ r ∈ rs, RowFit r) (hl : rs.length ≤ 8) (q : Q (.str (rowsD rs).shown) H) :
    ∃ (a' : Addr) (d : PyData), [V.ref a] = [.ref a'] ∧ Dp K H (.ref a') d ∧ d.showable = true ∧ d.hasDict = false ∧ d.shown.length ≤ sizeLine ∧ d.depth ≤ 60 ∧ Q (.str d.shown) H := by
  obtain ⟨f1, f2, f3, f4⟩ := rowsD_fit fit (by omega)
  exact ⟨a, _, rfl, rows_dp h, f1, f2, f3, f4, q⟩
end Pp

end
section
set_option Elab.async false
set_option linter.all false
set_option maxRecDepth 100000
set_option maxHeartbeats 4000000
/-! What stands while the law takes a turn. -/
namespace Pp
open PySem PySem.Spec PyProof.Rows L2 StX Rg NdefX LamX
variable {K : PySem.W.Frag}
theorem tabs_kp {d : Addr} {H H' : Hp} {kv : List (Key × V)} (t : TabsN (TT K) H) (k : Kp d H H') (hd : H d = some (.dK kv)) : TabsN (TT K) H' := fun p hp => by
  obtain ⟨ps', a1, a2, a3⟩ := t p hp
  refine ⟨ps', k _ _ (fun z => ?_) a1, a2, fun pos cv hc => ?_⟩
  · rw [z, hd] at a1
    cases a1
  · obtain ⟨c, e1, e2⟩ := a3 pos cv hc
    refine ⟨c, e1, k _ _ (fun z => ?_) e2⟩
    rw [z, hd] at e2
    cases e2
theorem FAt.kp {d f : Addr} {H H' : Hp} {β : Int} {ps : List Pt} (h : FAt K H f ps) (k : Kp d H H') (p : PenAt H d β) : FAt K H' f ps := by
  obtain ⟨c, ns, b, r, hd, _⟩ := p
  obtain ⟨lt, as, dx, pl, h1, h2, h3, h4⟩ := h
  refine ⟨lt, as, dx, pl, k _ _ (fun z => ?_) h1, k _ _ (fun z => ?_) h2, ⟨h3.1, fun i a q e1 e2 => ?_⟩, k _ _ (fun z => ?_) h4⟩
  · rw [z, hd] at h1; cases h1
  · rw [z, hd] at h2; cases h2
  · obtain ⟨dx2, t2, g1, g2⟩ := h3.2 i a q e1 e2
    exact ⟨dx2, t2, k _ _ (fun z => by rw [z, hd] at g1; cases g1) g1, k _ _ (fun z => by rw [z, hd] at g2; cases g2) g2⟩
  · rw [z, hd] at h4
    have h5 : penK c b r = nmKvs ps := by
      have := Option.some.inj h4
      injection this
    cases ps with
    | nil => cases h5
    | cons q qs =>
      have h6 := congrArg (fun l : List (Key × V) => l.head?.map Prod.snd) h5
      have h7 : some (V.ref c) = some (V.int 0) := h6
      cases h7
structure LS (K : PySem.W.Frag) (H : Hp) (d : Addr) (β : Int) (l f ra : Addr) (n : Int) (ps : List Pt) : Prop where
  pen : PenAt H d β
  tab : TabsN (TT K) H
  ts : TsAt H l ps
  fe : FAt K H f ps
  rw : RowsAt H ra (rowsOf ⟨n, ps.map wkOf⟩ ps)
theorem LS.ext {H H' : Hp} {d l f ra : Addr} {β n : Int} {ps : List Pt} (s : LS K H d β l f ra n ps) (e : ExtN H H') (t : TabsN (TT K) H') : LS K H' d β l f ra n ps := ⟨s.pen.extN e, t, s.ts.extN e, s.fe.extN e, s.rw.extN e⟩
theorem LS.same {H H' : Hp} {d l f ra : Addr} {β n : Int} {ps : List Pt} (s : LS K H d β l f ra n ps) (e : Same H H') : LS K H' d β l f ra n ps := s.ext (SameN e) (s.tab.ext e)
theorem LS.kq {H H' : Hp} {d l f ra : Addr} {β γ n : Int} {ps : List Pt} (s : LS K H d β l f ra n ps) (k : Kq d H H') (p : PenAt H' d γ) : LS K H' d γ l f ra n ps := by
  obtain ⟨kv, hd⟩ := s.pen.dk
  exact ⟨p, tabs_kp s.tab k.kp hd, s.ts.kp k.kp hd, s.fe.kp k.kp s.pen, s.rw.tups fun a xs q => k.kp _ _ (fun z => by rw [z, hd] at q; cases q) q⟩
/-- what the law's painters are -/
structure PtN (n : Int) (p : Pt) : Prop where
  name : NmOk p.name
  d0 : 0 ≤ p.day
  d1 : p.day ≤ 10 ^ 28
  p0 : 0 ≤ p.post
  p1 : p.post < n
  ne : p.stride ≠ 0
  lo : -(2 * n) ≤ p.stride
  hi : p.stride ≤ 2 * n
structure LP (n : Int) (ps : List Pt) : Prop where
  n0 : 0 < n
  nN : n ≤ 120 * 10 ^ 15
  ok : FnsOk ps
  pt : ∀ p ∈ ps, PtN n p
theorem PtN.ok {n : Int} {p : Pt} (h : PtN n p) (nN : n ≤ 120 * 10 ^ 15) : PtOk p := by
  obtain ⟨a, b, c, d, e, f, g, i⟩ := h
  exact ⟨a, b, by omega, by omega, by omega, by omega, by omega, f⟩
theorem LP.okp {n : Int} {ps : List Pt} (h : LP n ps) : ∀ p ∈ ps, PtOk p := fun p hp => (h.pt p hp).ok h.nN
def rawP (n : Int) (p : Pt) : Pt := ⟨p.name, min p.day (10 ^ 28), p.post % n, p.stride⟩
theorem lp_raw {n : Int} {ps : List Pt} (n0 : 0 < n) (nN : n ≤ 120 * 10 ^ 15) (ok : FnsOk ps) (h : ∀ p ∈ ps, PtRaw n p) : LP n (ps.map (rawP n)) := by
  refine ⟨n0, nN, fns_map ok fun _ => rfl, fun q hq => ?_⟩
  obtain ⟨p, hp, rfl⟩ := List.mem_map.mp hq
  obtain ⟨a, b, c, d, e⟩ := h p hp
  have m0 := Int.emod_nonneg p.post (show n ≠ 0 by omega)
  have m1 := Int.emod_lt_of_pos p.post n0
  exact ⟨a, (show 0 ≤ min p.day (10 ^ 28) by omega), (show min p.day (10 ^ 28) ≤ 10 ^ 28 by omega), m0, m1, c, d, e⟩
theorem mov_ok {n po wt : Int} {ps : List Pt} (h : LP n ps) (p0 : -(10 ^ 25) ≤ po) (p1 : po ≤ 10 ^ 25) (w0 : 0 ≤ wt) (w1 : wt < 10 ^ 27) : ∀ p ∈ ps, PtOk (movP po wt p) := fun p hp => by
  obtain ⟨a, b, c, d, e, f, g, i⟩ := h.pt p hp
  have nN := h.nN
  unfold movP
  exact ⟨a, by simp only []; omega, by simp only []; omega, by simp only []; omega, by simp only []; omega, by simp only []; omega, by simp only []; omega, f⟩
theorem neg_ok {n : Int} {ps : List Pt} (h : LP n ps) : ∀ p ∈ ps, PtOk (negP p) := fun p hp => by
  obtain ⟨a, b, c, d, e, f, g, i⟩ := h.pt p hp
  have nN := h.nN
  unfold negP
  exact ⟨a, by simp only []; omega, by simp only []; omega, by simp only []; omega, by simp only []; omega, by simp only []; omega, by simp only []; omega, by simp only []; omega⟩
theorem wid_ok {n : Int} {ps : List Pt} (h : LP n ps) : ∀ p ∈ ps, PtOk (widP 2 p) := fun p hp => by
  obtain ⟨a, b, c, d, e, f, g, i⟩ := h.pt p hp
  have nN := h.nN
  unfold widP
  exact ⟨a, by simp only []; omega, by simp only []; omega, by simp only []; omega, by simp only []; omega, by simp only []; omega, by simp only []; omega, by simp only []; omega⟩
def mulP (n u : Int) (p : Pt) : Pt := ⟨p.name, p.day, (p.post * u) % n, (p.stride * u) % n + n⟩
theorem mul_ok {n u : Int} {ps : List Pt} (h : LP n ps) : ∀ p ∈ ps, PtOk (mulP n u p) := fun p hp => by
  obtain ⟨a, b, c, d, e, f, g, i⟩ := h.pt p hp
  have nN := h.nN
  have n0 := h.n0
  have m0 := Int.emod_nonneg (p.post * u) (show n ≠ 0 by omega)
  have m1 := Int.emod_lt_of_pos (p.post * u) n0
  have s0 := Int.emod_nonneg (p.stride * u) (show n ≠ 0 by omega)
  have s1 := Int.emod_lt_of_pos (p.stride * u) n0
  unfold mulP
  generalize (p.post * u) % n = x at m0 m1 ⊢
  generalize (p.stride * u) % n = y at s0 s1 ⊢
  exact ⟨a, by simp only []; omega, by simp only []; omega, by simp only []; omega, by simp only []; omega, by simp only []; omega, by simp only []; omega, by simp only []; omega⟩
structure FarOf (n : Int) (p q : Pt) : Prop where
  name : q.name = p.name
  day : q.day = p.day
  stride : q.stride = p.stride
  post : ∃ v : Int, -9 ≤ v ∧ v ≤ 9 ∧ q.post = p.post + n * v
/-- lists alike, place by place -/
def FarL (n : Int) (ps qs : List Pt) : Prop := qs.length = ps.length ∧ ∀ (k : Nat) (p q : Pt), ps[k]? = some p → qs[k]? = some q → FarOf n p q
theorem FarL.names {n : Int} {ps qs : List Pt} (h : FarL n ps qs) : qs.map Pt.name = ps.map Pt.name := by
  refine List.ext_getElem? fun k => ?_
  rw [List.getElem?_map, List.getElem?_map]
  by_cases hk : k < ps.length
  · have e1 := List.getElem?_eq_getElem hk
    have e2 := List.getElem?_eq_getElem (show k < qs.length by rw [h.1]; exact hk)
    rw [e1, e2]
    exact congrArg some (h.2 k _ _ e1 e2).name
  · rw [List.getElem?_eq_none (by have := h.1; omega), List.getElem?_eq_none (by have := h.1; omega)]
theorem FarL.fns {n : Int} {ps qs : List Pt} (h : FarL n ps qs) (ok : FnsOk ps) : FnsOk qs := ⟨by rw [h.names]; exact ok.nd, by rw [h.1]; exact ok.len⟩
theorem FarL.ok {n : Int} {ps qs : List Pt} (h : FarL n ps qs) (L : LP n ps) : ∀ p ∈ qs, PtOk p := fun q hq => by
  obtain ⟨k, hk⟩ := List.mem_iff_getElem?.mp hq
  have hkl : k < ps.length := by rw [← h.1]; exact (List.getElem?_eq_some_iff.mp hk).1
  have e1 := List.getElem?_eq_getElem hkl
  obtain ⟨f1, f2, f3, v, v0, v1, f4⟩ := h.2 k _ _ e1 hk
  obtain ⟨a, b, c, d, e, f, g, i⟩ := L.pt _ (List.getElem_mem hkl)
  have nN := L.nN
  have n0 := L.n0
  have m1 : n * v ≤ n * 9 := Int.mul_le_mul_of_nonneg_left v1 (by omega)
  have m2 : n * (-9) ≤ n * v := Int.mul_le_mul_of_nonneg_left v0 (by omega)
  exact ⟨by rw [f1]; exact a, by omega, by omega, by omega, by omega, by omega, by omega, by omega⟩
end Pp

end
section
set_option Elab.async false
set_option linter.all false
set_option maxRecDepth 100000
set_option maxHeartbeats 4000000
/-! The law's text. -/
namespace Pp
open PySem PySem.Spec PyProof.Rows L2 StX Rg NdefX LamX
section
variable {P : Program} {w : World} {K : PySem.W.Frag} {mg : Str → Option Value} {base : Heap}
abbrev NLw : List Str := ["_law_script", "_law_pen_here", "_law_turn", "_law_size", "_law_painters", "_law_label", "_law_date", "_law_spot", "_law_speed", "_law_fence_here", "_law_rows", "_law_posts", "_law_wait", "_law_unit_here", "_law_far", "_law_many"]
theorem scLw : FnScope NLw ["_law_script"] (defScope sLaw) := ⟨rfl, rfl, rfl, by decide +kernel, rfl, by decide +kernel, by decide +kernel⟩
theorem pt_map {ps : List Pt} {g : Pt → Pt} (h : ∀ p ∈ ps, PtOk (g p)) : ∀ q ∈ ps.map g, PtOk q := fun q hq => by
  obtain ⟨p, hp, rfl⟩ := List.mem_map.mp hq
  exact h p hp
theorem FarL.snoc {n : Int} {ps qs : List Pt} {k : Nat} {p q : Pt} (h : FarL n (ps.take k) qs) (hp : ps[k]? = some p) (hf : FarOf n p q) : FarL n (ps.take (k + 1)) (qs ++ [q]) := by
  rw [take_snoc hp]
  refine ⟨by rw [List.length_append, List.length_append, h.1]; rfl, fun j a b h1 h2 => ?_⟩
  by_cases hj : j < qs.length
  · rw [List.getElem?_append_left hj] at h2
    rw [List.getElem?_append_left (by rw [← h.1]; exact hj)] at h1
    exact h.2 j a b h1 h2
  · rw [List.getElem?_append_right (by omega)] at h2
    rw [List.getElem?_append_right (by rw [← h.1]; omega)] at h1
    have e : j - qs.length = 0 := by
      have := (List.getElem?_eq_some_iff.mp h2).1
      simp at this
      omega
    rw [e] at h2
    rw [← h.1, e] at h1
    cases h1
    cases h2
    exact hf
def lawFor : Stmt := (defBody sLaw).getD 1 (.Pass ⟨0, 0, 0, 0⟩)
def lawTurn : List Stmt := match lawFor with
  | .For _ _ b _ _ => b
  | _ => []
abbrev LX (P : Program) (w : World) (K : PySem.W.Frag) (mg : Str → Option Value) (base : Heap) (cdv : Value) (A : Around) (outer : List Env) (s : Shared) (H : Hp) (E : XK) : Cx := (cxOf CX0 P w K mg base NLw "law" (defScope sLaw) (ga K "law") cdv A outer s H E).nox
/-- the law's places: the script, the pen, the rest -/
def Sg (a d : Addr) (σ : L2.St) : Prop := ∃ u2 u3 u4 u5 u6 u7 u8 u9 u10 u11 u12 u13 u14 u15, σ = [some (.ref a), some (.ref d), u2, u3, u4, u5, u6, u7, u8, u9, u10, u11, u12, u13, u14, u15]
theorem many_part (T : Tx K mg) (B : Tb K mg base) (PR : PrOk P) (cdv : Value) (A : Around) (outer : List Env) (s : Shared) (H : Hp) (E : XK) (hg : (A.deeper (envOfC "law" (defScope sLaw) s.heap.objs.size (ga K "law") cdv)).guards = some [])
    (hr : Room 13 (A.deeper (envOfC "law" (defScope sLaw) s.heap.objs.size (ga K "law") cdv))) :
    ∃ t, PSs (LX P w K mg base cdv A outer s H E) (lawTurn.drop 9) t ∧ ∀ (Dn : Ends) (a d D f ra D2 : Addr) (β n po wt u : Int) (ps : List Pt) (u2 u5 u6 u7 u8 u15 : Option V) (H0 : Hp), LS K H0 d β D f ra n ps → LP n ps → gd u n = 1 → 1 ≤ u → u ≤ n + 1 →
      (∀ σ' H', Sg a d σ' → PenAt H' d β → TabsN (TT K) H' → Dn.nx σ' H') → t Dn [some (.ref a), some (.ref d), u2, some (.int n), some (.ref D), u5, u6, u7, u8, some (.ref f), some (.ref ra), some (.int po), some (.int wt), some (.int u), some (.ref D2), u15] H0 := by
  have nd := scLw.nd
  have hr4 : Room 4 (A.deeper (envOfC "law" (defScope sLaw) s.heap.objs.size (ga K "law") cdv)) := hr.mono (by decide)
  have hr5 : Room 5 (A.deeper (envOfC "law" (defScope sLaw) s.heap.objs.size (ga K "law") cdv)) := hr.mono (by decide)
  have hr6 : Room 6 (A.deeper (envOfC "law" (defScope sLaw) s.heap.objs.size (ga K "law") cdv)) := hr.mono (by decide)
  have hr7 : Room 7 (A.deeper (envOfC "law" (defScope sLaw) s.heap.objs.size (ga K "law") cdv)) := hr.mono (by decide)
  have hr1 : Room 1 (A.deeper (envOfC "law" (defScope sLaw) s.heap.objs.size (ga K "law") cdv)) := hr.mono (by decide)
  have hr12 : Room 12 (A.deeper (envOfC "law" (defScope sLaw) s.heap.objs.size (ga K "law") cdv)) := hr.mono (by decide)
  have hu : (A.deeper (envOfC "law" (defScope sLaw) s.heap.objs.size (ga K "law") cdv)).units + 64 < cLine := by have := hr.un; omega
  refine ⟨_, pss_cons (ps_set (i := 15) nd rfl (.inl rfl) (pe_lst pa_nil))
      <| pss_cons (ps_for PassesOwn.never rfl (pi_list (pv 4)) (pg_tup rfl (pgs_cons (pg_name (i := 5) nd rfl (.inl rfl)) (pgs_cons (pg_name (i := 6) nd rfl (.inl rfl)) (pgs_cons (pg_name (i := 7) nd rfl (.inl rfl)) (pgs_cons (pg_name (i := 8) nd rfl (.inl rfl)) pgs_nil)))))
        (pss_one (ps_expr (pe_bm PySem.F.plainAttrs_list PySem.F.slot_list_append PySem.F.type_list_append mt_append (pv 15) (pa_cons (pe_tup (pa_cons (pv 5) (pa_cons (pv 6) (pa_cons (pe_op op_modN (pe_callTy call_int1 inName T.z_int (by decide +kernel) (pa_cons (pe_op op_mul (pv 7) (pv 13)) pa_nil)) (pv 3))
          (pa_cons (pe_op op_add (pe_op op_modN (pe_callTy call_int1 inName T.z_int (by decide +kernel) (pa_cons (pe_op op_mul (pv 8) (pv 13)) pa_nil)) (pv 3)) (pv 3)) pa_nil))))) pa_nil)))))
      <| pss_one (ps_if (pt_cmpR op_ne (pe_callB (call_reprD hg hu) inName T.z_repr (by decide +kernel) (pa_cons (pe_propR (pe_makeR T.k_Ring (ok_ring T B PR) hr12 inName T.g_Ring pass0 (pa_cons (pv 3) (pa_cons (pe_fn (ok_lfence T) hr6 inName T.g__law_fence (kpOf T.d_sFence) pass0 (pa_cons (pv 15) pa_nil)) pa_nil))) T.c_Ring T.p_Ring_rows (ok_rows T) hr4) pa_nil))
          (pe_callB (call_reprD hg hu) inName T.z_repr (by decide +kernel) (pa_cons (pe_fn (ok_sent T) hr1 inName T.g__law_sent (kpOf T.d_sSent) pass0 (pa_cons (pv 10) (pa_cons (pv 3) (pa_cons (pe_tup (pa_cons (pv 13) (pa_cons pe_int (pa_cons pe_int pa_nil)))) pa_nil)))) pa_nil)) (by rfl)) (pss_one (ps_ret pe_bl)) pss_nil), ?_⟩
  intro Dn a d D f ra D2 β n po wt u ps u2 u5 u6 u7 u8 u15 H0 st L0 hu1 u0 u1 q
  have n0 := L0.n0
  have nN := L0.nN
  have n62 : n < 2 ^ 62 := by omega
  obtain ⟨bs0, hl0, tp0⟩ := id st.ts
  refine ⟨Nat.zero_le _, fun L hL => ?_⟩
  have S0 := Same.new (o := .lst []) hL
  refine ⟨_, rfl, D, rfl, ⟨_, SqL.of (S0 _ _ hl0)⟩, ?_⟩
  refine for_it walk_list (fun k σ H' => (∃ u5 u6 u7 u8 bs, σ = [some (.ref a), some (.ref d), u2, some (.int n), some (.ref D), u5, u6, u7, u8, some (.ref f), some (.ref ra), some (.int po), some (.int wt), some (.int u), some (.ref D2), some (.ref L)] ∧ H' L = some (.lst (bs.map V.ref)) ∧ TpL H' bs ((ps.take k).map (mulP n u))) ∧ Same H0 H') ⟨⟨_, _, _, _, [], rfl, upd_same, TpL.nil⟩, S0⟩ (fun k σ H' _ h => SqL.of (h.2 _ _ hl0)) ?lp ?_
  case lp =>
    rintro k y σ H1 H2 hk ⟨⟨u5, u6, u7, u8, bs, rfl, hb, hbs⟩, S4⟩ ⟨rfl, e2⟩
    obtain ⟨b, hbi, rfl⟩ := ref_ix e2
    obtain ⟨p, hpi, hpa⟩ := tp0.get hbi
    have w1 := S4 _ _ hpa
    have pn := L0.pt p (List.mem_of_getElem? hpi)
    have pp0 := pn.p0
    have pp1 := pn.p1
    have ps0 := pn.lo
    have ps1 := pn.hi
    refine ⟨b, _, rfl, SqT.of w1, rfl, _, _, rfl, _, _, rfl, _, _, rfl, _, _, rfl, rfl, ?_⟩
    refine ⟨_, rfl, .inl ⟨rfl, _, SqL.of hb⟩, _, rfl, _, rfl, _, rfl, _, rfl, _, _, rfl, rfl, mul64 (by omega) (by omega), .inl ⟨_, rfl, _, rfl, _, _, rfl, rfl, (show n ≠ 0 by omega), ?_⟩⟩
    refine ⟨_, rfl, _, rfl, _, _, rfl, rfl, mul64 (by omega) (by omega), .inl ⟨_, rfl, _, rfl, _, _, rfl, rfl, (show n ≠ 0 by omega), _, rfl, _, _, rfl, rfl, by show 4 ≤ sizeLine; decide, fun tt htt => ?_⟩⟩
    have em1 : (p.post * u).fmod n = (p.post * u) % n := Int.fmod_eq_emod_of_nonneg _ (by omega)
    have em2 : (p.stride * u).fmod n = (p.stride * u) % n := Int.fmod_eq_emod_of_nonneg _ (by omega)
    have S5 := Same.new (o := .tup [.str p.name, .int p.day, .int ((p.post * u).fmod n), .int ((p.stride * u).fmod n + n)]) htt
    have hb5 := S5 _ _ hb
    refine ⟨L, _, _, rfl, rfl, hb5, ?_, ⟨_, _, _, _, bs ++ [tt], rfl, ?_, ?_⟩, ?_⟩
    · have := hbs.len
      rw [List.length_map, this, List.length_map, List.length_take]
      have := L0.ok.len
      exact Nat.lt_of_le_of_lt (show _ ≤ 8 by omega) (by decide)
    · rw [upd_same, List.map_append]; rfl
    · rw [take_mapA hpi]
      have tps : ∀ x xs, (upd H2 tt (.tup [.str p.name, .int p.day, .int ((p.post * u).fmod n), .int ((p.stride * u).fmod n + n)])) x = some (.tup xs) → (upd (upd H2 tt (.tup [.str p.name, .int p.day, .int ((p.post * u).fmod n), .int ((p.stride * u).fmod n + n)])) L (.lst (bs.map V.ref ++ [.ref tt]))) x = some (.tup xs) := fun x xs e => by
        rw [upd_ne (fun z => by rw [z, hb5] at e; cases e)]
        exact e
      refine ((hbs.tups fun x xs e => S5 _ _ e).tups tps).snoc (tps _ _ ?_)
      rw [upd_same, em1, em2]
      rfl
    · intro x o e
      rw [upd_ne (ne_of_none e hL)]
      exact S5 _ _ (S4 _ _ e)
  rintro σ H1 ⟨⟨u5, u6, u7, u8, bs, rfl, hb, hbs⟩, S1⟩
  rw [List.length_map, tp0.len, List.take_length] at hbs
  have st1 := st.same S1
  have tsm : TsAt H1 L (ps.map (mulP n u)) := ⟨bs, hb, hbs⟩
  have okm := fns_map (g := mulP n u) L0.ok fun _ => rfl
  have okp := pt_map (mul_ok (u := u) L0)
  refine ⟨_, rfl, _, rfl, L, _, rfl, tsm, okm, okp, fun fm H2 _ hf2 S2 => ?_⟩
  refine ring_in hf2 okm n0 n62 okp (st1.tab.ext S2) fun r1 H3 hr3 X3 T3 => ?_
  have e1 : rowsOf ⟨n, (ps.map (mulP n u)).map wkOf⟩ (ps.map (mulP n u)) = (rowsOf ⟨n, ps.map wkOf⟩ ps).map (sentR u 0 0 n) := by
    refine rows_unit n0 hu1 (by rw [List.map_map]; rfl) fun k p p' g1 g2 => ?_
    rw [List.getElem?_map, g1] at g2
    have g2 := Option.some.inj g2
    subst g2
    have m1 := Int.mul_ediv_add_emod (p.stride * u) n
    have m2 := Int.mul_ediv_add_emod (p.post * u) n
    refine ⟨by unfold mulP; simp only []; omega, ⟨1 - p.stride * u / n, ?_⟩, ⟨-(p.post * u / n), ?_⟩⟩
    · unfold mulP; simp only []; grind
    · unfold mulP; simp only []; grind
  have fitm := rows_fitP n0 n62 okp
  have st3 := (st1.same S2).ext X3 T3
  obtain ⟨g1, g2, g3, g4⟩ := rowsD_fit fitm (by rw [rowsOf_len, List.length_map]; exact Nat.le_trans L0.ok.len (by decide))
  refine ⟨_, _, rfl, rows_dp hr3, g1, g2, g3, g4, ?_⟩
  refine ⟨_, rfl, _, rfl, _, rfl, by show 3 ≤ sizeLine; decide, fun ch hch => ?_⟩
  have S4 := Same.new (o := .tup [.int u, .int 0, .int 0]) hch
  refine ⟨ra, ch, rowsOf ⟨n, ps.map wkOf⟩ ps, n, u, 0, 0, rfl, (st3.same S4).rw, by rw [rowsOf_len]; exact L0.ok.len, n0, upd_same, by omega, by omega, fun rb H5 hrb S5 => ?_⟩
  have st5 := (st3.same S4).same S5
  rw [← e1] at hrb
  refine ⟨_, _, rfl, rows_dp hrb, g1, g2, g3, g4, ?_⟩
  refine ⟨rfl, _, rfl, iteND (fun h => absurd rfl h) (fun _ => ?_)⟩
  exact q _ _ ⟨_, _, _, _, _, _, _, _, _, _, _, _, _, _, rfl⟩ st5.pen st5.tab
end
end Pp

end
section
set_option Elab.async false
set_option linter.all false
set_option maxRecDepth 100000
set_option maxHeartbeats 4000000
/-! The law's far ring. -/
namespace Pp
open PySem PySem.Spec PyProof.Rows L2 StX Rg NdefX LamX
section
variable {P : Program} {w : World} {K : PySem.W.Frag} {mg : Str → Option Value} {base : Heap}
theorem far_part (T : Tx K mg) (B : Tb K mg base) (PR : PrOk P) (cdv : Value) (A : Around) (outer : List Env) (s : Shared) (H : Hp) (E : XK) (hg : (A.deeper (envOfC "law" (defScope sLaw) s.heap.objs.size (ga K "law") cdv)).guards = some [])
    (hr : Room 13 (A.deeper (envOfC "law" (defScope sLaw) s.heap.objs.size (ga K "law") cdv))) :
    ∃ t, PSs (LX P w K mg base cdv A outer s H E) (lawTurn.drop 7) t ∧ ∀ (Dn : Ends) (a d D f ra : Addr) (β n po wt u : Int) (ps : List Pt) (u2 u5 u6 u7 u8 u14 u15 : Option V) (H0 : Hp), LS K H0 d β D f ra n ps → β ≤ 900000 → LP n ps → gd u n = 1 → 1 ≤ u → u ≤ n + 1 →
      (∀ σ' H', Sg a d σ' → PenAt H' d (β + 40) → TabsN (TT K) H' → Dn.nx σ' H') → t Dn [some (.ref a), some (.ref d), u2, some (.int n), some (.ref D), u5, u6, u7, u8, some (.ref f), some (.ref ra), some (.int po), some (.int wt), some (.int u), u14, u15] H0 := by
  have nd := scLw.nd
  have hr4 : Room 4 (A.deeper (envOfC "law" (defScope sLaw) s.heap.objs.size (ga K "law") cdv)) := hr.mono (by decide)
  have hr5 : Room 5 (A.deeper (envOfC "law" (defScope sLaw) s.heap.objs.size (ga K "law") cdv)) := hr.mono (by decide)
  have hr6 : Room 6 (A.deeper (envOfC "law" (defScope sLaw) s.heap.objs.size (ga K "law") cdv)) := hr.mono (by decide)
  have hr7 : Room 7 (A.deeper (envOfC "law" (defScope sLaw) s.heap.objs.size (ga K "law") cdv)) := hr.mono (by decide)
  have hr1 : Room 1 (A.deeper (envOfC "law" (defScope sLaw) s.heap.objs.size (ga K "law") cdv)) := hr.mono (by decide)
  have hr12 : Room 12 (A.deeper (envOfC "law" (defScope sLaw) s.heap.objs.size (ga K "law") cdv)) := hr.mono (by decide)
  have hu : (A.deeper (envOfC "law" (defScope sLaw) s.heap.objs.size (ga K "law") cdv)).units + 64 < cLine := by have := hr.un; omega
  obtain ⟨t9, h9, r9⟩ := many_part (w := w) T B PR cdv A outer s H E hg hr
  refine ⟨_, pss_cons (ps_setLc (i := 14) (own := [("_law_label", 5), ("_law_date", 6), ("_law_spot", 7), ("_law_speed", 8)]) (g := gTup K 4 (gCons (gName 5) (gCons (gName 6) (gCons (gName 7) (gCons (gName 8) gNil))))) (tt := tYes) rfl nd rfl rfl (sw_true rfl rfl rfl (by decide +kernel)) (pi_list (pv 4)) (blkOk_by (N := NLw) (sc := defScope sLaw) (by decide +kernel))
          (fun _ _ _ _ _ => pg_tup rfl (pgs_cons (pg_name (i := 5) nd rfl (Or.inl rfl) (hf := .inr rfl)) (pgs_cons (pg_name (i := 6) nd rfl (Or.inl rfl) (hf := .inr rfl)) (pgs_cons (pg_name (i := 7) nd rfl (Or.inl rfl) (hf := .inr rfl)) (pgs_cons (pg_name (i := 8) nd rfl (Or.inl rfl) (hf := .inr rfl)) pgs_nil))))) (fun _ _ _ _ _ => pts_nil)
          (fun _ _ _ _ _ => pe_tup (pa_cons (pv 5) (pa_cons (pv 6) (pa_cons (pe_op op_add (pv 7) (pe_op op_mul (pv 3) (pe_fn (ok_around T) hr5 inName T.g__law_around (kpOf T.d_sAround) pass0 (pa_cons (pv 1) (pa_cons pe_int pa_nil))))) (pa_cons (pv 8) pa_nil))))))
      <| pss_cons (ps_if (pt_cmpR op_ne (pe_callB (call_reprD hg hu) inName T.z_repr (by decide +kernel) (pa_cons (pe_propR (pe_makeR T.k_Ring (ok_ring T B PR) hr12 inName T.g_Ring pass0 (pa_cons (pv 3) (pa_cons (pe_fn (ok_lfence T) hr6 inName T.g__law_fence (kpOf T.d_sFence) pass0 (pa_cons (pv 14) pa_nil)) pa_nil))) T.c_Ring T.p_Ring_rows (ok_rows T) hr4) pa_nil))
          (pe_callB (call_reprD hg hu) inName T.z_repr (by decide +kernel) (pa_cons (pv 10) pa_nil)) (by rfl)) (pss_one (ps_ret pe_bl)) pss_nil)
      <| h9, ?_⟩
  intro Dn a d D f ra β n po wt u ps u2 u5 u6 u7 u8 u14 u15 H19 st19 hβ L0 hu1 u0 u1 q
  have n0 := L0.n0
  have nN := L0.nN
  have n62 : n < 2 ^ 62 := by omega
  have fit1 := rows_fitP n0 n62 L0.okp
  have rl : (rowsOf ⟨n, ps.map wkOf⟩ ps).length ≤ 8 := by rw [rowsOf_len]; exact L0.ok.len
  obtain ⟨bs0, hl0, tp0⟩ := id st19.ts
  obtain ⟨kv, hdk⟩ := st19.pen.dk
  have nDd : D ≠ d := fun z => by rw [z, hdk] at hl0; cases hl0
  refine ⟨_, rfl, D, rfl, ⟨_, SqL.of hl0⟩, fun D2 hD2 => ?_⟩
  have nD2 : D2 ≠ d := pen_free st19.pen hD2
  refine lc_it walk_list (fun k H' => ∃ bs qs, H' D2 = some (.lst (bs.map V.ref)) ∧ TpL H' bs qs ∧ FarL n (ps.take k) qs ∧ Kq d H19 H' ∧ PenAt H' d (β + 4 * (k : Int))) ⟨[], [], upd_same, TpL.nil, ⟨rfl, fun k p q h => by simp at h⟩, (Kq.refl d H19).same (Same.new hD2), (st19.pen.same (Same.new hD2)).mono (by omega)⟩ (fun k H' _ ⟨_, _, _, _, _, S, _⟩ => SqL.of (S.kp _ _ nDd hl0)) ?lc2 ?_
  case lc2 =>
    rintro k y H20 H20' hk ⟨bs, qs, hb, hbs, hfar, S4, hpk⟩ ⟨rfl, e2⟩
    obtain ⟨b, hbi, rfl⟩ := ref_ix e2
    obtain ⟨p, hpi, hpa⟩ := tp0.get hbi
    have w1 := S4.kp _ _ (fun z => by rw [TpAt, z, hdk] at hpa; cases hpa) hpa
    have k8 : k < 8 := by
      have := (List.getElem?_eq_some_iff.mp hpi).1
      have := L0.ok.len
      omega
    refine ⟨b, _, rfl, SqT.of w1, rfl, _, _, rfl, _, _, rfl, _, _, rfl, _, _, rfl, rfl, ?_⟩
    refine ⟨rfl, _, rfl, _, rfl, _, rfl, _, rfl, _, rfl, ?_⟩
    refine ⟨d, 9, _, rfl, hpk, by omega, by decide, by decide, fun v H21 v0 v1 hp21 k21 => ?_⟩
    refine ⟨_, _, rfl, rfl, mul64 (by omega) (by omega), _, _, rfl, rfl, _, rfl, by show 4 ≤ sizeLine; decide, fun tt htt => ?_⟩
    have S5 := Same.new (o := .tup [.str p.name, .int p.day, .int (p.post + n * v), .int p.stride]) htt
    have hb5 := S5 _ _ (k21.kp _ _ nD2 hb)
    obtain ⟨kv2, hdk2⟩ := hpk.dk
    have kk := (S4.trans k21).same S5
    refine ⟨_, hb5, ?_, bs ++ [tt], qs ++ [⟨p.name, p.day, p.post + n * v, p.stride⟩], ?_, ?_, hfar.snoc hpi ⟨rfl, rfl, rfl, v, v0, v1, rfl⟩, kk.upd hD2 nD2, (pen_upd st19.pen (hp21.same S5) kk hD2).mono (by omega)⟩
    · have := hbs.len
      rw [List.length_map, this, hfar.1, List.length_take]
      exact Nat.lt_of_le_of_lt (show _ ≤ 8 by omega) (by decide)
    · rw [upd_same, List.map_append]; rfl
    · have tps : ∀ x xs, (upd H21 tt (.tup [.str p.name, .int p.day, .int (p.post + n * v), .int p.stride])) x = some (.tup xs) → (upd (upd H21 tt (.tup [.str p.name, .int p.day, .int (p.post + n * v), .int p.stride])) D2 (.lst (bs.map V.ref ++ [.ref tt]))) x = some (.tup xs) := fun x xs e => by
        rw [upd_ne (fun z => by rw [z, hb5] at e; cases e)]
        exact e
      exact ((hbs.tups fun x xs e => S5 _ _ (k21.kp _ _ (fun z => by rw [z, hdk2] at e; cases e) e)).tups tps).snoc (tps _ _ upd_same)
  rintro H20 ⟨bs, qs, hb, hbs, hfar, S4, hpk⟩
  rw [List.length_map, tp0.len, List.take_length] at hfar
  have lps : (((bs0.map V.ref).length : Nat) : Int) ≤ 8 := by
    rw [List.length_map, tp0.len]
    have := L0.ok.len
    omega
  have st20 : LS K H20 d (β + 40) D f ra n ps := st19.kq S4 (hpk.mono (by omega))
  have tsf : TsAt H20 D2 qs := ⟨bs, hb, hbs⟩
  clear hb hbs S4 hpk st19 hdk hl0 tp0 nDd
  refine ⟨_, rfl, _, rfl, D2, qs, rfl, tsf, hfar.fns L0.ok, hfar.ok L0, fun fm H21 _ hf21 S21 => ?_⟩
  refine ring_in hf21 (hfar.fns L0.ok) n0 n62 (hfar.ok L0) (st20.tab.ext S21) fun r1 H22 hr22 X22 T22 => ?_
  have e1 : rowsOf ⟨n, qs.map wkOf⟩ qs = rowsOf ⟨n, ps.map wkOf⟩ ps := by
    rw [← rows_same (ps := ps) n0]
    refine rows_unit n0 (gd_one n) hfar.names fun k p p' g1 g2 => ?_
    obtain ⟨_, a2, a3, v, _, _, a4⟩ := hfar.2 k p p' g1 g2
    exact ⟨by omega, ⟨0, by omega⟩, ⟨v, by rw [a4]; omega⟩⟩
  have st22 := (st20.same S21).ext X22 T22
  rw [e1] at hr22
  obtain ⟨g1, g2, g3, g4⟩ := rowsD_fit fit1 (Nat.le_trans rl (by decide))
  refine ⟨_, _, rfl, rows_dp hr22, g1, g2, g3, g4, ?_⟩
  refine ⟨_, rfl, _, _, rfl, rows_dp st22.rw, g1, g2, g3, g4, ?_⟩
  refine ⟨rfl, _, rfl, iteND (fun h => absurd rfl h) (fun _ => ?_)⟩
  exact r9 Dn a d D f ra D2 (β + 40) n po wt u ps u2 _ _ _ _ u15 H22 st22 L0 hu1 u0 u1 q
end
end Pp

end
section
set_option Elab.async false
set_option linter.all false
set_option maxRecDepth 100000
set_option maxHeartbeats 4000000
/-! The law's text. -/
namespace Pp
open PySem PySem.Spec PyProof.Rows L2 StX Rg NdefX LamX
section
variable {P : Program} {w : World} {K : PySem.W.Frag} {mg : Str → Option Value} {base : Heap}
theorem law_body (T : Tx K mg) (B : Tb K mg base) (PR : PrOk P) (cdv : Value) (A : Around) (outer : List Env) (s : Shared) (H : Hp) (E : XK) (hg : (A.deeper (envOfC "law" (defScope sLaw) s.heap.objs.size (ga K "law") cdv)).guards = some [])
    (hr : Room 13 (A.deeper (envOfC "law" (defScope sLaw) s.heap.objs.size (ga K "law") cdv))) (a : Addr) (ns : List Int) (Q : VK) (hs : SqL K H a (ns.map V.int)) (hT : TabsN (TT K) H) (q : ∀ H', Q (.bl true) H') :
    ∃ t, PSs (cxOf CX0 P w K mg base NLw "law" (defScope sLaw) (ga K "law") cdv A outer s H E).nox (defBody sLaw) t ∧ t { nx := fun _ H' => Q .non H', rt := Q } (start NLw [.ref a]) H := by
  have nd := scLw.nd
  have hr4 : Room 4 (A.deeper (envOfC "law" (defScope sLaw) s.heap.objs.size (ga K "law") cdv)) := hr.mono (by decide)
  have hr5 : Room 5 (A.deeper (envOfC "law" (defScope sLaw) s.heap.objs.size (ga K "law") cdv)) := hr.mono (by decide)
  have hr6 : Room 6 (A.deeper (envOfC "law" (defScope sLaw) s.heap.objs.size (ga K "law") cdv)) := hr.mono (by decide)
  have hr7 : Room 7 (A.deeper (envOfC "law" (defScope sLaw) s.heap.objs.size (ga K "law") cdv)) := hr.mono (by decide)
  have hr1 : Room 1 (A.deeper (envOfC "law" (defScope sLaw) s.heap.objs.size (ga K "law") cdv)) := hr.mono (by decide)
  have hr12 : Room 12 (A.deeper (envOfC "law" (defScope sLaw) s.heap.objs.size (ga K "law") cdv)) := hr.mono (by decide)
  have hu : (A.deeper (envOfC "law" (defScope sLaw) s.heap.objs.size (ga K "law") cdv)).units + 64 < cLine := by have := hr.un; omega
  obtain ⟨t7, h7, r7⟩ := far_part (w := w) T B PR cdv A outer s H E hg hr
  refine ⟨_, pss_cons (ps_set (i := 1) nd rfl (.inr rfl) (pe_fn (ok_pen T) hr1 inName T.g__law_pen (kpOf T.d_sPen) pass0 (pa_cons (pv 0) pa_nil)))
    <| pss_cons (ps_for PassesOwn.never rfl (pi_range1 inName T.z_range (pa_cons pe_int pa_nil)) (pg_name (i := 2) nd rfl (.inl rfl))
      (pss_cons (ps_asg (pe_ifExp (pt_cmpR op_lt (pv 2) pe_int (nomark _)) (pe_fn (ok_small T) hr7 inName T.g__law_small_ring (kpOf T.d_sSmall) pass0 (pa_cons (pv 1) (pa_cons pe_int pa_nil))) (pe_fn (ok_lot T) hr7 inName T.g__law_lot_ring (kpOf T.d_sLot) pass0 (pa_cons (pv 1) (pa_cons pe_int pa_nil))))
          (pg_tup rfl (pgs_cons (pg_name (i := 3) nd rfl (.inr rfl)) (pgs_cons (pg_name (i := 4) nd rfl (.inl rfl)) pgs_nil))))
      <| pss_cons (ps_setLc (i := 4) (own := [("_law_label", 5), ("_law_date", 6), ("_law_spot", 7), ("_law_speed", 8)]) (g := gTup K 4 (gCons (gName 5) (gCons (gName 6) (gCons (gName 7) (gCons (gName 8) gNil))))) (tt := tYes) rfl nd rfl rfl (sw_true rfl rfl rfl (by decide +kernel)) (pi_list (pv 4)) (blkOk_by (N := NLw) (sc := defScope sLaw) (by decide +kernel))
          (fun _ _ _ _ _ => pg_tup rfl (pgs_cons (pg_name (i := 5) nd rfl (Or.inl rfl) (hf := .inr rfl)) (pgs_cons (pg_name (i := 6) nd rfl (Or.inl rfl) (hf := .inr rfl)) (pgs_cons (pg_name (i := 7) nd rfl (Or.inl rfl) (hf := .inr rfl)) (pgs_cons (pg_name (i := 8) nd rfl (Or.inl rfl) (hf := .inr rfl)) pgs_nil))))) (fun _ _ _ _ _ => pts_nil)
          (fun _ _ _ _ _ => pe_tup (pa_cons (pv 5) (pa_cons (pe_callB (call_minI rfl) inName T.z_min (by decide +kernel) (pa_cons (pv 6) (pa_cons (pe_op op_pow pe_int pe_int) pa_nil))) (pa_cons (pe_op op_modN (pe_callTy call_int1 inName T.z_int (by decide +kernel) (pa_cons (pv 7) pa_nil)) (pv 3)) (pa_cons (pv 8) pa_nil))))))
      <| pss_cons (ps_par (i := 9) (j := 10) rfl nd rfl rfl (by decide) rfl rfl (pa_cons (pe_fn (ok_lfence T) hr6 inName T.g__law_fence (kpOf T.d_sFence) pass0 (pa_cons (pv 4) pa_nil))
          (pa_cons (pe_propR (pe_makeR T.k_Ring (ok_ring T B PR) hr12 inName T.g_Ring pass0 (pa_cons (pv 3) (pa_cons (pe_fn (ok_lfence T) hr6 inName T.g__law_fence (kpOf T.d_sFence) pass0 (pa_cons (pv 4) pa_nil)) pa_nil))) T.c_Ring T.p_Ring_rows (ok_rows T) hr4) pa_nil)) (by rfl))
      <| pss_cons (ps_par3 (i := 11) (j := 12) (l := 13) rfl nd rfl rfl rfl (by decide) (by decide) (by decide) rfl rfl rfl (pa_cons (pe_fn (ok_around T) hr5 inName T.g__law_around (kpOf T.d_sAround) pass0 (pa_cons (pv 1) (pa_cons (pe_op op_pow pe_int pe_int) pa_nil)))
          (pa_cons (pe_fn (ok_great T) hr6 inName T.g__law_great (kpOf T.d_sGreat) pass0 (pa_cons (pv 1) (pa_cons pe_int pa_nil))) (pa_cons (pe_fn (ok_unit T) hr5 inName T.g__law_unit (kpOf T.d_sUnit) pass0 (pa_cons (pv 1) (pa_cons (pv 3) pa_nil))) pa_nil))) (by rfl))
      <| pss_cons (ps_if (pt_cmpR op_ne (pe_callB (call_reprD hg hu) inName T.z_repr (by decide +kernel) (pa_cons (pe_propR (pe_makeR T.k_Ring (ok_ring T B PR) hr12 inName T.g_Ring pass0 (pa_cons (pv 3) (pa_cons (pe_methR (pv 9) T.c_Fence T.m_Fence_moved (ok_moved T) hr5 pass0 (pa_cons (pv 11) (pa_cons (pv 12) pa_nil))) pa_nil))) T.c_Ring T.p_Ring_rows (ok_rows T) hr4) pa_nil))
          (pe_callB (call_reprD hg hu) inName T.z_repr (by decide +kernel) (pa_cons (pe_fn (ok_sent T) hr1 inName T.g__law_sent (kpOf T.d_sSent) pass0 (pa_cons (pv 10) (pa_cons (pv 3) (pa_cons (pe_tup (pa_cons pe_int (pa_cons (pv 11) (pa_cons (pv 12) pa_nil)))) pa_nil)))) pa_nil)) (by rfl)) (pss_one (ps_ret pe_bl)) pss_nil)
      <| pss_cons (ps_if (pt_cmpR op_ne (pe_callB (call_reprD hg hu) inName T.z_repr (by decide +kernel) (pa_cons (pe_propR (pe_makeR T.k_Ring (ok_ring T B PR) hr12 inName T.g_Ring pass0 (pa_cons (pv 3) (pa_cons (pe_methR0 (pv 9) T.c_Fence T.m_Fence_mirrored (ok_mirrored T) hr6 pass0) pa_nil))) T.c_Ring T.p_Ring_rows (ok_rows T) hr4) pa_nil))
          (pe_callB (call_reprD hg hu) inName T.z_repr (by decide +kernel) (pa_cons (pe_fn (ok_sent T) hr1 inName T.g__law_sent (kpOf T.d_sSent) pass0 (pa_cons (pv 10) (pa_cons (pv 3) (pa_cons (pe_tup (pa_cons (pe_un un_neg pe_int) (pa_cons pe_int (pa_cons pe_int pa_nil)))) pa_nil)))) pa_nil)) (by rfl)) (pss_one (ps_ret pe_bl)) pss_nil)
      <| pss_cons (ps_if (pt_cmpR op_ne (pe_callB (call_reprD hg hu) inName T.z_repr (by decide +kernel) (pa_cons (pe_propR (pe_makeR T.k_Ring (ok_ring T B PR) hr12 inName T.g_Ring pass0 (pa_cons (pe_op op_mul pe_int (pv 3)) (pa_cons (pe_methR (pv 9) T.c_Fence T.m_Fence_widened (ok_widened T) hr5 pass0 (pa_cons pe_int pa_nil)) pa_nil))) T.c_Ring T.p_Ring_rows (ok_rows T) hr4) pa_nil))
          (pe_callB (call_reprD hg hu) inName T.z_repr (by decide +kernel) (pa_cons (pe_fn (ok_sent T) hr1 inName T.g__law_sent (kpOf T.d_sSent) pass0 (pa_cons (pv 10) (pa_cons (pe_op op_mul pe_int (pv 3)) (pa_cons (pe_tup (pa_cons pe_int (pa_cons pe_int (pa_cons pe_int pa_nil)))) pa_nil)))) pa_nil)) (by rfl)) (pss_one (ps_ret pe_bl)) pss_nil)
      <| h7))
    <| pss_one (ps_ret pe_bl), ?_⟩
  refine ⟨_, rfl, a, ns, rfl, hs, fun d H1 hd0 hp1 S1 => ?_⟩
  refine ⟨_, rfl, by decide, by decide, ?_⟩
  refine for_it walk_range (fun i σ H' => (∃ u2 u3 u4 u5 u6 u7 u8 u9 u10 u11 u12 u13 u14 u15, σ = [some (.ref a), some (.ref d), u2, u3, u4, u5, u6, u7, u8, u9, u10, u11, u12, u13, u14, u15]) ∧ PenAt H' d (400 * (i : Int)) ∧ TabsN (TT K) H') ⟨⟨_, _, _, _, _, _, _, _, _, _, _, _, _, _, rfl⟩, hp1.mono (by omega), hT.ext S1⟩ (fun _ _ _ _ _ => trivial) ?main ?fin
  case fin =>
    rintro σ H2 ⟨⟨u2, u3, u4, u5, u6, u7, u8, u9, u10, u11, u12, u13, u14, u15, rfl⟩, _, _⟩
    exact q H2
  rintro i y σ H2 H2' hi ⟨⟨u2, u3, u4, u5, u6, u7, u8, u9, u10, u11, u12, u13, u14, u15, rfl⟩, hp, ht⟩ ⟨rfl, rfl⟩
  have hi5 : (i : Int) < 5 := by have : i < 5 := hi; omega
  -- the ring
  have key : ∀ (c : Bool) (σ : L2.St) (H : Hp) (Q0 : VK), σ[1]? = some (some (.ref d)) → PenAt H d (400 * (i : Int)) → RingQ d (400 * (i : Int)) (120 * 10 ^ 15) H Q0 → if c = true then tCallR spSmall E0 (tCons (tVar 1) (tCons (tC (V.int 6)) tNil)) σ H Q0 else tCallR spLot E0 (tCons (tVar 1) (tCons (tC (V.int 6)) tNil)) σ H Q0 := by
    intro c σ H Q0 hσ hp hq
    split
    · exact ⟨_, hσ, d, _, rfl, hp, by omega, fun t l n ps H' h1 h2 h3 h4 => hq t l n ps H' h1 h2 h3 (by omega)⟩
    · exact ⟨_, hσ, d, _, rfl, hp, by omega, hq⟩
  refine ⟨_, rfl, _, _, rfl, rfl, _, rfl, key _ _ _ _ rfl hp ?_⟩
  intro t l0 n ps0 H3 ht3 hts3 n0 nN ok0 raw0 hp3 k3
  obtain ⟨kv, hdk⟩ := hp.dk
  have T3 := tabs_kp ht k3.kp hdk
  have L0 := lp_raw n0 nN ok0 raw0
  refine ⟨t, _, rfl, SqT.of ht3, rfl, _, _, rfl, _, _, rfl, rfl, ?_⟩
  obtain ⟨bs0, hl0, tp0⟩ := hts3
  refine ⟨_, rfl, l0, rfl, ⟨_, SqL.of hl0⟩, fun D hD => ?_⟩
  refine lc_it walk_list (fun k H' => ∃ bs, H' D = some (.lst (bs.map V.ref)) ∧ TpL H' bs ((ps0.take k).map (rawP n)) ∧ Same H3 H') ⟨[], upd_same, TpL.nil, Same.new hD⟩ (fun k H' _ ⟨_, _, _, S⟩ => SqL.of (S _ _ hl0)) ?lc1 ?_
  case lc1 =>
    rintro k y H4 H4' hk ⟨bs, hb, hbs, S4⟩ ⟨rfl, e2⟩
    obtain ⟨b, hbi, rfl⟩ := ref_ix e2
    obtain ⟨p, hpi, hpa⟩ := tp0.get hbi
    have w1 := S4 _ _ hpa
    refine ⟨b, _, rfl, SqT.of w1, rfl, _, _, rfl, _, _, rfl, _, _, rfl, _, _, rfl, rfl, ?_⟩
    refine ⟨rfl, _, rfl, _, rfl, _, _, rfl, rfl, ⟨by decide, by decide, by decide⟩, _, _, rfl, _, rfl, .inl ⟨_, rfl, _, rfl, _, _, rfl, rfl, (show n ≠ 0 by omega), _, rfl, by show 4 ≤ sizeLine; decide, fun tt htt => ?_⟩⟩
    have em : p.post.fmod n = p.post % n := Int.fmod_eq_emod_of_nonneg _ (by omega)
    have S5 := Same.new (o := .tup [.str p.name, .int (min p.day (10 ^ (28 : Int).toNat)), .int (p.post.fmod n), .int p.stride]) htt
    have hb5 := S5 _ _ hb
    refine ⟨_, hb5, ?_, bs ++ [tt], ?_, ?_, ?_⟩
    · have := hbs.len
      rw [List.length_map, this, List.length_map, List.length_take]
      have := ok0.len
      exact Nat.lt_of_le_of_lt (show _ ≤ 8 by omega) (by decide)
    · rw [upd_same, List.map_append]; rfl
    · rw [take_mapA hpi]
      have tps : ∀ x xs, (upd H4' tt (.tup [.str p.name, .int (min p.day (10 ^ (28 : Int).toNat)), .int (p.post.fmod n), .int p.stride])) x = some (.tup xs) → (upd (upd H4' tt (.tup [.str p.name, .int (min p.day (10 ^ (28 : Int).toNat)), .int (p.post.fmod n), .int p.stride])) D (.lst (bs.map V.ref ++ [.ref tt]))) x = some (.tup xs) := fun x xs e => by
        rw [upd_ne (fun z => by rw [z, hb5] at e; cases e)]
        exact e
      refine ((hbs.tups fun x xs e => S5 _ _ e).tups tps).snoc (tps _ _ ?_)
      rw [upd_same, em]
      rfl
    · intro x o e
      rw [upd_ne (ne_of_none e hD)]
      exact S5 _ _ (S4 _ _ e)
  rintro H4 ⟨bs, hb4, tp4, S4⟩
  rw [List.length_map, tp0.len, List.take_length] at tp4
  have hp4 := hp3.same S4
  have T4 := T3.ext S4
  have ts4 : TsAt H4 D (ps0.map (rawP n)) := ⟨bs, hb4, tp4⟩
  generalize ps0.map (rawP n) = ps at L0 ts4
  clear raw0 ok0 tp0 hl0 hb4 tp4 ht3 S4 T3 hp3 hdk kv k3 ht hp key
  have n62 : n < 2 ^ 62 := by omega
  -- fence and rows
  refine ⟨_, rfl, D, ps, rfl, ts4, L0.ok, L0.okp, fun f H5 _ hf5 S5 => ?_⟩
  have T5 := T4.ext S5
  refine ⟨_, rfl, _, rfl, D, ps, rfl, ts4.same S5, L0.ok, L0.okp, fun f2 H6 _ hf6 S6 => ?_⟩
  refine ring_in hf6 L0.ok n0 n62 L0.okp (T5.ext S6) fun ra H7 hrows X7 T7 => ?_
  have st7 : LS K H7 d (400 * (i : Int) + 300) D f ra n ps := ⟨((hp4.same S5).same S6).extN X7, T7, ((ts4.same S5).same S6).extN X7, (hf5.same S6).extN X7, hrows⟩
  clear hf5 hf6 S5 S6 X7 T7 hrows T5 T4 ts4 hp4
  refine ⟨_, _, rfl, ?_⟩
  -- what is drawn
  refine ⟨_, rfl, _, _, rfl, rfl, ⟨by decide, by decide, by decide⟩, d, _, _, rfl, st7.pen, by omega, by decide, by decide, fun po H8 po0 po1 hp8 k8 => ?_⟩
  refine ⟨_, rfl, d, 27, _, rfl, hp8, by omega, by decide, by decide, fun wt H9 wt0 wt1 hp9 k9 => ?_⟩
  refine ⟨_, rfl, _, rfl, d, n, _, rfl, hp9, by omega, n0, by omega, fun u H10 u0 u1 hu1 hp10 k10 => ?_⟩
  refine ⟨_, _, _, rfl, ?_⟩
  have po0 : -(10 ^ 25) ≤ po := po0
  have po1 : po ≤ 10 ^ 25 := po1
  have st10 : LS K H10 d (400 * (i : Int) + 300 + 4 + 24 + 4) D f ra n ps := st7.kq ((k8.trans k9).trans k10) hp10
  clear st7 hp8 hp9 hp10 k8 k9 k10
  have fit1 := rows_fitP n0 n62 L0.okp
  have rl : (rowsOf ⟨n, ps.map wkOf⟩ ps).length ≤ 8 := by rw [rowsOf_len]; exact L0.ok.len
  -- moved
  obtain ⟨lt, as, dxf, pl, f1, f2, f3, f4⟩ := id st10.fe
  refine ⟨_, rfl, _, rfl, _, _, _, rfl, f1, rfl, _, rfl, _, rfl, f, ps, po, wt, rfl, st10.fe, L0.ok, mov_ok L0 po0 po1 wt0 wt1, fun fm H11 _ hf11 S11 => ?_⟩
  have okm := fns_map (g := movP po wt) L0.ok fun _ => rfl
  refine ring_in hf11 okm n0 n62 (pt_map (mov_ok L0 po0 po1 wt0 wt1)) (st10.tab.ext S11) fun r1 H12 hr12' X12 T12 => ?_
  have e1 : rowsOf ⟨n, (ps.map (movP po wt)).map wkOf⟩ (ps.map (movP po wt)) = (rowsOf ⟨n, ps.map wkOf⟩ ps).map (sentR 1 po wt n) := by
    refine rows_unit n0 (gd_one n) (by rw [List.map_map]; rfl) fun k p p' g1 g2 => ?_
    rw [List.getElem?_map, g1] at g2
    have g2 := Option.some.inj g2
    subst g2
    exact ⟨rfl, ⟨0, by unfold movP; simp only []; omega⟩, ⟨0, by unfold movP; simp only []; omega⟩⟩
  have fitm := rows_fitP n0 n62 (pt_map (mov_ok L0 po0 po1 wt0 wt1))
  have st12 := (st10.same S11).ext X12 T12
  obtain ⟨g1, g2, g3, g4⟩ := rowsD_fit fitm (by rw [rowsOf_len, List.length_map]; exact Nat.le_trans L0.ok.len (by decide))
  refine ⟨_, _, rfl, rows_dp hr12', g1, g2, g3, g4, ?_⟩
  clear g1 g2 g3 g4
  refine ⟨_, rfl, _, rfl, _, rfl, _, rfl, by show 3 ≤ sizeLine; decide, fun ch hch => ?_⟩
  have S13 := Same.new (o := .tup [.int 1, .int po, .int wt]) hch
  refine ⟨ra, ch, rowsOf ⟨n, ps.map wkOf⟩ ps, n, 1, po, wt, rfl, (st12.same S13).rw, rl, n0, upd_same, by decide, by decide, fun rb H13 hrb S14 => ?_⟩
  have st13 := (st12.same S13).same S14
  rw [← e1] at hrb
  obtain ⟨g1, g2, g3, g4⟩ := rowsD_fit fitm (by rw [rowsOf_len, List.length_map]; exact Nat.le_trans L0.ok.len (by decide))
  refine ⟨_, _, rfl, rows_dp hrb, g1, g2, g3, g4, ?_⟩
  clear g1 g2 g3 g4
  refine ⟨rfl, _, rfl, iteND (fun h => absurd rfl h) (fun _ => ?_)⟩
  clear e1 fitm okm hr12' X12 T12 S11 S13 S14 hrb hf11 st10 st12 hch f1 f2 f3 f4
  -- mirrored
  obtain ⟨lt, as, dxf, pl, f1, f2, f3, f4⟩ := id st13.fe
  refine ⟨_, rfl, _, rfl, _, _, _, rfl, f1, rfl, f, ps, rfl, st13.fe, L0.ok, L0.okp, fun fm H14 _ hf14 S14 => ?_⟩
  have okm := fns_map (g := negP) L0.ok fun _ => rfl
  refine ring_in hf14 okm n0 n62 (pt_map (neg_ok L0)) (st13.tab.ext S14) fun r1 H15 hr15 X15 T15 => ?_
  have e1 : rowsOf ⟨n, (ps.map negP).map wkOf⟩ (ps.map negP) = (rowsOf ⟨n, ps.map wkOf⟩ ps).map (sentR (-1) 0 0 n) := by
    refine rows_unit n0 (by unfold gd; simp) (by rw [List.map_map]; rfl) fun k p p' g1 g2 => ?_
    rw [List.getElem?_map, g1] at g2
    have g2 := Option.some.inj g2
    subst g2
    exact ⟨by unfold negP; simp only []; omega, ⟨0, by unfold negP; simp only []; omega⟩, ⟨0, by unfold negP; simp only []; omega⟩⟩
  have fitm := rows_fitP n0 n62 (pt_map (neg_ok L0))
  have st15 := (st13.same S14).ext X15 T15
  obtain ⟨g1, g2, g3, g4⟩ := rowsD_fit fitm (by rw [rowsOf_len, List.length_map]; exact Nat.le_trans L0.ok.len (by decide))
  refine ⟨_, _, rfl, rows_dp hr15, g1, g2, g3, g4, ?_⟩
  clear g1 g2 g3 g4
  refine ⟨_, rfl, _, rfl, _, rfl, by show 3 ≤ sizeLine; decide, fun ch hch => ?_⟩
  have S16 := Same.new (o := .tup [.int (-1), .int 0, .int 0]) hch
  refine ⟨ra, ch, rowsOf ⟨n, ps.map wkOf⟩ ps, n, -1, 0, 0, rfl, (st15.same S16).rw, rl, n0, upd_same, by decide, by decide, fun rb H16 hrb S17 => ?_⟩
  have st16 := (st15.same S16).same S17
  rw [← e1] at hrb
  obtain ⟨g1, g2, g3, g4⟩ := rowsD_fit fitm (by rw [rowsOf_len, List.length_map]; exact Nat.le_trans L0.ok.len (by decide))
  refine ⟨_, _, rfl, rows_dp hrb, g1, g2, g3, g4, ?_⟩
  clear g1 g2 g3 g4
  refine ⟨rfl, _, rfl, iteND (fun h => absurd rfl h) (fun _ => ?_)⟩
  clear e1 fitm okm hr15 X15 T15 S14 S16 S17 hrb hf14 st13 st15 hch f1 f2 f3 f4
  -- widened
  obtain ⟨lt, as, dxf, pl, f1, f2, f3, f4⟩ := id st16.fe
  refine ⟨_, rfl, _, _, rfl, rfl, mul64 (by decide) (by decide), _, rfl, _, _, _, rfl, f1, rfl, f, ps, 2, rfl, by decide, by decide, st16.fe, L0.ok, wid_ok L0, fun fm H17 _ hf17 S17 => ?_⟩
  have okm := fns_map (g := widP 2) L0.ok fun _ => rfl
  refine ring_in (n := 2 * n) hf17 okm (by omega) (by omega) (pt_map (wid_ok L0)) (st16.tab.ext S17) fun r1 H18 hr18 X18 T18 => ?_
  have e1 := rows_twice n0 (ps := ps) rfl
  have fitm := rows_fitP (n := 2 * n) (by omega) (by omega) (pt_map (wid_ok L0))
  have st18 := (st16.same S17).ext X18 T18
  obtain ⟨g1, g2, g3, g4⟩ := rowsD_fit fitm (by rw [rowsOf_len, List.length_map]; exact Nat.le_trans L0.ok.len (by decide))
  refine ⟨_, _, rfl, rows_dp hr18, g1, g2, g3, g4, ?_⟩
  clear g1 g2 g3 g4
  refine ⟨_, rfl, _, rfl, _, _, rfl, rfl, mul64 (by decide) (by decide), by show 3 ≤ sizeLine; decide, fun ch hch => ?_⟩
  have S19 := Same.new (o := .tup [.int 2, .int 0, .int 0]) hch
  refine ⟨ra, ch, rowsOf ⟨n, ps.map wkOf⟩ ps, 2 * n, 2, 0, 0, rfl, (st18.same S19).rw, rl, by omega, upd_same, by decide, by decide, fun rb H19 hrb S20 => ?_⟩
  have st19 := (st18.same S19).same S20
  rw [← e1] at hrb
  obtain ⟨g1, g2, g3, g4⟩ := rowsD_fit fitm (by rw [rowsOf_len, List.length_map]; exact Nat.le_trans L0.ok.len (by decide))
  refine ⟨_, _, rfl, rows_dp hrb, g1, g2, g3, g4, ?_⟩
  clear g1 g2 g3 g4
  refine ⟨rfl, _, rfl, iteND (fun h => absurd rfl h) (fun _ => ?_)⟩
  clear e1 fitm okm hr18 X18 T18 S17 S19 S20 hrb hf17 st16 st18 hch f1 f2 f3 f4
  refine r7 _ a d D f ra _ n po wt u ps _ _ _ _ _ _ _ H19 st19 (by omega) L0 hu1 u0 u1 fun σ' H' hS hpen htab => ?_
  exact ⟨hS, hpen.mono (by omega), htab⟩
end
end Pp

end
section
set_option Elab.async false
set_option linter.all false
set_option maxRecDepth 100000
set_option maxHeartbeats 4000000
/-! The law is called. -/
namespace Pp
open PySem PySem.Spec PyProof.Rows L2 StX Rg NdefX LamX
section
variable {P : Program} {w : World} {K : PySem.W.Frag} {mg : Str → Option Value} {base : Heap}
theorem room14 : Room 14 callerA := ⟨rfl, by decide, by decide⟩
theorem law_run (T : Tx K mg) (B : Tb K mg base) (PR : PrOk P) {fd : FuncData} (F : Fun K "law" "law" sLaw (ga K "law") fd) {s : Shared} {H : Hp} {a : Addr} {ns : List Int} (e0 : Env0 P w K mg base callerA [] s H) (hb : BindsTo s fd ⟨[.ref a], []⟩ [("_law_script", .ref a)])
    (hT : TabsN (TT K) H) (hs : SqL K H a (ns.map V.int)) : codeAny (model P w) callerA (.call (.ref (ga K "law")) ⟨[.ref a], []⟩) (CR CX0 [] P w H s (fun v _ => v = .bl true) fun _ _ _ => False) s := by
  obtain ⟨oc, od, kV, doc, pm, an, cdv, ct, osl, efd, lk, hcd⟩ := F.ex
  subst efd
  have S := scLw
  have KX : K.In s.heap := e0.mod.kin.keeps fun b o e => (e0.bs b o e).1
  have lim : s.heap.NoLimit := e0.mod.nolimit.keeps fun b o e => (e0.bs b o e).1
  have hr := room14
  have hr13 : Room 13 (callerA.deeper (envOfC "law" (defScope sLaw) s.heap.objs.size (ga K "law") cdv)) := hr.deeper _
  have own : ∀ y ∈ [(("_law_script" : Str), Value.ref a)], (defScope sLaw).names.lookup y.1 = some .local ∨ ((defScope sLaw).names.lookup y.1 = some .cell ∧ ((cellsFrom (s.heap.objs.size + 1) (defScope sLaw).names []).lookup y.1).isSome = true) := fun y hy => by
    rw [List.mem_singleton.mp hy]
    exact .inl rfl
  refine codeAny_call_function hr.depth (KX _ _ lk) rfl S.co S.gen rfl (PySem.W.codeRec_of KX hcd) (hb _ _ _ _ ?_)
  refine wpAny_newFunctionEnv_cells S.kind own fun env he s1 x => ?_
  subst he
  refine ⟨lim.keeps x.toInCall.keep, codeAny_func ?_⟩
  obtain ⟨t, ht, hq⟩ := law_body (w := w) T B PR cdv callerA [] s H (fun _ _ _ => False) rfl hr13 a ns (fun v _ => v = .bl true) hs hT fun _ => rfl
  have I : Inv (cxOf CX0 P w K mg base NLw "law" (defScope sLaw) (ga K "law") cdv callerA [] s H fun _ _ _ => False) [] (start NLw [.ref a]) H s1 := inv_start (us := [.ref a]) (ps := ["_law_script"]) S hr.hd e0 rfl (.cons rfl .nil) x
  refine wpAny_mono (ht.nox.run [] s1 (start NLw [.ref a]) H _ I hq) (fun fl s' hs => ?_) fun e s' hs => hs
  have fin : ∀ {σ' : L2.St} {H' : Hp} {v : V} {u : Value}, Inv (cxOf CX0 P w K mg base NLw "law" (defScope sLaw) (ga K "law") cdv callerA [] s H fun _ _ _ => False) [] σ' H' s' → RelV v u → v = .bl true → CE [] P w H s (fun v _ => v = .bl true) u s' :=
    fun {σ' H' v u} J rv q => ⟨v, H', J.os, J.bare, J.base, J.hok, rv, q⟩
  cases fl with
  | ret u =>
    obtain ⟨v, σ', H', J, rv, q⟩ := hs
    exact fin J rv q
  | next =>
    obtain ⟨σ', H', J, q⟩ := hs
    cases q
  | brk =>
    obtain ⟨_, _, _, q⟩ := hs
    exact False.elim q
  | cont =>
    obtain ⟨_, _, _, q⟩ := hs
    exact False.elim q
end
end Pp

end
section
set_option Elab.async false
set_option linter.all false
set_option maxRecDepth 100000
set_option maxHeartbeats 4000000
/-! From the call to the state behind it. -/
namespace Pp
open PySem PySem.Spec PyProof.Rows L2 StX Rg NdefX LamX
def scO (vs : List Value) : Obj := { cls := .type "list", data := .seq vs.toArray }
def tbO : Obj := { cls := .none, data := .fields #[] }
/-- what is tracked at the call: the tables, and the script where K does not hold it -/
def stH (K : PySem.W.Frag) (a : Addr) (vs : List Value) (ns : List Int) (tabs : List Addr) : Hp := fun b =>
  if b ∈ tabs then some (.tbl #[]) else if b = a then (match K.lookup a with
    | none => some (.frz (scO vs) (.lst (ns.map V.int)))
    | some _ => none) else none
section
variable {P : Program} {w : World} {K : PySem.W.Frag} {mg mb : Str → Option Value} {h : Heap} {a : Addr} {vs : List Value} {ns : List Int} {tabs : List Addr}
theorem stH_t {b : Addr} (hb : b ∈ tabs) : stH K a vs ns tabs b = some (.tbl #[]) := if_pos hb
theorem stH_or (K : PySem.W.Frag) (a : Addr) (vs : List Value) (ns : List Int) (tabs : List Addr) (b : Addr) : stH K a vs ns tabs b = none ∨ (b ∈ tabs ∧ stH K a vs ns tabs b = some (.tbl #[])) ∨ (b = a ∧ K.lookup a = none ∧ stH K a vs ns tabs b = some (.frz (scO vs) (.lst (ns.map V.int)))) := by
  by_cases hb : b ∈ tabs
  · exact .inr (.inl ⟨hb, if_pos hb⟩)
  · have e := show stH K a vs ns tabs b = _ from if_neg hb
    by_cases hc : b = a
    · rw [if_pos hc] at e
      cases hk : K.lookup a with
      | none => rw [hk] at e; exact .inr (.inr ⟨hc, rfl, e⟩)
      | some o => rw [hk] at e; exact .inl e
    · rw [if_neg hc] at e
      exact .inl e
/-- what holds at the call -/
structure At (K : PySem.W.Frag) (h : Heap) (a : Addr) (vs : List Value) (ns : List Int) (tabs : List Addr) : Prop where
  kin : K.In h
  sc : h.get? a = some (scO vs)
  itg : IntsAre vs ns
  len : ns.length ≤ sizeLine
  tb : ∀ t ∈ tabs, h.get? t = some tbO
  out : ∀ t ∈ tabs, K.lookup t = none
theorem At.ok (x : At K h a vs ns tabs) : HOk P w (stH K a vs ns tabs) h := fun b u e => by
  rcases stH_or K a vs ns tabs b with z | ⟨hb, z⟩ | ⟨hb, _, z⟩
  · rw [z] at e; cases e
  · rw [z] at e; cases e
    exact x.tb b hb
  · rw [z] at e; cases e
    subst hb
    exact ⟨x.sc, by rw [List.length_map]; exact x.len, vs, _, vals_ints x.itg, x.sc⟩
theorem At.free (x : At K h a vs ns tabs) {b : Addr} {o : Obj} (e : h.get? b = some o) (h1 : ∀ vs n, o.data ≠ .seq vs n) (h2 : o.data ≠ .fields #[]) : stH K a vs ns tabs b = none := by
  rcases stH_or K a vs ns tabs b with z | ⟨hb, _⟩ | ⟨hb, _⟩
  · exact z
  · rw [x.tb b hb] at e
    cases e
    exact absurd rfl h2
  · rw [hb, x.sc] at e
    cases e
    exact absurd rfl (h1 _ _)
theorem At.seq (x : At K h a vs ns tabs) : SqL K (stH K a vs ns tabs) a (ns.map V.int) := by
  cases hk : K.lookup a with
  | none =>
    rcases stH_or K a vs ns tabs a with z | ⟨hb, _⟩ | ⟨_, _, z⟩
    · unfold stH at z
      by_cases hb : a ∈ tabs
      · rw [if_pos hb] at z; cases z
      · rw [if_neg hb, if_pos rfl, hk] at z; cases z
    · have e := x.tb a hb
      rw [x.sc] at e
      cases e
    · exact .inl (.inr ⟨_, z⟩)
  | some o =>
    have e := x.kin a o hk
    rw [x.sc] at e
    cases e
    have hl := x.itg.length
    exact .inr ⟨_, vs.toArray, _, hk, rfl, rfl, rfl, by rw [List.size_toArray, hl]; exact x.len, by simpa using vals_ints x.itg⟩
theorem At.kb (x : At K h a vs ns tabs) : K.In (hidT h (stH K a vs ns tabs)) := fun b o e => hidT_get (x.kin b o e) (by
  rcases stH_or K a vs ns tabs b with z | ⟨hb, _⟩ | ⟨hb, hk, _⟩
  · exact z
  · rw [x.out b hb] at e; cases e
  · rw [hb, hk] at e; cases e)
theorem At.nsp (x : At K h a vs ns tabs) {b : Addr} {m : Str → Option Value} (q : h.Ns b m) : (hidT h (stH K a vs ns tabs)).Ns b m := by
  obtain ⟨o, es, ep, e, d, r⟩ := q
  exact ⟨o, es, ep, hidT_get e (x.free e (fun vs n z => by rw [d] at z; cases z) fun z => by rw [d] at z; cases z), d, r⟩
end
end Pp

end
section
set_option Elab.async false
set_option linter.all false
set_option maxRecDepth 100000
set_option maxHeartbeats 4000000
/-! The call and what stands behind it. -/
namespace Pp
open PySem PySem.Spec PyProof.Rows L2 StX Rg NdefX LamX
section
variable {P : Program} {w : World} {K : PySem.W.Frag} {mg mb : Str → Option Value} {a : Addr} {vs : List Value} {ns : List Int}
def tabsK (K : PySem.W.Frag) : List Addr := dTab.map fun p => (He.cT K p).2
theorem law_call {s₁ : Shared} {fd : FuncData} (x : At K s₁.heap a vs ns (tabsK K)) (hns : s₁.heap.Ns mainGlobals mg) (hb : s₁.heap.Ns builtinsNs mb) (hbb : ∀ x : Str, x ≠ "__name__" → mb x = bootBuiltins x) (hlim : s₁.heap.NoLimit) (hg : s₁.gens = #[])
    (hbm : ∃ (bm : Addr) (ob : Obj), mg "__builtins__" = some (.ref bm) ∧ bm ≠ builtinsNs ∧ s₁.heap.get? bm = some ob ∧ ob.cls = .type "module" ∧ ob.dict = some builtinsNs ∧ ob.data = .plain)
    (T : Tx K mg) (PR : PrOk P) (hd : ∀ p ∈ dTab, PySem.W.codeHdIn K (He.cT K p).1 (He.cT K p).2 = true) (F : Fun K "law" "law" sLaw (ga K "law") fd) (hbind : BindsTo s₁ fd ⟨[.ref a], []⟩ [("_law_script", .ref a)]) :
    codeAny (model P w) callerA (.call (.ref (ga K "law")) ⟨[.ref a], []⟩) (fun r s' => r = .ok (.ret (.bool true)) ∧ OldK s₁.heap s'.heap ∧ s'.os = s₁.os ∧ AllBare s'.gens) s₁ := by
  have hM : L2.Mod K mg (hidT s₁.heap (stH K a vs ns (tabsK K))) := ⟨x.kb, x.nsp hns, ⟨mb, x.nsp hb, hbb⟩, let ⟨mc, h1, h2⟩ := hlim; ⟨mc, x.nsp h1, h2⟩⟩
  have e0 : Env0 P w K mg (hidT s₁.heap (stH K a vs ns (tabsK K))) callerA [] s₁ (stH K a vs ns (tabsK K)) := ⟨rfl, hM, fun b o e => of_hidT e, Nat.le_of_eq (hidT_size _ _), trivial, fun b hb => absurd (show b ∈ ([] : List Addr) from hb) (by simp), x.ok, .of_eq hg⟩
  have mem : ∀ p ∈ dTab, (He.cT K p).2 ∈ tabsK K := fun p hp => List.mem_map.mpr ⟨p, hp, rfl⟩
  have TB : ∀ p ∈ dTab, TabB (hidT s₁.heap (stH K a vs ns (tabsK K))) mg (He.cT K p).1 (He.cT K p).2 := fun p hp => by
    have hT := x.tb _ (mem p hp)
    refine ⟨PySem.W.codeHd_of_K x.kb (hd p hp), ?_, fun z => ?_⟩
    · obtain ⟨bm, ob, b1, b2, b3, b4, b5, b6⟩ := hbm
      refine ⟨bm, ob, b1, b2, fun q => ?_, fun q => ?_, hidT_get b3 (x.free b3 (fun vs n z => by rw [b6] at z; cases z) fun z => by rw [b6] at z; cases z), b4, b5, b6⟩
      · obtain ⟨o, es, ep, e, dd, _⟩ := hns
        rw [q, e] at b3
        cases b3
        rw [dd] at b6
        cases b6
      · rw [q, hT] at b3
        cases b3
        cases b6
    · obtain ⟨o, es, ep, e, dd, _⟩ := hns
      rw [z, hT] at e
      cases e
      cases dd
  have B : Tb K mg (hidT s₁.heap (stH K a vs ns (tabsK K))) := ⟨TB ("RingCrossing", some "first_rising") (by simp [dTab]), TB ("RingCrossing", some "first_steady") (by simp [dTab])⟩
  have hT : TabsN (TT K) (stH K a vs ns (tabsK K)) := fun p hp => by
    rcases List.mem_cons.mp hp with rfl | hp
    · exact TabN.nil (stH_t (mem ("RingCrossing", some "first_rising") (by simp [dTab])))
    · rw [List.mem_singleton.mp hp]
      exact TabN.nil (stH_t (mem ("RingCrossing", some "first_steady") (by simp [dTab])))
  refine codeAny_mono (law_run T B PR F e0 hbind hT x.seq) fun r s' h => ?_
  cases r with
  | error e => exact False.elim h
  | ok fl =>
    cases fl with
    | next => exact False.elim h
    | brk => exact False.elim h
    | cont => exact False.elim h
    | ret u =>
      obtain ⟨v, H', os, bare, un, hok', r', q⟩ := h
      have q' : v = .bl true := q
      subst q'
      obtain rfl : u = Value.bool true := r'
      have keep : ∀ b o, b ∉ tabsK K → s₁.heap.get? b = some o → s'.heap.get? b = some o := fun b o nb e => by
        rcases stH_or K a vs ns (tabsK K) b with z | ⟨hb, _⟩ | ⟨hb, _, z⟩
        · exact un.keep b o e z (by intro z; exact absurd (show b ∈ ([] : List Addr) from z) (by simp)) (by simp)
        · exact absurd hb nb
        · obtain ⟨e2, _⟩ := hok' b _ (un.frzs b _ _ z)
          rw [hb, x.sc] at e
          cases e
          exact e2
      have grown : ∀ t ∈ tabsK K, ∃ more : Array Value, s'.heap.get? t = some { cls := .none, data := .fields more } := fun t ht => by
        obtain ⟨more, z⟩ := un.tbls t #[] (stH_t ht)
        exact ⟨_, hok' t _ z⟩
      refine ⟨rfl, ⟨fun b o e => ?_, fun b o e => ?_⟩, os, bare⟩
      · by_cases hb : b ∈ tabsK K
        · obtain ⟨p, hp, ep⟩ := List.mem_map.mp hb
          obtain ⟨more, hm⟩ := grown b hb
          have C := PySem.W.codeHd_of_K x.kin (hd p hp)
          have eb := x.tb b hb
          rw [eb] at e
          cases e
          have ep : (He.cT K p).2 = b := ep
          rw [ep] at C
          exact .inr (.inl ⟨(C.tab eb).isCodeTable, rfl, #[], more, rfl, by rw [Array.empty_append]; exact hm⟩)
        · exact .inl (keep b o hb e)
      · by_cases hb : b ∈ tabsK K
        · obtain ⟨more, hm⟩ := grown b hb
          exact ⟨_, hm⟩
        · exact ⟨o, keep b o hb e⟩
end
end Pp

end
set_option Elab.async false
set_option linter.all false
set_option maxRecDepth 100000
set_option maxHeartbeats 4000000
open PySem PySem.W PySem.Calls PyProof.Rows
theorem PySem.Challenge.cw_paintposts_k99_whole_rings_moved_mirrore_holds : PySem.Challenge.rw_paintposts_k99_whole_rings_moved_mirrore.Holds := by
  w_on; o_law
  refine HandSHeadRun.head_any (r := OpenLaw.row PySem.Challenge.rw_paintposts_k99_whole_rings_moved_mirrore) (q := view (OpenLaw.row PySem.Challenge.rw_paintposts_k99_whole_rings_moved_mirrore).prog [68]) (H := Pp.hook) (ob := Pp.ob) (M := 20000) (loose := Pp.unseen) (d := HandSHeadRun.topDef (OpenLaw.row PySem.Challenge.rw_paintposts_k99_whole_rings_moved_mirrore).prog 68) (kwd := []) Pp.ob_eq
    (by kernel_rfl) (fun s => by kernel_rfl) Pp.run (by kernel_rfl) (by kernel_rfl) (by kernel_rfl) (by rfl) (by first | assumption | decide +kernel) (by decide +kernel) ⟨rfl, rfl, rfl, rfl, rfl, by decide +kernel⟩ ?hw ?hc
  case hw => w_witness2
  case hc =>
    refine Att.attach_callB (l := PySem.Challenge.rw_paintposts_k99_whole_rings_moved_mirrore) (n := 63) rfl (by kernel_rfl) fun w s₀ s₁ mg mb fa o pm cd doc a vs ns G Y ho hd hcd hmg0 hobj hints hlen hbits hg => ?_
    obtain ⟨K, KX, c, tk⟩ := Y
    have T : Pp.Tx K mg := Pp.Tx.of KX G.T.g c
    have hmg : mg ("law" : PySem.Str) = some (.ref fa) := by
      have e : (HandSHeadRun.topDef (OpenLaw.row PySem.Challenge.rw_paintposts_k99_whole_rings_moved_mirrore).prog 68).name = ("law" : PySem.Str) := by kernel_rfl
      rw [← e]
      exact hmg0
    have hlaw : mg ("law" : PySem.Str) = some (.ref (Pp.ga K "law")) := T.glo _ (Pp.fact_of T.c 29)
    have efa : fa = Pp.ga K "law" := by
      rw [hmg] at hlaw
      have := Option.some.inj hlaw
      injection this
    subst efa
    obtain ⟨fd, F⟩ := T.d_sLaw
    have bn := F.binds (ps := ["_law_script"]) fun _ _ _ _ _ _ us hl => match us, hl with | [_], _ => rfl
    exact Pp.law_call ⟨KX, hobj, hints, Nat.le_trans hlen (by decide), fun t ht => by
        obtain ⟨p, hp, rfl⟩ := List.mem_map.mp ht
        exact tk.empty p hp, fun t ht => by
        obtain ⟨p, hp, rfl⟩ := List.mem_map.mp ht
        exact tk.out p hp⟩ G.T.g G.T.b G.T.builtins G.T.nolimit hg G.T.bmain T ⟨by kernel_rfl, by kernel_rfl⟩ tk.hd F (bn s₁ [.ref a] KX rfl)
