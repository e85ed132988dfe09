import Derived.ChangeSlices
import Derived.SizedLaws
import Derived.Test.YtdkahcolfcmmpaaFq1
import Derived.Test.YtdkahcolfcmmpaaFq2
import Derived.Test.YtdkahcolfcmmpaaFq3
import Derived.Test.YtdkahcolfcmmpaaFq4
import Derived.Test.YtdkahcolfcmmpaaFq5
import Derived.Test.YtdkahcolfcmmpaaFq6
import Derived.Test.YtdkahcolfcmmpaaRows
set_option linter.unusedVariables false
namespace Go.Proofs.Ytdkahcolfcmmpaa.Pure
open Go.RowKit Go.Proofs.Ytdkahcolfcmmpaa.Pr Go.Proofs.YtdkahcolfcmmpaaW.PrintWords Go.Proofs.YtdkahcolfcmmpaaW.PrintLast Go.Proofs.YtdkahcolfcmmpaaW.PrintMore
theorem rd_nat (l : List Int) (j : Nat) : rd l (j : Int) = l.getD j 0 := rfl
theorem Ev.ge {α : Type} {g : Nat → Option α} {r : α} {K : Nat} (h : ∀ k, K ≤ k → g k = some r) : Ev g r := ⟨K, h⟩
theorem natAbs_tmod (a b : Int) : (Int.tmod a b).natAbs = a.natAbs % b.natAbs := Int.natAbs_tmod a b
theorem gcd_step (a b : Int) : Int.gcd b (Int.tmod a b) = Int.gcd a b := by
  unfold Int.gcd
  rw [natAbs_tmod, Nat.gcd_comm a.natAbs, Nat.gcd_rec b.natAbs a.natAbs, Nat.gcd_comm]
theorem size_w {a : Int} (h : a.natAbs ≤ 9223372036854775808) (h' : a < 9223372036854775808) : figure_size.f a = some (wrap64 (a.natAbs : Int)) := by
  unfold figure_size.f
  refine congrArg some ?_
  unfold mx wrap64
  split <;> omega
theorem Abs_w {a : Int} (h : a.natAbs ≤ 9223372036854775808) (h' : a < 9223372036854775808) : speculumbase_Abs.f a = some (wrap64 (a.natAbs : Int)) := by
  unfold speculumbase_Abs.f
  split
  · refine congrArg some ?_
    unfold wrap64; omega
  · refine congrArg some ?_
    unfold wrap64; omega
theorem gcd_ev : ∀ (n : Nat) (a b : Int), b.natAbs ≤ n → a.natAbs ≤ 9223372036854775808 → a < 9223372036854775808 → b.natAbs ≤ 9223372036854775808 → b < 9223372036854775808 →
    Ev (fun k => figure_gcd.l0 k a b) (wrap64 (Int.gcd a b : Int)) ∧ Ev (fun k => speculumbase_Gcd.l0 k a b) (wrap64 (Int.gcd a b : Int)) := by
  intro n
  induction n with
  | zero =>
    intro a b hb ha ha' hb1 hb2
    obtain rfl : b = 0 := by omega
    rw [Int.gcd_zero_right]
    refine ⟨Ev.s ?_, Ev.s ?_⟩
    · simp only [figure_gcd.l0, if_true, size_w ha ha', Option.bind_some]; exact Ev.now _
    · simp only [speculumbase_Gcd.l0, if_true, Abs_w ha ha', Option.bind_some]; exact Ev.now _
  | succ n ih =>
    intro a b hb ha ha' hb1 hb2
    by_cases hz : b = 0
    · subst hz
      rw [Int.gcd_zero_right]
      refine ⟨Ev.s ?_, Ev.s ?_⟩
      · simp only [figure_gcd.l0, if_true, size_w ha ha', Option.bind_some]; exact Ev.now _
      · simp only [speculumbase_Gcd.l0, if_true, Abs_w ha ha', Option.bind_some]; exact Ev.now _
    · have hm : (Int.tmod a b).natAbs < b.natAbs := by rw [natAbs_tmod]; exact Nat.mod_lt _ (by omega)
      obtain ⟨h1, h2⟩ := ih b (Int.tmod a b) (by omega) hb1 hb2 (by omega) (by omega)
      rw [gcd_step] at h1 h2
      refine ⟨Ev.s ?_, Ev.s ?_⟩
      · simp only [figure_gcd.l0, hz, if_false]; exact h1
      · simp only [speculumbase_Gcd.l0, hz, if_false]; exact h2
def lowV (a b : Int) : Int × Int := (Int.tdiv a (Int.gcd a b), Int.tdiv b (Int.gcd a b))
theorem low_facts (a : Int) {b : Int} (hb : 0 < b) : ∃ g : Int, 0 < g ∧ a = g * (lowV a b).1 ∧ b = g * (lowV a b).2 ∧ (Int.gcd a b : Int) = g := by
  have hg : 0 < Int.gcd a b := by
    rcases Nat.eq_zero_or_pos (Int.gcd a b) with h | h
    · have := (Int.gcd_eq_zero_iff.1 h).2; omega
    · exact h
  have h1 : ((Int.gcd a b : Nat) : Int) ∣ a := Int.gcd_dvd_left a b
  have h2 : ((Int.gcd a b : Nat) : Int) ∣ b := Int.gcd_dvd_right a b
  exact ⟨Int.gcd a b, by omega, (Int.mul_tdiv_cancel' h1).symm, (Int.mul_tdiv_cancel' h2).symm, rfl⟩
theorem low_sign (a : Int) {b : Int} (hb : 0 < b) : ((lowV a b).1 < 0 ↔ a < 0) ∧ ((lowV a b).1 = 0 ↔ a = 0) ∧ 0 < (lowV a b).2 := by
  obtain ⟨g, hg, ha, hb', _⟩ := low_facts a hb
  refine ⟨⟨fun h => ?_, fun h => ?_⟩, ⟨fun h => ?_, fun h => ?_⟩, ?_⟩
  · rw [ha]; exact Int.mul_neg_of_pos_of_neg hg h
  · rcases Int.lt_or_le (lowV a b).1 0 with h' | h'
    · exact h'
    · have := Int.mul_nonneg (Int.le_of_lt hg) h'; rw [← ha] at this; omega
  · rw [ha, h, Int.mul_zero]
  · rw [h] at ha
    rcases Int.mul_eq_zero.1 ha.symm with h' | h'
    · omega
    · rw [h]; exact h'
  · rcases Int.lt_or_le 0 (lowV a b).2 with h' | h'
    · exact h'
    · have := Int.mul_nonpos_of_nonneg_of_nonpos (Int.le_of_lt hg) h'; rw [← hb'] at this; omega
theorem low_abs (a : Int) {b : Int} (hb : 0 < b) : (lowV a b).1.natAbs ≤ a.natAbs ∧ (lowV a b).2 ≤ b := by
  obtain ⟨g, hg, ha, hb', _⟩ := low_facts a hb
  refine ⟨?_, ?_⟩
  · have : a.natAbs = g.natAbs * (lowV a b).1.natAbs := by rw [← Int.natAbs_mul, ← ha]
    rw [this]; exact Nat.le_mul_of_pos_left _ (by omega)
  · have h2 := (low_sign a hb).2.2
    have : 1 * (lowV a b).2 ≤ g * (lowV a b).2 := Int.mul_le_mul_of_nonneg_right (by omega) (by omega)
    omega
theorem lowest_ev {a b : Int} (ha : a.natAbs ≤ 4000000000000000000) (hb : 0 < b) (hb' : b ≤ 4000000000000000000) : Ev (fun k => figure_lowest.f k a b) (lowV a b) ∧ Ev (fun k => speculumbase_Lowest.f k a b) (lowV a b) := by
  obtain ⟨h1, h2⟩ := gcd_ev b.natAbs a b (Nat.le_refl _) (by omega) (by omega) (by omega) (by omega)
  obtain ⟨g, hg, e1, e2, e3⟩ := low_facts a hb
  have hgb : g ≤ b := by
    have h2 := (low_sign a hb).2.2
    have : g * 1 ≤ g * (lowV a b).2 := Int.mul_le_mul_of_nonneg_left (by omega) (by omega)
    omega
  have hab := low_abs a hb
  have hw : wrap64 (Int.gcd a b : Int) = g := by rw [e3]; exact w64 (by omega) (by omega)
  rw [hw] at h1 h2
  have p1 : Int.tdiv a g = (lowV a b).1 := by rw [← e3]; rfl
  have p2 : Int.tdiv b g = (lowV a b).2 := by rw [← e3]; rfl
  have q1 : wrap64 (lowV a b).1 = (lowV a b).1 := w64 (by omega) (by omega)
  have q2 : wrap64 (lowV a b).2 = (lowV a b).2 := w64 (by have := (low_sign a hb).2.2; omega) (by omega)
  refine ⟨?_, ?_⟩
  · unfold figure_lowest.f figure_gcd.f
    refine Ev.bind h1 ?_
    rw [if_neg (show ¬ g = 0 by omega), p1, p2, q1, q2]
    exact Ev.now _
  · unfold speculumbase_Lowest.f speculumbase_Gcd.f
    refine Ev.bind h2 ?_
    rw [if_neg (show ¬ b < 0 by omega), if_neg (show ¬ g = 0 by omega), p1, p2, q1, q2]
    exact Ev.now _
def okZ (l0 l1 l2 : List Int) (j : Nat) : Bool := inB (l0.getD j 0) (-100000) 100000 && inB (l1.getD j 0) 0 1000 && inB (l2.getD j 0) 0 1000
def allZ (l0 l1 l2 : List Int) : Nat → Nat → Bool
  | 0, _ => true
  | m + 1, i => okZ l0 l1 l2 i && allZ l0 l1 l2 m (i + 1)
theorem allZ_at {l0 l1 l2 : List Int} : ∀ (m i : Nat), allZ l0 l1 l2 m i = true → ∀ j, i ≤ j → j < i + m → okZ l0 l1 l2 j = true
  | 0, i, _, j, h1, h2 => by omega
  | m + 1, i, h, j, h1, h2 => by
    simp only [allZ, Bool.and_eq_true] at h
    rcases Nat.eq_or_lt_of_le h1 with e | e
    · subst e; exact h.1
    · exact allZ_at m (i + 1) h.2 j e (by omega)
theorem okZ_iff {l0 l1 l2 : List Int} {j : Nat} (h : okZ l0 l1 l2 j = true) : (-100000 ≤ l0.getD j 0 ∧ l0.getD j 0 ≤ 100000) ∧ (0 ≤ l1.getD j 0 ∧ l1.getD j 0 ≤ 1000) ∧ (0 ≤ l2.getD j 0 ∧ l2.getD j 0 ≤ 1000) := by
  simp only [okZ, Bool.and_eq_true, inB_iff] at h
  exact ⟨h.1.1, h.1.2, h.2⟩
theorem sums_bd {l0 l1 l2 : List Int} : ∀ (i : Nat), i ≤ 40 → (∀ j, j < i → okZ l0 l1 l2 j = true) →
    (0 ≤ (sumsTo l0 l1 l2 i).1 ∧ (sumsTo l0 l1 l2 i).1 ≤ 1000 * i) ∧ (0 ≤ (sumsTo l0 l1 l2 i).2.1 ∧ (sumsTo l0 l1 l2 i).2.1 ≤ 1000000 * i)
  | 0, _, _ => by simp [sumsTo]
  | i + 1, hi, h => by
    obtain ⟨⟨a0, a1⟩, ⟨b0, b1⟩⟩ := sums_bd i (by omega) (fun j hj => h j (by omega))
    obtain ⟨_, ⟨q0, q1⟩, ⟨w0, w1⟩⟩ := okZ_iff (h i (by omega))
    have p0 : 0 ≤ l2.getD i 0 * l1.getD i 0 := Int.mul_nonneg w0 q0
    have p1 : l2.getD i 0 * l1.getD i 0 ≤ 1000 * 1000 := Int.mul_le_mul w1 q1 q0 (by omega)
    simp only [sumsTo]
    rw [w64 (n := l2.getD i 0 * l1.getD i 0) (by omega) (by omega), w64 (by omega) (by omega), w64 (by omega) (by omega)]
    omega
theorem sums_step {l0 l1 l2 : List Int} {i : Nat} (hi : i < 40) (h : ∀ j, j ≤ i → okZ l0 l1 l2 j = true) : (sumsTo l0 l1 l2 (i + 1)).1 = (sumsTo l0 l1 l2 i).1 + l2.getD i 0 := by
  obtain ⟨⟨a0, a1⟩, _⟩ := sums_bd i (by omega) (fun j hj => h j (by omega))
  obtain ⟨_, _, ⟨w0, w1⟩⟩ := okZ_iff (h i (Nat.le_refl _))
  simp only [sumsTo]
  rw [w64 (by omega) (by omega)]
theorem max_loop {l0 l1 l2 : List Int} {n : Nat} (hn : n ≤ 40) (hl : l2.length = n) (hok : ∀ j, j < n → okZ l0 l1 l2 j = true) : ∀ (m i k : Nat) (x : Int), i + m = n → m < k → 0 ≤ x → (x = 0 ↔ (sumsTo l0 l1 l2 i).1 = 0) →
    ∃ v, slices_Max_int_int.l0 k l2 x i = some v ∧ (v = 0 ↔ (sumsTo l0 l1 l2 n).1 = 0) := by
  intro m
  induction m with
  | zero =>
    intro i k x hi hk hx hxs
    obtain ⟨k, rfl⟩ : ∃ j, k = j + 1 := ⟨k - 1, by omega⟩
    obtain rfl : i = n := by omega
    refine ⟨x, ?_, hxs⟩
    rw [slices_Max_int_int.l0, if_neg (by omega)]
  | succ m ih =>
    intro i k x hi hk hx hxs
    obtain ⟨k, rfl⟩ : ∃ j, k = j + 1 := ⟨k - 1, by omega⟩
    have hi40 : i < 40 := by omega
    obtain ⟨⟨a0, a1⟩, _⟩ := sums_bd (l0 := l0) (l1 := l1) (l2 := l2) i (by omega) (fun j hj => hok j (by omega))
    have hs := sums_step hi40 (fun j hj => hok j (by omega))
    obtain ⟨_, _, ⟨w0, w1⟩⟩ := okZ_iff (hok i (by omega))
    obtain ⟨v, h1, h2⟩ := ih (i + 1) k (mx x (l2.getD i 0)) (by omega) (by omega) (by unfold mx; split <;> omega) (by rw [hs]; unfold mx; split <;> omega)
    refine ⟨v, ?_, h2⟩
    rw [slices_Max_int_int.l0, if_pos (by omega), if_pos (by omega), wi (by omega), rd_nat]
    exact h1
theorem max_eq {l0 l1 l2 : List Int} {n k : Nat} (h1 : 1 ≤ n) (hn : n ≤ 40) (hl : l2.length = n) (hok : ∀ j, j < n → okZ l0 l1 l2 j = true) (hk : n < k) :
    ∃ v, slices_Max_int_int.f k l2 = some v ∧ (v = 0 ↔ (sumsTo l0 l1 l2 n).1 = 0) := by
  obtain ⟨_, _, ⟨w0, w1⟩⟩ := okZ_iff (hok 0 (by omega))
  have hs := sums_step (l0 := l0) (l1 := l1) (l2 := l2) (i := 0) (by omega) (fun j hj => hok j (by omega))
  obtain ⟨v, e, hv⟩ := max_loop hn hl hok (n - 1) 1 k (l2.getD 0 0) (by omega) (by omega) w0 (by rw [hs]; simp [sumsTo])
  refine ⟨v, ?_, hv⟩
  unfold slices_Max_int_int.f
  rw [if_neg (by omega), if_pos (by omega)]
  exact e
def checkV (l0 l1 l2 : List Int) : Int :=
  if 1 ≤ l0.length ∧ l0.length ≤ 40 ∧ l1.length = l0.length ∧ l2.length = l0.length then
    if allZ l0 l1 l2 l0.length 0 then (if (sumsTo l0 l1 l2 l0.length).1 = 0 then 11 else 0) else 2
  else 10
theorem fig_loop {l0 l1 l2 : List Int} {n : Nat} (h1 : 1 ≤ n) (hn : n ≤ 40) (e0 : l0.length = n) (e1 : l1.length = n) (e2 : l2.length = n) : ∀ (m i k : Nat), i + m = n → m + n + 1 < k → allZ l0 l1 l2 n 0 = allZ l0 l1 l2 m i →
    figure_CheckMap.l0 k l0 n i l0 l1 l2 = some (if allZ l0 l1 l2 m i then (if (sumsTo l0 l1 l2 n).1 = 0 then 11 else 0) else 2) := by
  intro m
  induction m with
  | zero =>
    intro i k hi hk hall
    obtain ⟨k, rfl⟩ : ∃ j, k = j + 1 := ⟨k - 1, by omega⟩
    have ht : allZ l0 l1 l2 n 0 = true := hall
    obtain ⟨v, e, hv⟩ := max_eq h1 hn e2 (fun j hj => allZ_at n 0 ht j (by omega) (by omega)) (k := k) (by omega)
    rw [figure_CheckMap.l0, if_neg (by omega), e, Option.bind_some]
    simp only [allZ, if_true]
    by_cases hz : v = 0
    · rw [if_pos hz, if_pos (hv.1 hz)]
    · rw [if_neg hz, if_neg (fun h => hz (hv.2 h))]
  | succ m ih =>
    intro i k hi hk hall
    obtain ⟨k, rfl⟩ : ∃ j, k = j + 1 := ⟨k - 1, by omega⟩
    rw [figure_CheckMap.l0, if_pos (by omega), if_pos (by omega), if_pos (by omega), within_eq, Option.bind_some, rd_nat]
    rw [if_pos (show (i : Int) < (l1.length : Int) by omega), if_pos (show (i : Int) < (l2.length : Int) by omega), within_eq, within_eq, Option.bind_some, Option.bind_some, rd_nat, rd_nat, wi (by omega)]
    cases a : inB (l0.getD i 0) (-100000) 100000
    · have hA : allZ l0 l1 l2 (m + 1) i = false := by simp only [allZ, okZ, a, Bool.false_and]
      simp only [hA, Bool.false_eq_true, if_false]
    · cases b : inB (l1.getD i 0) 0 1000
      · have hA : allZ l0 l1 l2 (m + 1) i = false := by simp only [allZ, okZ, a, b, Bool.and_false, Bool.false_and]
        simp only [hA, Bool.false_eq_true, if_false, if_true]
      · cases c : inB (l2.getD i 0) 0 1000
        · have hA : allZ l0 l1 l2 (m + 1) i = false := by simp only [allZ, okZ, a, b, c, Bool.and_false, Bool.false_and]
          simp only [hA, Bool.false_eq_true, if_false, if_true]
        · have ho : okZ l0 l1 l2 i = true := by simp only [okZ, a, b, c, Bool.and_self]
          have hA : allZ l0 l1 l2 (m + 1) i = allZ l0 l1 l2 m (i + 1) := by simp only [allZ, ho, Bool.true_and]
          rw [hA] at hall
          simp only [hA, if_true]
          exact ih (i + 1) k (by omega) (by omega) hall
theorem ref_loop {l0 l1 l2 : List Int} {n : Nat} (hn : n ≤ 40) (e0 : l0.length = n) (e1 : l1.length = n) (e2 : l2.length = n) : ∀ (m i k : Nat), i + m = n → m < k → (∀ j, j < i → okZ l0 l1 l2 j = true) →
    speculumref06_CheckMap.l0 k n (sumsTo l0 l1 l2 i).1 i l0 l1 l2 = some (if allZ l0 l1 l2 m i then (if (sumsTo l0 l1 l2 n).1 = 0 then 11 else 0) else 2) := by
  intro m
  induction m with
  | zero =>
    intro i k hi hk hall
    obtain ⟨k, rfl⟩ : ∃ j, k = j + 1 := ⟨k - 1, by omega⟩
    obtain rfl : i = n := by omega
    rw [speculumref06_CheckMap.l0, if_neg (by omega)]
    simp only [allZ, if_true]
    split <;> rfl
  | succ m ih =>
    intro i k hi hk hall
    obtain ⟨k, rfl⟩ : ∃ j, k = j + 1 := ⟨k - 1, by omega⟩
    rw [speculumref06_CheckMap.l0, if_pos (by omega), if_pos (by omega), if_pos (by omega), isHeight_eq, Option.bind_some, rd_nat]
    rw [if_pos (show (i : Int) < (l1.length : Int) by omega), if_pos (show (i : Int) < (l2.length : Int) by omega), Within_eq, Within_eq, Option.bind_some, Option.bind_some, rd_nat, rd_nat, wi (by omega)]
    cases a : inB (l0.getD i 0) (-100000) 100000
    · have hA : allZ l0 l1 l2 (m + 1) i = false := by simp only [allZ, okZ, a, Bool.false_and]
      simp only [hA, Bool.false_eq_true, if_false]
    · cases b : inB (l1.getD i 0) 0 1000
      · have hA : allZ l0 l1 l2 (m + 1) i = false := by simp only [allZ, okZ, a, b, Bool.and_false, Bool.false_and]
        simp only [hA, Bool.false_eq_true, if_false, if_true]
      · cases c : inB (l2.getD i 0) 0 1000
        · have hA : allZ l0 l1 l2 (m + 1) i = false := by simp only [allZ, okZ, a, b, c, Bool.and_false, Bool.false_and]
          simp only [hA, Bool.false_eq_true, if_false, if_true]
        · have ho : okZ l0 l1 l2 i = true := by simp only [okZ, a, b, c, Bool.and_self]
          have hA : allZ l0 l1 l2 (m + 1) i = allZ l0 l1 l2 m (i + 1) := by simp only [allZ, ho, Bool.true_and]
          simp only [hA, if_true]
          exact ih (i + 1) k (by omega) (by omega) (fun j hj => by
            rcases Nat.lt_or_ge j i with h | h
            · exact hall j h
            · obtain rfl : j = i := by omega
              exact ho)
theorem fig_check (l0 l1 l2 : List Int) (k : Nat) (hk : 100 ≤ k) : figure_CheckMap.f k l0 l1 l2 = some (checkV l0 l1 l2) := by
  obtain ⟨k, rfl⟩ : ∃ j, k = j + 1 := ⟨k - 1, by omega⟩
  unfold figure_CheckMap.f figure_isZones.f checkV
  rw [within_eq, Option.bind_some, Option.bind_some]
  by_cases hn : 1 ≤ l0.length ∧ l0.length ≤ 40
  · rw [if_pos (by rw [inB_iff]; omega)]
    by_cases h1 : l1.length = l0.length
    · rw [if_pos (by omega), figure_CheckMap.j0]
      by_cases h2 : l2.length = l0.length
      · rw [if_neg (by simp [h2]), if_pos ⟨hn.1, hn.2, h1, h2⟩]
        exact fig_loop hn.1 hn.2 rfl h1 h2 l0.length 0 k (by omega) (by omega) rfl
      · rw [if_pos (by simp; omega), if_neg (fun h => h2 h.2.2.2)]
    · rw [if_neg (by omega), figure_CheckMap.j0, if_pos rfl, if_neg (fun h => h1 h.2.2.1)]
  · rw [if_neg (by rw [inB_iff]; omega), figure_CheckMap.j0, if_pos rfl, if_neg (fun h => hn ⟨h.1, h.2.1⟩)]
theorem ref_check (l0 l1 l2 : List Int) (k : Nat) (hk : 100 ≤ k) : speculumref06_CheckMap.f k l0 l1 l2 = some (checkV l0 l1 l2) := by
  obtain ⟨k, rfl⟩ : ∃ j, k = j + 1 := ⟨k - 1, by omega⟩
  unfold speculumref06_CheckMap.f checkV
  rw [Within_eq, Option.bind_some]
  by_cases hn : 1 ≤ l0.length ∧ l0.length ≤ 40
  · rw [if_pos (by rw [inB_iff]; omega)]
    by_cases h1 : l1.length = l0.length
    · rw [if_pos (by omega), speculumref06_CheckMap.j0]
      by_cases h2 : l2.length = l0.length
      · rw [if_neg (by simp [h2]), if_pos ⟨hn.1, hn.2, h1, h2⟩]
        exact ref_loop hn.2 rfl h1 h2 l0.length 0 k (by omega) (by omega) (fun j hj => by omega)
      · rw [if_pos (by simp; omega), if_neg (fun h => h2 h.2.2.2)]
    · rw [if_neg (by omega), speculumref06_CheckMap.j0, if_pos rfl, if_neg (fun h => h1 h.2.2.1)]
  · rw [if_neg (by rw [inB_iff]; omega), speculumref06_CheckMap.j0, if_pos rfl, if_neg (fun h => hn ⟨h.1, h.2.1⟩)]
theorem checkV_0 {l0 l1 l2 : List Int} (h : checkV l0 l1 l2 = 0) : (1 ≤ l0.length ∧ l0.length ≤ 40 ∧ l1.length = l0.length ∧ l2.length = l0.length) ∧ (∀ j, j < l0.length → okZ l0 l1 l2 j = true) ∧ (sumsTo l0 l1 l2 l0.length).1 ≠ 0 := by
  unfold checkV at h
  split at h
  · rename_i hs
    split at h
    · rename_i ha
      split at h
      · omega
      · rename_i hz; exact ⟨hs, fun j hj => allZ_at _ 0 ha j (by omega) (by omega), hz⟩
    · omega
  · omega
theorem ref_mean {l0 l1 l2 : List Int} {n : Nat} (hn : n ≤ 40) (e1 : l1.length = n) (e2 : l2.length = n) (k' : Nat) : ∀ (m i : Nat), i + m = n →
    speculumref06_Mean.l0 (m + 1 + k') (sumsTo l0 l1 l2 i).2.1 (sumsTo l0 l1 l2 i).1 i l0 l1 l2 = (speculumbase_Lowest.f (k') (sumsTo l0 l1 l2 n).2.1 (sumsTo l0 l1 l2 n).1).bind fun x => some (x.1, x.2) := by
  intro m
  induction m with
  | zero =>
    intro i hi
    obtain rfl : i = n := by omega
    rw [show 0 + 1 + k' = k' + 1 by omega, speculumref06_Mean.l0, if_neg (by omega)]
  | succ m ih =>
    intro i hi
    rw [show m + 1 + 1 + k' = (m + 1 + k') + 1 by omega, speculumref06_Mean.l0, if_pos (by omega), if_pos (by omega), if_pos (by omega), wi (by omega)]
    exact ih (i + 1) (by omega)
theorem mapped_eq {l0 l1 l2 : List Int} (h0 : l0.length ≤ 1000) (h1 : l1.length ≤ 1000) (h2 : l2.length ≤ 1000) : speculumlaw06_mapped.f l0 l1 l2 = some (l0, l1, l2) := by
  unfold speculumlaw06_mapped.f
  rw [copy_eq _ (by omega), copy_eq _ (by omega), copy_eq _ (by omega)]; rfl
theorem few_len {l0 l1 l2 : List Int} (h : (fewB l0.length && fewB l1.length && fewB l2.length) = true) : l0.length ≤ 42 ∧ l1.length ≤ 42 ∧ l2.length ≤ 42 := by
  simp only [Bool.and_eq_true] at h
  have a := few_true h.1.1
  have b := few_true h.1.2
  have c := few_true h.2
  omega
end Go.Proofs.Ytdkahcolfcmmpaa.Pure
set_option linter.unusedVariables false
namespace Go.Proofs.Ytdkahcolfcmmpaa.Pure
open Go.RowKit Go.Proofs.Ytdkahcolfcmmpaa.Pr Go.Proofs.YtdkahcolfcmmpaaW.PrintWords Go.Proofs.YtdkahcolfcmmpaaW.PrintLast Go.Proofs.YtdkahcolfcmmpaaW.PrintMore
theorem set_at (l : List Int) (i j : Nat) (v : Int) : (l.set i v).getD j 0 = if i = j ∧ i < l.length then v else l.getD j 0 := by
  rw [List.getD_eq_getElem?_getD, List.getD_eq_getElem?_getD, List.getElem?_set]
  by_cases h : i = j
  · subst h
    by_cases hl : i < l.length
    · rw [if_pos rfl, if_pos hl, if_pos ⟨rfl, hl⟩]; rfl
    · rw [if_pos rfl, if_neg hl, if_neg (fun h => hl h.2), List.getElem?_eq_none (by omega)]
  · rw [if_neg h, if_neg (fun hh => h hh.1)]
theorem wm {i : Nat} (h : 1 ≤ i) (h' : i ≤ 100000) : wrap64 ((i : Int) - 1) = ((i - 1 : Nat) : Int) := by rw [w64 (by omega) (by omega)]; omega
theorem wm2 {i : Nat} (h : 2 ≤ i) (h' : i ≤ 100000) : wrap64 ((i : Int) - 2) = ((i - 2 : Nat) : Int) := by rw [w64 (by omega) (by omega)]; omega
def lx (q h : Nat → Int) (i j : Nat) : Prop := q i < q j ∨ (q i = q j ∧ h i ≤ h j)
theorem lx_trans {q h : Nat → Int} {a b c : Nat} (h1 : lx q h a b) (h2 : lx q h b c) : lx q h a c := by
  unfold lx at *; omega
def qz (l1 : List Int) (z : Nat) : Int := l1.getD z 0
def cmpV (a b : Int) : Int := if a < b then -1 else if a > b then 1 else 0
theorem cmp_eq (a b : Int) : cmp_Compare_int.f a b = some (cmpV a b) := by
  unfold cmp_Compare_int.f cmp_isNaN_int.f cmpV
  simp only [bne_self_eq_false, Option.bind_some, Bool.false_eq_true, if_false]
  split
  · rfl
  · split <;> rfl
theorem or_step (k : Nat) (a b : Int) (i : Nat) (hi : i < 2) : cmp_Or_int.l0 (k + 1) 0 [a, b] 2 (i : Int) = if [a, b].getD i 0 = 0 then cmp_Or_int.l0 k 0 [a, b] 2 ((i + 1 : Nat) : Int) else some ([a, b].getD i 0) := by
  rw [cmp_Or_int.l0, if_pos (by omega), if_pos (by omega), if_pos (by simp only [List.length_cons, List.length_nil]; omega), wi (by omega)]
  rfl
theorem or_eq (a b : Int) : cmp_Or_int.f 5 [a, b] = some (if a = 0 then b else a) := by
  show cmp_Or_int.l0 5 0 [a, b] 2 ((0 : Nat) : Int) = _
  rw [or_step _ _ _ 0 (by omega)]
  show (if a = 0 then cmp_Or_int.l0 4 0 [a, b] 2 ((1 : Nat) : Int) else some a) = _
  by_cases ha : a = 0
  · rw [if_pos ha, if_pos ha, or_step _ _ _ 1 (by omega)]
    show (if b = 0 then cmp_Or_int.l0 3 0 [a, b] 2 ((2 : Nat) : Int) else some b) = _
    by_cases hb : b = 0
    · rw [if_pos hb, cmp_Or_int.l0, if_neg (by omega), hb]
    · rw [if_neg hb]
  · rw [if_neg ha, if_neg ha]
theorem hullC_eq {l0 l1 : List Int} {i j : Nat} (hi : i < l0.length) (hj : j < l0.length) (h1 : l1.length = l0.length) :
    ∃ v, hullC.f (E := ⟨⟨l0, l1⟩⟩) (i : Int) (j : Int) = some v ∧ (v < 0 → lx (qz l1) (qz l0) i j) ∧ (¬ v < 0 → lx (qz l1) (qz l0) j i) := by
  have a0 : (i : Int) < (l0.length : Int) := by omega
  have a1 : (i : Int) < (l1.length : Int) := by omega
  have b0 : (j : Int) < (l0.length : Int) := by omega
  have b1 : (j : Int) < (l1.length : Int) := by omega
  have e : hullC.f (E := ⟨⟨l0, l1⟩⟩) (i : Int) (j : Int) = some (if cmpV (l1.getD i 0) (l1.getD j 0) = 0 then cmpV (l0.getD i 0) (l0.getD j 0) else cmpV (l1.getD i 0) (l1.getD j 0)) := by
    show figure_hull_1.f 5 (i : Int) (j : Int) l0 l1 [] = _
    unfold figure_hull_1.f
    simp only [n0, a0, a1, b0, b1, if_true, cmp_eq, Option.bind_some, or_eq, rdn]
  refine ⟨_, e, ?_, ?_⟩
  · intro h
    unfold lx qz
    unfold cmpV at h
    repeat' split at h
    all_goals omega
  · intro h
    unfold lx qz
    unfold cmpV at h
    repeat' split at h
    all_goals omega
structure Ord (l0 l1 x : List Int) (m : Nat) : Prop where
  len : x.length = l0.length
  val : ∀ j, j < l0.length → ∃ z : Nat, z < l0.length ∧ x.getD j 0 = (z : Int)
  cov : ∀ z : Nat, z < l0.length → ∃ j, j < l0.length ∧ x.getD j 0 = (z : Int)
  srt : ∀ a b : Nat, a < b → b < m → ∀ i j : Nat, x.getD a 0 = (i : Int) → x.getD b 0 = (j : Int) → lx (qz l1) (qz l0) i j
structure OrdB (l0 l1 x : List Int) (i j : Nat) : Prop where
  len : x.length = l0.length
  val : ∀ j, j < l0.length → ∃ z : Nat, z < l0.length ∧ x.getD j 0 = (z : Int)
  cov : ∀ z : Nat, z < l0.length → ∃ j, j < l0.length ∧ x.getD j 0 = (z : Int)
  srt : ∀ a b : Nat, a < b → b ≤ i → b ≠ j → ∀ u v : Nat, x.getD a 0 = (u : Int) → x.getD b 0 = (v : Int) → lx (qz l1) (qz l0) u v
theorem swap_at {x : List Int} {j c : Nat} (h1 : 1 ≤ j) (h2 : j < x.length) : ((x.set j (x.getD (j - 1) 0)).set (j - 1) (x.getD j 0)).getD c 0 = if c = j - 1 then x.getD j 0 else if c = j then x.getD (j - 1) 0 else x.getD c 0 := by
  rw [set_at, set_at, List.length_set]
  by_cases a : c = j - 1
  · rw [if_pos ⟨a.symm, by omega⟩, if_pos a]
  · rw [if_neg (fun h => a h.1.symm), if_neg a]
    by_cases b : c = j
    · rw [if_pos ⟨b.symm, h2⟩, if_pos b]
    · rw [if_neg (fun h => b h.1.symm), if_neg b]
theorem swap_inv {l0 l1 x : List Int} {i j : Nat} (h1 : 1 ≤ j) (hj : j ≤ i) (hi : i < l0.length) (H : OrdB l0 l1 x i j)
    (hlt : ∀ u v : Nat, x.getD j 0 = (u : Int) → x.getD (j - 1) 0 = (v : Int) → lx (qz l1) (qz l0) u v) : OrdB l0 l1 ((x.set j (x.getD (j - 1) 0)).set (j - 1) (x.getD j 0)) i (j - 1) := by
  have hjx : j < x.length := by rw [H.len]; omega
  have at_ := fun c => swap_at (x := x) (j := j) (c := c) h1 hjx
  refine ⟨by rw [List.length_set, List.length_set, H.len], fun c hc => ?_, fun z hz => ?_, fun a b hab hb hbj u v hu hv => ?_⟩
  · rw [at_]
    split
    · exact H.val j (by omega)
    · split
      · exact H.val (j - 1) (by omega)
      · exact H.val c hc
  · obtain ⟨c, hc, e⟩ := H.cov z hz
    by_cases e1 : c = j
    · exact ⟨j - 1, by omega, by rw [at_, if_pos rfl, ← e1]; exact e⟩
    · by_cases e2 : c = j - 1
      · exact ⟨j, by omega, by rw [at_, if_neg (by omega), if_pos rfl, ← e2]; exact e⟩
      · exact ⟨c, hc, by rw [at_, if_neg e2, if_neg e1]; exact e⟩
  · rw [at_] at hu hv
    rw [if_neg hbj] at hv
    by_cases b1 : b = j
    · rw [if_pos b1] at hv
      by_cases a1 : a = j - 1
      · rw [if_pos a1] at hu; exact hlt u v hu hv
      · rw [if_neg a1, if_neg (by omega)] at hu
        exact H.srt a (j - 1) (by omega) (by omega) (by omega) u v hu hv
    · rw [if_neg b1] at hv
      by_cases a1 : a = j - 1
      · rw [if_pos a1] at hu
        exact H.srt j b (by omega) hb b1 u v hu hv
      · rw [if_neg a1] at hu
        by_cases a2 : a = j
        · rw [if_pos a2] at hu
          exact H.srt (j - 1) b (by omega) hb b1 u v hu hv
        · rw [if_neg a2] at hu
          exact H.srt a b hab hb b1 u v hu hv
theorem ins_l1 {l0 l1 : List Int} (h1 : l1.length = l0.length) (hn : l0.length ≤ 100) {i : Nat} (hi : i < l0.length) : ∀ (j : Nat) (x : List Int), j ≤ i → OrdB l0 l1 x i j →
    ∃ y, Ord l0 l1 y (i + 1) ∧ ∀ r, Ev (fun k => slices_insertionSortCmpFunc_int__figure_hull_1.l0 (E := ⟨⟨l0, l1⟩⟩) k y 0 (l0.length : Int) ((i + 1 : Nat) : Int)) r → Ev (fun k => slices_insertionSortCmpFunc_int__figure_hull_1.l1 (E := ⟨⟨l0, l1⟩⟩) k x 0 (l0.length : Int) (i : Int) (j : Int)) r := by
  intro j
  induction j with
  | zero =>
    intro x hj H
    refine ⟨x, ⟨H.len, H.val, H.cov, fun a b hab hb u v hu hv => H.srt a b hab (by omega) (by omega) u v hu hv⟩, fun r hr => Ev.s ?_⟩
    have hc : ¬ ((0 : Nat) : Int) > 0 := by omega
    simp only [slices_insertionSortCmpFunc_int__figure_hull_1.l1, hc, if_false, wi (show i ≤ 100000 by omega)]
    exact hr
  | succ j ih =>
    intro x hj H
    have hc : ((j + 1 : Nat) : Int) > 0 := by omega
    have hx1 : ((j + 1 : Nat) : Int) < (x.length : Int) := by rw [H.len]; omega
    have hx0 : ((j + 1 - 1 : Nat) : Int) < (x.length : Int) := by rw [H.len]; omega
    obtain ⟨u, hu, eu⟩ := H.val (j + 1) (by omega)
    obtain ⟨v, hv, ev⟩ := H.val (j + 1 - 1) (by omega)
    obtain ⟨c, e, c1, c2⟩ := hullC_eq (i := u) (j := v) hu hv h1
    by_cases hneg : c < 0
    · have hlx := c1 hneg
      obtain ⟨y, hy, hr⟩ := ih _ (by omega) (swap_inv (by omega) hj hi H (fun u' v' hu' hv' => by
        rw [eu] at hu'; rw [ev] at hv'
        obtain rfl : u = u' := by omega
        obtain rfl : v = v' := by omega
        exact hlx))
      refine ⟨y, hy, fun r h => Ev.s ?_⟩
      have := hr r h
      simp only [slices_insertionSortCmpFunc_int__figure_hull_1.l1, hc, n0, hx1, if_true, wm (show 1 ≤ j + 1 by omega) (show j + 1 ≤ 100000 by omega), hx0, rdn]
      rw [eu, ev]
      simp only [e, Option.bind_some, hneg, if_true, Int.toNat_natCast]
      rw [eu, ev] at this
      exact this
    · have hlx := c2 hneg
      refine ⟨x, ⟨H.len, H.val, H.cov, fun a b hab hb p s hp hs => ?_⟩, fun r h => Ev.s ?_⟩
      · by_cases b1 : b = j + 1
        · subst b1
          rw [eu] at hs
          obtain rfl : u = s := by omega
          by_cases a1 : a = j
          · subst a1
            have : x.getD (a + 1 - 1) 0 = (p : Int) := hp
            rw [ev] at this
            obtain rfl : v = p := by omega
            exact hlx
          · exact lx_trans (H.srt a j (by omega) (by omega) (by omega) p v hp ev) hlx
        · exact H.srt a b hab (by omega) b1 p s hp hs
      · simp only [slices_insertionSortCmpFunc_int__figure_hull_1.l1, hc, n0, hx1, if_true, wm (show 1 ≤ j + 1 by omega) (show j + 1 ≤ 100000 by omega), hx0, rdn]
        rw [eu, ev]
        simp only [e, Option.bind_some, hneg, if_false, wi (show i ≤ 100000 by omega)]
        exact h
theorem ins_l0 {l0 l1 : List Int} (h1 : l1.length = l0.length) (hn : l0.length ≤ 100) : ∀ (m i : Nat) (x : List Int), i + m = l0.length → Ord l0 l1 x i →
    ∃ y, Ord l0 l1 y l0.length ∧ Ev (fun k => slices_insertionSortCmpFunc_int__figure_hull_1.l0 (E := ⟨⟨l0, l1⟩⟩) k x 0 (l0.length : Int) (i : Int)) y := by
  intro m
  induction m with
  | zero =>
    intro i x hi H
    obtain rfl : i = l0.length := by omega
    refine ⟨x, H, Ev.s ?_⟩
    simp only [slices_insertionSortCmpFunc_int__figure_hull_1.l0, Int.lt_irrefl, if_false]
    exact Ev.now _
  | succ m ih =>
    intro i x hi H
    have hlt : (i : Int) < (l0.length : Int) := by omega
    obtain ⟨y, hy, hr⟩ := ins_l1 h1 hn (i := i) (by omega) i x (Nat.le_refl _) ⟨H.len, H.val, H.cov, fun a b hab hb hbj u v hu hv => H.srt a b hab (by omega) u v hu hv⟩
    obtain ⟨z, hz, hz2⟩ := ih (i + 1) y (by omega) hy
    refine ⟨z, hz, Ev.s ?_⟩
    simp only [slices_insertionSortCmpFunc_int__figure_hull_1.l0, hlt, if_true]
    exact hr z hz2
theorem sort_ev {l0 l1 x : List Int} (h1 : l1.length = l0.length) (hn0 : 1 ≤ l0.length) (hn : l0.length < 20) (H : Ord l0 l1 x 1) :
    ∃ y, Ord l0 l1 y l0.length ∧ Ev (fun k => slices_SortStableFunc_int_int__figure_hull_1.f (E := ⟨⟨l0, l1⟩⟩) k x) y := by
  obtain ⟨y, hy, he⟩ := ins_l0 h1 (by omega) (l0.length - 1) 1 x (by omega) H
  refine ⟨y, hy, ?_⟩
  unfold slices_SortStableFunc_int_int__figure_hull_1.f slices_stableCmpFunc_int__figure_hull_1.f
  refine Ev.bind (a := y) ?_ (Ev.now _)
  have c1 : ¬ (20 : Int) ≤ (x.length : Int) := by rw [H.len]; omega
  have c2 : ¬ (20 : Int) < (x.length : Int) := by rw [H.len]; omega
  refine Ev.s ?_
  simp only [slices_stableCmpFunc_int__figure_hull_1.l0, c1, if_false]
  refine Ev.bind (a := y) ?_ ?_
  · unfold slices_insertionSortCmpFunc_int__figure_hull_1.f
    rw [H.len, show wrap64 (0 + 1) = ((1 : Nat) : Int) from w64 (by omega) (by omega)]
    exact he
  · refine Ev.s ?_
    simp only [slices_stableCmpFunc_int__figure_hull_1.l1, c2, if_false]
    exact Ev.now _
end Go.Proofs.Ytdkahcolfcmmpaa.Pure
set_option linter.unusedVariables false
namespace Go.Proofs.Ytdkahcolfcmmpaa.Pure
open Go.RowKit Go.Proofs.Ytdkahcolfcmmpaa.Pr Go.Proofs.YtdkahcolfcmmpaaW.PrintWords Go.Proofs.YtdkahcolfcmmpaaW.PrintLast Go.Proofs.YtdkahcolfcmmpaaW.PrintMore
def toL : List Nat → List Int
 | [] => []
 | t :: r => toL r ++ [(t : Int)]
theorem toL_len : ∀ r : List Nat, (toL r).length = r.length
 | [] => rfl
 | t :: r => by rw [toL, List.length_append, toL_len r]; rfl
theorem toL_top (t : Nat) (r : List Nat) : (toL (t :: r)).getD r.length 0 = (t : Int) := by
 rw [toL, List.getD_eq_getElem?_getD, List.getElem?_append_right (by rw [toL_len]; exact Nat.le_refl _), toL_len, Nat.sub_self]; rfl
theorem toL_below (t : Nat) (r : List Nat) (i : Nat) (h : i < r.length) : (toL (t :: r)).getD i 0 = (toL r).getD i 0 := by
 rw [toL, List.getD_eq_getElem?_getD, List.getElem?_append_left (by rw [toL_len]; exact h), List.getD_eq_getElem?_getD]
theorem toL_take (t : Nat) (r : List Nat) : (toL (t :: r)).take r.length = toL r := by
 rw [toL, List.take_append_of_le_length (by rw [toL_len]; exact Nat.le_refl _), List.take_of_length_le (by rw [toL_len]; exact Nat.le_refl _)]
structure Zs (l0 l1 : List Int) : Prop where
 len : l1.length = l0.length
 few : l0.length ≤ 100
 h : ∀ z, z < l0.length → -100000 ≤ qz l0 z ∧ qz l0 z ≤ 100000
 q : ∀ z, z < l0.length → 0 ≤ qz l1 z ∧ qz l1 z ≤ 1000
theorem mulb {a b A B : Int} (ha : -A ≤ a ∧ a ≤ A) (hb : -B ≤ b ∧ b ≤ B) (hA : 0 ≤ A) : -(A * B) ≤ a * b ∧ a * b ≤ A * B := by
 have h1 : (a * b).natAbs ≤ (A * B).natAbs := by
  rw [Int.natAbs_mul, Int.natAbs_mul]
  exact Nat.mul_le_mul (by omega) (by omega)
 have h2 : 0 ≤ A * B := Int.mul_nonneg hA (by omega)
 omega
theorem under_eq {l0 l1 l2 : List Int} (Z : Zs l0 l1) {p a k : Nat} (hp : p < l0.length) (ha : a < l0.length) (hk : k < l0.length) : figure_under.f l0 l1 l2 (p : Int) (a : Int) (k : Int) = some (decide (0 < cross (qz l1) (qz l0) p a k)) := by
 have p0 : (p : Int) < (l0.length : Int) := by omega
 have p1 : (p : Int) < (l1.length : Int) := by have := Z.len; omega
 have a0 : (a : Int) < (l0.length : Int) := by omega
 have a1 : (a : Int) < (l1.length : Int) := by have := Z.len; omega
 have k0 : (k : Int) < (l0.length : Int) := by omega
 have k1 : (k : Int) < (l1.length : Int) := by have := Z.len; omega
 have hhp := Z.h p hp
 have hha := Z.h a ha
 have hhk := Z.h k hk
 have hqp := Z.q p hp
 have hqa := Z.q a ha
 have hqk := Z.q k hk
 unfold figure_under.f
 simp only [n0, p0, p1, a0, a1, k0, k1, if_true, rdn]
 change some (decide (wrap64 (wrap64 (qz l0 a - qz l0 p) * wrap64 (qz l1 k - qz l1 p)) < wrap64 (wrap64 (qz l0 k - qz l0 p) * wrap64 (qz l1 a - qz l1 p)))) = _
 rw [w64 (n := qz l0 a - qz l0 p) (by omega) (by omega), w64 (n := qz l1 k - qz l1 p) (by omega) (by omega), w64 (n := qz l0 k - qz l0 p) (by omega) (by omega), w64 (n := qz l1 a - qz l1 p) (by omega) (by omega)]
 have m1 := mulb (a := qz l0 a - qz l0 p) (b := qz l1 k - qz l1 p) (A := 200000) (B := 1000) ⟨by omega, by omega⟩ ⟨by omega, by omega⟩ (by omega)
 have m2 := mulb (a := qz l0 k - qz l0 p) (b := qz l1 a - qz l1 p) (A := 200000) (B := 1000) ⟨by omega, by omega⟩ ⟨by omega, by omega⟩ (by omega)
 rw [w64 (n := (qz l0 a - qz l0 p) * (qz l1 k - qz l1 p)) (by omega) (by omega), w64 (n := (qz l0 k - qz l0 p) * (qz l1 a - qz l1 p)) (by omega) (by omega)]
 refine congrArg some ?_
 rw [Bool.eq_iff_iff, decide_eq_true_eq, decide_eq_true_eq]
 unfold cross
 omega
theorem pop_ev {l0 l1 l2 ord : List Int} (Z : Zs l0 l1) {P : Nat → Prop} (hP : ∀ z, P z → z < l0.length) {k : Nat} (hk : k < l0.length) (hm : ∀ z, P z → qz l1 z ≤ qz l1 k) {n i : Int} : ∀ (r : List Nat) (a : Nat), r.length ≤ 100 → Good (qz l1) (qz l0) P (a :: r) → qz l1 a < qz l1 k → Hyp (qz l1) (qz l0) P k a →
  ∃ s, s.length ≤ r.length + 1 ∧ Good (qz l1) (qz l0) (fun z => P z ∨ z = k) (k :: s) ∧ ∀ res, Ev (fun f => figure_hull.l1 f (toL (k :: s)) ord n (wrap64 (i + 1)) l0 l1 l2) res → Ev (fun f => figure_hull.l2 f (toL (a :: r)) (k : Int) ord n i l0 l1 l2) res := by
 intro r
 induction r with
 | nil =>
  intro a hr g hlt hy
  refine ⟨[a], by simp, g.push hlt hy (fun p r' e => by cases e), fun res h => Ev.s ?_⟩
  have hl : ¬ ((toL [a]).length : Int) > 1 := by rw [toL_len]; simp
  have hl2 : (toL [a]).length < 17592186044416 := by rw [toL_len]; simp
  simp only [figure_hull.l2, hl, hl2, if_false, if_true]
  exact h
 | cons p r ih =>
  intro a hr g hlt hy
  have hr' : r.length + 1 ≤ 100 := by simpa using hr
  have hpa : p < l0.length ∧ a < l0.length := ⟨hP p g.2.2.2.top, hP a g.top⟩
  have L : (toL (a :: p :: r)).length = r.length + 2 := by rw [toL_len]; rfl
  have hl : ((toL (a :: p :: r)).length : Int) > 1 := by rw [L]; omega
  have hl2 : (toL (a :: p :: r)).length < 17592186044416 := by rw [L]; omega
  have e1 : wrap64 (((toL (a :: p :: r)).length : Int) - 1) = ((r.length + 1 : Nat) : Int) := by rw [L]; exact wm (i := r.length + 2) (by omega) (by omega)
  have e2 : wrap64 (((toL (a :: p :: r)).length : Int) - 2) = ((r.length : Nat) : Int) := by rw [L]; exact wm2 (i := r.length + 2) (by omega) (by omega)
  have b1 : ((r.length + 1 : Nat) : Int) < ((toL (a :: p :: r)).length : Int) := by rw [L]; omega
  have b2 : ((r.length : Nat) : Int) < ((toL (a :: p :: r)).length : Int) := by rw [L]; omega
  have b3 : ((r.length + 1 : Nat) : Int) ≤ ((toL (a :: p :: r)).length : Int) := by omega
  have t1 : (toL (a :: p :: r)).getD (r.length + 1) 0 = (a : Int) := toL_top a (p :: r)
  have t2 : (toL (a :: p :: r)).getD r.length 0 = (p : Int) := (toL_below a (p :: r) r.length (by simp)).trans (toL_top p r)
  have t3 : (toL (a :: p :: r)).take (r.length + 1) = toL (p :: r) := toL_take a (p :: r)
  by_cases hc : 0 < cross (qz l1) (qz l0) p a k
  ·refine ⟨a :: p :: r, by simp, g.push hlt hy (fun p' r' e => by cases e; omega), fun res h => Ev.s ?_⟩
   simp only [figure_hull.l2, hl, e1, e2, n0, b1, b2, if_true, rdn, t1, t2, under_eq Z hpa.1 hpa.2 hk, Option.bind_some, hc, decide_true, hl2]
   exact h
  ·obtain ⟨s, hs, gs, he⟩ := ih p (by omega) g.2.2.2 (by have := g.2.1; omega) (g.pop hm hlt hy (by omega))
   refine ⟨s, by simp only [List.length_cons]; omega, gs, fun res h => Ev.s ?_⟩
   simp only [figure_hull.l2, hl, e1, e2, n0, b1, b2, b3, if_true, rdn, t1, t2, under_eq Z hpa.1 hpa.2 hk, Option.bind_some, hc, decide_false, Bool.false_eq_true, if_false, Int.toNat_natCast, t3]
   exact he res h
def doneZ (x : List Int) (i : Nat) (z : Nat) : Prop := ∃ j, j < i ∧ x.getD j 0 = (z : Int)
theorem Good.iff {q h : Nat → Int} {P Q : Nat → Prop} (e : ∀ z, P z ↔ Q z) {r : List Nat} (g : Good q h P r) : Good q h Q r := by
 have : P = Q := funext fun z => propext (e z)
 subst this; exact g
theorem hull_l1 {l0 l1 l2 x : List Int} (Z : Zs l0 l1) (O : Ord l0 l1 x l0.length) : ∀ (m i : Nat) (t : Nat) (r : List Nat), 1 ≤ i → i + m = l0.length → r.length < i → Good (qz l1) (qz l0) (doneZ x i) (t :: r) → (∀ z, doneZ x i z → qz l1 z ≤ qz l1 t) →
  ∃ t' r', r'.length < l0.length ∧ Good (qz l1) (qz l0) (fun z => z < l0.length) (t' :: r') ∧ (∀ z, z < l0.length → qz l1 z ≤ qz l1 t') ∧ Ev (fun f => figure_hull.l1 f (toL (t :: r)) x (l0.length : Int) (i : Int) l0 l1 l2) (toL (t' :: r')) := by
 intro m
 induction m with
 | zero =>
  intro i t r h1 hi hr g hm
  obtain rfl : i = l0.length := by omega
  have e : ∀ z, doneZ x l0.length z ↔ z < l0.length := fun z => ⟨fun ⟨j, hj, ej⟩ => by
   obtain ⟨z', hz', e'⟩ := O.val j hj
   rw [ej] at e'; omega, fun hz => O.cov z hz⟩
  refine ⟨t, r, hr, g.iff e, fun z hz => hm z ((e z).2 hz), Ev.s ?_⟩
  have h : ¬ (l0.length : Int) < (l0.length : Int) := by omega
  simp only [figure_hull.l1, h, if_false]
  exact Ev.now _
 | succ m ih =>
  intro i t r h1 hi hr g hm
  have few := Z.few
  obtain ⟨k, hk, ek⟩ := O.val i (by omega)
  have hP : ∀ z, doneZ x i z → z < l0.length := fun z ⟨j, hj, ej⟩ => by
   obtain ⟨z', hz', e'⟩ := O.val j (by omega)
   rw [ej] at e'; omega
  have e : ∀ z, (doneZ x i z ∨ z = k) ↔ doneZ x (i + 1) z := fun z => ⟨fun h => by
   rcases h with ⟨j, hj, ej⟩ | rfl
   ·exact ⟨j, by omega, ej⟩
   ·exact ⟨i, by omega, ek⟩, fun ⟨j, hj, ej⟩ => by
   rcases Nat.lt_or_ge j i with h | h
   ·exact .inl ⟨j, h, ej⟩
   ·obtain rfl : j = i := by omega
    rw [ek] at ej
    exact .inr (by omega)⟩
  obtain ⟨jt, hjt, ejt⟩ := g.top
  have hlx := O.srt jt i hjt (by omega) t k ejt ek
  have ht := hP t g.top
  have L : (toL (t :: r)).length = r.length + 1 := by rw [toL_len]; rfl
  have g0 : ((toL (t :: r)).length : Int) > 0 := by rw [L]; omega
  have e1 : wrap64 (((toL (t :: r)).length : Int) - 1) = ((r.length : Nat) : Int) := by rw [L]; exact wm (i := r.length + 1) (by omega) (by omega)
  have b1 : ((r.length : Nat) : Int) < ((toL (t :: r)).length : Int) := by rw [L]; omega
  have t1 := toL_top t r
  have ht1 : (t : Int) < (l1.length : Int) := by have := Z.len; omega
  have hk1 : (k : Int) < (l1.length : Int) := by have := Z.len; omega
  have hlt : (i : Int) < (l0.length : Int) := by omega
  have hix : (i : Int) < (x.length : Int) := by have := O.len; omega
  by_cases hq : qz l1 t = qz l1 k
  ·have hb : (l1.getD t 0 == l1.getD k 0) = true := beq_iff_eq.2 hq
   obtain ⟨t', r', h1', h2', h3', h4'⟩ := ih (i + 1) t r (by omega) (by omega) (by omega) ((g.skip hq.symm (by unfold lx at hlx; omega)).iff e) (fun z hz => by
    rcases (e z).2 hz with h | rfl
    ·exact hm z h
    ·omega)
   refine ⟨t', r', h1', h2', h3', Ev.s ?_⟩
   simp only [figure_hull.l1, hlt, n0, hix, if_true, g0, e1, b1, rdn, t1, ht1, ek, hk1, hb]
   refine Ev.s ?_
   simp only [figure_hull.j2, if_true, wi (show i ≤ 100000 by omega)]
   exact h4'
  ·have hb : (l1.getD t 0 == l1.getD k 0) = false := beq_eq_false_iff_ne.2 hq
   have hqk : qz l1 t < qz l1 k := by unfold lx at hlx; omega
   have hmk : ∀ z, doneZ x i z → qz l1 z ≤ qz l1 k := fun z hz => by have := hm z hz; omega
   obtain ⟨s, hs, gs, he⟩ := pop_ev (l2 := l2) (ord := x) Z hP hk hmk (n := (l0.length : Int)) (i := (i : Int)) r t (by omega) g hqk (g.hyp hm hqk)
   obtain ⟨t', r', h1', h2', h3', h4'⟩ := ih (i + 1) k s (by omega) (by omega) (by omega) (gs.iff e) (fun z hz => by
    rcases (e z).2 hz with h | rfl
    ·exact hmk z h
    ·exact Int.le_refl _)
   refine ⟨t', r', h1', h2', h3', Ev.s ?_⟩
   simp only [figure_hull.l1, hlt, n0, hix, if_true, g0, e1, b1, rdn, t1, ht1, ek, hk1, hb]
   refine Ev.s ?_
   simp only [figure_hull.j2, Bool.false_eq_true, if_false]
   refine he _ ?_
   rw [wi (show i ≤ 100000 by omega)]
   exact h4'
theorem hull_first {l0 l1 l2 x : List Int} (Z : Zs l0 l1) (hn : 1 ≤ l0.length) (O : Ord l0 l1 x l0.length) :
  ∃ t r, r.length < l0.length ∧ Good (qz l1) (qz l0) (fun z => z < l0.length) (t :: r) ∧ (∀ z, z < l0.length → qz l1 z ≤ qz l1 t) ∧ Ev (fun f => figure_hull.l1 f [] x (l0.length : Int) 0 l0 l1 l2) (toL (t :: r)) := by
 obtain ⟨k, hk, ek⟩ := O.val 0 (by omega)
 have e : ∀ z, doneZ x 1 z ↔ z = k := fun z => ⟨fun ⟨j, hj, ej⟩ => by
  obtain rfl : j = 0 := by omega
  rw [ek] at ej; omega, fun h => ⟨0, by omega, by rw [h]; exact ek⟩⟩
 obtain ⟨t, r, h1, h2, h3, h4⟩ := hull_l1 (l2 := l2) Z O (l0.length - 1) 1 k [] (Nat.le_refl _) (by omega) (by simp) ⟨(e k).2 rfl, fun z hz => by rw [(e z).1 hz]; exact ⟨Int.le_refl _, fun _ => Int.le_refl _⟩⟩ (fun z hz => by rw [(e z).1 hz]; exact Int.le_refl _)
 refine ⟨t, r, h1, h2, h3, Ev.s ?_⟩
 have few := Z.few
 have hlt : (0 : Int) < (l0.length : Int) := by omega
 have hix : (0 : Int) < (x.length : Int) := by have := O.len; omega
 have c0 : ¬ ((([] : List Int).length : Nat) : Int) > 0 := by simp
 have ek' : rd x 0 = (k : Int) := ek
 simp only [figure_hull.l1, hlt, hix, if_true, c0, if_false, ek', Int.le_refl]
 refine Ev.s ?_
 simp only [figure_hull.j2, Bool.false_eq_true, if_false]
 refine Ev.s ?_
 have c1 : ¬ ((([] : List Int).length : Nat) : Int) > 1 := by simp
 have c2 : ([] : List Int).length < 17592186044416 := by simp
 have ew : wrap64 (0 + 1) = ((1 : Nat) : Int) := w64 (by omega) (by omega)
 simp only [figure_hull.l2, c1, c2, if_false, if_true, ew]
 exact h4
theorem fill_l0 {l0 l1 l2 : List Int} {n : Nat} (hn : n ≤ 100) : ∀ (m i : Nat) (x : List Int), i + m = n → x.length = n → (∀ j, j < i → x.getD j 0 = (j : Int)) → ∃ y : List Int, y.length = n ∧ (∀ j, j < n → y.getD j 0 = (j : Int)) ∧ ∀ r,
  Ev (fun f => (slices_SortStableFunc_int_int__figure_hull_1.f (E := ⟨⟨l0, l1⟩⟩) f y).bind fun t => figure_hull.l1 f ([] : List Int) t (y.length : Int) 0 l0 l1 l2) r → Ev (fun f => figure_hull.l0 f x (n : Int) (i : Int) l0 l1 l2) r := by
 intro m
 induction m with
 | zero =>
  intro i x hi hx hv
  obtain rfl : i = n := by omega
  refine ⟨x, hx, hv, fun r h => Ev.s ?_⟩
  have hc : ¬ (i : Int) < (i : Int) := by omega
  simp only [figure_hull.l0, hc, if_false]
  exact h
 | succ m ih =>
  intro i x hi hx hv
  obtain ⟨y, h1, h2, h3⟩ := ih (i + 1) (x.set i (i : Int)) (by omega) (by rw [List.length_set]; exact hx) (fun j hj => by
   rw [set_at]
   by_cases e : i = j
   ·subst e; rw [if_pos ⟨rfl, by omega⟩]
   ·rw [if_neg (fun h => e h.1)]; exact hv j (by omega))
  refine ⟨y, h1, h2, fun r h => Ev.s ?_⟩
  have hc : (i : Int) < (n : Int) := by omega
  have hx' : (i : Int) < (x.length : Int) := by omega
  simp only [figure_hull.l0, hc, hx', n0, if_true, Int.toNat_natCast, wi (show i ≤ 100000 by omega)]
  exact h3 r h
theorem hull_ev {l0 l1 l2 : List Int} (Z : Zs l0 l1) (hn0 : 1 ≤ l0.length) (hn : l0.length < 20) :
  ∃ t r, r.length < l0.length ∧ Good (qz l1) (qz l0) (fun z => z < l0.length) (t :: r) ∧ (∀ z, z < l0.length → qz l1 z ≤ qz l1 t) ∧ Ev (fun f => figure_hull.f f l0 l1 l2) (toL (t :: r)) := by
 have hl := Z.len
 obtain ⟨x, hx, hv, hr⟩ := fill_l0 (l0 := l0) (l1 := l1) (l2 := l2) (n := l0.length) (by omega) l0.length 0 (List.replicate l0.length 0) (by omega) (by rw [List.length_replicate]) (fun j hj => absurd hj (Nat.not_lt_zero j))
 obtain ⟨y, hy, he⟩ := sort_ev (l0 := l0) (l1 := l1) (x := x) hl hn0 hn ⟨hx, fun j hj => ⟨j, hj, hv j hj⟩, fun z hz => ⟨z, hz, hv z hz⟩, fun a b hab hb => by omega⟩
 obtain ⟨t, r, h1, h2, h3, h4⟩ := hull_first (l2 := l2) Z hn0 hy
 refine ⟨t, r, h1, h2, h3, ?_⟩
 have a0 : (0 : Int) ≤ (l0.length : Int) := n0 _
 have a1 : l0.length ≤ 35184372088832 := by omega
 unfold figure_hull.f
 simp only [a0, a1, if_true, Option.bind_some, Int.toNat_natCast, List.length_replicate, hl]
 refine hr _ ?_
 refine Ev.bind he ?_
 rw [hx]
 exact h4
end Go.Proofs.Ytdkahcolfcmmpaa.Pure
set_option linter.unusedVariables false
namespace Go.Proofs.Ytdkahcolfcmmpaa.Pure
open Go.RowKit Go.Proofs.Ytdkahcolfcmmpaa.Pr Go.Proofs.YtdkahcolfcmmpaaW.PrintWords Go.Proofs.YtdkahcolfcmmpaaW.PrintLast Go.Proofs.YtdkahcolfcmmpaaW.PrintMore
def lowB (n d : Int) : Bool := decide (0 < d) && decide (wrap64 (Int.gcd n d : Int) = 1)
def clV (a0 a1 a2 a3 : Int) : Int := if lowB a0 a1 = true then (if lowB a2 a3 = true then (if okR a0 a1 = true then (if okR a2 a3 = true then 0 else 2) else 2) else 3) else 3
def I64 (a : Int) : Prop := -9223372036854775808 ≤ a ∧ a < 9223372036854775808
theorem lowF_ev {n d : Int} (hn : I64 n) (hd : I64 d) : Ev (fun k => lowF k n d) (lowB n d) := by
  obtain ⟨n1, n2⟩ := hn
  obtain ⟨d1, d2⟩ := hd
  unfold lowF lowB
  by_cases h : d ≤ 0
  · simp only [h, if_true, show ¬ 0 < d by omega, decide_false, Bool.false_and]
    exact Ev.now _
  · simp only [h, if_false, show 0 < d by omega, decide_true, Bool.true_and]
    have hg := (gcd_ev d.natAbs n d (Nat.le_refl _) (by omega) (by omega) (by omega) (by omega)).1
    unfold figure_gcd.f
    exact Ev.bind hg (Ev.c (by rw [Bool.eq_iff_iff, beq_iff_eq, decide_eq_true_eq]))
theorem IsLowest_ev {n d : Int} (hn : I64 n) (hd : I64 d) : Ev (fun k => speculumbase_IsLowest.f k n d) (lowB n d) := by
  obtain ⟨n1, n2⟩ := hn
  obtain ⟨d1, d2⟩ := hd
  unfold speculumbase_IsLowest.f lowB
  by_cases h : d > 0
  · simp only [h, if_true, decide_true, Bool.true_and]
    have hg := (gcd_ev d.natAbs n d (Nat.le_refl _) (by omega) (by omega) (by omega) (by omega)).2
    unfold speculumbase_Gcd.f
    exact Ev.bind hg (Ev.c (by rw [Bool.eq_iff_iff, beq_iff_eq, decide_eq_true_eq]))
  · simp only [h, if_false, decide_false, Bool.false_and]
    exact Ev.now _
theorem checkLine_ev {a0 a1 a2 a3 : Int} (a4 a5 : Int) (h0 : I64 a0) (h1 : I64 a1) (h2 : I64 a2) (h3 : I64 a3) : Ev (fun k => figure_checkLine.f k a0 a1 a2 a3 a4 a5) (clV a0 a1 a2 a3) := by
  unfold figure_checkLine.f clV
  refine Ev.bind (lowF_ev h0 h1) ?_
  cases lowB a0 a1
  · simp only [Bool.false_eq_true, if_false]; exact Ev.now _
  · simp only [if_true]
    refine Ev.bind (lowF_ev h2 h3) ?_
    cases lowB a2 a3
    · simp only [Bool.false_eq_true, if_false]; exact Ev.now _
    · simp only [if_true]; exact Ev.now _
theorem CheckLine_ev {a0 a1 a2 a3 : Int} (a4 a5 : Int) (h0 : I64 a0) (h1 : I64 a1) (h2 : I64 a2) (h3 : I64 a3) : Ev (fun k => speculumref06_CheckLine.f k a0 a1 a2 a3 a4 a5) (clV a0 a1 a2 a3) := by
  unfold speculumref06_CheckLine.f clV
  refine Ev.bind (IsLowest_ev h0 h1) ?_
  cases lowB a0 a1
  · simp only [Bool.false_eq_true, if_false]; exact Ev.now _
  · simp only [if_true]
    refine Ev.bind (IsLowest_ev h2 h3) ?_
    cases lowB a2 a3
    · simp only [Bool.false_eq_true, if_false]; exact Ev.now _
    · simp only [if_true]; exact Ev.now _
structure LineOk (a0 a1 a2 a3 : Int) : Prop where
  n0 : -1000000000 ≤ a0 ∧ a0 ≤ 1000000000
  d0 : 1 ≤ a1 ∧ a1 ≤ 1000
  n1 : -1000000000 ≤ a2 ∧ a2 ≤ 1000000000
  d1 : 1 ≤ a3 ∧ a3 ≤ 1000
def rmN (l0 l1 : List Int) (a0 a1 a2 a3 : Int) (i : Nat) : Int := l0.getD i 0 * (a1 * a3) - a0 * a3 - a2 * l1.getD i 0 * a1
theorem whole_bd {a0 a1 a2 a3 : Int} (h : LineOk a0 a1 a2 a3) : 1 ≤ a1 * a3 ∧ a1 * a3 ≤ 1000000 := by
  obtain ⟨_, ⟨p, q⟩, _, ⟨r, s⟩⟩ := h
  have h1 : 1 * 1 ≤ a1 * a3 := Int.mul_le_mul p r (by omega) (by omega)
  have h2 : a1 * a3 ≤ 1000 * 1000 := Int.mul_le_mul q s (by omega) (by omega)
  omega
theorem mul_abs {a b A B : Int} (ha : -A ≤ a ∧ a ≤ A) (hb : -B ≤ b ∧ b ≤ B) (hA : 0 ≤ A) : -(A * B) ≤ a * b ∧ a * b ≤ A * B := by
  have h1 : (a * b).natAbs ≤ (A * B).natAbs := by
    rw [Int.natAbs_mul, Int.natAbs_mul]
    exact Nat.mul_le_mul (by omega) (by omega)
  have h2 : 0 ≤ A * B := Int.mul_nonneg hA (by omega)
  omega
theorem rem_bd' {l0 l1 l2 : List Int} {i : Nat} {a0 a1 a2 a3 : Int} (h : LineOk a0 a1 a2 a3) (hz : okZ l0 l1 l2 i = true) :
    remVal l0 l1 a0 a1 a2 a3 (i : Int) = rmN l0 l1 a0 a1 a2 a3 i ∧ (rmN l0 l1 a0 a1 a2 a3 i).natAbs ≤ 1002000000000000 ∧ wrap64 (a1 * a3) = a1 * a3 := by
  obtain ⟨⟨x0, x1⟩, ⟨y0, y1⟩, _⟩ := okZ_iff hz
  obtain ⟨w0, w1⟩ := whole_bd h
  obtain ⟨⟨p0, p1⟩, ⟨q0, q1⟩, ⟨r0, r1⟩, ⟨s0, s1⟩⟩ := h
  have m1 := mul_abs (a := l0.getD i 0) (b := a1 * a3) (A := 100000) (B := 1000000) ⟨by omega, by omega⟩ ⟨by omega, by omega⟩ (by omega)
  have m2 := mul_abs (a := a0) (b := a3) (A := 1000000000) (B := 1000) ⟨by omega, by omega⟩ ⟨by omega, by omega⟩ (by omega)
  have m3 := mul_abs (a := a2) (b := l1.getD i 0) (A := 1000000000) (B := 1000) ⟨by omega, by omega⟩ ⟨by omega, by omega⟩ (by omega)
  have m4 := mul_abs (a := a2 * l1.getD i 0) (b := a1) (A := 1000000000000) (B := 1000) ⟨by omega, by omega⟩ ⟨by omega, by omega⟩ (by omega)
  unfold remVal rmN
  rw [rdn, rdn]
  have e0 : wrap64 (a1 * a3) = a1 * a3 := w64 (by omega) (by omega)
  rw [e0, w64 (n := l0.getD i 0 * (a1 * a3)) (by omega) (by omega), w64 (n := a0 * a3) (by omega) (by omega), w64 (n := a2 * l1.getD i 0) (by omega) (by omega), w64 (n := a2 * l1.getD i 0 * a1) (by omega) (by omega), w64 (n := l0.getD i 0 * (a1 * a3) - a0 * a3) (by omega) (by omega), w64 (by omega) (by omega)]
  exact ⟨rfl, by omega, rfl⟩
def rmL (l0 l1 : List Int) (a0 a1 a2 a3 : Int) (i : Nat) : Int × Int := lowV (rmN l0 l1 a0 a1 a2 a3 i) (a1 * a3)
theorem refRemoval_ev {l0 l1 l2 : List Int} {i : Nat} {a0 a1 a2 a3 : Int} (a4 a5 : Int) (h : LineOk a0 a1 a2 a3) (hz : okZ l0 l1 l2 i = true) (h0 : i < l0.length) (h1 : i < l1.length) :
    Ev (fun k => speculumref06_Removal.f k l0 l1 l2 a0 a1 a2 a3 a4 a5 (i : Int)) (rmL l0 l1 a0 a1 a2 a3 i) := by
  obtain ⟨e1, e2, e3⟩ := rem_bd' h hz
  have hw := whole_bd h
  have hl0 : (i : Int) < (l0.length : Int) := by omega
  have hl1 : (i : Int) < (l1.length : Int) := by omega
  unfold speculumref06_Removal.f
  unfold remVal at e1
  rw [e3] at e1
  simp only [n0, hl0, hl1, if_true, e3, e1]
  exact Ev.bind (lowest_ev (by omega) (by omega) (by omega)).2 (Ev.now _)
theorem negL_ev {l0 l1 l2 : List Int} {a0 a1 a2 a3 : Int} (a4 a5 : Int) (h : LineOk a0 a1 a2 a3) {n : Nat} (hn : n = l0.length) (h1 : l1.length = n) (hz : ∀ j, j < n → okZ l0 l1 l2 j = true) : ∀ (m i : Nat), i + m = n →
    Ev (fun k => negL (speculumref06_Removal.f k l0 l1 l2 a0 a1 a2 a3 a4 a5) (List.range' i m)) ((List.range' i m).find? (fun j : Nat => decide (remVal l0 l1 a0 a1 a2 a3 (j : Int) < 0))) := by
  intro m
  induction m with
  | zero => intro i hi; exact Ev.now _
  | succ m ih =>
    intro i hi
    rw [List.range'_succ, List.find?_cons]
    have hzi := hz i (by omega)
    obtain ⟨e1, e2, e3⟩ := rem_bd' h hzi
    have hw := whole_bd h
    simp only [negL]
    refine Ev.bind (refRemoval_ev a4 a5 h hzi (by omega) (by omega)) ?_
    have hs := (low_sign (rmN l0 l1 a0 a1 a2 a3 i) (show 0 < a1 * a3 by omega)).1
    by_cases hneg : rmN l0 l1 a0 a1 a2 a3 i < 0
    · have hl : (rmL l0 l1 a0 a1 a2 a3 i).1 < 0 := hs.2 hneg
      rw [e1, decide_eq_true hneg]
      simp only [hl, if_true]
      exact Ev.now _
    · have hl : ¬ (rmL l0 l1 a0 a1 a2 a3 i).1 < 0 := fun hh => hneg (hs.1 hh)
      rw [e1, decide_eq_false hneg]
      simp only [hl, if_false]
      exact ih (i + 1) (by omega)
theorem mean_ev {l0 l1 l2 : List Int} (h : checkV l0 l1 l2 = 0) : Ev (fun k => speculumref06_Mean.f k l0 l1 l2) (lowV (sumsTo l0 l1 l2 l0.length).2.1 (sumsTo l0 l1 l2 l0.length).1) := by
  obtain ⟨⟨hn0, hn, h1, h2⟩, hok, hz⟩ := checkV_0 h
  obtain ⟨⟨a0, a1⟩, ⟨b0, b1⟩⟩ := sums_bd (l0 := l0) (l1 := l1) (l2 := l2) l0.length hn hok
  obtain ⟨K, hK⟩ := (lowest_ev (a := (sumsTo l0 l1 l2 l0.length).2.1) (b := (sumsTo l0 l1 l2 l0.length).1) (by omega) (by omega) (by omega)).2
  refine ⟨l0.length + 1 + K, fun k hk => ?_⟩
  obtain ⟨k', rfl⟩ : ∃ k', k = l0.length + 1 + k' := ⟨k - l0.length - 1, by omega⟩
  have := ref_mean (l0 := l0) (l1 := l1) (l2 := l2) hn h1 h2 k' l0.length 0 (by omega)
  have e := hK k' (by omega)
  simp only at e
  rw [e] at this
  exact this
theorem CheckMap_ev (l0 l1 l2 : List Int) : Ev (fun k => figure_CheckMap.f k l0 l1 l2) (checkV l0 l1 l2) := ⟨100, fun k hk => fig_check l0 l1 l2 k hk⟩
theorem refCheckMap_ev (l0 l1 l2 : List Int) : Ev (fun k => speculumref06_CheckMap.f k l0 l1 l2) (checkV l0 l1 l2) := ⟨100, fun k hk => ref_check l0 l1 l2 k hk⟩
theorem tzB_nat {n : Nat} {z : Int} (h : tzB n z = true) (h1 : 1 ≤ n) (h2 : n ≤ 100) : ∃ i : Nat, i < n ∧ z = (i : Int) := by
  have := tz_true h h1 (by omega)
  exact ⟨z.toNat, by omega, by omega⟩
theorem side_mean {q s t : Int} (hq : 0 ≤ q ∧ q ≤ 1000) (hs : 0 < s ∧ s ≤ 100000) (ht : 0 ≤ t ∧ t ≤ 100000000) :
    ((0 < sdV s t q) ↔ wrap64 (q * (lowV t s).2) > (lowV t s).1) ∧ ((sdV s t q < 0) ↔ wrap64 (q * (lowV t s).2) < (lowV t s).1) := by
  obtain ⟨g, hg, e1, e2, _⟩ := low_facts t hs.1
  have hab := low_abs t hs.1
  have hp := (low_sign t hs.1).2.2
  have b1 : 0 ≤ q * s := Int.mul_nonneg hq.1 (by omega)
  have b2 : q * s ≤ 1000 * 100000 := Int.mul_le_mul hq.2 hs.2 (by omega) (by omega)
  have c1 : 0 ≤ q * (lowV t s).2 := Int.mul_nonneg hq.1 (by omega)
  have c2 : q * (lowV t s).2 ≤ 1000 * 100000 := Int.mul_le_mul hq.2 (by omega) (by omega) (by omega)
  have hx : q * s = g * (q * (lowV t s).2) := by
    have : q * s = q * (g * (lowV t s).2) := by rw [← e2]
    rw [this, Int.mul_left_comm]
  unfold sdV
  rw [w64 (n := q * s) (by omega) (by omega), w64 (n := q * (lowV t s).2) (by omega) (by omega)]
  have k1 : q * s < t ↔ q * (lowV t s).2 < (lowV t s).1 := by
    rw [hx]
    constructor
    · intro h
      have h' : g * (q * (lowV t s).2) < g * (lowV t s).1 := by omega
      exact Int.lt_of_mul_lt_mul_left h' (by omega)
    · intro h
      have := Int.mul_lt_mul_of_pos_left h hg
      omega
  have k2 : q * s > t ↔ q * (lowV t s).2 > (lowV t s).1 := by
    rw [hx]
    constructor
    · intro h
      have h' : g * (lowV t s).1 < g * (q * (lowV t s).2) := by omega
      exact Int.lt_of_mul_lt_mul_left h' (by omega)
    · intro h
      have := Int.mul_lt_mul_of_pos_left h hg
      omega
  by_cases h1 : q * s < t
  · rw [if_pos h1]
    have := k1.1 h1
    constructor <;> constructor <;> intro h <;> omega
  · rw [if_neg h1]
    by_cases h2 : q * s > t
    · rw [if_pos h2]
      have := k2.1 h2
      constructor <;> constructor <;> intro h <;> omega
    · rw [if_neg h2]
      have n1 := fun h => h1 (k1.2 h)
      have n2 := fun h => h2 (k2.2 h)
      constructor <;> constructor <;> intro h <;> omega
theorem refCheckReference_ev {l0 l1 l2 : List Int} {a0 a1 a2 a3 : Int} (a4 a5 : Int) (hm : checkV l0 l1 l2 = 0) (h : LineOk a0 a1 a2 a3) : Ev (fun k => speculumref06_CheckReference.f k l0 l1 l2 a0 a1 a2 a3 a4 a5) (crV l0 l1 l2 a0 a1 a2 a3 a4 a5) := by
  obtain ⟨⟨hn0, hn, h1, h2⟩, hok, hz⟩ := checkV_0 hm
  obtain ⟨⟨s0, s1⟩, ⟨t0, t1⟩⟩ := sums_bd (l0 := l0) (l1 := l1) (l2 := l2) l0.length hn hok
  have hw := whole_bd h
  unfold speculumref06_CheckReference.f rcA crV
  simp only [hn0, if_true]
  refine Ev.bind (negL_ev a4 a5 h rfl h1 hok l0.length 0 (by omega)) ?_
  rw [← List.range_eq_range']
  cases (List.range l0.length).find? (fun j : Nat => decide (remVal l0 l1 a0 a1 a2 a3 (j : Int) < 0)) with
  | some i => exact Ev.now _
  | none =>
    dsimp only
    cases ht4 : tzB l0.length a4 with
    | false => simp only [Bool.false_eq_true, if_false]; exact Ev.now _
    | true =>
      cases ht5 : tzB l0.length a5 with
      | false => simp only [if_true, Bool.false_eq_true, if_false]; exact Ev.now _
      | true =>
        simp only [if_true]
        obtain ⟨i, hi, rfl⟩ := tzB_nat ht4 hn0 (by omega)
        obtain ⟨j, hj, rfl⟩ := tzB_nat ht5 hn0 (by omega)
        unfold rcT
        refine Ev.bind (mean_ev hm) (Ev.bind (refRemoval_ev _ _ h (hok i hi) (by omega) (by omega)) ?_)
        have zi := (low_sign (rmN l0 l1 a0 a1 a2 a3 i) (show 0 < a1 * a3 by omega)).2.1
        have zj := (low_sign (rmN l0 l1 a0 a1 a2 a3 j) (show 0 < a1 * a3 by omega)).2.1
        have ei := (rem_bd' h (hok i hi)).1
        have ej := (rem_bd' h (hok j hj)).1
        obtain ⟨_, qi, _⟩ := okZ_iff (hok i hi)
        obtain ⟨_, qj, _⟩ := okZ_iff (hok j hj)
        have mi := (side_mean (q := l1.getD i 0) (s := (sumsTo l0 l1 l2 l0.length).1) (t := (sumsTo l0 l1 l2 l0.length).2.1) qi (by omega) (by omega)).1
        have mj := (side_mean (q := l1.getD j 0) (s := (sumsTo l0 l1 l2 l0.length).1) (t := (sumsTo l0 l1 l2 l0.length).2.1) qj (by omega) (by omega)).2
        unfold tf0 tf1
        rw [h2, ei, ej, rdn, rdn]
        by_cases hi0 : rmN l0 l1 a0 a1 a2 a3 i = 0
        · have hi0' : (rmL l0 l1 a0 a1 a2 a3 i).1 = 0 := zi.2 hi0
          simp only [hi0, hi0', if_true]
          refine Ev.bind (refRemoval_ev _ _ h (hok j hj) (by omega) (by omega)) ?_
          by_cases hj0 : rmN l0 l1 a0 a1 a2 a3 j = 0
          · have hj0' : (rmL l0 l1 a0 a1 a2 a3 j).1 = 0 := zj.2 hj0
            simp only [hj0, hj0', if_true]
            refine Ev.c ?_
            unfold rcV
            rw [rdn, rdn]
            by_cases c4 : 0 < sdV (sumsTo l0 l1 l2 l0.length).1 (sumsTo l0 l1 l2 l0.length).2.1 (l1.getD i 0)
            · have p4 := mi.1 c4
              simp only [p4, c4, decide_true, if_true]
            · have n4 := (not_congr mi).1 c4
              by_cases c5 : sdV (sumsTo l0 l1 l2 l0.length).1 (sumsTo l0 l1 l2 l0.length).2.1 (l1.getD j 0) < 0
              · have p5 := mj.1 c5
                simp only [n4, c4, p5, c5, decide_false, decide_true, Bool.false_eq_true, if_false, if_true]
              · have n5 := (not_congr mj).1 c5
                simp only [n4, c4, n5, c5, decide_false, Bool.false_eq_true, if_false]
          · have hj0' : ¬ (rmL l0 l1 a0 a1 a2 a3 j).1 = 0 := fun hh => hj0 (zj.1 hh)
            simp only [hj0, hj0', if_false, if_true]
            refine Ev.c ?_
            split <;> rfl
        · have hi0' : ¬ (rmL l0 l1 a0 a1 a2 a3 i).1 = 0 := fun hh => hi0 (zi.1 hh)
          simp only [hi0, hi0', if_false, if_true]
          exact Ev.now _
theorem CheckReference_ev {l0 l1 l2 : List Int} {a0 a1 a2 a3 : Int} (a4 a5 : Int) (h0 : I64 a0) (h1 : I64 a1) (h2 : I64 a2) (h3 : I64 a3) : Ev (fun k => figure_CheckReference.f k l0 l1 l2 a0 a1 a2 a3 a4 a5) (if checkV l0 l1 l2 = 0 then (if clV a0 a1 a2 a3 = 0 then crV l0 l1 l2 a0 a1 a2 a3 a4 a5 else (0, clV a0 a1 a2 a3)) else (0, checkV l0 l1 l2)) := by
  unfold figure_CheckReference.f
  refine Ev.bind (CheckMap_ev l0 l1 l2) ?_
  by_cases hm : checkV l0 l1 l2 = 0
  · simp only [hm, if_true]
    refine Ev.bind (checkLine_ev a4 a5 h0 h1 h2 h3) ?_
    obtain ⟨⟨hn0, hn, e1, e2⟩, hok, hz⟩ := checkV_0 hm
    by_cases hc : clV a0 a1 a2 a3 = 0
    · simp only [hc, if_true, e1, e2, hn0, and_self]
      exact Ev.now _
    · simp only [hc, if_false]
      exact Ev.now _
  · simp only [hm, if_false]
    exact Ev.now _
end Go.Proofs.Ytdkahcolfcmmpaa.Pure
set_option linter.unusedVariables false
namespace Go.Proofs.Ytdkahcolfcmmpaa.Pure
open Go.RowKit Go.Proofs.Ytdkahcolfcmmpaa.Pr Go.Proofs.YtdkahcolfcmmpaaW.PrintWords Go.Proofs.YtdkahcolfcmmpaaW.PrintLast Go.Proofs.YtdkahcolfcmmpaaW.PrintMore
theorem zs_of {l0 l1 l2 : List Int} (h : checkV l0 l1 l2 = 0) : Zs l0 l1 := by
  obtain ⟨⟨hn0, hn, h1, h2⟩, hok, hz⟩ := checkV_0 h
  exact ⟨h1, by omega, fun z hz => (okZ_iff (hok z hz)).1, fun z hz => (okZ_iff (hok z hz)).2.1⟩
theorem Good.pair {q h : Nat → Int} {P : Nat → Prop} : ∀ {R : List Nat}, Good q h P R → ∀ i, 1 ≤ i → i < R.length → ∃ a b : Nat, (toL R).getD (i - 1) 0 = (a : Int) ∧ (toL R).getD i 0 = (b : Int) ∧ P a ∧ P b ∧ q a < q b ∧ ∀ z, P z → 0 ≤ cross q h a b z
  | [t], g, i, h1, h2 => by simp at h2; omega
  | t :: p :: r, g, i, h1, h2 => by
    have h2' : i < r.length + 2 := by simpa using h2
    rcases Nat.lt_or_ge i (r.length + 1) with hi | hi
    · obtain ⟨a, b, e1, e2, e3⟩ := Good.pair g.2.2.2 i h1 (by simpa using hi)
      exact ⟨a, b, (toL_below t (p :: r) (i - 1) (by simp; omega)).trans e1, (toL_below t (p :: r) i (by simpa using hi)).trans e2, e3⟩
    · obtain rfl : i = r.length + 1 := by omega
      exact ⟨p, t, (toL_below t (p :: r) r.length (by simp)).trans (toL_top p r), toL_top t (p :: r), g.2.2.2.top, g.top, g.2.1, g.2.2.1⟩
theorem Good.mem {q h : Nat → Int} {P : Nat → Prop} : ∀ {R : List Nat}, Good q h P R → ∀ i, i < R.length → ∃ a : Nat, (toL R).getD i 0 = (a : Int) ∧ P a ∧ (i = 0 → ∀ z, P z → q a ≤ q z)
  | [t], g, i, h2 => by
    obtain rfl : i = 0 := by simpa using h2
    exact ⟨t, rfl, g.1, fun _ z hz => (g.2 z hz).1⟩
  | t :: p :: r, g, i, h2 => by
    have h2' : i < r.length + 2 := by simpa using h2
    rcases Nat.lt_or_ge i (r.length + 1) with hi | hi
    · obtain ⟨a, e1, e2, e3⟩ := Good.mem g.2.2.2 i (by simpa using hi)
      exact ⟨a, (toL_below t (p :: r) i (by simpa using hi)).trans e1, e2, e3⟩
    · obtain rfl : i = r.length + 1 := by omega
      exact ⟨t, toL_top t (p :: r), g.top, fun h => by omega⟩
theorem sums3 {l0 l1 l2 : List Int} : ∀ i : Nat, i ≤ 40 → (∀ j, j < i → okZ l0 l1 l2 j = true) → -(100000000 * (i : Int)) ≤ (sumsTo l0 l1 l2 i).2.2 ∧ (sumsTo l0 l1 l2 i).2.2 ≤ 100000000 * i
  | 0, _, _ => by simp [sumsTo]
  | i + 1, hi, h => by
    obtain ⟨a0, a1⟩ := sums3 i (by omega) (fun j hj => h j (by omega))
    obtain ⟨⟨h0, h1⟩, ⟨q0, q1⟩, ⟨w0, w1⟩⟩ := okZ_iff (h i (by omega))
    have p := mul_abs (a := l2.getD i 0) (b := l0.getD i 0) (A := 1000) (B := 100000) ⟨by omega, by omega⟩ ⟨by omega, by omega⟩ (by omega)
    simp only [sumsTo]
    rw [w64 (n := l2.getD i 0 * l0.getD i 0) (by omega) (by omega), w64 (by omega) (by omega)]
    omega
theorem sums_all {l0 l1 l2 : List Int} {i : Nat} (hi : i < 40) (h : ∀ j, j ≤ i → okZ l0 l1 l2 j = true) : (sumsTo l0 l1 l2 (i + 1)).1 = (sumsTo l0 l1 l2 i).1 + l2.getD i 0 ∧ (sumsTo l0 l1 l2 (i + 1)).2.1 = (sumsTo l0 l1 l2 i).2.1 + l2.getD i 0 * l1.getD i 0 ∧ (sumsTo l0 l1 l2 (i + 1)).2.2 = (sumsTo l0 l1 l2 i).2.2 + l2.getD i 0 * l0.getD i 0 := by
  obtain ⟨⟨a0, a1⟩, ⟨b0, b1⟩⟩ := sums_bd i (by omega) (fun j hj => h j (by omega))
  obtain ⟨c0, c1⟩ := sums3 (l0 := l0) (l1 := l1) (l2 := l2) i (by omega) (fun j hj => h j (by omega))
  obtain ⟨⟨h0, h1⟩, ⟨q0, q1⟩, ⟨w0, w1⟩⟩ := okZ_iff (h i (Nat.le_refl _))
  have p := mul_abs (a := l2.getD i 0) (b := l0.getD i 0) (A := 1000) (B := 100000) ⟨by omega, by omega⟩ ⟨by omega, by omega⟩ (by omega)
  have p0 : 0 ≤ l2.getD i 0 * l1.getD i 0 := Int.mul_nonneg w0 q0
  have p1 : l2.getD i 0 * l1.getD i 0 ≤ 1000 * 1000 := Int.mul_le_mul w1 q1 q0 (by omega)
  simp only [sumsTo]
  refine ⟨w64 (by omega) (by omega), ?_, ?_⟩
  · rw [w64 (n := l2.getD i 0 * l1.getD i 0) (by omega) (by omega), w64 (by omega) (by omega)]
  · rw [w64 (n := l2.getD i 0 * l0.getD i 0) (by omega) (by omega), w64 (by omega) (by omega)]
theorem mean_between {l0 l1 l2 : List Int} {m M : Int} : ∀ i : Nat, i ≤ 40 → (∀ j, j < i → okZ l0 l1 l2 j = true) → (∀ j, j < i → m ≤ l1.getD j 0 ∧ l1.getD j 0 ≤ M) → m * (sumsTo l0 l1 l2 i).1 ≤ (sumsTo l0 l1 l2 i).2.1 ∧ (sumsTo l0 l1 l2 i).2.1 ≤ M * (sumsTo l0 l1 l2 i).1
  | 0, _, _, _ => by simp [sumsTo]
  | i + 1, hi, h, hm => by
    obtain ⟨a, b⟩ := mean_between i (by omega) (fun j hj => h j (by omega)) (fun j hj => hm j (by omega))
    obtain ⟨e1, e2, _⟩ := sums_all (l0 := l0) (l1 := l1) (l2 := l2) (i := i) (by omega) (fun j hj => h j (by omega))
    obtain ⟨_, _, ⟨w0, w1⟩⟩ := okZ_iff (h i (by omega))
    obtain ⟨c, d⟩ := hm i (by omega)
    rw [e1, e2, Int.mul_add, Int.mul_add]
    have x := Int.mul_le_mul_of_nonneg_left c w0
    have y := Int.mul_le_mul_of_nonneg_left d w0
    rw [Int.mul_comm (l2.getD i 0) m] at x
    rw [Int.mul_comm (l2.getD i 0) M] at y
    omega
structure RefL (l0 l1 l2 : List Int) (r1 r2 r3 r4 : Int) (a b : Nat) : Prop where
  ok : LineOk r1 r2 r3 r4
  low0 : lowB r1 r2 = true
  low1 : lowB r3 r4 = true
  ha : a < l0.length
  hb : b < l0.length
  abv : ∀ z, z < l0.length → 0 ≤ rmN l0 l1 r1 r2 r3 r4 z ∧ rmN l0 l1 r1 r2 r3 r4 z ≤ 400000000000
  ra : rmN l0 l1 r1 r2 r3 r4 a = 0
  rb : rmN l0 l1 r1 r2 r3 r4 b = 0
  qa : l1.getD a 0 * (sumsTo l0 l1 l2 l0.length).1 ≤ (sumsTo l0 l1 l2 l0.length).2.1
  qb : (sumsTo l0 l1 l2 l0.length).2.1 ≤ l1.getD b 0 * (sumsTo l0 l1 l2 l0.length).1
  ab : l1.getD a 0 < l1.getD b 0 ∨ a = b
theorem lowB_low (n : Int) {d : Int} (hd : 0 < d) : lowB (lowV n d).1 (lowV n d).2 = true := by
  unfold lowB
  have h2 := (low_sign n hd).2.2
  have hg : Int.gcd (lowV n d).1 (lowV n d).2 = 1 := by
    obtain ⟨g, hg, e1, e2, e3⟩ := low_facts n hd
    have hgn : Int.gcd n d = g.natAbs * Int.gcd (lowV n d).1 (lowV n d).2 := by
      have : Int.gcd (g * (lowV n d).1) (g * (lowV n d).2) = g.natAbs * Int.gcd (lowV n d).1 (lowV n d).2 := Int.gcd_mul_left ..
      rw [← e1, ← e2] at this
      exact this
    have hgg : g.natAbs = Int.gcd n d := by omega
    rw [hgg] at hgn
    have hp : 0 < Int.gcd n d := by omega
    have : Int.gcd n d * 1 = Int.gcd n d * Int.gcd (lowV n d).1 (lowV n d).2 := by omega
    exact (Nat.eq_of_mul_eq_mul_left hp this).symm
  rw [hg, decide_eq_true h2, show wrap64 ((1 : Nat) : Int) = 1 from w64 (by omega) (by omega)]
  rfl
theorem through_rm {l0 l1 : List Int} {a b : Nat} (Z : Zs l0 l1) (ha : a < l0.length) (hb : b < l0.length) (hab : qz l1 a < qz l1 b) (hc : ∀ z, z < l0.length → 0 ≤ cross (qz l1) (qz l0) a b z) :
    LineOk (lowV (qz l0 a * (qz l1 b - qz l1 a) - (qz l0 b - qz l0 a) * qz l1 a) (qz l1 b - qz l1 a)).1 (lowV (qz l0 a * (qz l1 b - qz l1 a) - (qz l0 b - qz l0 a) * qz l1 a) (qz l1 b - qz l1 a)).2 (lowV (qz l0 b - qz l0 a) (qz l1 b - qz l1 a)).1 (lowV (qz l0 b - qz l0 a) (qz l1 b - qz l1 a)).2 ∧
    ∀ z, z < l0.length → ∃ c : Int, 0 < c ∧ c * rmN l0 l1 (lowV (qz l0 a * (qz l1 b - qz l1 a) - (qz l0 b - qz l0 a) * qz l1 a) (qz l1 b - qz l1 a)).1 (lowV (qz l0 a * (qz l1 b - qz l1 a) - (qz l0 b - qz l0 a) * qz l1 a) (qz l1 b - qz l1 a)).2 (lowV (qz l0 b - qz l0 a) (qz l1 b - qz l1 a)).1 (lowV (qz l0 b - qz l0 a) (qz l1 b - qz l1 a)).2 z = (qz l1 b - qz l1 a) * cross (qz l1) (qz l0) a b z := by
  have ha1 := Z.h a ha
  have hb1 := Z.h b hb
  have ha2 := Z.q a ha
  have hb2 := Z.q b hb
  obtain ⟨N, hN⟩ : ∃ N, N = qz l0 a * (qz l1 b - qz l1 a) - (qz l0 b - qz l0 a) * qz l1 a := ⟨_, rfl⟩
  obtain ⟨run, hrun⟩ : ∃ r, r = qz l1 b - qz l1 a := ⟨_, rfl⟩
  obtain ⟨rise, hrise⟩ : ∃ r, r = qz l0 b - qz l0 a := ⟨_, rfl⟩
  rw [← hN, ← hrun, ← hrise]
  have hpos : 0 < run := by omega
  have m1 := mulb (a := qz l0 a) (b := qz l1 b - qz l1 a) (A := 100000) (B := 1000) ⟨by omega, by omega⟩ ⟨by omega, by omega⟩ (by omega)
  have m2 := mulb (a := qz l0 b - qz l0 a) (b := qz l1 a) (A := 200000) (B := 1000) ⟨by omega, by omega⟩ ⟨by omega, by omega⟩ (by omega)
  obtain ⟨g, hg, e1, e2, _⟩ := low_facts N hpos
  obtain ⟨g', hg', e1', e2', _⟩ := low_facts rise hpos
  have s1 := (low_sign N hpos).2.2
  have s2 := (low_sign rise hpos).2.2
  have b1 := low_abs N hpos
  have b2 := low_abs rise hpos
  refine ⟨⟨by omega, by omega, by omega, by omega⟩, fun z hz => ⟨g * g', Int.mul_pos hg hg', ?_⟩⟩
  unfold rmN cross
  change g * g' * (qz l0 z * ((lowV N run).2 * (lowV rise run).2) - (lowV N run).1 * (lowV rise run).2 - (lowV rise run).1 * qz l1 z * (lowV N run).2) = run * ((qz l0 z - qz l0 a) * (qz l1 b - qz l1 a) - (qz l0 b - qz l0 a) * (qz l1 z - qz l1 a))
  generalize (lowV N run).1 = x1 at *
  generalize (lowV N run).2 = x2 at *
  generalize (lowV rise run).1 = x3 at *
  generalize (lowV rise run).2 = x4 at *
  have f1 : g * g' * (qz l0 z * (x2 * x4) - x1 * x4 - x3 * qz l1 z * x2) = qz l0 z * (g * x2) * (g' * x4) - (g * x1) * (g' * x4) - (g' * x3) * qz l1 z * (g * x2) := by grind
  rw [f1, ← e1, ← e2, ← e1', ← e2', hN, hrise, ← hrun]
  grind
theorem idx_ev {l0 l1 : List Int} (W SQ SH : Int) {R : List Nat} (hR : R.length ≤ 100) (hlen : l1.length = l0.length) (hm : ∀ i, i < R.length → ∃ a : Nat, (toL R).getD i 0 = (a : Int) ∧ a < l0.length) : ∀ (m i : Nat), i + m = R.length →
    (∃ j : Nat, i ≤ j ∧ j < R.length ∧ (∀ a : Nat, (toL R).getD j 0 = (a : Int) → 0 ≤ sdV W SQ (l1.getD a 0)) ∧ (∀ c, i ≤ c → c < j → ∀ a : Nat, (toL R).getD c 0 = (a : Int) → sdV W SQ (l1.getD a 0) < 0) ∧ Ev (fun k => slices_IndexFunc_int_int__figure_reference_1.l0 (E := ⟨⟨W, SQ, SH, l1⟩⟩) k (toL R) (R.length : Int) (i : Int)) (j : Int)) ∨
    (∀ c, i ≤ c → c < R.length → ∀ a : Nat, (toL R).getD c 0 = (a : Int) → sdV W SQ (l1.getD a 0) < 0) := by
  intro m
  induction m with
  | zero => intro i hi; exact .inr (fun c h1 h2 => by omega)
  | succ m ih =>
    intro i hi
    have hlt : (i : Int) < (R.length : Int) := by omega
    have hl' : (i : Int) < ((toL R).length : Int) := by rw [toL_len]; exact hlt
    obtain ⟨a, ea, ha⟩ := hm i (by omega)
    have ha1 : (a : Int) < (l1.length : Int) := by omega
    have hf : refC.f (E := ⟨⟨W, SQ, SH, l1⟩⟩) (a : Int) = some (decide (sdV W SQ (l1.getD a 0) ≥ 0)) := by
      show figure_reference_1.f (a : Int) W SQ SH [] l1 [] = _
      unfold figure_reference_1.f
      rw [if_pos (n0 a), if_pos ha1, side_f]; rfl
    by_cases hs : sdV W SQ (l1.getD a 0) ≥ 0
    · refine .inl ⟨i, Nat.le_refl _, by omega, fun a' ea' => ?_, fun c h1 h2 => by omega, Ev.s ?_⟩
      · rw [ea] at ea'
        obtain rfl : a = a' := by omega
        exact hs
      · simp only [slices_IndexFunc_int_int__figure_reference_1.l0, hlt, hl', n0, if_true, rdn, ea, hf, Option.bind_some, hs, decide_true]
        exact Ev.now _
    · have first : ∀ a' : Nat, (toL R).getD i 0 = (a' : Int) → sdV W SQ (l1.getD a' 0) < 0 := fun a' ea' => by
        rw [ea] at ea'
        obtain rfl : a = a' := by omega
        omega
      rcases ih (i + 1) (by omega) with ⟨j, h1, h2, h3, h4, h5⟩ | h
      · refine .inl ⟨j, by omega, h2, h3, fun c c1 c2 => ?_, Ev.s ?_⟩
        · rcases Nat.eq_or_lt_of_le c1 with e | e
          · subst e; exact first
          · exact h4 c e c2
        · simp only [slices_IndexFunc_int_int__figure_reference_1.l0, hlt, hl', n0, if_true, rdn, ea, hf, Option.bind_some, hs, decide_false, Bool.false_eq_true, if_false, wi (show i ≤ 100000 by omega)]
          exact h5
      · refine .inr (fun c c1 c2 => ?_)
        rcases Nat.eq_or_lt_of_le c1 with e | e
        · subst e; exact first
        · exact h c e c2
theorem sd_iff {W SQ q : Int} (hq : 0 ≤ q ∧ q ≤ 1000) (hW : 0 ≤ W ∧ W ≤ 100000) : (0 ≤ sdV W SQ q ↔ SQ ≤ q * W) := by
  have b1 : 0 ≤ q * W := Int.mul_nonneg hq.1 hW.1
  have b2 : q * W ≤ 1000 * 100000 := Int.mul_le_mul hq.2 hW.2 hW.1 (by omega)
  unfold sdV
  rw [w64 (n := q * W) (by omega) (by omega)]
  repeat' split
  all_goals omega
theorem reference_ev {l0 l1 l2 : List Int} (hm : checkV l0 l1 l2 = 0) (hn : l0.length < 20) : ∃ r1 r2 r3 r4 : Int, ∃ a b : Nat, RefL l0 l1 l2 r1 r2 r3 r4 a b ∧ Ev (fun k => figure_reference.f k l0 l1 l2) (r1, r2, r3, r4, (a : Int), (b : Int)) := by
  have Z := zs_of hm
  obtain ⟨⟨hn0, hn40, h1, h2⟩, hok, hz⟩ := checkV_0 hm
  obtain ⟨⟨w0, w1⟩, ⟨s0, s1⟩⟩ := sums_bd (l0 := l0) (l1 := l1) (l2 := l2) l0.length hn40 hok
  obtain ⟨t, r, hr, g, top, he⟩ := hull_ev (l2 := l2) Z hn0 hn
  have hs : figure_sumsOf.f l0 l1 l2 = some (sumsTo l0 l1 l2 l0.length) := by
    unfold figure_sumsOf.f
    rw [if_pos (by omega), h2]
  unfold figure_reference.f
  cases r with
  | nil =>
    -- one corner alone: all q are the same
    have ht : t < l0.length := g.1
    have hq : ∀ z, z < l0.length → qz l1 z = qz l1 t ∧ qz l0 t ≤ qz l0 z := fun z hz => by
      have g1 := (g.2 z hz).1
      have g2 := top z hz
      exact ⟨by omega, (g.2 z hz).2 (by omega)⟩
    have hbt := mean_between (l0 := l0) (l1 := l1) (l2 := l2) (m := qz l1 t) (M := qz l1 t) l0.length hn40 hok (fun j hj => by have := (hq j hj).1; unfold qz at *; omega)
    have hht := Z.h t ht
    refine ⟨qz l0 t, 1, 0, 1, t, t, ⟨⟨by omega, by omega, by omega, by omega⟩, ?_, ?_, ht, ht, fun z hz => ?_, ?_, ?_, hbt.1, hbt.2, .inr rfl⟩, ?_⟩
    · unfold lowB
      rw [Int.gcd_one_right, show wrap64 ((1 : Nat) : Int) = 1 from w64 (by omega) (by omega)]; rfl
    · unfold lowB
      rw [Int.gcd_one_right, show wrap64 ((1 : Nat) : Int) = 1 from w64 (by omega) (by omega)]; rfl
    · have := (hq z hz).2
      have := Z.h z hz
      unfold rmN
      change 0 ≤ qz l0 z * (1 * 1) - qz l0 t * 1 - 0 * l1.getD z 0 * 1 ∧ qz l0 z * (1 * 1) - qz l0 t * 1 - 0 * l1.getD z 0 * 1 ≤ 400000000000
      omega
    · unfold rmN
      change qz l0 t * (1 * 1) - qz l0 t * 1 - 0 * l1.getD t 0 * 1 = 0
      omega
    · unfold rmN
      change qz l0 t * (1 * 1) - qz l0 t * 1 - 0 * l1.getD t 0 * 1 = 0
      omega
    · refine Ev.bind he ?_
      have c1 : ((toL [t]).length : Int) = 1 := rfl
      have c2 : (0 : Int) < ((toL [t]).length : Int) := by rw [c1]; omega
      have e0 : rd (toL [t]) 0 = (t : Int) := rfl
      have ht' : (t : Int) < (l0.length : Int) := by omega
      simp only [hs, Option.bind_some, c1, if_true, e0, n0, ht', rdn, show (0 : Int) < 1 by omega]
      exact Ev.now _
  | cons p r =>
    have L : (toL (t :: p :: r)).length = r.length + 2 := by rw [toL_len]; rfl
    have hmem : ∀ i, i < (t :: p :: r).length → ∃ a : Nat, (toL (t :: p :: r)).getD i 0 = (a : Int) ∧ a < l0.length := fun i hi => by
      obtain ⟨a, e1, e2, _⟩ := g.mem i hi
      exact ⟨a, e1, e2⟩
    have hr2 : r.length + 1 < l0.length := by simpa using hr
    have sd := fun z (hz : z < l0.length) => sd_iff (q := l1.getD z 0) (W := (sumsTo l0 l1 l2 l0.length).1) (SQ := (sumsTo l0 l1 l2 l0.length).2.1) (Z.q z hz) ⟨w0, by omega⟩
    -- an index with both sides
    obtain ⟨i, hi1, hi2, hidx, hside⟩ : ∃ i : Nat, 1 ≤ i ∧ i < r.length + 2 ∧ (∃ v : Int, Ev (fun k => slices_IndexFunc_int_int__figure_reference_1.f (E := ⟨⟨(sumsTo l0 l1 l2 l0.length).1, (sumsTo l0 l1 l2 l0.length).2.1, (sumsTo l0 l1 l2 l0.length).2.2, l1⟩⟩) k (toL (t :: p :: r))) v ∧ mx 1 v = (i : Int)) ∧
        ∀ a b : Nat, (toL (t :: p :: r)).getD (i - 1) 0 = (a : Int) → (toL (t :: p :: r)).getD i 0 = (b : Int) → l1.getD a 0 < l1.getD b 0 → a < l0.length → b < l0.length → l1.getD a 0 * (sumsTo l0 l1 l2 l0.length).1 ≤ (sumsTo l0 l1 l2 l0.length).2.1 ∧ (sumsTo l0 l1 l2 l0.length).2.1 ≤ l1.getD b 0 * (sumsTo l0 l1 l2 l0.length).1 := by
      rcases idx_ev (l0 := l0) (l1 := l1) (sumsTo l0 l1 l2 l0.length).1 (sumsTo l0 l1 l2 l0.length).2.1 (sumsTo l0 l1 l2 l0.length).2.2 (R := t :: p :: r) (by simp; omega) h1 hmem (r.length + 2) 0 (by simp) with ⟨j, _, hj, hj1, hj2, hj3⟩ | hno
      · have hj' : j < r.length + 2 := by simpa using hj
        have hf : Ev (fun k => slices_IndexFunc_int_int__figure_reference_1.f (E := ⟨⟨(sumsTo l0 l1 l2 l0.length).1, (sumsTo l0 l1 l2 l0.length).2.1, (sumsTo l0 l1 l2 l0.length).2.2, l1⟩⟩) k (toL (t :: p :: r))) (j : Int) := by
          unfold slices_IndexFunc_int_int__figure_reference_1.f
          rw [toL_len]
          exact hj3
        by_cases hj0 : j = 0
        · subst hj0
          refine ⟨1, Nat.le_refl _, by omega, ⟨_, hf, by unfold mx; omega⟩, fun a b ea eb hab ha hb => ?_⟩
          have h0 := (sd a ha).1 (hj1 a ea)
          obtain ⟨a', ea', _, hmin⟩ := g.mem 0 (by simp)
          have ea2 : (toL (t :: p :: r)).getD 0 0 = (a : Int) := ea
          rw [ea'] at ea2
          obtain rfl : a' = a := by omega
          have hbt := (mean_between (l0 := l0) (l1 := l1) (l2 := l2) (m := l1.getD a' 0) (M := 1000) l0.length hn40 hok (fun c hc => ⟨hmin rfl c hc, (Z.q c hc).2⟩)).1
          refine ⟨hbt, ?_⟩
          have := Int.mul_le_mul_of_nonneg_right (Int.le_of_lt hab) w0
          omega
        · refine ⟨j, by omega, hj', ⟨_, hf, by unfold mx; split <;> omega⟩, fun a b ea eb hab ha hb => ?_⟩
          have h0 := (sd b hb).1 (hj1 b eb)
          have h3 := hj2 (j - 1) (by omega) (by omega) a ea
          refine ⟨?_, h0⟩
          rcases Int.lt_or_le (sumsTo l0 l1 l2 l0.length).2.1 (l1.getD a 0 * (sumsTo l0 l1 l2 l0.length).1) with h | h
          · have := (sd a ha).2 (by omega); omega
          · exact h
      · -- the greatest q is not below the mean
        have ht := g.top
        have hbt := (mean_between (l0 := l0) (l1 := l1) (l2 := l2) (m := 0) (M := l1.getD t 0) l0.length hn40 hok (fun c hc => ⟨(Z.q c hc).1, top c hc⟩)).2
        have := hno (r.length + 1) (by omega) (by simp) t (toL_top t (p :: r))
        have := (sd t ht).2 hbt
        omega
    obtain ⟨v, hv, hvi⟩ := hidx
    obtain ⟨a, b, ea, eb, ha, hb, hab, hcr⟩ := g.pair i hi1 (by simpa using hi2)
    obtain ⟨hside1, hside2⟩ := hside a b ea eb hab ha hb
    obtain ⟨hL, hrm⟩ := through_rm Z ha hb hab hcr
    have ha1 := Z.h a ha
    have hb1 := Z.h b hb
    have ha2 := Z.q a ha
    have hb2 := Z.q b hb
    have hpos : 0 < qz l1 b - qz l1 a := by omega
    have m1 := mulb (a := qz l0 a) (b := qz l1 b - qz l1 a) (A := 100000) (B := 1000) ⟨by omega, by omega⟩ ⟨by omega, by omega⟩ (by omega)
    have m2 := mulb (a := qz l0 b - qz l0 a) (b := qz l1 a) (A := 200000) (B := 1000) ⟨by omega, by omega⟩ ⟨by omega, by omega⟩ (by omega)
    refine ⟨_, _, _, _, a, b, ⟨hL, lowB_low _ hpos, lowB_low _ hpos, ha, hb, fun z hz => ?_, ?_, ?_, hside1, hside2, .inl hab⟩, ?_⟩
    · obtain ⟨c, hc, e⟩ := hrm z hz
      have hcz := hcr z hz
      have hz1 := Z.h z hz
      have hz2 := Z.q z hz
      have k1 := mulb (a := qz l0 z - qz l0 a) (b := qz l1 b - qz l1 a) (A := 200000) (B := 1000) ⟨by omega, by omega⟩ ⟨by omega, by omega⟩ (by omega)
      have k2 := mulb (a := qz l0 b - qz l0 a) (b := qz l1 z - qz l1 a) (A := 200000) (B := 1000) ⟨by omega, by omega⟩ ⟨by omega, by omega⟩ (by omega)
      have hcb : cross (qz l1) (qz l0) a b z ≤ 400000000 := by unfold cross; omega
      have p1 := Int.mul_nonneg (Int.le_of_lt hpos) hcz
      have p2 : (qz l1 b - qz l1 a) * cross (qz l1) (qz l0) a b z ≤ 1000 * 400000000 := Int.mul_le_mul (by omega) hcb hcz (by omega)
      rw [← e] at p1 p2
      have hnn := nn hc p1
      refine ⟨hnn, ?_⟩
      have := Int.mul_le_mul_of_nonneg_right (show 1 ≤ c by omega) hnn
      omega
    · obtain ⟨c, hc, e⟩ := hrm a ha
      have : cross (qz l1) (qz l0) a b a = 0 := by unfold cross; grind
      rw [this, Int.mul_zero] at e
      rcases Int.mul_eq_zero.1 e with h | h
      · omega
      · exact h
    · obtain ⟨c, hc, e⟩ := hrm b hb
      rw [cross_self, Int.mul_zero] at e
      rcases Int.mul_eq_zero.1 e with h | h
      · omega
      · exact h
    · refine Ev.bind he ?_
      have c1 : ¬ ((toL (t :: p :: r)).length : Int) = 1 := by rw [L]; omega
      simp only [hs, Option.bind_some, c1, if_false]
      refine Ev.bind hv ?_
      rw [hvi, wm hi1 (by omega)]
      have d1 : ((i - 1 : Nat) : Int) < ((toL (t :: p :: r)).length : Int) := by rw [L]; omega
      have d2 : (i : Int) < ((toL (t :: p :: r)).length : Int) := by rw [L]; omega
      simp only [n0, d1, d2, if_true, rdn, ea, eb]
      have a0 : (a : Int) < (l0.length : Int) := by omega
      have a1 : (a : Int) < (l1.length : Int) := by omega
      have b0 : (b : Int) < (l0.length : Int) := by omega
      have b1 : (b : Int) < (l1.length : Int) := by omega
      unfold figure_through.f
      simp only [n0, a0, a1, b0, b1, if_true, rdn]
      change Ev (fun k => (((figure_lowest.f k (wrap64 (wrap64 (qz l0 a * wrap64 (qz l1 b - qz l1 a)) - wrap64 (wrap64 (qz l0 b - qz l0 a) * qz l1 a))) (wrap64 (qz l1 b - qz l1 a))).bind fun bt143 => (figure_lowest.f k (wrap64 (qz l0 b - qz l0 a)) (wrap64 (qz l1 b - qz l1 a))).bind fun bt145 => some (bt143.1, bt143.2, bt145.1, bt145.2))).bind fun bt149 => some (bt149.1, bt149.2.1, bt149.2.2.1, bt149.2.2.2, (a : Int), (b : Int))) _
      rw [w64 (n := qz l1 b - qz l1 a) (by omega) (by omega), w64 (n := qz l0 b - qz l0 a) (by omega) (by omega), w64 (n := qz l0 a * (qz l1 b - qz l1 a)) (by omega) (by omega), w64 (n := (qz l0 b - qz l0 a) * qz l1 a) (by omega) (by omega), w64 (n := qz l0 a * (qz l1 b - qz l1 a) - (qz l0 b - qz l0 a) * qz l1 a) (by omega) (by omega)]
      exact Ev.bind (Ev.bind (lowest_ev (by omega) hpos (by omega)).1 (Ev.bind (lowest_ev (by omega) hpos (by omega)).1 (Ev.now _))) (Ev.now _)
end Go.Proofs.Ytdkahcolfcmmpaa.Pure
set_option linter.unusedVariables false
namespace Go.Proofs.Ytdkahcolfcmmpaa.Pure
open Go.RowKit Go.Proofs.Ytdkahcolfcmmpaa.Pr Go.Proofs.YtdkahcolfcmmpaaW.PrintWords Go.Proofs.YtdkahcolfcmmpaaW.PrintLast Go.Proofs.YtdkahcolfcmmpaaW.PrintMore
def rsum (l0 l1 l2 : List Int) (a0 a1 a2 a3 : Int) : Nat → Int
  | 0 => 0
  | i + 1 => rsum l0 l1 l2 a0 a1 a2 a3 i + l2.getD i 0 * rmN l0 l1 a0 a1 a2 a3 i
theorem rsum_eq {l0 l1 l2 : List Int} (a0 a1 a2 a3 : Int) : ∀ i : Nat, i ≤ 40 → (∀ j, j < i → okZ l0 l1 l2 j = true) →
    rsum l0 l1 l2 a0 a1 a2 a3 i = (a1 * a3) * (sumsTo l0 l1 l2 i).2.2 - a0 * a3 * (sumsTo l0 l1 l2 i).1 - a2 * a1 * (sumsTo l0 l1 l2 i).2.1
  | 0, _, _ => by simp [rsum, sumsTo]
  | i + 1, hi, h => by
    obtain ⟨e1, e2, e3⟩ := sums_all (l0 := l0) (l1 := l1) (l2 := l2) (i := i) (by omega) (fun j hj => h j (by omega))
    rw [rsum, rsum_eq a0 a1 a2 a3 i (by omega) (fun j hj => h j (by omega)), e1, e2, e3]
    unfold rmN
    grind
theorem rsum_bd {l0 l1 l2 : List Int} {a0 a1 a2 a3 B : Int} (hB : 0 ≤ B) : ∀ i : Nat, (∀ j, j < i → okZ l0 l1 l2 j = true) → (∀ j, j < i → 0 ≤ rmN l0 l1 a0 a1 a2 a3 j ∧ rmN l0 l1 a0 a1 a2 a3 j ≤ B) → 0 ≤ rsum l0 l1 l2 a0 a1 a2 a3 i ∧ rsum l0 l1 l2 a0 a1 a2 a3 i ≤ (i : Int) * (1000 * B)
  | 0, _, _ => by simp [rsum]
  | i + 1, h, hr => by
    obtain ⟨a, b⟩ := rsum_bd hB i (fun j hj => h j (by omega)) (fun j hj => hr j (by omega))
    obtain ⟨_, _, ⟨w0, w1⟩⟩ := okZ_iff (h i (by omega))
    obtain ⟨c, d⟩ := hr i (by omega)
    have p0 := Int.mul_nonneg w0 c
    have p1 : l2.getD i 0 * rmN l0 l1 a0 a1 a2 a3 i ≤ 1000 * B := Int.mul_le_mul w1 d c (by omega)
    have e : ((i + 1 : Nat) : Int) * (1000 * B) = (i : Int) * (1000 * B) + 1000 * B := by rw [Int.natCast_add, Int.add_mul]; omega
    rw [rsum, e]
    omega
theorem least_loop {l0 l1 l2 : List Int} {r1 r2 r3 r4 : Int} {a b : Nat} (a4 a5 : Int) (hm : checkV l0 l1 l2 = 0) (hn : l0.length < 20) (R : RefL l0 l1 l2 r1 r2 r3 r4 a b) : ∀ (m i : Nat) (x : Int), i + m = l0.length → (m = 0 → x = r2 * r4) →
    Ev (fun k => figure_Least.l0 k (rsum l0 l1 l2 r1 r2 r3 r4 i) x l2 (l2.length : Int) (i : Int) l0 l1 l2 r1 r2 r3 r4 a4 a5) ((lowV (rsum l0 l1 l2 r1 r2 r3 r4 l0.length) (r2 * r4)).1, (lowV (rsum l0 l1 l2 r1 r2 r3 r4 l0.length) (r2 * r4)).2, 0) := by
  obtain ⟨⟨hn0, hn40, h1, h2⟩, hok, hz⟩ := checkV_0 hm
  have hw := whole_bd R.ok
  intro m
  induction m with
  | zero =>
    intro i x hi hx
    obtain rfl : i = l0.length := by omega
    obtain rfl := hx rfl
    have hlt : ¬ (l0.length : Int) < (l2.length : Int) := by omega
    obtain ⟨s0, s1⟩ := rsum_bd (l0 := l0) (l1 := l1) (l2 := l2) (a0 := r1) (a1 := r2) (a2 := r3) (a3 := r4) (B := 400000000000) (by omega) l0.length hok (fun j hj => R.abv j hj)
    refine Ev.s ?_
    simp only [figure_Least.l0, hlt, if_false]
    exact Ev.bind (lowest_ev (by omega) (by omega) (by omega)).1 (Ev.now _)
  | succ m ih =>
    intro i x hi hx
    have hlt : (i : Int) < (l2.length : Int) := by omega
    obtain ⟨e1, e2, e3⟩ := rem_bd' R.ok (hok i (by omega))
    have hf := rem_f l0 l1 l2 r1 r2 r3 r4 a4 a5 (i : Int) (n0 i) (by omega) (by omega)
    rw [e1, e3] at hf
    obtain ⟨s0, s1⟩ := rsum_bd (l0 := l0) (l1 := l1) (l2 := l2) (a0 := r1) (a1 := r2) (a2 := r3) (a3 := r4) (B := 400000000000) (by omega) i (fun j hj => hok j (by omega)) (fun j hj => R.abv j (by omega))
    obtain ⟨c, d⟩ := R.abv i (by omega)
    obtain ⟨_, _, ⟨w0, w1⟩⟩ := okZ_iff (hok i (by omega))
    have p0 := Int.mul_nonneg w0 c
    have p1 : l2.getD i 0 * rmN l0 l1 r1 r2 r3 r4 i ≤ 1000 * 400000000000 := Int.mul_le_mul w1 d c (by omega)
    refine Ev.s ?_
    simp only [figure_Least.l0, hlt, n0, if_true, hf, Option.bind_some, rdn, wi (show i ≤ 100000 by omega)]
    rw [w64 (n := l2.getD i 0 * rmN l0 l1 r1 r2 r3 r4 i) (by omega) (by omega), w64 (by omega) (by omega)]
    exact ih (i + 1) (r2 * r4) (by omega) (fun _ => rfl)
theorem addend {N den w : Int} (hd : 0 < den ∧ den ≤ 1000000) (hN : 0 ≤ N ∧ N ≤ 10200000000000) (hw : 0 ≤ w ∧ w ≤ 1000) : wrap64 (wrap64 (w * (lowV N den).1) * wrap64 (Int.tdiv den (lowV N den).2)) = w * N := by
  obtain ⟨g, hg, e1, e2, _⟩ := low_facts N hd.1
  have hp := (low_sign N hd.1).2.2
  have hab := low_abs N hd.1
  have ht : Int.tdiv den (lowV N den).2 = g := by
    have : Int.tdiv (g * (lowV N den).2) (lowV N den).2 = g := Int.mul_tdiv_cancel _ (by omega)
    rwa [← e2] at this
  have h0 : 0 ≤ (lowV N den).1 := by
    rcases Int.lt_or_le (lowV N den).1 0 with h | h
    · have := (low_sign N hd.1).1.1 h; omega
    · exact h
  have hgd : g ≤ den := by
    have : g * 1 ≤ g * (lowV N den).2 := Int.mul_le_mul_of_nonneg_left (by omega) (by omega)
    omega
  have p0 := Int.mul_nonneg hw.1 h0
  have p1 : w * (lowV N den).1 ≤ 1000 * 10200000000000 := Int.mul_le_mul hw.2 (by omega) h0 (by omega)
  have q0 := Int.mul_nonneg hw.1 hN.1
  have q1 : w * N ≤ 1000 * 10200000000000 := Int.mul_le_mul hw.2 hN.2 hN.1 (by omega)
  rw [ht, w64 (n := w * (lowV N den).1) (by omega) (by omega), w64 (n := g) (by omega) (by omega)]
  have e : w * (lowV N den).1 * g = w * N := by
    have : w * (lowV N den).1 * g = w * (g * (lowV N den).1) := by grind
    rw [this, ← e1]
  rw [e]
  exact w64 (by omega) (by omega)
end Go.Proofs.Ytdkahcolfcmmpaa.Pure
set_option linter.unusedVariables false
namespace Go.Proofs.Ytdkahcolfcmmpaa.Pure
open Go.RowKit Go.Proofs.Ytdkahcolfcmmpaa.Pr Go.Proofs.YtdkahcolfcmmpaaW.PrintWords Go.Proofs.YtdkahcolfcmmpaaW.PrintLast Go.Proofs.YtdkahcolfcmmpaaW.PrintMore
theorem floor_any {x d : Int} (hx : -4000000000000000000 ≤ x ∧ x ≤ 4000000000000000000) (hd : 0 < d) : speculumbase_Floor.f x d = some (x / d) := by
  unfold speculumbase_Floor.f
  have hq : -4000000000000000000 ≤ x / d ∧ x / d ≤ 4000000000000000000 := by
    have h1 : (-4000000000000000000) / d ≤ x / d := Int.ediv_le_ediv hd hx.1
    have h2 : -4000000000000000000 ≤ (-4000000000000000000 : Int) / d := by
      have : (-4000000000000000000 : Int) * d ≤ -4000000000000000000 * 1 := Int.mul_le_mul_of_nonpos_left (by omega) (by omega)
      exact (Int.le_ediv_iff_mul_le hd).2 (by omega)
    refine ⟨by omega, ?_⟩
    rcases Int.lt_or_le x 0 with h | h
    · have := Int.ediv_neg_of_neg_of_pos h hd; omega
    · have := Int.ediv_le_self d h; omega
  have hs : Int.sign d = 1 := Int.sign_eq_one_of_pos hd
  rw [if_neg (show ¬ d = 0 by omega), Int.tdiv_eq_ediv, Int.tmod_eq_emod, hs]
  have hm0 := Int.emod_nonneg x (show d ≠ 0 by omega)
  have hm1 := Int.emod_lt_of_pos x hd
  by_cases h : 0 ≤ x ∨ d ∣ x
  · rw [if_pos h, if_pos h, Int.add_zero, if_neg (by simp only [Int.natCast_zero]; omega), w64 (by omega) (by omega)]
  · rw [if_neg h, if_neg h, if_pos (by omega), w64 (n := x / d + 1) (by omega) (by omega), w64 (by omega) (by omega)]
    congr 1
    omega
theorem less2_eq {x1 x2 b1 b2 : Int} (hx : -1000000000000000 ≤ x1 ∧ x1 ≤ 1000000000000000) (hb : -1000000000000000 ≤ b1 ∧ b1 ≤ 1000000000000000) (hx2 : 0 < x2 ∧ x2 ≤ 100000000) (hb2 : 0 < b2 ∧ b2 ≤ 100000000) : speculumref06_less2.f x1 x2 b1 b2 = some (decide (x1 * b2 < b1 * x2)) := by
  unfold speculumref06_less2.f
  simp only [floor_any (x := x1) (d := x2) (by omega) hx2.1, floor_any (x := b1) (d := b2) (by omega) hb2.1, Option.bind_some]
  have a1 := Int.ediv_mul_le x1 (show x2 ≠ 0 by omega)
  have a2 : x1 < (x1 / x2 + 1) * x2 := Int.lt_ediv_add_one_mul_self x1 (by omega)
  have c1 := Int.ediv_mul_le b1 (show b2 ≠ 0 by omega)
  have c2 : b1 < (b1 / b2 + 1) * b2 := Int.lt_ediv_add_one_mul_self b1 (by omega)
  generalize x1 / x2 = f at *
  generalize b1 / b2 = h at *
  have a3 : (f + 1) * x2 = f * x2 + x2 := by grind
  have c3 : (h + 1) * b2 = h * b2 + b2 := by grind
  by_cases e : f = h
  · subst e
    rw [if_pos rfl, w64 (n := f * x2) (by omega) (by omega), w64 (n := f * b2) (by omega) (by omega), w64 (n := x1 - f * x2) (by omega) (by omega), w64 (n := b1 - f * b2) (by omega) (by omega)]
    have p0 := Int.mul_nonneg (show 0 ≤ x1 - f * x2 by omega) (show 0 ≤ b2 by omega)
    have p1 : (x1 - f * x2) * b2 ≤ 100000000 * 100000000 := Int.mul_le_mul (by omega) hb2.2 (by omega) (by omega)
    have q0 := Int.mul_nonneg (show 0 ≤ b1 - f * b2 by omega) (show 0 ≤ x2 by omega)
    have q1 : (b1 - f * b2) * x2 ≤ 100000000 * 100000000 := Int.mul_le_mul (by omega) hx2.2 (by omega) (by omega)
    rw [w64 (by omega) (by omega), w64 (by omega) (by omega)]
    have e1 : (x1 - f * x2) * b2 = x1 * b2 - f * x2 * b2 := by grind
    have e2 : (b1 - f * b2) * x2 = b1 * x2 - f * x2 * b2 := by grind
    rw [e1, e2]
    exact congrArg some (decide_eq_decide.2 ⟨fun _ => by omega, fun _ => by omega⟩)
  · rw [if_neg e]
    refine congrArg some (decide_eq_decide.2 ⟨fun hlt => ?_, fun hlt => ?_⟩)
    · have m1 : x1 * b2 < ((f + 1) * x2) * b2 := Int.mul_lt_mul_of_pos_right a2 hb2.1
      have m2 : (f + 1) * (x2 * b2) ≤ h * (x2 * b2) := Int.mul_le_mul_of_nonneg_right (by omega) (Int.mul_nonneg (by omega) (by omega))
      have m3 : (h * b2) * x2 ≤ b1 * x2 := Int.mul_le_mul_of_nonneg_right c1 (by omega)
      have e1 : ((f + 1) * x2) * b2 = (f + 1) * (x2 * b2) := by grind
      have e2 : (h * b2) * x2 = h * (x2 * b2) := by grind
      omega
    · rcases Int.lt_or_le f h with hh | hh
      · exact hh
      · exfalso
        have m1 : b1 * x2 < ((h + 1) * b2) * x2 := Int.mul_lt_mul_of_pos_right c2 hx2.1
        have m2 : (h + 1) * (x2 * b2) ≤ f * (x2 * b2) := Int.mul_le_mul_of_nonneg_right (by omega) (Int.mul_nonneg (by omega) (by omega))
        have m3 : (f * x2) * b2 ≤ x1 * b2 := Int.mul_le_mul_of_nonneg_right a1 (by omega)
        have e1 : ((h + 1) * b2) * x2 = (h + 1) * (x2 * b2) := by grind
        have e2 : (f * x2) * b2 = f * (x2 * b2) := by grind
        omega
structure Nb (N D : Int) (x : Int × Int) : Prop where
  p : 0 < x.2
  q : x.2 ≤ 100000000
  r : -100000000000000 ≤ x.1 ∧ x.1 ≤ 100000000000000
  ge : N * x.2 ≤ x.1 * D
def Hit (N D : Int) (x : Int × Int) : Prop := Nb N D x ∧ x.1 * D = N * x.2
theorem upd_ev {N D : Int} (hD : 0 < D) {x b : Int × Int} (hx : Nb N D x) (hb : b.2 = 0 ∨ Nb N D b) : ∃ c, lsUpd x b = some c ∧ Nb N D c ∧ (Hit N D x → Hit N D c) ∧ (Hit N D b → Hit N D c) := by
  unfold lsUpd
  by_cases z : b.2 = 0
  · rw [if_pos z]
    exact ⟨x, rfl, hx, fun h => h, fun h => absurd h.1.p (by omega)⟩
  · rw [if_neg z]
    have hb : Nb N D b := by rcases hb with h | h; exact absurd h z; exact h
    rw [less2_eq (by have := hx.r; omega) (by have := hb.r; omega) ⟨hx.p, hx.q⟩ ⟨hb.p, hb.q⟩, Option.bind_some]
    by_cases l : x.1 * b.2 < b.1 * x.2
    · rw [decide_eq_true l, if_pos rfl]
      refine ⟨x, rfl, hx, fun h => h, fun h => ⟨hx, ?_⟩⟩
      have m : (x.1 * b.2) * D < (b.1 * x.2) * D := Int.mul_lt_mul_of_pos_right l hD
      have e1 : (x.1 * b.2) * D = (x.1 * D) * b.2 := by grind
      have e2 : (b.1 * x.2) * D = (N * x.2) * b.2 := by have := h.2; grind
      rw [e1, e2] at m
      have := Int.lt_of_mul_lt_mul_right m (by have := hb.p; omega)
      have := hx.ge
      omega
    · rw [decide_eq_false l, if_neg (by simp)]
      refine ⟨b, rfl, hb, fun h => ⟨hb, ?_⟩, fun h => h⟩
      have m : (b.1 * x.2) * D ≤ (x.1 * b.2) * D := Int.mul_le_mul_of_nonneg_right (by omega) (by omega)
      have e1 : (b.1 * x.2) * D = (b.1 * D) * x.2 := by grind
      have e2 : (x.1 * b.2) * D = (N * b.2) * x.2 := by have := h.2; grind
      rw [e1, e2] at m
      have := Int.le_of_mul_le_mul_right m hx.p
      have := hb.ge
      omega
theorem low_scale (a b : Int) {k : Int} (hk : 0 < k) : lowV (k * a) (k * b) = lowV a b := by
  unfold lowV
  rw [Int.gcd_mul_left]
  have e : ((k.natAbs * Int.gcd a b : Nat) : Int) = k * (Int.gcd a b : Int) := by
    rw [Int.natCast_mul]; congr 1; omega
  rw [e, Int.mul_tdiv_mul_of_pos _ _ hk, Int.mul_tdiv_mul_of_pos _ _ hk]
theorem low_cross {a b c d : Int} (hb : 0 < b) (hd : 0 < d) (h : a * d = c * b) : lowV a b = lowV c d := by
  rw [← low_scale a b hd, ← low_scale c d hb]
  congr 1
  · grind
  · grind
structure Mw (l0 l1 l2 : List Int) (r1 r2 r3 r4 : Int) (a b : Nat) (m1 m2 : Int) : Prop where
  m2p : 0 < m2 ∧ m2 ≤ 100000
  m1p : 0 ≤ m1 ∧ m1 ≤ 100000000
  qa : l1.getD a 0 * m2 ≤ m1
  qb : m1 ≤ l1.getD b 0 * m2
def lnN (r1 r2 r3 r4 m1 m2 : Int) : Int := r1 * r4 * m2 + r3 * r2 * m1
def lnD (r2 r4 m2 : Int) : Int := r2 * r4 * m2
theorem step_ev {l0 l1 l2 : List Int} {r1 r2 r3 r4 m1 m2 : Int} {a b : Nat} (hm : checkV l0 l1 l2 = 0) (R : RefL l0 l1 l2 r1 r2 r3 r4 a b) (M : Mw l0 l1 l2 r1 r2 r3 r4 a b m1 m2) {i j : Nat} (hi : i < l0.length) (hj : j < l0.length) {x : Int × Int} (hx : x.2 = 0 ∨ Nb (lnN r1 r2 r3 r4 m1 m2) (lnD r2 r4 m2) x) :
    ∃ c, Ev (fun k => lsStep k l0 l1 m1 m2 i j x) c ∧ (c.2 = 0 ∨ Nb (lnN r1 r2 r3 r4 m1 m2) (lnD r2 r4 m2) c) ∧ (Hit (lnN r1 r2 r3 r4 m1 m2) (lnD r2 r4 m2) x → Hit (lnN r1 r2 r3 r4 m1 m2) (lnD r2 r4 m2) c) ∧ (i = a → j = b → Hit (lnN r1 r2 r3 r4 m1 m2) (lnD r2 r4 m2) c) := by
  obtain ⟨⟨hn0, hn40, h1, h2⟩, hok, hz⟩ := checkV_0 hm
  obtain ⟨hi0, qi, _⟩ := okZ_iff (hok i hi)
  obtain ⟨hj0, qj, _⟩ := okZ_iff (hok j hj)
  obtain ⟨⟨m20, m21⟩, ⟨m10, m11⟩, hqa, hqb⟩ := M
  have ri := (R.abv i hi).1
  have rj := (R.abv j hj).1
  have hw := whole_bd R.ok
  have hD : 0 < lnD r2 r4 m2 := Int.mul_pos (by omega) m20
  have b1 : 0 ≤ l1.getD i 0 * m2 := Int.mul_nonneg qi.1 (by omega)
  have b2 : l1.getD i 0 * m2 ≤ 1000 * 100000 := Int.mul_le_mul qi.2 m21 (by omega) (by omega)
  have b3 : 0 ≤ l1.getD j 0 * m2 := Int.mul_nonneg qj.1 (by omega)
  have b4 : l1.getD j 0 * m2 ≤ 1000 * 100000 := Int.mul_le_mul qj.2 m21 (by omega) (by omega)
  unfold lsStep
  have w1 : wrap64 (l1.getD i 0 * m2) = l1.getD i 0 * m2 := w64 (by omega) (by omega)
  have w2 : wrap64 (l1.getD j 0 * m2) = l1.getD j 0 * m2 := w64 (by omega) (by omega)
  simp only [rdn, w1, w2]
  by_cases g1 : l1.getD i 0 * m2 > m1
  · simp only [g1, if_true]
    exact ⟨x, Ev.now _, hx, fun h => h, fun e _ => by subst e; omega⟩
  simp only [g1, if_false]
  by_cases g2 : l1.getD j 0 * m2 < m1
  · simp only [g2, if_true]
    exact ⟨x, Ev.now _, hx, fun h => h, fun _ e => by subst e; omega⟩
  simp only [g2, if_false]
  by_cases q : l1.getD i 0 = l1.getD j 0
  · simp only [q, if_true]
    by_cases v : l0.getD j 0 < l0.getD i 0
    · simp only [v, if_true]
      refine ⟨x, Ev.now _, hx, fun h => h, fun e e' => ?_⟩
      subst e e'
      exfalso
      rcases R.ab with hab | hab
      · omega
      · subst hab; omega
    · simp only [v, if_false]
      have key : l0.getD i 0 * lnD r2 r4 m2 - lnN r1 r2 r3 r4 m1 m2 = rmN l0 l1 r1 r2 r3 r4 i * m2 := by
        have : m1 = l1.getD i 0 * m2 := by rw [q] at g1 ⊢; omega
        unfold lnD lnN rmN
        rw [this]
        grind
      have pos := Int.mul_nonneg ri (show 0 ≤ m2 by omega)
      have hX : Nb (lnN r1 r2 r3 r4 m1 m2) (lnD r2 r4 m2) (l0.getD i 0, 1) := ⟨by simp, by simp, ⟨by simp only; omega, by simp only; omega⟩, by simp only; omega⟩
      obtain ⟨c, hc, hn, hh1, hh2⟩ := upd_ev hD hX hx
      refine ⟨c, ?_, .inr hn, hh2, fun e e' => hh1 ⟨hX, ?_⟩⟩
      · rw [hc]; exact Ev.now _
      · subst e
        rw [R.ra] at key
        simp only
        omega
  · simp only [q, if_false]
    have hlt : l1.getD i 0 < l1.getD j 0 := by
      rcases Int.lt_or_le (l1.getD i 0) (l1.getD j 0) with h | h
      · exact h
      · have : l1.getD j 0 < l1.getD i 0 := by omega
        have := Int.mul_lt_mul_of_pos_right this m20
        omega
    have d0 : 0 < (l1.getD j 0 - l1.getD i 0) * m2 := Int.mul_pos (by omega) m20
    have d1 : (l1.getD j 0 - l1.getD i 0) * m2 ≤ 1000 * 100000 := Int.mul_le_mul (by omega) m21 (by omega) (by omega)
    have t1 := mul_abs (a := l0.getD i 0) (b := l1.getD j 0 - l1.getD i 0) (A := 100000) (B := 1000) ⟨by omega, by omega⟩ ⟨by omega, by omega⟩ (by omega)
    have t2 := mul_abs (a := l0.getD i 0 * (l1.getD j 0 - l1.getD i 0)) (b := m2) (A := 100000000) (B := 100000) ⟨by omega, by omega⟩ ⟨by omega, by omega⟩ (by omega)
    have t3 := mul_abs (a := l0.getD j 0 - l0.getD i 0) (b := m1 - l1.getD i 0 * m2) (A := 200000) (B := 100000000) ⟨by omega, by omega⟩ ⟨by omega, by omega⟩ (by omega)
    obtain ⟨NUM, hNUM⟩ : ∃ z, z = l0.getD i 0 * (l1.getD j 0 - l1.getD i 0) * m2 + (l0.getD j 0 - l0.getD i 0) * (m1 - l1.getD i 0 * m2) := ⟨_, rfl⟩
    obtain ⟨DEN, hDEN⟩ : ∃ z, z = (l1.getD j 0 - l1.getD i 0) * m2 := ⟨_, rfl⟩
    have hnum : lsNum l0 l1 m1 m2 i j = NUM := by
      unfold lsNum
      simp only [rdn]
      rw [w64 (n := l1.getD j 0 - l1.getD i 0) (by omega) (by omega), w64 (n := l0.getD i 0 * (l1.getD j 0 - l1.getD i 0)) (by omega) (by omega), w64 (n := l0.getD i 0 * (l1.getD j 0 - l1.getD i 0) * m2) (by omega) (by omega), w64 (n := l1.getD i 0 * m2) (by omega) (by omega), w64 (n := l0.getD j 0 - l0.getD i 0) (by omega) (by omega), w64 (n := m1 - l1.getD i 0 * m2) (by omega) (by omega), w64 (n := (l0.getD j 0 - l0.getD i 0) * (m1 - l1.getD i 0 * m2)) (by omega) (by omega), w64 (by omega) (by omega), hNUM]
    have hden : lsDen l1 m2 i j = DEN := by
      unfold lsDen
      simp only [rdn]
      rw [w64 (n := l1.getD j 0 - l1.getD i 0) (by omega) (by omega), w64 (by omega) (by omega), hDEN]
    rw [hnum, hden]
    have key : NUM * lnD r2 r4 m2 - lnN r1 r2 r3 r4 m1 m2 * DEN = m2 * (rmN l0 l1 r1 r2 r3 r4 i * (l1.getD j 0 * m2 - m1) + rmN l0 l1 r1 r2 r3 r4 j * (m1 - l1.getD i 0 * m2)) := by
      rw [hNUM, hDEN]
      unfold lnD lnN rmN
      grind
    have pos : 0 ≤ m2 * (rmN l0 l1 r1 r2 r3 r4 i * (l1.getD j 0 * m2 - m1) + rmN l0 l1 r1 r2 r3 r4 j * (m1 - l1.getD i 0 * m2)) := Int.mul_nonneg (by omega) (by
      have := Int.mul_nonneg ri (show 0 ≤ l1.getD j 0 * m2 - m1 by omega)
      have := Int.mul_nonneg rj (show 0 ≤ m1 - l1.getD i 0 * m2 by omega)
      omega)
    have dpos : 0 < DEN := by omega
    have nabs : NUM.natAbs ≤ 30000000000000 := by omega
    have dle : DEN ≤ 100000000 := by omega
    obtain ⟨g, hg, e1, e2, _⟩ := low_facts NUM dpos
    have hp := low_sign NUM dpos
    have hab := low_abs NUM dpos
    have hge : ∀ (y : Int), NUM * lnD r2 r4 m2 - lnN r1 r2 r3 r4 m1 m2 * DEN = y → g * ((lowV NUM DEN).1 * lnD r2 r4 m2 - lnN r1 r2 r3 r4 m1 m2 * (lowV NUM DEN).2) = y := fun y hy => by
      have e3 : g * ((lowV NUM DEN).1 * lnD r2 r4 m2 - lnN r1 r2 r3 r4 m1 m2 * (lowV NUM DEN).2) = (g * (lowV NUM DEN).1) * lnD r2 r4 m2 - lnN r1 r2 r3 r4 m1 m2 * (g * (lowV NUM DEN).2) := by grind
      rw [e3, ← e1, ← e2, hy]
    have hX : Nb (lnN r1 r2 r3 r4 m1 m2) (lnD r2 r4 m2) (lowV NUM DEN) := ⟨hp.2.2, by omega, ⟨by omega, by omega⟩, by
      have := nn hg (by rw [hge _ key]; exact pos)
      omega⟩
    obtain ⟨c, hc, hn, hh1, hh2⟩ := upd_ev hD hX hx
    refine ⟨c, Ev.bind (lowest_ev (by omega) dpos (by omega)).2 ?_, .inr hn, hh2, fun e e' => hh1 ⟨hX, ?_⟩⟩
    · rw [hc]; exact Ev.now _
    · subst e e'
      rw [R.ra, R.rb, Int.zero_mul, Int.zero_mul, Int.add_zero, Int.mul_zero] at key
      have h0 := hge _ key
      rcases Int.mul_eq_zero.1 h0 with h | h
      · omega
      · omega
theorem all_ev {l0 l1 l2 : List Int} {r1 r2 r3 r4 m1 m2 : Int} {a b : Nat} (hm : checkV l0 l1 l2 = 0) (R : RefL l0 l1 l2 r1 r2 r3 r4 a b) (M : Mw l0 l1 l2 r1 r2 r3 r4 a b m1 m2) : ∀ (ps : List (Nat × Nat)) (x : Int × Int), (∀ p ∈ ps, p.1 < l0.length ∧ p.2 < l0.length) → (x.2 = 0 ∨ Nb (lnN r1 r2 r3 r4 m1 m2) (lnD r2 r4 m2) x) →
    ∃ c, Ev (fun k => lsAll k l0 l1 m1 m2 ps x) c ∧ (Hit (lnN r1 r2 r3 r4 m1 m2) (lnD r2 r4 m2) x ∨ (a, b) ∈ ps → Hit (lnN r1 r2 r3 r4 m1 m2) (lnD r2 r4 m2) c)
  | [], x, _, _ => ⟨x, Ev.now _, fun h => by rcases h with h | h; exact h; exact absurd h (List.not_mem_nil)⟩
  | p :: ps, x, hp, hx => by
    obtain ⟨c, h1, h2, h3, h4⟩ := step_ev hm R M (hp p (List.mem_cons_self ..)).1 (hp p (List.mem_cons_self ..)).2 hx
    obtain ⟨d, h5, h6⟩ := all_ev hm R M ps c (fun z hz => hp z (List.mem_cons_of_mem _ hz)) h2
    refine ⟨d, Ev.bind h1 h5, fun h => h6 ?_⟩
    rcases h with h | h
    · exact .inl (h3 h)
    · rcases List.mem_cons.1 h with h | h
      · subst h; exact .inl (h4 rfl rfl)
      · exact .inr h
theorem row_mem (i : Nat) : ∀ (m j : Nat) (p : Nat × Nat), p ∈ lsRow i j m ↔ p.1 = i ∧ j ≤ p.2 ∧ p.2 < j + m
  | 0, j, p => by simp only [lsRow, List.not_mem_nil, false_iff]; omega
  | m + 1, j, p => by
    rw [lsRow, List.mem_cons, row_mem i m (j + 1) p]
    constructor
    · rintro (h | h)
      · subst h; exact ⟨rfl, Nat.le_refl _, by simp only; omega⟩
      · exact ⟨h.1, by omega, by omega⟩
    · intro h
      by_cases e : p.2 = j
      · left; exact Prod.ext h.1 e
      · right; exact ⟨h.1, by omega, by omega⟩
theorem rows_mem (n : Nat) : ∀ (m i : Nat) (p : Nat × Nat), p ∈ lsRows n i m ↔ (i ≤ p.1 ∧ p.1 < i + m) ∧ p.2 < n
  | 0, i, p => by simp only [lsRows, List.not_mem_nil, false_iff]; omega
  | m + 1, i, p => by
    rw [lsRows, List.mem_append, row_mem, rows_mem n m (i + 1) p]
    omega
end Go.Proofs.Ytdkahcolfcmmpaa.Pure
set_option linter.unusedVariables false
namespace Go.Proofs.Ytdkahcolfcmmpaa.Pure
open Go.RowKit Go.Proofs.Ytdkahcolfcmmpaa.Pr Go.Proofs.YtdkahcolfcmmpaaW.PrintWords Go.Proofs.YtdkahcolfcmmpaaW.PrintLast Go.Proofs.YtdkahcolfcmmpaaW.PrintMore
theorem refLeast_ev {l0 l1 l2 : List Int} {r1 r2 r3 r4 : Int} {a b : Nat} (hm : checkV l0 l1 l2 = 0) (hn20 : l0.length < 20) (R : RefL l0 l1 l2 r1 r2 r3 r4 a b) : Ev (fun k => speculumref06_Least.f k l0 l1 l2) (lowV (rsum l0 l1 l2 r1 r2 r3 r4 l0.length) (r2 * r4)) := by
  obtain ⟨⟨hn0, hn40, h1, h2⟩, hok, hz⟩ := checkV_0 hm
  obtain ⟨⟨w0, w1⟩, ⟨s0, s1⟩⟩ := sums_bd (l0 := l0) (l1 := l1) (l2 := l2) l0.length hn40 hok
  have h3 := sums3 (l0 := l0) (l1 := l1) (l2 := l2) l0.length hn40 hok
  have hw := whole_bd R.ok
  have hrs := rsum_eq (l0 := l0) (l1 := l1) (l2 := l2) r1 r2 r3 r4 l0.length hn40 hok
  have hmean := mean_ev hm
  have qa := R.qa
  have qb := R.qb
  have Wp : 0 < (sumsTo l0 l1 l2 l0.length).1 := by omega
  obtain ⟨g, hg, e1, e2, _⟩ := low_facts (sumsTo l0 l1 l2 l0.length).2.1 Wp
  have hab := low_abs (sumsTo l0 l1 l2 l0.length).2.1 Wp
  have hp := low_sign (sumsTo l0 l1 l2 l0.length).2.1 Wp
  have hm1 : 0 ≤ (lowV (sumsTo l0 l1 l2 l0.length).2.1 (sumsTo l0 l1 l2 l0.length).1).1 := by
    rcases Int.lt_or_le (lowV (sumsTo l0 l1 l2 l0.length).2.1 (sumsTo l0 l1 l2 l0.length).1).1 0 with h | h
    · have := hp.1.1 h; omega
    · exact h
  obtain ⟨m, hmv⟩ : ∃ z, z = lowV (sumsTo l0 l1 l2 l0.length).2.1 (sumsTo l0 l1 l2 l0.length).1 := ⟨_, rfl⟩
  rw [← hmv] at e1 e2 hab hp hm1 hmean
  unfold speculumref06_Least.f
  simp only [h1, h2, and_self, if_true]
  generalize hW : (sumsTo l0 l1 l2 l0.length).1 = W at *
  generalize hSQ : (sumsTo l0 l1 l2 l0.length).2.1 = SQ at *
  generalize hSH : (sumsTo l0 l1 l2 l0.length).2.2 = SH at *
  have M : Mw l0 l1 l2 r1 r2 r3 r4 a b m.1 m.2 := ⟨⟨hp.2.2, by omega⟩, ⟨hm1, by omega⟩, by
      have e : g * (m.1 - l1.getD a 0 * m.2) = SQ - l1.getD a 0 * W := by rw [e1, e2]; grind
      have := nn hg (show 0 ≤ g * (m.1 - l1.getD a 0 * m.2) by rw [e]; omega)
      omega, by
      have e : g * (l1.getD b 0 * m.2 - m.1) = l1.getD b 0 * W - SQ := by rw [e1, e2]; grind
      have := nn hg (show 0 ≤ g * (l1.getD b 0 * m.2 - m.1) by rw [e]; omega)
      omega⟩
  obtain ⟨c, hc, hh⟩ := all_ev hm R M (lsRows l0.length 0 l0.length) (0, 0) (fun p hp => by have := (rows_mem _ _ _ _).1 hp; omega) (.inl rfl)
  obtain ⟨hn, he⟩ := hh (.inr ((rows_mem _ _ _ _).2 ⟨⟨Nat.zero_le _, by have := R.ha; simp only; omega⟩, R.hb⟩))
  have k1 := mul_abs (a := SH) (b := c.2) (A := 4000000000) (B := 100000000) ⟨by omega, by omega⟩ ⟨by have := hn.p; omega, hn.q⟩ (by omega)
  have k2 := mul_abs (a := W) (b := c.1) (A := 20000) (B := 100000000000000) ⟨by omega, by omega⟩ hn.r (by omega)
  refine Ev.bind hmean (Ev.bind hc ?_)
  rw [w64 (n := SH * c.2) (by omega) (by omega), w64 (n := W * c.1) (by omega) (by omega), w64 (by omega) (by omega)]
  have hx : lowV (SH * c.2 - W * c.1) c.2 = lowV (rsum l0 l1 l2 r1 r2 r3 r4 l0.length) (r2 * r4) := by
    refine low_cross hn.p (by omega) ?_
    rw [hrs]
    unfold lnN lnD at he
    have e3 : W * c.1 * (r2 * r4) = (r1 * r4 * W + r3 * r2 * SQ) * c.2 := by
      have : W * c.1 * (r2 * r4) = g * (c.1 * (r2 * r4 * m.2)) := by rw [e2]; grind
      rw [this, he, e1, e2]
      grind
    have e4 : (SH * c.2 - W * c.1) * (r2 * r4) = SH * c.2 * (r2 * r4) - W * c.1 * (r2 * r4) := by grind
    rw [e4, e3]
    grind
  rw [← hx]
  exact (lowest_ev (by omega) hn.p (by have := hn.q; omega)).2
theorem clV_of {l0 l1 l2 : List Int} {r1 r2 r3 r4 : Int} {a b : Nat} (R : RefL l0 l1 l2 r1 r2 r3 r4 a b) : clV r1 r2 r3 r4 = 0 := by
  obtain ⟨⟨p0, p1⟩, ⟨q0, q1⟩, ⟨s0, s1⟩, ⟨t0, t1⟩⟩ := R.ok
  have o1 : okR r1 r2 = true := by
    unfold okR inR
    rw [if_neg (by omega), if_pos (by omega)]
    exact decide_eq_true p1
  have o2 : okR r3 r4 = true := by
    unfold okR inR
    rw [if_neg (by omega), if_pos (by omega)]
    exact decide_eq_true s1
  unfold clV
  rw [R.low0, R.low1, o1, o2]
  rfl
theorem crV_of {l0 l1 l2 : List Int} {r1 r2 r3 r4 : Int} {a b : Nat} (hm : checkV l0 l1 l2 = 0) (R : RefL l0 l1 l2 r1 r2 r3 r4 a b) : crV l0 l1 l2 r1 r2 r3 r4 (a : Int) (b : Int) = (0, 0) := by
  obtain ⟨⟨hn0, hn40, h1, h2⟩, hok, hz⟩ := checkV_0 hm
  obtain ⟨⟨w0, w1⟩, ⟨s0, s1⟩⟩ := sums_bd (l0 := l0) (l1 := l1) (l2 := l2) l0.length hn40 hok
  have hn : (List.range l0.length).find? (fun i : Nat => decide (remVal l0 l1 r1 r2 r3 r4 (i : Int) < 0)) = none := by
    rw [List.find?_eq_none]
    intro i hi
    have hi' := List.mem_range.1 hi
    rw [(rem_bd' R.ok (hok i hi')).1]
    have := (R.abv i hi').1
    simp only [decide_eq_true_eq]
    omega
  have tz : ∀ z : Nat, z < l0.length → tzB l0.length (z : Int) = true := fun z h => by
    unfold tzB
    rw [if_pos (by omega), w64 (by omega) (by omega)]
    exact decide_eq_true (by omega)
  have ha := R.ha
  have hb := R.hb
  have ra := (rem_bd' R.ok (hok a ha)).1
  have rb := (rem_bd' R.ok (hok b hb)).1
  rw [R.ra] at ra
  rw [R.rb] at rb
  have qa := R.qa
  have qb := R.qb
  obtain ⟨_, qa0, _⟩ := okZ_iff (hok a ha)
  obtain ⟨_, qb0, _⟩ := okZ_iff (hok b hb)
  have ba : 0 ≤ l1.getD a 0 * (sumsTo l0 l1 l2 l0.length).1 := Int.mul_nonneg qa0.1 w0
  have bb : 0 ≤ l1.getD b 0 * (sumsTo l0 l1 l2 l0.length).1 := Int.mul_nonneg qb0.1 w0
  have bb2 : l1.getD b 0 * (sumsTo l0 l1 l2 l0.length).1 ≤ 1000 * 100000 := Int.mul_le_mul qb0.2 (by omega) w0 (by omega)
  have f0 : tf0 l0 l1 l2 r1 r2 r3 r4 (a : Int) = false := by
    unfold tf0 sdV
    rw [if_pos ra, h2, rdn, w64 (n := l1.getD a 0 * (sumsTo l0 l1 l2 l0.length).1) (by omega) (by omega)]
    refine decide_eq_false ?_
    split
    · omega
    · rw [if_neg (by omega)]; omega
  have f1 : tf1 l0 l1 l2 r1 r2 r3 r4 (b : Int) = false := by
    unfold tf1 sdV
    rw [if_pos rb, h2, rdn, w64 (n := l1.getD b 0 * (sumsTo l0 l1 l2 l0.length).1) (by omega) (by omega)]
    refine decide_eq_false ?_
    rw [if_neg (by omega)]
    split <;> omega
  unfold crV
  rw [hn]
  simp only [tz a ha, tz b hb, f0, f1, if_true, Bool.false_eq_true, if_false]
theorem refs_loop {l0 l1 l2 : List Int} {r1 r2 r3 r4 : Int} {a b : Nat} (a4 a5 : Int) (hm : checkV l0 l1 l2 = 0) (hn : l0.length < 20) (R : RefL l0 l1 l2 r1 r2 r3 r4 a b) : ∀ (m i : Nat), i + m = l0.length →
    Ev (fun k => speculumlaw06_FigureReferences.l0 k 0 (r2 * r4) (rsum l0 l1 l2 r1 r2 r3 r4 i) (i : Int) l0 l1 l2 r1 r2 r3 r4 a4 a5 (lowV (rsum l0 l1 l2 r1 r2 r3 r4 l0.length) (r2 * r4)).1 (lowV (rsum l0 l1 l2 r1 r2 r3 r4 l0.length) (r2 * r4)).2) true := by
  obtain ⟨⟨hn0, hn40, h1, h2⟩, hok, hz⟩ := checkV_0 hm
  have hw := whole_bd R.ok
  intro m
  induction m with
  | zero =>
    intro i hi
    obtain rfl : i = l0.length := by omega
    have hlt : ¬ (l0.length : Int) < (l0.length : Int) := by omega
    obtain ⟨s0, s1⟩ := rsum_bd (l0 := l0) (l1 := l1) (l2 := l2) (a0 := r1) (a1 := r2) (a2 := r3) (a3 := r4) (B := 400000000000) (by omega) l0.length hok (fun j hj => R.abv j hj)
    refine Ev.s ?_
    simp only [speculumlaw06_FigureReferences.l0, hlt, if_false, if_true]
    refine Ev.bind (lowest_ev (by omega) (by omega) (by omega)).2 ?_
    simp only [beq_self_eq_true, Bool.and_self]
    exact Ev.now _
  | succ m ih =>
    intro i hi
    have hlt : (i : Int) < (l0.length : Int) := by omega
    have hl2 : (i : Int) < (l2.length : Int) := by omega
    obtain ⟨hN, hN2⟩ := R.abv i (by omega)
    have hsg := low_sign (rmN l0 l1 r1 r2 r3 r4 i) (show 0 < r2 * r4 by omega)
    have hz1 : ¬ (rmL l0 l1 r1 r2 r3 r4 i).2 = 0 := by have := hsg.2.2; unfold rmL; omega
    obtain ⟨_, _, hwi⟩ := okZ_iff (hok i (by omega))
    have had := addend (N := rmN l0 l1 r1 r2 r3 r4 i) (den := r2 * r4) (w := l2.getD i 0) ⟨by omega, by omega⟩ ⟨hN, by omega⟩ hwi
    change wrap64 (wrap64 (l2.getD i 0 * (rmL l0 l1 r1 r2 r3 r4 i).1) * wrap64 (Int.tdiv (r2 * r4) (rmL l0 l1 r1 r2 r3 r4 i).2)) = _ at had
    obtain ⟨t0, t1⟩ := rsum_bd (l0 := l0) (l1 := l1) (l2 := l2) (a0 := r1) (a1 := r2) (a2 := r3) (a3 := r4) (B := 400000000000) (by omega) (i + 1) (fun j hj => hok j (by omega)) (fun j hj => R.abv j (by omega))
    rw [rsum] at t0 t1
    refine Ev.s ?_
    simp only [speculumlaw06_FigureReferences.l0, hlt, if_true]
    refine Ev.bind (refRemoval_ev a4 a5 R.ok (hok i (by omega)) (by omega) (by omega)) ?_
    simp only [n0, if_true, hl2, hz1, if_false, rdn, had, wi (show i ≤ 100000 by omega)]
    rw [w64 (by omega) (by omega)]
    exact ih (i + 1) (by omega)
theorem FigureReferences (l0 l1 l2 : List Int) : ∃ k, speculumlaw06_FigureReferences.f k l0 l1 l2 = some true := by
  refine Ev.rounds (g := fun k => speculumlaw06_FigureReferences.f k l0 l1 l2) ?_
  unfold speculumlaw06_FigureReferences.f speculumlaw06_Few.f
  refine Ev.bind awake_ev ?_
  simp only [if_true, Option.bind_some]
  cases hf : fewB l0.length && fewB l1.length && fewB l2.length with
  | false => simp only [Bool.false_eq_true, if_false]; exact Ev.now _
  | true =>
    have hb : l0.length ≤ 10 ∨ 40 < l0.length := by
      simp only [Bool.and_eq_true] at hf
      have := few_true hf.1.1
      omega
    obtain ⟨le0, le1, le2⟩ := few_len hf
    simp only [if_true, mapped_eq (show l0.length ≤ 1000 by omega) (show l1.length ≤ 1000 by omega) (show l2.length ≤ 1000 by omega), Option.bind_some]
    by_cases hm : checkV l0 l1 l2 = 0
    · have hn40 := (checkV_0 hm).1.2.1
      have hn0 := (checkV_0 hm).1.1
      have hn : l0.length < 20 := by omega
      obtain ⟨r1, r2, r3, r4, a, b, R, he⟩ := reference_ev hm hn
      have hw := whole_bd R.ok
      have hR : Ev (fun k => figure_Reference.f k l0 l1 l2) (r1, r2, r3, r4, (a : Int), (b : Int), 0) := by
        unfold figure_Reference.f
        refine Ev.bind (CheckMap_ev l0 l1 l2) ?_
        simp only [hm, if_true]
        exact Ev.bind he (Ev.now _)
      have hL : Ev (fun k => figure_Least.f k l0 l1 l2) ((lowV (rsum l0 l1 l2 r1 r2 r3 r4 l0.length) (r2 * r4)).1, (lowV (rsum l0 l1 l2 r1 r2 r3 r4 l0.length) (r2 * r4)).2, 0) := by
        unfold figure_Least.f
        refine Ev.bind (CheckMap_ev l0 l1 l2) ?_
        simp only [hm, if_true]
        refine Ev.bind he ?_
        exact least_loop (a : Int) (b : Int) hm hn R l0.length 0 1 (by omega) (fun h => by omega)
      have j : ∀ x : Int, -1000000000 ≤ x → x ≤ 1000000000 → I64 x := fun x h h' => ⟨by omega, by omega⟩
      obtain ⟨⟨p0, p1⟩, ⟨q0, q1⟩, ⟨s0, s1⟩, ⟨t0, t1⟩⟩ := R.ok
      have hcl := clV_of R
      have hcr := crV_of hm R
      refine Ev.bind hR (Ev.bind hL (Ev.bind (refCheckMap_ev l0 l1 l2) ?_))
      simp only [hm, if_true]
      refine Ev.bind (CheckLine_ev (a : Int) (b : Int) (j _ p0 p1) (j r2 (by omega) (by omega)) (j _ s0 s1) (j r4 (by omega) (by omega))) ?_
      simp only [hcl, if_true]
      refine Ev.bind (refLeast_ev hm hn R) ?_
      simp only [beq_self_eq_true, Bool.not_true, Bool.or_self]
      refine Ev.s ?_
      simp only [speculumlaw06_FigureReferences.j0, Bool.false_eq_true, if_false, mapped_eq (show l0.length ≤ 1000 by omega) (show l1.length ≤ 1000 by omega) (show l2.length ≤ 1000 by omega), Option.bind_some]
      have h1 := refCheckReference_ev (l0 := l0) (l1 := l1) (l2 := l2) (a : Int) (b : Int) hm R.ok
      rw [hcr] at h1
      refine Ev.bind h1 ?_
      simp only [if_true]
      have h2 := CheckReference_ev (l0 := l0) (l1 := l1) (l2 := l2) (a : Int) (b : Int) (j _ p0 p1) (j r2 (by omega) (by omega)) (j _ s0 s1) (j r4 (by omega) (by omega))
      rw [if_pos hm, if_pos hcl, hcr] at h2
      refine Ev.bind h2 ?_
      simp only
      rw [w64 (n := r2 * r4) (by omega) (by omega)]
      exact refs_loop (a : Int) (b : Int) hm hn R l0.length 0 (by omega)
    · have hR : Ev (fun k => figure_Reference.f k l0 l1 l2) (0, 0, 0, 0, 0, 0, checkV l0 l1 l2) := by
        unfold figure_Reference.f
        refine Ev.bind (CheckMap_ev l0 l1 l2) ?_
        simp only [hm, if_false]
        exact Ev.now _
      have hL : Ev (fun k => figure_Least.f k l0 l1 l2) (0, 0, checkV l0 l1 l2) := by
        unfold figure_Least.f
        refine Ev.bind (CheckMap_ev l0 l1 l2) ?_
        simp only [hm, if_false]
        exact Ev.now _
      refine Ev.bind hR (Ev.bind hL (Ev.bind (refCheckMap_ev l0 l1 l2) ?_))
      simp only [hm, if_false, if_true, speculumlaw06_none.f, Option.bind_some, beq_self_eq_true, Bool.and_self]
      exact Ev.now _
end Go.Proofs.Ytdkahcolfcmmpaa.Pure
namespace Go.Proofs.Ytdkahcolfcmmpaa.figureReferences
open Go.ChangeShapes Go.WideShapes Go.ChangeAt Go.RowKit Go.Proofs.Ytdkahcolfcmmpaa.RowB
open Go.ChangeMaps (open_string shut_string)
set_option linter.unusedVariables false
set_option maxRecDepth 100000 in
theorem lifted (os : Os) (started : os.Started) (H : Type) (enc : TypeId × Value → H) :
    ReturnsInHanded {} Try.checked os 7 .any (Rows.figureReferencesSpec.pre6 enc Try.prog Try.f7 Rows.figureReferencesRow.domain false) (Rows.figureReferencesSpec.post enc Try.prog Try.f7 false true false false) := by
  refine returnsInHanded_of_change_sized (C := Try.checked) own started (by kernel_rfl) Try.func7
    (ChangeSpec.witness6 (enc := enc) (C := Try.checked) false ⟨#[], #[.agg #[.slice none 0 0, .slice none 0 0, .slice none 0 0]], []⟩ 8 (by kernel_rfl) (by kernel_rfl) (by kernel_rfl) (by kernel_rfl)) ?_
  intro W base args ds gs before hval0 hW hcnd hsz0 _
  have hval : ∀ (j : Nat) t v, Try.f7.params[j]? = some t → args[j]? = some v → Value.okWide Try.prog W .any base t v := hval0
  have hW' := hW
  obtain ⟨p, q, hA0, hV, rfl, hfz, hnd⟩ := hW
  have hA : DataW.TrodAll enc Try.prog W 0 (fun _ => true) true Try.f7.params.toList args.toList ds p := hA0
  rw [Try.params7] at hA hval
  obtain ⟨v0, vs0, d0, ds0, p0, q0, hargs, rfl, rfl, h0, r0⟩ := trodAll_cons hA
  obtain ⟨rfl, rfl, rfl⟩ := trodAll_nil r0
  obtain rfl : args = #[v0] := by cases args; simp_all
  obtain ⟨rfl, rfl⟩ := trodVars_none hV
  have k0 := h0
  have lt0 : ∀ x ∈ p0, x.block < W.heap.size := by obtain ⟨m, hm⟩ := k0; exact DataW.trod_lt m _ _ _ hm
  obtain ⟨u0_0, u0_1, u0_2, y0_0, y0_1, y0_2, n0, rfl, hd0, hp0, t0_0, t0_1, t0_2⟩ := Go.Joins.open_agg3 Try.underlying24 (by kernel_rfl) (by kernel_rfl) (hval 0 24 v0 rfl rfl) h0
  obtain ⟨a0_0, c0_0, l0_0, e0_0, hr0_0, hc0_0, hw0_0⟩ := isInts t0_0
  obtain rfl : u0_0 = _ := by simpa using e0_0
  obtain ⟨a0_1, c0_1, l0_1, e0_1, hr0_1, hc0_1, hw0_1⟩ := isInts t0_1
  obtain rfl : u0_1 = _ := by simpa using e0_1
  obtain ⟨a0_2, c0_2, l0_2, e0_2, hr0_2, hc0_2, hw0_2⟩ := isInts t0_2
  obtain rfl : u0_2 = _ := by simpa using e0_2
  clear hA0 hval0
  obtain ⟨k, h⟩ := Pure.FigureReferences l0_0 l0_1 l0_2
  refine (Pr.speculumlaw06_FigureReferences.calls k _ _ l0_0 _ _ l0_1 _ _ l0_2 true W hr0_0 hc0_0 hr0_1 hc0_1 hr0_2 hc0_2 rfl h).mono fun e W' ⟨he, bel⟩ => ?_
  subst he
  exact ⟨_, rfl, _, _, _, [], _, [], hW', trodAll_mk1 (shut_bool Try.underlying4 _), (trodAll_cons_mk (Below.trod laidOut (by kernel_rfl) (of_decide_eq_true (by kernel_rfl)) k0 bel lt0) trodAll_mk0), rfl, bel.frame _, fun h => by cases h⟩
theorem over : Rows.figureReferencesRow.holds Try.pinned (OpenSpec.ofChange Rows.figureReferencesSpec) :=
  OpenClaim.holds_of_wide 7 Try.f7 rfl rfl rfl rfl rfl rfl rfl ⟨rfl, rfl, rfl, rfl, rfl⟩ rfl rfl rfl rfl rfl (by kernel_rfl) Try.func7 (by kernel_rfl)
    (of_decide_eq_true (by kernel_rfl)) (by unfold Func.isWrapper; first | (rw [if_pos (by decide +kernel)]; kernel_rfl) | (rw [if_neg (by decide +kernel)]; exact ⟨rfl, rfl⟩))
    (fun os started H enc _ => lifted os started H enc)
theorem proved : Rows.FigureReferencesSaid := over
end Go.Proofs.Ytdkahcolfcmmpaa.figureReferences
namespace Go.Proofs.Ytdkahcolfcmmpaa
theorem figureReferences_holds : Rows.FigureReferencesSaid := figureReferences.proved
end Go.Proofs.Ytdkahcolfcmmpaa
