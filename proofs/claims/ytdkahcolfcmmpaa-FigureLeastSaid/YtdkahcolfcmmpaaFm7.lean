import Derived.ChangeSlices
import Derived.SizedLaws
import Derived.StillTailTactics
import Derived.Test.YtdkahcolfcmmpaaFm1
import Derived.Test.YtdkahcolfcmmpaaFm2
import Derived.Test.YtdkahcolfcmmpaaFm3
import Derived.Test.YtdkahcolfcmmpaaFm4
import Derived.Test.YtdkahcolfcmmpaaFm5
import Derived.Test.YtdkahcolfcmmpaaFm6
import Derived.Test.YtdkahcolfcmmpaaRows
set_option linter.unusedVariables false
namespace Go.Proofs.Ytdkahcolfcmmpaa.Pure
open Go.RowKit Go.Proofs.Ytdkahcolfcmmpaa.Pr Go.Proofs.YtdkahcolfcmmpaaW.PrintWords Go.Proofs.YtdkahcolfcmmpaaW.PrintLast Go.Proofs.YtdkahcolfcmmpaaW.PrintMore
theorem rd_nat (l : List Int) (j : Nat) : rd l (j : Int) = l.getD j 0 := rfl
theorem natAbs_tmod (a b : Int) : (Int.tmod a b).natAbs = a.natAbs % b.natAbs := Int.natAbs_tmod a b
theorem gcd_step (a b : Int) : Int.gcd b (Int.tmod a b) = Int.gcd a b := by
  unfold Int.gcd
  rw [natAbs_tmod, Nat.gcd_comm a.natAbs, Nat.gcd_rec b.natAbs a.natAbs, Nat.gcd_comm]
theorem size_w {a : Int} (h : a.natAbs ≤ 9223372036854775808) (h' : a < 9223372036854775808) : figure_size.f a = some (wrap64 (a.natAbs : Int)) := by
  unfold figure_size.f
  refine congrArg some ?_
  unfold mx wrap64
  split <;> omega
theorem Abs_w {a : Int} (h : a.natAbs ≤ 9223372036854775808) (h' : a < 9223372036854775808) : speculumbase_Abs.f a = some (wrap64 (a.natAbs : Int)) := by
  unfold speculumbase_Abs.f
  split
  · refine congrArg some ?_
    unfold wrap64; omega
  · refine congrArg some ?_
    unfold wrap64; omega
theorem gcd_ev : ∀ (n : Nat) (a b : Int), b.natAbs ≤ n → a.natAbs ≤ 9223372036854775808 → a < 9223372036854775808 → b.natAbs ≤ 9223372036854775808 → b < 9223372036854775808 →
    Ev (fun k => figure_gcd.l0 k a b) (wrap64 (Int.gcd a b : Int)) ∧ Ev (fun k => speculumbase_Gcd.l0 k a b) (wrap64 (Int.gcd a b : Int)) := by
  intro n
  induction n with
  | zero =>
    intro a b hb ha ha' hb1 hb2
    obtain rfl : b = 0 := by omega
    rw [Int.gcd_zero_right]
    refine ⟨Ev.s ?_, Ev.s ?_⟩
    · simp only [figure_gcd.l0, if_true, size_w ha ha', Option.bind_some]; exact Ev.now _
    · simp only [speculumbase_Gcd.l0, if_true, Abs_w ha ha', Option.bind_some]; exact Ev.now _
  | succ n ih =>
    intro a b hb ha ha' hb1 hb2
    by_cases hz : b = 0
    · subst hz
      rw [Int.gcd_zero_right]
      refine ⟨Ev.s ?_, Ev.s ?_⟩
      · simp only [figure_gcd.l0, if_true, size_w ha ha', Option.bind_some]; exact Ev.now _
      · simp only [speculumbase_Gcd.l0, if_true, Abs_w ha ha', Option.bind_some]; exact Ev.now _
    · have hm : (Int.tmod a b).natAbs < b.natAbs := by rw [natAbs_tmod]; exact Nat.mod_lt _ (by omega)
      obtain ⟨h1, h2⟩ := ih b (Int.tmod a b) (by omega) hb1 hb2 (by omega) (by omega)
      rw [gcd_step] at h1 h2
      refine ⟨Ev.s ?_, Ev.s ?_⟩
      · simp only [figure_gcd.l0, hz, if_false]; exact h1
      · simp only [speculumbase_Gcd.l0, hz, if_false]; exact h2
def lowV (a b : Int) : Int × Int := (Int.tdiv a (Int.gcd a b), Int.tdiv b (Int.gcd a b))
theorem low_facts (a : Int) {b : Int} (hb : 0 < b) : ∃ g : Int, 0 < g ∧ a = g * (lowV a b).1 ∧ b = g * (lowV a b).2 ∧ (Int.gcd a b : Int) = g := by
  have hg : 0 < Int.gcd a b := by
    rcases Nat.eq_zero_or_pos (Int.gcd a b) with h | h
    · have := (Int.gcd_eq_zero_iff.1 h).2; omega
    · exact h
  have h1 : ((Int.gcd a b : Nat) : Int) ∣ a := Int.gcd_dvd_left a b
  have h2 : ((Int.gcd a b : Nat) : Int) ∣ b := Int.gcd_dvd_right a b
  exact ⟨Int.gcd a b, by omega, (Int.mul_tdiv_cancel' h1).symm, (Int.mul_tdiv_cancel' h2).symm, rfl⟩
theorem low_sign (a : Int) {b : Int} (hb : 0 < b) : ((lowV a b).1 < 0 ↔ a < 0) ∧ ((lowV a b).1 = 0 ↔ a = 0) ∧ 0 < (lowV a b).2 := by
  obtain ⟨g, hg, ha, hb', _⟩ := low_facts a hb
  refine ⟨⟨fun h => ?_, fun h => ?_⟩, ⟨fun h => ?_, fun h => ?_⟩, ?_⟩
  · rw [ha]; exact Int.mul_neg_of_pos_of_neg hg h
  · rcases Int.lt_or_le (lowV a b).1 0 with h' | h'
    · exact h'
    · have := Int.mul_nonneg (Int.le_of_lt hg) h'; rw [← ha] at this; omega
  · rw [ha, h, Int.mul_zero]
  · rw [h] at ha
    rcases Int.mul_eq_zero.1 ha.symm with h' | h'
    · omega
    · rw [h]; exact h'
  · rcases Int.lt_or_le 0 (lowV a b).2 with h' | h'
    · exact h'
    · have := Int.mul_nonpos_of_nonneg_of_nonpos (Int.le_of_lt hg) h'; rw [← hb'] at this; omega
theorem low_abs (a : Int) {b : Int} (hb : 0 < b) : (lowV a b).1.natAbs ≤ a.natAbs ∧ (lowV a b).2 ≤ b := by
  obtain ⟨g, hg, ha, hb', _⟩ := low_facts a hb
  refine ⟨?_, ?_⟩
  · have : a.natAbs = g.natAbs * (lowV a b).1.natAbs := by rw [← Int.natAbs_mul, ← ha]
    rw [this]; exact Nat.le_mul_of_pos_left _ (by omega)
  · have h2 := (low_sign a hb).2.2
    have : 1 * (lowV a b).2 ≤ g * (lowV a b).2 := Int.mul_le_mul_of_nonneg_right (by omega) (by omega)
    omega
theorem lowest_ev {a b : Int} (ha : a.natAbs ≤ 4000000000000000000) (hb : 0 < b) (hb' : b ≤ 4000000000000000000) : Ev (fun k => figure_lowest.f k a b) (lowV a b) ∧ Ev (fun k => speculumbase_Lowest.f k a b) (lowV a b) := by
  obtain ⟨h1, h2⟩ := gcd_ev b.natAbs a b (Nat.le_refl _) (by omega) (by omega) (by omega) (by omega)
  obtain ⟨g, hg, e1, e2, e3⟩ := low_facts a hb
  have hgb : g ≤ b := by
    have h2 := (low_sign a hb).2.2
    have : g * 1 ≤ g * (lowV a b).2 := Int.mul_le_mul_of_nonneg_left (by omega) (by omega)
    omega
  have hab := low_abs a hb
  have hw : wrap64 (Int.gcd a b : Int) = g := by rw [e3]; exact w64 (by omega) (by omega)
  rw [hw] at h1 h2
  have p1 : Int.tdiv a g = (lowV a b).1 := by rw [← e3]; rfl
  have p2 : Int.tdiv b g = (lowV a b).2 := by rw [← e3]; rfl
  have q1 : wrap64 (lowV a b).1 = (lowV a b).1 := w64 (by omega) (by omega)
  have q2 : wrap64 (lowV a b).2 = (lowV a b).2 := w64 (by have := (low_sign a hb).2.2; omega) (by omega)
  refine ⟨?_, ?_⟩
  · unfold figure_lowest.f figure_gcd.f
    refine Ev.bind h1 ?_
    rw [if_neg (show ¬ g = 0 by omega), p1, p2, q1, q2]
    exact Ev.now _
  · unfold speculumbase_Lowest.f speculumbase_Gcd.f
    refine Ev.bind h2 ?_
    rw [if_neg (show ¬ b < 0 by omega), if_neg (show ¬ g = 0 by omega), p1, p2, q1, q2]
    exact Ev.now _
def okZ (l0 l1 l2 : List Int) (j : Nat) : Bool := inB (l0.getD j 0) (-100000) 100000 && inB (l1.getD j 0) 0 1000 && inB (l2.getD j 0) 0 1000
def allZ (l0 l1 l2 : List Int) : Nat → Nat → Bool
  | 0, _ => true
  | m + 1, i => okZ l0 l1 l2 i && allZ l0 l1 l2 m (i + 1)
theorem allZ_at {l0 l1 l2 : List Int} : ∀ (m i : Nat), allZ l0 l1 l2 m i = true → ∀ j, i ≤ j → j < i + m → okZ l0 l1 l2 j = true
  | 0, i, _, j, h1, h2 => by omega
  | m + 1, i, h, j, h1, h2 => by
    simp only [allZ, Bool.and_eq_true] at h
    rcases Nat.eq_or_lt_of_le h1 with e | e
    · subst e; exact h.1
    · exact allZ_at m (i + 1) h.2 j e (by omega)
theorem okZ_iff {l0 l1 l2 : List Int} {j : Nat} (h : okZ l0 l1 l2 j = true) : (-100000 ≤ l0.getD j 0 ∧ l0.getD j 0 ≤ 100000) ∧ (0 ≤ l1.getD j 0 ∧ l1.getD j 0 ≤ 1000) ∧ (0 ≤ l2.getD j 0 ∧ l2.getD j 0 ≤ 1000) := by
  simp only [okZ, Bool.and_eq_true, inB_iff] at h
  exact ⟨h.1.1, h.1.2, h.2⟩
theorem sums_bd {l0 l1 l2 : List Int} : ∀ (i : Nat), i ≤ 40 → (∀ j, j < i → okZ l0 l1 l2 j = true) →
    (0 ≤ (sumsTo l0 l1 l2 i).1 ∧ (sumsTo l0 l1 l2 i).1 ≤ 1000 * i) ∧ (0 ≤ (sumsTo l0 l1 l2 i).2.1 ∧ (sumsTo l0 l1 l2 i).2.1 ≤ 1000000 * i)
  | 0, _, _ => by simp [sumsTo]
  | i + 1, hi, h => by
    obtain ⟨⟨a0, a1⟩, ⟨b0, b1⟩⟩ := sums_bd i (by omega) (fun j hj => h j (by omega))
    obtain ⟨_, ⟨q0, q1⟩, ⟨w0, w1⟩⟩ := okZ_iff (h i (by omega))
    have p0 : 0 ≤ l2.getD i 0 * l1.getD i 0 := Int.mul_nonneg w0 q0
    have p1 : l2.getD i 0 * l1.getD i 0 ≤ 1000 * 1000 := Int.mul_le_mul w1 q1 q0 (by omega)
    simp only [sumsTo]
    rw [w64 (n := l2.getD i 0 * l1.getD i 0) (by omega) (by omega), w64 (by omega) (by omega), w64 (by omega) (by omega)]
    omega
theorem sums_step {l0 l1 l2 : List Int} {i : Nat} (hi : i < 40) (h : ∀ j, j ≤ i → okZ l0 l1 l2 j = true) : (sumsTo l0 l1 l2 (i + 1)).1 = (sumsTo l0 l1 l2 i).1 + l2.getD i 0 := by
  obtain ⟨⟨a0, a1⟩, _⟩ := sums_bd i (by omega) (fun j hj => h j (by omega))
  obtain ⟨_, _, ⟨w0, w1⟩⟩ := okZ_iff (h i (Nat.le_refl _))
  simp only [sumsTo]
  rw [w64 (by omega) (by omega)]
theorem max_loop {l0 l1 l2 : List Int} {n : Nat} (hn : n ≤ 40) (hl : l2.length = n) (hok : ∀ j, j < n → okZ l0 l1 l2 j = true) : ∀ (m i k : Nat) (x : Int), i + m = n → m < k → 0 ≤ x → (x = 0 ↔ (sumsTo l0 l1 l2 i).1 = 0) →
    ∃ v, slices_Max_int_int.l0 k l2 x i = some v ∧ (v = 0 ↔ (sumsTo l0 l1 l2 n).1 = 0) := by
  intro m
  induction m with
  | zero =>
    intro i k x hi hk hx hxs
    obtain ⟨k, rfl⟩ : ∃ j, k = j + 1 := ⟨k - 1, by omega⟩
    obtain rfl : i = n := by omega
    refine ⟨x, ?_, hxs⟩
    rw [slices_Max_int_int.l0, if_neg (by omega)]
  | succ m ih =>
    intro i k x hi hk hx hxs
    obtain ⟨k, rfl⟩ : ∃ j, k = j + 1 := ⟨k - 1, by omega⟩
    have hi40 : i < 40 := by omega
    obtain ⟨⟨a0, a1⟩, _⟩ := sums_bd (l0 := l0) (l1 := l1) (l2 := l2) i (by omega) (fun j hj => hok j (by omega))
    have hs := sums_step hi40 (fun j hj => hok j (by omega))
    obtain ⟨_, _, ⟨w0, w1⟩⟩ := okZ_iff (hok i (by omega))
    obtain ⟨v, h1, h2⟩ := ih (i + 1) k (mx x (l2.getD i 0)) (by omega) (by omega) (by unfold mx; split <;> omega) (by rw [hs]; unfold mx; split <;> omega)
    refine ⟨v, ?_, h2⟩
    rw [slices_Max_int_int.l0, if_pos (by omega), if_pos (by omega), wi (by omega), rd_nat]
    exact h1
theorem max_eq {l0 l1 l2 : List Int} {n k : Nat} (h1 : 1 ≤ n) (hn : n ≤ 40) (hl : l2.length = n) (hok : ∀ j, j < n → okZ l0 l1 l2 j = true) (hk : n < k) :
    ∃ v, slices_Max_int_int.f k l2 = some v ∧ (v = 0 ↔ (sumsTo l0 l1 l2 n).1 = 0) := by
  obtain ⟨_, _, ⟨w0, w1⟩⟩ := okZ_iff (hok 0 (by omega))
  have hs := sums_step (l0 := l0) (l1 := l1) (l2 := l2) (i := 0) (by omega) (fun j hj => hok j (by omega))
  obtain ⟨v, e, hv⟩ := max_loop hn hl hok (n - 1) 1 k (l2.getD 0 0) (by omega) (by omega) w0 (by rw [hs]; simp [sumsTo])
  refine ⟨v, ?_, hv⟩
  unfold slices_Max_int_int.f
  rw [if_neg (by omega), if_pos (by omega)]
  exact e
def checkV (l0 l1 l2 : List Int) : Int :=
  if 1 ≤ l0.length ∧ l0.length ≤ 40 ∧ l1.length = l0.length ∧ l2.length = l0.length then
    if allZ l0 l1 l2 l0.length 0 then (if (sumsTo l0 l1 l2 l0.length).1 = 0 then 11 else 0) else 2
  else 10
theorem fig_loop {l0 l1 l2 : List Int} {n : Nat} (h1 : 1 ≤ n) (hn : n ≤ 40) (e0 : l0.length = n) (e1 : l1.length = n) (e2 : l2.length = n) : ∀ (m i k : Nat), i + m = n → m + n + 1 < k → allZ l0 l1 l2 n 0 = allZ l0 l1 l2 m i →
    figure_CheckMap.l0 k l0 n i l0 l1 l2 = some (if allZ l0 l1 l2 m i then (if (sumsTo l0 l1 l2 n).1 = 0 then 11 else 0) else 2) := by
  intro m
  induction m with
  | zero =>
    intro i k hi hk hall
    obtain ⟨k, rfl⟩ : ∃ j, k = j + 1 := ⟨k - 1, by omega⟩
    have ht : allZ l0 l1 l2 n 0 = true := hall
    obtain ⟨v, e, hv⟩ := max_eq h1 hn e2 (fun j hj => allZ_at n 0 ht j (by omega) (by omega)) (k := k) (by omega)
    rw [figure_CheckMap.l0, if_neg (by omega), e, Option.bind_some]
    simp only [allZ, if_true]
    by_cases hz : v = 0
    · rw [if_pos hz, if_pos (hv.1 hz)]
    · rw [if_neg hz, if_neg (fun h => hz (hv.2 h))]
  | succ m ih =>
    intro i k hi hk hall
    obtain ⟨k, rfl⟩ : ∃ j, k = j + 1 := ⟨k - 1, by omega⟩
    rw [figure_CheckMap.l0, if_pos (by omega), if_pos (by omega), if_pos (by omega), within_eq, Option.bind_some, rd_nat]
    rw [if_pos (show (i : Int) < (l1.length : Int) by omega), if_pos (show (i : Int) < (l2.length : Int) by omega), within_eq, within_eq, Option.bind_some, Option.bind_some, rd_nat, rd_nat, wi (by omega)]
    cases a : inB (l0.getD i 0) (-100000) 100000
    · have hA : allZ l0 l1 l2 (m + 1) i = false := by simp only [allZ, okZ, a, Bool.false_and]
      simp only [hA, Bool.false_eq_true, if_false]
    · cases b : inB (l1.getD i 0) 0 1000
      · have hA : allZ l0 l1 l2 (m + 1) i = false := by simp only [allZ, okZ, a, b, Bool.and_false, Bool.false_and]
        simp only [hA, Bool.false_eq_true, if_false, if_true]
      · cases c : inB (l2.getD i 0) 0 1000
        · have hA : allZ l0 l1 l2 (m + 1) i = false := by simp only [allZ, okZ, a, b, c, Bool.and_false, Bool.false_and]
          simp only [hA, Bool.false_eq_true, if_false, if_true]
        · have ho : okZ l0 l1 l2 i = true := by simp only [okZ, a, b, c, Bool.and_self]
          have hA : allZ l0 l1 l2 (m + 1) i = allZ l0 l1 l2 m (i + 1) := by simp only [allZ, ho, Bool.true_and]
          rw [hA] at hall
          simp only [hA, if_true]
          exact ih (i + 1) k (by omega) (by omega) hall
theorem ref_loop {l0 l1 l2 : List Int} {n : Nat} (hn : n ≤ 40) (e0 : l0.length = n) (e1 : l1.length = n) (e2 : l2.length = n) : ∀ (m i k : Nat), i + m = n → m < k → (∀ j, j < i → okZ l0 l1 l2 j = true) →
    speculumref06_CheckMap.l0 k n (sumsTo l0 l1 l2 i).1 i l0 l1 l2 = some (if allZ l0 l1 l2 m i then (if (sumsTo l0 l1 l2 n).1 = 0 then 11 else 0) else 2) := by
  intro m
  induction m with
  | zero =>
    intro i k hi hk hall
    obtain ⟨k, rfl⟩ : ∃ j, k = j + 1 := ⟨k - 1, by omega⟩
    obtain rfl : i = n := by omega
    rw [speculumref06_CheckMap.l0, if_neg (by omega)]
    simp only [allZ, if_true]
    split <;> rfl
  | succ m ih =>
    intro i k hi hk hall
    obtain ⟨k, rfl⟩ : ∃ j, k = j + 1 := ⟨k - 1, by omega⟩
    rw [speculumref06_CheckMap.l0, if_pos (by omega), if_pos (by omega), if_pos (by omega), isHeight_eq, Option.bind_some, rd_nat]
    rw [if_pos (show (i : Int) < (l1.length : Int) by omega), if_pos (show (i : Int) < (l2.length : Int) by omega), Within_eq, Within_eq, Option.bind_some, Option.bind_some, rd_nat, rd_nat, wi (by omega)]
    cases a : inB (l0.getD i 0) (-100000) 100000
    · have hA : allZ l0 l1 l2 (m + 1) i = false := by simp only [allZ, okZ, a, Bool.false_and]
      simp only [hA, Bool.false_eq_true, if_false]
    · cases b : inB (l1.getD i 0) 0 1000
      · have hA : allZ l0 l1 l2 (m + 1) i = false := by simp only [allZ, okZ, a, b, Bool.and_false, Bool.false_and]
        simp only [hA, Bool.false_eq_true, if_false, if_true]
      · cases c : inB (l2.getD i 0) 0 1000
        · have hA : allZ l0 l1 l2 (m + 1) i = false := by simp only [allZ, okZ, a, b, c, Bool.and_false, Bool.false_and]
          simp only [hA, Bool.false_eq_true, if_false, if_true]
        · have ho : okZ l0 l1 l2 i = true := by simp only [okZ, a, b, c, Bool.and_self]
          have hA : allZ l0 l1 l2 (m + 1) i = allZ l0 l1 l2 m (i + 1) := by simp only [allZ, ho, Bool.true_and]
          simp only [hA, if_true]
          exact ih (i + 1) k (by omega) (by omega) (fun j hj => by
            rcases Nat.lt_or_ge j i with h | h
            · exact hall j h
            · obtain rfl : j = i := by omega
              exact ho)
theorem fig_check (l0 l1 l2 : List Int) (k : Nat) (hk : 100 ≤ k) : figure_CheckMap.f k l0 l1 l2 = some (checkV l0 l1 l2) := by
  obtain ⟨k, rfl⟩ : ∃ j, k = j + 1 := ⟨k - 1, by omega⟩
  unfold figure_CheckMap.f figure_isZones.f checkV
  rw [within_eq, Option.bind_some, Option.bind_some]
  by_cases hn : 1 ≤ l0.length ∧ l0.length ≤ 40
  · rw [if_pos (by rw [inB_iff]; omega)]
    by_cases h1 : l1.length = l0.length
    · rw [if_pos (by omega), figure_CheckMap.j0]
      by_cases h2 : l2.length = l0.length
      · rw [if_neg (by simp [h2]), if_pos ⟨hn.1, hn.2, h1, h2⟩]
        exact fig_loop hn.1 hn.2 rfl h1 h2 l0.length 0 k (by omega) (by omega) rfl
      · rw [if_pos (by simp; omega), if_neg (fun h => h2 h.2.2.2)]
    · rw [if_neg (by omega), figure_CheckMap.j0, if_pos rfl, if_neg (fun h => h1 h.2.2.1)]
  · rw [if_neg (by rw [inB_iff]; omega), figure_CheckMap.j0, if_pos rfl, if_neg (fun h => hn ⟨h.1, h.2.1⟩)]
theorem ref_check (l0 l1 l2 : List Int) (k : Nat) (hk : 100 ≤ k) : speculumref06_CheckMap.f k l0 l1 l2 = some (checkV l0 l1 l2) := by
  obtain ⟨k, rfl⟩ : ∃ j, k = j + 1 := ⟨k - 1, by omega⟩
  unfold speculumref06_CheckMap.f checkV
  rw [Within_eq, Option.bind_some]
  by_cases hn : 1 ≤ l0.length ∧ l0.length ≤ 40
  · rw [if_pos (by rw [inB_iff]; omega)]
    by_cases h1 : l1.length = l0.length
    · rw [if_pos (by omega), speculumref06_CheckMap.j0]
      by_cases h2 : l2.length = l0.length
      · rw [if_neg (by simp [h2]), if_pos ⟨hn.1, hn.2, h1, h2⟩]
        exact ref_loop hn.2 rfl h1 h2 l0.length 0 k (by omega) (by omega) (fun j hj => by omega)
      · rw [if_pos (by simp; omega), if_neg (fun h => h2 h.2.2.2)]
    · rw [if_neg (by omega), speculumref06_CheckMap.j0, if_pos rfl, if_neg (fun h => h1 h.2.2.1)]
  · rw [if_neg (by rw [inB_iff]; omega), speculumref06_CheckMap.j0, if_pos rfl, if_neg (fun h => hn ⟨h.1, h.2.1⟩)]
theorem checkV_0 {l0 l1 l2 : List Int} (h : checkV l0 l1 l2 = 0) : (1 ≤ l0.length ∧ l0.length ≤ 40 ∧ l1.length = l0.length ∧ l2.length = l0.length) ∧ (∀ j, j < l0.length → okZ l0 l1 l2 j = true) ∧ (sumsTo l0 l1 l2 l0.length).1 ≠ 0 := by
  unfold checkV at h
  split at h
  · rename_i hs
    split at h
    · rename_i ha
      split at h
      · omega
      · rename_i hz; exact ⟨hs, fun j hj => allZ_at _ 0 ha j (by omega) (by omega), hz⟩
    · omega
  · omega
theorem mapped_eq {l0 l1 l2 : List Int} (h0 : l0.length ≤ 1000) (h1 : l1.length ≤ 1000) (h2 : l2.length ≤ 1000) : speculumlaw06_mapped.f l0 l1 l2 = some (l0, l1, l2) := by
  unfold speculumlaw06_mapped.f
  rw [copy_eq _ (by omega), copy_eq _ (by omega), copy_eq _ (by omega)]; rfl
end Go.Proofs.Ytdkahcolfcmmpaa.Pure
set_option linter.unusedVariables false
namespace Go.Proofs.Ytdkahcolfcmmpaa.Pure
open Go.RowKit Go.Proofs.Ytdkahcolfcmmpaa.Pr Go.Proofs.YtdkahcolfcmmpaaW.PrintWords Go.Proofs.YtdkahcolfcmmpaaW.PrintLast Go.Proofs.YtdkahcolfcmmpaaW.PrintMore
theorem set_at (l : List Int) (i j : Nat) (v : Int) : (l.set i v).getD j 0 = if i = j ∧ i < l.length then v else l.getD j 0 := by
  rw [List.getD_eq_getElem?_getD, List.getD_eq_getElem?_getD, List.getElem?_set]
  by_cases h : i = j
  · subst h
    by_cases hl : i < l.length
    · rw [if_pos rfl, if_pos hl, if_pos ⟨rfl, hl⟩]; rfl
    · rw [if_pos rfl, if_neg hl, if_neg (fun h => hl h.2), List.getElem?_eq_none (by omega)]
  · rw [if_neg h, if_neg (fun hh => h hh.1)]
theorem wm {i : Nat} (h : 1 ≤ i) (h' : i ≤ 100000) : wrap64 ((i : Int) - 1) = ((i - 1 : Nat) : Int) := by rw [w64 (by omega) (by omega)]; omega
theorem wm2 {i : Nat} (h : 2 ≤ i) (h' : i ≤ 100000) : wrap64 ((i : Int) - 2) = ((i - 2 : Nat) : Int) := by rw [w64 (by omega) (by omega)]; omega
def lx (q h : Nat → Int) (i j : Nat) : Prop := q i < q j ∨ (q i = q j ∧ h i ≤ h j)
theorem lx_trans {q h : Nat → Int} {a b c : Nat} (h1 : lx q h a b) (h2 : lx q h b c) : lx q h a c := by
  unfold lx at *; omega
def qz (l1 : List Int) (z : Nat) : Int := l1.getD z 0
def cmpV (a b : Int) : Int := if a < b then -1 else if a > b then 1 else 0
theorem cmp_eq (a b : Int) : cmp_Compare_int.f a b = some (cmpV a b) := by
  unfold cmp_Compare_int.f cmp_isNaN_int.f cmpV
  simp only [bne_self_eq_false, Option.bind_some, Bool.false_eq_true, if_false]
  split
  · rfl
  · split <;> rfl
theorem or_step (k : Nat) (a b : Int) (i : Nat) (hi : i < 2) : cmp_Or_int.l0 (k + 1) 0 [a, b] 2 (i : Int) = if [a, b].getD i 0 = 0 then cmp_Or_int.l0 k 0 [a, b] 2 ((i + 1 : Nat) : Int) else some ([a, b].getD i 0) := by
  rw [cmp_Or_int.l0, if_pos (by omega), if_pos (by omega), if_pos (by simp only [List.length_cons, List.length_nil]; omega), wi (by omega)]
  rfl
theorem or_eq (a b : Int) : cmp_Or_int.f 5 [a, b] = some (if a = 0 then b else a) := by
  show cmp_Or_int.l0 5 0 [a, b] 2 ((0 : Nat) : Int) = _
  rw [or_step _ _ _ 0 (by omega)]
  show (if a = 0 then cmp_Or_int.l0 4 0 [a, b] 2 ((1 : Nat) : Int) else some a) = _
  by_cases ha : a = 0
  · rw [if_pos ha, if_pos ha, or_step _ _ _ 1 (by omega)]
    show (if b = 0 then cmp_Or_int.l0 3 0 [a, b] 2 ((2 : Nat) : Int) else some b) = _
    by_cases hb : b = 0
    · rw [if_pos hb, cmp_Or_int.l0, if_neg (by omega), hb]
    · rw [if_neg hb]
  · rw [if_neg ha, if_neg ha]
theorem hullC_eq {l0 l1 : List Int} {i j : Nat} (hi : i < l0.length) (hj : j < l0.length) (h1 : l1.length = l0.length) :
    ∃ v, hullC.f (E := ⟨⟨l0, l1⟩⟩) (i : Int) (j : Int) = some v ∧ (v < 0 → lx (qz l1) (qz l0) i j) ∧ (¬ v < 0 → lx (qz l1) (qz l0) j i) := by
  have a0 : (i : Int) < (l0.length : Int) := by omega
  have a1 : (i : Int) < (l1.length : Int) := by omega
  have b0 : (j : Int) < (l0.length : Int) := by omega
  have b1 : (j : Int) < (l1.length : Int) := by omega
  have e : hullC.f (E := ⟨⟨l0, l1⟩⟩) (i : Int) (j : Int) = some (if cmpV (l1.getD i 0) (l1.getD j 0) = 0 then cmpV (l0.getD i 0) (l0.getD j 0) else cmpV (l1.getD i 0) (l1.getD j 0)) := by
    show figure_hull_1.f 5 (i : Int) (j : Int) l0 l1 [] = _
    unfold figure_hull_1.f
    simp only [n0, a0, a1, b0, b1, if_true, cmp_eq, Option.bind_some, or_eq, rdn]
  refine ⟨_, e, ?_, ?_⟩
  · intro h
    unfold lx qz
    unfold cmpV at h
    repeat' split at h
    all_goals omega
  · intro h
    unfold lx qz
    unfold cmpV at h
    repeat' split at h
    all_goals omega
structure Ord (l0 l1 x : List Int) (m : Nat) : Prop where
  len : x.length = l0.length
  val : ∀ j, j < l0.length → ∃ z : Nat, z < l0.length ∧ x.getD j 0 = (z : Int)
  cov : ∀ z : Nat, z < l0.length → ∃ j, j < l0.length ∧ x.getD j 0 = (z : Int)
  srt : ∀ a b : Nat, a < b → b < m → ∀ i j : Nat, x.getD a 0 = (i : Int) → x.getD b 0 = (j : Int) → lx (qz l1) (qz l0) i j
structure OrdB (l0 l1 x : List Int) (i j : Nat) : Prop where
  len : x.length = l0.length
  val : ∀ j, j < l0.length → ∃ z : Nat, z < l0.length ∧ x.getD j 0 = (z : Int)
  cov : ∀ z : Nat, z < l0.length → ∃ j, j < l0.length ∧ x.getD j 0 = (z : Int)
  srt : ∀ a b : Nat, a < b → b ≤ i → b ≠ j → ∀ u v : Nat, x.getD a 0 = (u : Int) → x.getD b 0 = (v : Int) → lx (qz l1) (qz l0) u v
theorem swap_at {x : List Int} {j c : Nat} (h1 : 1 ≤ j) (h2 : j < x.length) : ((x.set j (x.getD (j - 1) 0)).set (j - 1) (x.getD j 0)).getD c 0 = if c = j - 1 then x.getD j 0 else if c = j then x.getD (j - 1) 0 else x.getD c 0 := by
  rw [set_at, set_at, List.length_set]
  by_cases a : c = j - 1
  · rw [if_pos ⟨a.symm, by omega⟩, if_pos a]
  · rw [if_neg (fun h => a h.1.symm), if_neg a]
    by_cases b : c = j
    · rw [if_pos ⟨b.symm, h2⟩, if_pos b]
    · rw [if_neg (fun h => b h.1.symm), if_neg b]
theorem swap_inv {l0 l1 x : List Int} {i j : Nat} (h1 : 1 ≤ j) (hj : j ≤ i) (hi : i < l0.length) (H : OrdB l0 l1 x i j)
    (hlt : ∀ u v : Nat, x.getD j 0 = (u : Int) → x.getD (j - 1) 0 = (v : Int) → lx (qz l1) (qz l0) u v) : OrdB l0 l1 ((x.set j (x.getD (j - 1) 0)).set (j - 1) (x.getD j 0)) i (j - 1) := by
  have hjx : j < x.length := by rw [H.len]; omega
  have at_ := fun c => swap_at (x := x) (j := j) (c := c) h1 hjx
  refine ⟨by rw [List.length_set, List.length_set, H.len], fun c hc => ?_, fun z hz => ?_, fun a b hab hb hbj u v hu hv => ?_⟩
  · rw [at_]
    split
    · exact H.val j (by omega)
    · split
      · exact H.val (j - 1) (by omega)
      · exact H.val c hc
  · obtain ⟨c, hc, e⟩ := H.cov z hz
    by_cases e1 : c = j
    · exact ⟨j - 1, by omega, by rw [at_, if_pos rfl, ← e1]; exact e⟩
    · by_cases e2 : c = j - 1
      · exact ⟨j, by omega, by rw [at_, if_neg (by omega), if_pos rfl, ← e2]; exact e⟩
      · exact ⟨c, hc, by rw [at_, if_neg e2, if_neg e1]; exact e⟩
  · rw [at_] at hu hv
    rw [if_neg hbj] at hv
    by_cases b1 : b = j
    · rw [if_pos b1] at hv
      by_cases a1 : a = j - 1
      · rw [if_pos a1] at hu; exact hlt u v hu hv
      · rw [if_neg a1, if_neg (by omega)] at hu
        exact H.srt a (j - 1) (by omega) (by omega) (by omega) u v hu hv
    · rw [if_neg b1] at hv
      by_cases a1 : a = j - 1
      · rw [if_pos a1] at hu
        exact H.srt j b (by omega) hb b1 u v hu hv
      · rw [if_neg a1] at hu
        by_cases a2 : a = j
        · rw [if_pos a2] at hu
          exact H.srt (j - 1) b (by omega) hb b1 u v hu hv
        · rw [if_neg a2] at hu
          exact H.srt a b hab hb b1 u v hu hv
theorem ins_l1 {l0 l1 : List Int} (h1 : l1.length = l0.length) (hn : l0.length ≤ 100) {i : Nat} (hi : i < l0.length) : ∀ (j : Nat) (x : List Int), j ≤ i → OrdB l0 l1 x i j →
    ∃ y, Ord l0 l1 y (i + 1) ∧ ∀ r, Ev (fun k => slices_insertionSortCmpFunc_int__figure_hull_1.l0 (E := ⟨⟨l0, l1⟩⟩) k y 0 (l0.length : Int) ((i + 1 : Nat) : Int)) r → Ev (fun k => slices_insertionSortCmpFunc_int__figure_hull_1.l1 (E := ⟨⟨l0, l1⟩⟩) k x 0 (l0.length : Int) (i : Int) (j : Int)) r := by
  intro j
  induction j with
  | zero =>
    intro x hj H
    refine ⟨x, ⟨H.len, H.val, H.cov, fun a b hab hb u v hu hv => H.srt a b hab (by omega) (by omega) u v hu hv⟩, fun r hr => Ev.s ?_⟩
    have hc : ¬ ((0 : Nat) : Int) > 0 := by omega
    simp only [slices_insertionSortCmpFunc_int__figure_hull_1.l1, hc, if_false, wi (show i ≤ 100000 by omega)]
    exact hr
  | succ j ih =>
    intro x hj H
    have hc : ((j + 1 : Nat) : Int) > 0 := by omega
    have hx1 : ((j + 1 : Nat) : Int) < (x.length : Int) := by rw [H.len]; omega
    have hx0 : ((j + 1 - 1 : Nat) : Int) < (x.length : Int) := by rw [H.len]; omega
    obtain ⟨u, hu, eu⟩ := H.val (j + 1) (by omega)
    obtain ⟨v, hv, ev⟩ := H.val (j + 1 - 1) (by omega)
    obtain ⟨c, e, c1, c2⟩ := hullC_eq (i := u) (j := v) hu hv h1
    by_cases hneg : c < 0
    · have hlx := c1 hneg
      obtain ⟨y, hy, hr⟩ := ih _ (by omega) (swap_inv (by omega) hj hi H (fun u' v' hu' hv' => by
        rw [eu] at hu'; rw [ev] at hv'
        obtain rfl : u = u' := by omega
        obtain rfl : v = v' := by omega
        exact hlx))
      refine ⟨y, hy, fun r h => Ev.s ?_⟩
      have := hr r h
      simp only [slices_insertionSortCmpFunc_int__figure_hull_1.l1, hc, n0, hx1, if_true, wm (show 1 ≤ j + 1 by omega) (show j + 1 ≤ 100000 by omega), hx0, rdn]
      rw [eu, ev]
      simp only [e, Option.bind_some, hneg, if_true, Int.toNat_natCast]
      rw [eu, ev] at this
      exact this
    · have hlx := c2 hneg
      refine ⟨x, ⟨H.len, H.val, H.cov, fun a b hab hb p s hp hs => ?_⟩, fun r h => Ev.s ?_⟩
      · by_cases b1 : b = j + 1
        · subst b1
          rw [eu] at hs
          obtain rfl : u = s := by omega
          by_cases a1 : a = j
          · subst a1
            have : x.getD (a + 1 - 1) 0 = (p : Int) := hp
            rw [ev] at this
            obtain rfl : v = p := by omega
            exact hlx
          · exact lx_trans (H.srt a j (by omega) (by omega) (by omega) p v hp ev) hlx
        · exact H.srt a b hab (by omega) b1 p s hp hs
      · simp only [slices_insertionSortCmpFunc_int__figure_hull_1.l1, hc, n0, hx1, if_true, wm (show 1 ≤ j + 1 by omega) (show j + 1 ≤ 100000 by omega), hx0, rdn]
        rw [eu, ev]
        simp only [e, Option.bind_some, hneg, if_false, wi (show i ≤ 100000 by omega)]
        exact h
theorem ins_l0 {l0 l1 : List Int} (h1 : l1.length = l0.length) (hn : l0.length ≤ 100) : ∀ (m i : Nat) (x : List Int), i + m = l0.length → Ord l0 l1 x i →
    ∃ y, Ord l0 l1 y l0.length ∧ Ev (fun k => slices_insertionSortCmpFunc_int__figure_hull_1.l0 (E := ⟨⟨l0, l1⟩⟩) k x 0 (l0.length : Int) (i : Int)) y := by
  intro m
  induction m with
  | zero =>
    intro i x hi H
    obtain rfl : i = l0.length := by omega
    refine ⟨x, H, Ev.s ?_⟩
    simp only [slices_insertionSortCmpFunc_int__figure_hull_1.l0, Int.lt_irrefl, if_false]
    exact Ev.now _
  | succ m ih =>
    intro i x hi H
    have hlt : (i : Int) < (l0.length : Int) := by omega
    obtain ⟨y, hy, hr⟩ := ins_l1 h1 hn (i := i) (by omega) i x (Nat.le_refl _) ⟨H.len, H.val, H.cov, fun a b hab hb hbj u v hu hv => H.srt a b hab (by omega) u v hu hv⟩
    obtain ⟨z, hz, hz2⟩ := ih (i + 1) y (by omega) hy
    refine ⟨z, hz, Ev.s ?_⟩
    simp only [slices_insertionSortCmpFunc_int__figure_hull_1.l0, hlt, if_true]
    exact hr z hz2
theorem sort_ev {l0 l1 x : List Int} (h1 : l1.length = l0.length) (hn0 : 1 ≤ l0.length) (hn : l0.length < 20) (H : Ord l0 l1 x 1) :
    ∃ y, Ord l0 l1 y l0.length ∧ Ev (fun k => slices_SortStableFunc_int_int__figure_hull_1.f (E := ⟨⟨l0, l1⟩⟩) k x) y := by
  obtain ⟨y, hy, he⟩ := ins_l0 h1 (by omega) (l0.length - 1) 1 x (by omega) H
  refine ⟨y, hy, ?_⟩
  unfold slices_SortStableFunc_int_int__figure_hull_1.f slices_stableCmpFunc_int__figure_hull_1.f
  refine Ev.bind (a := y) ?_ (Ev.now _)
  have c1 : ¬ (20 : Int) ≤ (x.length : Int) := by rw [H.len]; omega
  have c2 : ¬ (20 : Int) < (x.length : Int) := by rw [H.len]; omega
  refine Ev.s ?_
  simp only [slices_stableCmpFunc_int__figure_hull_1.l0, c1, if_false]
  refine Ev.bind (a := y) ?_ ?_
  · unfold slices_insertionSortCmpFunc_int__figure_hull_1.f
    rw [H.len, show wrap64 (0 + 1) = ((1 : Nat) : Int) from w64 (by omega) (by omega)]
    exact he
  · refine Ev.s ?_
    simp only [slices_stableCmpFunc_int__figure_hull_1.l1, c2, if_false]
    exact Ev.now _
end Go.Proofs.Ytdkahcolfcmmpaa.Pure
set_option linter.unusedVariables false
namespace Go.Proofs.Ytdkahcolfcmmpaa.Pure
open Go.RowKit Go.Proofs.Ytdkahcolfcmmpaa.Pr Go.Proofs.YtdkahcolfcmmpaaW.PrintWords Go.Proofs.YtdkahcolfcmmpaaW.PrintLast Go.Proofs.YtdkahcolfcmmpaaW.PrintMore
def toL : List Nat → List Int
 | [] => []
 | t :: r => toL r ++ [(t : Int)]
theorem toL_len : ∀ r : List Nat, (toL r).length = r.length
 | [] => rfl
 | t :: r => by rw [toL, List.length_append, toL_len r]; rfl
theorem toL_top (t : Nat) (r : List Nat) : (toL (t :: r)).getD r.length 0 = (t : Int) := by
 rw [toL, List.getD_eq_getElem?_getD, List.getElem?_append_right (by rw [toL_len]; exact Nat.le_refl _), toL_len, Nat.sub_self]; rfl
theorem toL_below (t : Nat) (r : List Nat) (i : Nat) (h : i < r.length) : (toL (t :: r)).getD i 0 = (toL r).getD i 0 := by
 rw [toL, List.getD_eq_getElem?_getD, List.getElem?_append_left (by rw [toL_len]; exact h), List.getD_eq_getElem?_getD]
theorem toL_take (t : Nat) (r : List Nat) : (toL (t :: r)).take r.length = toL r := by
 rw [toL, List.take_append_of_le_length (by rw [toL_len]; exact Nat.le_refl _), List.take_of_length_le (by rw [toL_len]; exact Nat.le_refl _)]
structure Zs (l0 l1 : List Int) : Prop where
 len : l1.length = l0.length
 few : l0.length ≤ 100
 h : ∀ z, z < l0.length → -100000 ≤ qz l0 z ∧ qz l0 z ≤ 100000
 q : ∀ z, z < l0.length → 0 ≤ qz l1 z ∧ qz l1 z ≤ 1000
theorem mulb {a b A B : Int} (ha : -A ≤ a ∧ a ≤ A) (hb : -B ≤ b ∧ b ≤ B) (hA : 0 ≤ A) : -(A * B) ≤ a * b ∧ a * b ≤ A * B := by
 have h1 : (a * b).natAbs ≤ (A * B).natAbs := by
  rw [Int.natAbs_mul, Int.natAbs_mul]
  exact Nat.mul_le_mul (by omega) (by omega)
 have h2 : 0 ≤ A * B := Int.mul_nonneg hA (by omega)
 omega
theorem under_eq {l0 l1 l2 : List Int} (Z : Zs l0 l1) {p a k : Nat} (hp : p < l0.length) (ha : a < l0.length) (hk : k < l0.length) : figure_under.f l0 l1 l2 (p : Int) (a : Int) (k : Int) = some (decide (0 < cross (qz l1) (qz l0) p a k)) := by
 have p0 : (p : Int) < (l0.length : Int) := by omega
 have p1 : (p : Int) < (l1.length : Int) := by have := Z.len; omega
 have a0 : (a : Int) < (l0.length : Int) := by omega
 have a1 : (a : Int) < (l1.length : Int) := by have := Z.len; omega
 have k0 : (k : Int) < (l0.length : Int) := by omega
 have k1 : (k : Int) < (l1.length : Int) := by have := Z.len; omega
 have hhp := Z.h p hp
 have hha := Z.h a ha
 have hhk := Z.h k hk
 have hqp := Z.q p hp
 have hqa := Z.q a ha
 have hqk := Z.q k hk
 unfold figure_under.f
 simp only [n0, p0, p1, a0, a1, k0, k1, if_true, rdn]
 change some (decide (wrap64 (wrap64 (qz l0 a - qz l0 p) * wrap64 (qz l1 k - qz l1 p)) < wrap64 (wrap64 (qz l0 k - qz l0 p) * wrap64 (qz l1 a - qz l1 p)))) = _
 rw [w64 (n := qz l0 a - qz l0 p) (by omega) (by omega), w64 (n := qz l1 k - qz l1 p) (by omega) (by omega), w64 (n := qz l0 k - qz l0 p) (by omega) (by omega), w64 (n := qz l1 a - qz l1 p) (by omega) (by omega)]
 have m1 := mulb (a := qz l0 a - qz l0 p) (b := qz l1 k - qz l1 p) (A := 200000) (B := 1000) ⟨by omega, by omega⟩ ⟨by omega, by omega⟩ (by omega)
 have m2 := mulb (a := qz l0 k - qz l0 p) (b := qz l1 a - qz l1 p) (A := 200000) (B := 1000) ⟨by omega, by omega⟩ ⟨by omega, by omega⟩ (by omega)
 rw [w64 (n := (qz l0 a - qz l0 p) * (qz l1 k - qz l1 p)) (by omega) (by omega), w64 (n := (qz l0 k - qz l0 p) * (qz l1 a - qz l1 p)) (by omega) (by omega)]
 refine congrArg some ?_
 rw [Bool.eq_iff_iff, decide_eq_true_eq, decide_eq_true_eq]
 unfold cross
 omega
theorem pop_ev {l0 l1 l2 ord : List Int} (Z : Zs l0 l1) {P : Nat → Prop} (hP : ∀ z, P z → z < l0.length) {k : Nat} (hk : k < l0.length) (hm : ∀ z, P z → qz l1 z ≤ qz l1 k) {n i : Int} : ∀ (r : List Nat) (a : Nat), r.length ≤ 100 → Good (qz l1) (qz l0) P (a :: r) → qz l1 a < qz l1 k → Hyp (qz l1) (qz l0) P k a →
  ∃ s, s.length ≤ r.length + 1 ∧ Good (qz l1) (qz l0) (fun z => P z ∨ z = k) (k :: s) ∧ ∀ res, Ev (fun f => figure_hull.l1 f (toL (k :: s)) ord n (wrap64 (i + 1)) l0 l1 l2) res → Ev (fun f => figure_hull.l2 f (toL (a :: r)) (k : Int) ord n i l0 l1 l2) res := by
 intro r
 induction r with
 | nil =>
  intro a hr g hlt hy
  refine ⟨[a], by simp, g.push hlt hy (fun p r' e => by cases e), fun res h => Ev.s ?_⟩
  have hl : ¬ ((toL [a]).length : Int) > 1 := by rw [toL_len]; simp
  have hl2 : (toL [a]).length < 17592186044416 := by rw [toL_len]; simp
  simp only [figure_hull.l2, hl, hl2, if_false, if_true]
  exact h
 | cons p r ih =>
  intro a hr g hlt hy
  have hr' : r.length + 1 ≤ 100 := by simpa using hr
  have hpa : p < l0.length ∧ a < l0.length := ⟨hP p g.2.2.2.top, hP a g.top⟩
  have L : (toL (a :: p :: r)).length = r.length + 2 := by rw [toL_len]; rfl
  have hl : ((toL (a :: p :: r)).length : Int) > 1 := by rw [L]; omega
  have hl2 : (toL (a :: p :: r)).length < 17592186044416 := by rw [L]; omega
  have e1 : wrap64 (((toL (a :: p :: r)).length : Int) - 1) = ((r.length + 1 : Nat) : Int) := by rw [L]; exact wm (i := r.length + 2) (by omega) (by omega)
  have e2 : wrap64 (((toL (a :: p :: r)).length : Int) - 2) = ((r.length : Nat) : Int) := by rw [L]; exact wm2 (i := r.length + 2) (by omega) (by omega)
  have b1 : ((r.length + 1 : Nat) : Int) < ((toL (a :: p :: r)).length : Int) := by rw [L]; omega
  have b2 : ((r.length : Nat) : Int) < ((toL (a :: p :: r)).length : Int) := by rw [L]; omega
  have b3 : ((r.length + 1 : Nat) : Int) ≤ ((toL (a :: p :: r)).length : Int) := by omega
  have t1 : (toL (a :: p :: r)).getD (r.length + 1) 0 = (a : Int) := toL_top a (p :: r)
  have t2 : (toL (a :: p :: r)).getD r.length 0 = (p : Int) := (toL_below a (p :: r) r.length (by simp)).trans (toL_top p r)
  have t3 : (toL (a :: p :: r)).take (r.length + 1) = toL (p :: r) := toL_take a (p :: r)
  by_cases hc : 0 < cross (qz l1) (qz l0) p a k
  ·refine ⟨a :: p :: r, by simp, g.push hlt hy (fun p' r' e => by cases e; omega), fun res h => Ev.s ?_⟩
   simp only [figure_hull.l2, hl, e1, e2, n0, b1, b2, if_true, rdn, t1, t2, under_eq Z hpa.1 hpa.2 hk, Option.bind_some, hc, decide_true, hl2]
   exact h
  ·obtain ⟨s, hs, gs, he⟩ := ih p (by omega) g.2.2.2 (by have := g.2.1; omega) (g.pop hm hlt hy (by omega))
   refine ⟨s, by simp only [List.length_cons]; omega, gs, fun res h => Ev.s ?_⟩
   simp only [figure_hull.l2, hl, e1, e2, n0, b1, b2, b3, if_true, rdn, t1, t2, under_eq Z hpa.1 hpa.2 hk, Option.bind_some, hc, decide_false, Bool.false_eq_true, if_false, Int.toNat_natCast, t3]
   exact he res h
def doneZ (x : List Int) (i : Nat) (z : Nat) : Prop := ∃ j, j < i ∧ x.getD j 0 = (z : Int)
theorem Good.iff {q h : Nat → Int} {P Q : Nat → Prop} (e : ∀ z, P z ↔ Q z) {r : List Nat} (g : Good q h P r) : Good q h Q r := by
 have : P = Q := funext fun z => propext (e z)
 subst this; exact g
theorem hull_l1 {l0 l1 l2 x : List Int} (Z : Zs l0 l1) (O : Ord l0 l1 x l0.length) : ∀ (m i : Nat) (t : Nat) (r : List Nat), 1 ≤ i → i + m = l0.length → r.length < i → Good (qz l1) (qz l0) (doneZ x i) (t :: r) → (∀ z, doneZ x i z → qz l1 z ≤ qz l1 t) →
  ∃ t' r', r'.length < l0.length ∧ Good (qz l1) (qz l0) (fun z => z < l0.length) (t' :: r') ∧ (∀ z, z < l0.length → qz l1 z ≤ qz l1 t') ∧ Ev (fun f => figure_hull.l1 f (toL (t :: r)) x (l0.length : Int) (i : Int) l0 l1 l2) (toL (t' :: r')) := by
 intro m
 induction m with
 | zero =>
  intro i t r h1 hi hr g hm
  obtain rfl : i = l0.length := by omega
  have e : ∀ z, doneZ x l0.length z ↔ z < l0.length := fun z => ⟨fun ⟨j, hj, ej⟩ => by
   obtain ⟨z', hz', e'⟩ := O.val j hj
   rw [ej] at e'; omega, fun hz => O.cov z hz⟩
  refine ⟨t, r, hr, g.iff e, fun z hz => hm z ((e z).2 hz), Ev.s ?_⟩
  have h : ¬ (l0.length : Int) < (l0.length : Int) := by omega
  simp only [figure_hull.l1, h, if_false]
  exact Ev.now _
 | succ m ih =>
  intro i t r h1 hi hr g hm
  have few := Z.few
  obtain ⟨k, hk, ek⟩ := O.val i (by omega)
  have hP : ∀ z, doneZ x i z → z < l0.length := fun z ⟨j, hj, ej⟩ => by
   obtain ⟨z', hz', e'⟩ := O.val j (by omega)
   rw [ej] at e'; omega
  have e : ∀ z, (doneZ x i z ∨ z = k) ↔ doneZ x (i + 1) z := fun z => ⟨fun h => by
   rcases h with ⟨j, hj, ej⟩ | rfl
   ·exact ⟨j, by omega, ej⟩
   ·exact ⟨i, by omega, ek⟩, fun ⟨j, hj, ej⟩ => by
   rcases Nat.lt_or_ge j i with h | h
   ·exact .inl ⟨j, h, ej⟩
   ·obtain rfl : j = i := by omega
    rw [ek] at ej
    exact .inr (by omega)⟩
  obtain ⟨jt, hjt, ejt⟩ := g.top
  have hlx := O.srt jt i hjt (by omega) t k ejt ek
  have ht := hP t g.top
  have L : (toL (t :: r)).length = r.length + 1 := by rw [toL_len]; rfl
  have g0 : ((toL (t :: r)).length : Int) > 0 := by rw [L]; omega
  have e1 : wrap64 (((toL (t :: r)).length : Int) - 1) = ((r.length : Nat) : Int) := by rw [L]; exact wm (i := r.length + 1) (by omega) (by omega)
  have b1 : ((r.length : Nat) : Int) < ((toL (t :: r)).length : Int) := by rw [L]; omega
  have t1 := toL_top t r
  have ht1 : (t : Int) < (l1.length : Int) := by have := Z.len; omega
  have hk1 : (k : Int) < (l1.length : Int) := by have := Z.len; omega
  have hlt : (i : Int) < (l0.length : Int) := by omega
  have hix : (i : Int) < (x.length : Int) := by have := O.len; omega
  by_cases hq : qz l1 t = qz l1 k
  ·have hb : (l1.getD t 0 == l1.getD k 0) = true := beq_iff_eq.2 hq
   obtain ⟨t', r', h1', h2', h3', h4'⟩ := ih (i + 1) t r (by omega) (by omega) (by omega) ((g.skip hq.symm (by unfold lx at hlx; omega)).iff e) (fun z hz => by
    rcases (e z).2 hz with h | rfl
    ·exact hm z h
    ·omega)
   refine ⟨t', r', h1', h2', h3', Ev.s ?_⟩
   simp only [figure_hull.l1, hlt, n0, hix, if_true, g0, e1, b1, rdn, t1, ht1, ek, hk1, hb]
   refine Ev.s ?_
   simp only [figure_hull.j2, if_true, wi (show i ≤ 100000 by omega)]
   exact h4'
  ·have hb : (l1.getD t 0 == l1.getD k 0) = false := beq_eq_false_iff_ne.2 hq
   have hqk : qz l1 t < qz l1 k := by unfold lx at hlx; omega
   have hmk : ∀ z, doneZ x i z → qz l1 z ≤ qz l1 k := fun z hz => by have := hm z hz; omega
   obtain ⟨s, hs, gs, he⟩ := pop_ev (l2 := l2) (ord := x) Z hP hk hmk (n := (l0.length : Int)) (i := (i : Int)) r t (by omega) g hqk (g.hyp hm hqk)
   obtain ⟨t', r', h1', h2', h3', h4'⟩ := ih (i + 1) k s (by omega) (by omega) (by omega) (gs.iff e) (fun z hz => by
    rcases (e z).2 hz with h | rfl
    ·exact hmk z h
    ·exact Int.le_refl _)
   refine ⟨t', r', h1', h2', h3', Ev.s ?_⟩
   simp only [figure_hull.l1, hlt, n0, hix, if_true, g0, e1, b1, rdn, t1, ht1, ek, hk1, hb]
   refine Ev.s ?_
   simp only [figure_hull.j2, Bool.false_eq_true, if_false]
   refine he _ ?_
   rw [wi (show i ≤ 100000 by omega)]
   exact h4'
theorem hull_first {l0 l1 l2 x : List Int} (Z : Zs l0 l1) (hn : 1 ≤ l0.length) (O : Ord l0 l1 x l0.length) :
  ∃ t r, r.length < l0.length ∧ Good (qz l1) (qz l0) (fun z => z < l0.length) (t :: r) ∧ (∀ z, z < l0.length → qz l1 z ≤ qz l1 t) ∧ Ev (fun f => figure_hull.l1 f [] x (l0.length : Int) 0 l0 l1 l2) (toL (t :: r)) := by
 obtain ⟨k, hk, ek⟩ := O.val 0 (by omega)
 have e : ∀ z, doneZ x 1 z ↔ z = k := fun z => ⟨fun ⟨j, hj, ej⟩ => by
  obtain rfl : j = 0 := by omega
  rw [ek] at ej; omega, fun h => ⟨0, by omega, by rw [h]; exact ek⟩⟩
 obtain ⟨t, r, h1, h2, h3, h4⟩ := hull_l1 (l2 := l2) Z O (l0.length - 1) 1 k [] (Nat.le_refl _) (by omega) (by simp) ⟨(e k).2 rfl, fun z hz => by rw [(e z).1 hz]; exact ⟨Int.le_refl _, fun _ => Int.le_refl _⟩⟩ (fun z hz => by rw [(e z).1 hz]; exact Int.le_refl _)
 refine ⟨t, r, h1, h2, h3, Ev.s ?_⟩
 have few := Z.few
 have hlt : (0 : Int) < (l0.length : Int) := by omega
 have hix : (0 : Int) < (x.length : Int) := by have := O.len; omega
 have c0 : ¬ ((([] : List Int).length : Nat) : Int) > 0 := by simp
 have ek' : rd x 0 = (k : Int) := ek
 simp only [figure_hull.l1, hlt, hix, if_true, c0, if_false, ek', Int.le_refl]
 refine Ev.s ?_
 simp only [figure_hull.j2, Bool.false_eq_true, if_false]
 refine Ev.s ?_
 have c1 : ¬ ((([] : List Int).length : Nat) : Int) > 1 := by simp
 have c2 : ([] : List Int).length < 17592186044416 := by simp
 have ew : wrap64 (0 + 1) = ((1 : Nat) : Int) := w64 (by omega) (by omega)
 simp only [figure_hull.l2, c1, c2, if_false, if_true, ew]
 exact h4
theorem fill_l0 {l0 l1 l2 : List Int} {n : Nat} (hn : n ≤ 100) : ∀ (m i : Nat) (x : List Int), i + m = n → x.length = n → (∀ j, j < i → x.getD j 0 = (j : Int)) → ∃ y : List Int, y.length = n ∧ (∀ j, j < n → y.getD j 0 = (j : Int)) ∧ ∀ r,
  Ev (fun f => (slices_SortStableFunc_int_int__figure_hull_1.f (E := ⟨⟨l0, l1⟩⟩) f y).bind fun t => figure_hull.l1 f ([] : List Int) t (y.length : Int) 0 l0 l1 l2) r → Ev (fun f => figure_hull.l0 f x (n : Int) (i : Int) l0 l1 l2) r := by
 intro m
 induction m with
 | zero =>
  intro i x hi hx hv
  obtain rfl : i = n := by omega
  refine ⟨x, hx, hv, fun r h => Ev.s ?_⟩
  have hc : ¬ (i : Int) < (i : Int) := by omega
  simp only [figure_hull.l0, hc, if_false]
  exact h
 | succ m ih =>
  intro i x hi hx hv
  obtain ⟨y, h1, h2, h3⟩ := ih (i + 1) (x.set i (i : Int)) (by omega) (by rw [List.length_set]; exact hx) (fun j hj => by
   rw [set_at]
   by_cases e : i = j
   ·subst e; rw [if_pos ⟨rfl, by omega⟩]
   ·rw [if_neg (fun h => e h.1)]; exact hv j (by omega))
  refine ⟨y, h1, h2, fun r h => Ev.s ?_⟩
  have hc : (i : Int) < (n : Int) := by omega
  have hx' : (i : Int) < (x.length : Int) := by omega
  simp only [figure_hull.l0, hc, hx', n0, if_true, Int.toNat_natCast, wi (show i ≤ 100000 by omega)]
  exact h3 r h
theorem hull_ev {l0 l1 l2 : List Int} (Z : Zs l0 l1) (hn0 : 1 ≤ l0.length) (hn : l0.length < 20) :
  ∃ t r, r.length < l0.length ∧ Good (qz l1) (qz l0) (fun z => z < l0.length) (t :: r) ∧ (∀ z, z < l0.length → qz l1 z ≤ qz l1 t) ∧ Ev (fun f => figure_hull.f f l0 l1 l2) (toL (t :: r)) := by
 have hl := Z.len
 obtain ⟨x, hx, hv, hr⟩ := fill_l0 (l0 := l0) (l1 := l1) (l2 := l2) (n := l0.length) (by omega) l0.length 0 (List.replicate l0.length 0) (by omega) (by rw [List.length_replicate]) (fun j hj => absurd hj (Nat.not_lt_zero j))
 obtain ⟨y, hy, he⟩ := sort_ev (l0 := l0) (l1 := l1) (x := x) hl hn0 hn ⟨hx, fun j hj => ⟨j, hj, hv j hj⟩, fun z hz => ⟨z, hz, hv z hz⟩, fun a b hab hb => by omega⟩
 obtain ⟨t, r, h1, h2, h3, h4⟩ := hull_first (l2 := l2) Z hn0 hy
 refine ⟨t, r, h1, h2, h3, ?_⟩
 have a0 : (0 : Int) ≤ (l0.length : Int) := n0 _
 have a1 : l0.length ≤ 35184372088832 := by omega
 unfold figure_hull.f
 simp only [a0, a1, if_true, Option.bind_some, Int.toNat_natCast, List.length_replicate, hl]
 refine hr _ ?_
 refine Ev.bind he ?_
 rw [hx]
 exact h4
end Go.Proofs.Ytdkahcolfcmmpaa.Pure
set_option linter.unusedVariables false
namespace Go.Proofs.Ytdkahcolfcmmpaa.Pure
open Go.RowKit Go.Proofs.Ytdkahcolfcmmpaa.Pr Go.Proofs.YtdkahcolfcmmpaaW.PrintWords Go.Proofs.YtdkahcolfcmmpaaW.PrintLast Go.Proofs.YtdkahcolfcmmpaaW.PrintMore
def lowB (n d : Int) : Bool := decide (0 < d) && decide (wrap64 (Int.gcd n d : Int) = 1)
def clV (a0 a1 a2 a3 : Int) : Int := if lowB a0 a1 = true then (if lowB a2 a3 = true then (if okR a0 a1 = true then (if okR a2 a3 = true then 0 else 2) else 2) else 3) else 3
def I64 (a : Int) : Prop := -9223372036854775808 ≤ a ∧ a < 9223372036854775808
theorem lowF_ev {n d : Int} (hn : I64 n) (hd : I64 d) : Ev (fun k => lowF k n d) (lowB n d) := by
  obtain ⟨n1, n2⟩ := hn
  obtain ⟨d1, d2⟩ := hd
  unfold lowF lowB
  by_cases h : d ≤ 0
  · simp only [h, if_true, show ¬ 0 < d by omega, decide_false, Bool.false_and]
    exact Ev.now _
  · simp only [h, if_false, show 0 < d by omega, decide_true, Bool.true_and]
    have hg := (gcd_ev d.natAbs n d (Nat.le_refl _) (by omega) (by omega) (by omega) (by omega)).1
    unfold figure_gcd.f
    exact Ev.bind hg (Ev.c (by rw [Bool.eq_iff_iff, beq_iff_eq, decide_eq_true_eq]))
theorem IsLowest_ev {n d : Int} (hn : I64 n) (hd : I64 d) : Ev (fun k => speculumbase_IsLowest.f k n d) (lowB n d) := by
  obtain ⟨n1, n2⟩ := hn
  obtain ⟨d1, d2⟩ := hd
  unfold speculumbase_IsLowest.f lowB
  by_cases h : d > 0
  · simp only [h, if_true, decide_true, Bool.true_and]
    have hg := (gcd_ev d.natAbs n d (Nat.le_refl _) (by omega) (by omega) (by omega) (by omega)).2
    unfold speculumbase_Gcd.f
    exact Ev.bind hg (Ev.c (by rw [Bool.eq_iff_iff, beq_iff_eq, decide_eq_true_eq]))
  · simp only [h, if_false, decide_false, Bool.false_and]
    exact Ev.now _
theorem checkLine_ev {a0 a1 a2 a3 : Int} (a4 a5 : Int) (h0 : I64 a0) (h1 : I64 a1) (h2 : I64 a2) (h3 : I64 a3) : Ev (fun k => figure_checkLine.f k a0 a1 a2 a3 a4 a5) (clV a0 a1 a2 a3) := by
  unfold figure_checkLine.f clV
  refine Ev.bind (lowF_ev h0 h1) ?_
  cases lowB a0 a1
  · simp only [Bool.false_eq_true, if_false]; exact Ev.now _
  · simp only [if_true]
    refine Ev.bind (lowF_ev h2 h3) ?_
    cases lowB a2 a3
    · simp only [Bool.false_eq_true, if_false]; exact Ev.now _
    · simp only [if_true]; exact Ev.now _
theorem CheckLine_ev {a0 a1 a2 a3 : Int} (a4 a5 : Int) (h0 : I64 a0) (h1 : I64 a1) (h2 : I64 a2) (h3 : I64 a3) : Ev (fun k => speculumref06_CheckLine.f k a0 a1 a2 a3 a4 a5) (clV a0 a1 a2 a3) := by
  unfold speculumref06_CheckLine.f clV
  refine Ev.bind (IsLowest_ev h0 h1) ?_
  cases lowB a0 a1
  · simp only [Bool.false_eq_true, if_false]; exact Ev.now _
  · simp only [if_true]
    refine Ev.bind (IsLowest_ev h2 h3) ?_
    cases lowB a2 a3
    · simp only [Bool.false_eq_true, if_false]; exact Ev.now _
    · simp only [if_true]; exact Ev.now _
theorem okR_true {n d : Int} (h : okR n d = true) : d ≤ 1000 ∧ -1000000000 ≤ n ∧ n ≤ 1000000000 := by
  unfold okR inR at h
  split at h
  · cases h
  · split at h
    · have := of_decide_eq_true h; omega
    · cases h
structure LineOk (a0 a1 a2 a3 : Int) : Prop where
  n0 : -1000000000 ≤ a0 ∧ a0 ≤ 1000000000
  d0 : 1 ≤ a1 ∧ a1 ≤ 1000
  n1 : -1000000000 ≤ a2 ∧ a2 ≤ 1000000000
  d1 : 1 ≤ a3 ∧ a3 ≤ 1000
theorem clV_0 {a0 a1 a2 a3 : Int} (h : clV a0 a1 a2 a3 = 0) : LineOk a0 a1 a2 a3 := by
  unfold clV at h
  split at h
  · rename_i l0
    split at h
    · rename_i l1
      split at h
      · rename_i o0
        split at h
        · rename_i o1
          unfold lowB at l0 l1
          rw [Bool.and_eq_true] at l0 l1
          have p0 := of_decide_eq_true l0.1
          have p1 := of_decide_eq_true l1.1
          have q0 := okR_true o0
          have q1 := okR_true o1
          exact ⟨q0.2, ⟨by omega, q0.1⟩, q1.2, ⟨by omega, q1.1⟩⟩
        · omega
      · omega
    · omega
  · omega
def rmN (l0 l1 : List Int) (a0 a1 a2 a3 : Int) (i : Nat) : Int := l0.getD i 0 * (a1 * a3) - a0 * a3 - a2 * l1.getD i 0 * a1
theorem whole_bd {a0 a1 a2 a3 : Int} (h : LineOk a0 a1 a2 a3) : 1 ≤ a1 * a3 ∧ a1 * a3 ≤ 1000000 := by
  obtain ⟨_, ⟨p, q⟩, _, ⟨r, s⟩⟩ := h
  have h1 : 1 * 1 ≤ a1 * a3 := Int.mul_le_mul p r (by omega) (by omega)
  have h2 : a1 * a3 ≤ 1000 * 1000 := Int.mul_le_mul q s (by omega) (by omega)
  omega
theorem mul_abs {a b A B : Int} (ha : -A ≤ a ∧ a ≤ A) (hb : -B ≤ b ∧ b ≤ B) (hA : 0 ≤ A) : -(A * B) ≤ a * b ∧ a * b ≤ A * B := by
  have h1 : (a * b).natAbs ≤ (A * B).natAbs := by
    rw [Int.natAbs_mul, Int.natAbs_mul]
    exact Nat.mul_le_mul (by omega) (by omega)
  have h2 : 0 ≤ A * B := Int.mul_nonneg hA (by omega)
  omega
theorem rem_bd' {l0 l1 l2 : List Int} {i : Nat} {a0 a1 a2 a3 : Int} (h : LineOk a0 a1 a2 a3) (hz : okZ l0 l1 l2 i = true) :
    remVal l0 l1 a0 a1 a2 a3 (i : Int) = rmN l0 l1 a0 a1 a2 a3 i ∧ (rmN l0 l1 a0 a1 a2 a3 i).natAbs ≤ 1002000000000000 ∧ wrap64 (a1 * a3) = a1 * a3 := by
  obtain ⟨⟨x0, x1⟩, ⟨y0, y1⟩, _⟩ := okZ_iff hz
  obtain ⟨w0, w1⟩ := whole_bd h
  obtain ⟨⟨p0, p1⟩, ⟨q0, q1⟩, ⟨r0, r1⟩, ⟨s0, s1⟩⟩ := h
  have m1 := mul_abs (a := l0.getD i 0) (b := a1 * a3) (A := 100000) (B := 1000000) ⟨by omega, by omega⟩ ⟨by omega, by omega⟩ (by omega)
  have m2 := mul_abs (a := a0) (b := a3) (A := 1000000000) (B := 1000) ⟨by omega, by omega⟩ ⟨by omega, by omega⟩ (by omega)
  have m3 := mul_abs (a := a2) (b := l1.getD i 0) (A := 1000000000) (B := 1000) ⟨by omega, by omega⟩ ⟨by omega, by omega⟩ (by omega)
  have m4 := mul_abs (a := a2 * l1.getD i 0) (b := a1) (A := 1000000000000) (B := 1000) ⟨by omega, by omega⟩ ⟨by omega, by omega⟩ (by omega)
  unfold remVal rmN
  rw [rdn, rdn]
  have e0 : wrap64 (a1 * a3) = a1 * a3 := w64 (by omega) (by omega)
  rw [e0, w64 (n := l0.getD i 0 * (a1 * a3)) (by omega) (by omega), w64 (n := a0 * a3) (by omega) (by omega), w64 (n := a2 * l1.getD i 0) (by omega) (by omega), w64 (n := a2 * l1.getD i 0 * a1) (by omega) (by omega), w64 (n := l0.getD i 0 * (a1 * a3) - a0 * a3) (by omega) (by omega), w64 (by omega) (by omega)]
  exact ⟨rfl, by omega, rfl⟩
def rmL (l0 l1 : List Int) (a0 a1 a2 a3 : Int) (i : Nat) : Int × Int := lowV (rmN l0 l1 a0 a1 a2 a3 i) (a1 * a3)
theorem refRemoval_ev {l0 l1 l2 : List Int} {i : Nat} {a0 a1 a2 a3 : Int} (a4 a5 : Int) (h : LineOk a0 a1 a2 a3) (hz : okZ l0 l1 l2 i = true) (h0 : i < l0.length) (h1 : i < l1.length) :
    Ev (fun k => speculumref06_Removal.f k l0 l1 l2 a0 a1 a2 a3 a4 a5 (i : Int)) (rmL l0 l1 a0 a1 a2 a3 i) := by
  obtain ⟨e1, e2, e3⟩ := rem_bd' h hz
  have hw := whole_bd h
  have hl0 : (i : Int) < (l0.length : Int) := by omega
  have hl1 : (i : Int) < (l1.length : Int) := by omega
  unfold speculumref06_Removal.f
  unfold remVal at e1
  rw [e3] at e1
  simp only [n0, hl0, hl1, if_true, e3, e1]
  exact Ev.bind (lowest_ev (by omega) (by omega) (by omega)).2 (Ev.now _)
theorem CheckMap_ev (l0 l1 l2 : List Int) : Ev (fun k => figure_CheckMap.f k l0 l1 l2) (checkV l0 l1 l2) := ⟨100, fun k hk => fig_check l0 l1 l2 k hk⟩
theorem refCheckMap_ev (l0 l1 l2 : List Int) : Ev (fun k => speculumref06_CheckMap.f k l0 l1 l2) (checkV l0 l1 l2) := ⟨100, fun k hk => ref_check l0 l1 l2 k hk⟩
def rmS (l0 l1 : List Int) (a0 a1 a2 a3 : Int) : Nat → List S28
  | 0 => []
  | i + 1 => rmS l0 l1 a0 a1 a2 a3 i ++ [⟨(rmL l0 l1 a0 a1 a2 a3 i).1, (rmL l0 l1 a0 a1 a2 a3 i).2⟩]
theorem rmS_len (l0 l1 : List Int) (a0 a1 a2 a3 : Int) : ∀ n, (rmS l0 l1 a0 a1 a2 a3 n).length = n
  | 0 => rfl
  | n + 1 => by rw [rmS, List.length_append, rmS_len l0 l1 a0 a1 a2 a3 n]; rfl
theorem rmS_at (l0 l1 : List Int) (a0 a1 a2 a3 : Int) (d : S28) : ∀ (n i : Nat), i < n → (rmS l0 l1 a0 a1 a2 a3 n).getD i d = ⟨(rmL l0 l1 a0 a1 a2 a3 i).1, (rmL l0 l1 a0 a1 a2 a3 i).2⟩
  | 0, i, h => by omega
  | n + 1, i, h => by
    rw [rmS, List.getD_eq_getElem?_getD]
    rcases Nat.lt_or_ge i n with hi | hi
    · rw [List.getElem?_append_left (by rw [rmS_len]; exact hi), ← List.getD_eq_getElem?_getD]
      exact rmS_at l0 l1 a0 a1 a2 a3 d n i hi
    · obtain rfl : i = n := by omega
      rw [List.getElem?_append_right (by rw [rmS_len]; omega), rmS_len, Nat.sub_self]; rfl
theorem removal_loop {l0 l1 l2 : List Int} {a0 a1 a2 a3 : Int} (a4 a5 : Int) (h : LineOk a0 a1 a2 a3) {n : Nat} (hn : n = l0.length) (h1 : l1.length = n) (hb : n ≤ 100) (hz : ∀ j, j < n → okZ l0 l1 l2 j = true) : ∀ (m i : Nat), i + m = n →
    Ev (fun k => figure_Removal.l0 k (rmS l0 l1 a0 a1 a2 a3 i) (n : Int) (i : Int) l0 l1 l2 a0 a1 a2 a3 a4 a5) (rmS l0 l1 a0 a1 a2 a3 n, 0) := by
  intro m
  induction m with
  | zero =>
    intro i hi
    have hlt : ¬ (i : Int) < (n : Int) := by omega
    refine Ev.s ?_
    simp only [figure_Removal.l0, hlt, if_false]
    exact Ev.c (by rw [show i = n by omega])
  | succ m ih =>
    intro i hi
    have hlt : (i : Int) < (n : Int) := by omega
    obtain ⟨e1, e2, e3⟩ := rem_bd' h (hz i (by omega))
    have hw := whole_bd h
    have hf := rem_f l0 l1 l2 a0 a1 a2 a3 a4 a5 (i : Int) (n0 i) (by omega) (by omega)
    have hlen : (rmS l0 l1 a0 a1 a2 a3 i).length < 8796093022208 := by rw [rmS_len]; omega
    refine Ev.s ?_
    simp only [figure_Removal.l0, hlt, if_true, hf, Option.bind_some, e1, e3]
    refine Ev.bind (lowest_ev (by omega) (by omega) (by omega)).1 ?_
    simp only [hlen, if_true, wi (show i ≤ 100000 by omega)]
    exact ih (i + 1) (by omega)
theorem Removal_ev {l0 l1 l2 : List Int} {a0 a1 a2 a3 : Int} (a4 a5 : Int) (h0 : I64 a0) (h1 : I64 a1) (h2 : I64 a2) (h3 : I64 a3) : Ev (fun k => figure_Removal.f k l0 l1 l2 a0 a1 a2 a3 a4 a5) (if checkV l0 l1 l2 = 0 then (if clV a0 a1 a2 a3 = 0 then (rmS l0 l1 a0 a1 a2 a3 l0.length, 0) else ([], clV a0 a1 a2 a3)) else ([], checkV l0 l1 l2)) := by
  unfold figure_Removal.f
  refine Ev.bind (CheckMap_ev l0 l1 l2) ?_
  by_cases hm : checkV l0 l1 l2 = 0
  · simp only [hm, if_true]
    refine Ev.bind (checkLine_ev a4 a5 h0 h1 h2 h3) ?_
    obtain ⟨⟨hn0, hn, e1, e2⟩, hok, hz⟩ := checkV_0 hm
    by_cases hc : clV a0 a1 a2 a3 = 0
    · simp only [hc, if_true]
      exact removal_loop a4 a5 (clV_0 hc) rfl e1 (by omega) hok l0.length 0 (by omega)
    · simp only [hc, if_false]
      exact Ev.now _
  · simp only [hm, if_false]
    exact Ev.now _
end Go.Proofs.Ytdkahcolfcmmpaa.Pure
set_option linter.unusedVariables false
namespace Go.Proofs.Ytdkahcolfcmmpaa.Pure
open Go.RowKit Go.Proofs.Ytdkahcolfcmmpaa.Pr Go.Proofs.YtdkahcolfcmmpaaW.PrintWords Go.Proofs.YtdkahcolfcmmpaaW.PrintLast Go.Proofs.YtdkahcolfcmmpaaW.PrintMore
theorem zs_of {l0 l1 l2 : List Int} (h : checkV l0 l1 l2 = 0) : Zs l0 l1 := by
  obtain ⟨⟨hn0, hn, h1, h2⟩, hok, hz⟩ := checkV_0 h
  exact ⟨h1, by omega, fun z hz => (okZ_iff (hok z hz)).1, fun z hz => (okZ_iff (hok z hz)).2.1⟩
theorem Good.pair {q h : Nat → Int} {P : Nat → Prop} : ∀ {R : List Nat}, Good q h P R → ∀ i, 1 ≤ i → i < R.length → ∃ a b : Nat, (toL R).getD (i - 1) 0 = (a : Int) ∧ (toL R).getD i 0 = (b : Int) ∧ P a ∧ P b ∧ q a < q b ∧ ∀ z, P z → 0 ≤ cross q h a b z
  | [t], g, i, h1, h2 => by simp at h2; omega
  | t :: p :: r, g, i, h1, h2 => by
    have h2' : i < r.length + 2 := by simpa using h2
    rcases Nat.lt_or_ge i (r.length + 1) with hi | hi
    · obtain ⟨a, b, e1, e2, e3⟩ := Good.pair g.2.2.2 i h1 (by simpa using hi)
      exact ⟨a, b, (toL_below t (p :: r) (i - 1) (by simp; omega)).trans e1, (toL_below t (p :: r) i (by simpa using hi)).trans e2, e3⟩
    · obtain rfl : i = r.length + 1 := by omega
      exact ⟨p, t, (toL_below t (p :: r) r.length (by simp)).trans (toL_top p r), toL_top t (p :: r), g.2.2.2.top, g.top, g.2.1, g.2.2.1⟩
theorem Good.mem {q h : Nat → Int} {P : Nat → Prop} : ∀ {R : List Nat}, Good q h P R → ∀ i, i < R.length → ∃ a : Nat, (toL R).getD i 0 = (a : Int) ∧ P a ∧ (i = 0 → ∀ z, P z → q a ≤ q z)
  | [t], g, i, h2 => by
    obtain rfl : i = 0 := by simpa using h2
    exact ⟨t, rfl, g.1, fun _ z hz => (g.2 z hz).1⟩
  | t :: p :: r, g, i, h2 => by
    have h2' : i < r.length + 2 := by simpa using h2
    rcases Nat.lt_or_ge i (r.length + 1) with hi | hi
    · obtain ⟨a, e1, e2, e3⟩ := Good.mem g.2.2.2 i (by simpa using hi)
      exact ⟨a, (toL_below t (p :: r) i (by simpa using hi)).trans e1, e2, e3⟩
    · obtain rfl : i = r.length + 1 := by omega
      exact ⟨t, toL_top t (p :: r), g.top, fun h => by omega⟩
theorem sums3 {l0 l1 l2 : List Int} : ∀ i : Nat, i ≤ 40 → (∀ j, j < i → okZ l0 l1 l2 j = true) → -(100000000 * (i : Int)) ≤ (sumsTo l0 l1 l2 i).2.2 ∧ (sumsTo l0 l1 l2 i).2.2 ≤ 100000000 * i
  | 0, _, _ => by simp [sumsTo]
  | i + 1, hi, h => by
    obtain ⟨a0, a1⟩ := sums3 i (by omega) (fun j hj => h j (by omega))
    obtain ⟨⟨h0, h1⟩, ⟨q0, q1⟩, ⟨w0, w1⟩⟩ := okZ_iff (h i (by omega))
    have p := mul_abs (a := l2.getD i 0) (b := l0.getD i 0) (A := 1000) (B := 100000) ⟨by omega, by omega⟩ ⟨by omega, by omega⟩ (by omega)
    simp only [sumsTo]
    rw [w64 (n := l2.getD i 0 * l0.getD i 0) (by omega) (by omega), w64 (by omega) (by omega)]
    omega
theorem sums_all {l0 l1 l2 : List Int} {i : Nat} (hi : i < 40) (h : ∀ j, j ≤ i → okZ l0 l1 l2 j = true) : (sumsTo l0 l1 l2 (i + 1)).1 = (sumsTo l0 l1 l2 i).1 + l2.getD i 0 ∧ (sumsTo l0 l1 l2 (i + 1)).2.1 = (sumsTo l0 l1 l2 i).2.1 + l2.getD i 0 * l1.getD i 0 ∧ (sumsTo l0 l1 l2 (i + 1)).2.2 = (sumsTo l0 l1 l2 i).2.2 + l2.getD i 0 * l0.getD i 0 := by
  obtain ⟨⟨a0, a1⟩, ⟨b0, b1⟩⟩ := sums_bd i (by omega) (fun j hj => h j (by omega))
  obtain ⟨c0, c1⟩ := sums3 (l0 := l0) (l1 := l1) (l2 := l2) i (by omega) (fun j hj => h j (by omega))
  obtain ⟨⟨h0, h1⟩, ⟨q0, q1⟩, ⟨w0, w1⟩⟩ := okZ_iff (h i (Nat.le_refl _))
  have p := mul_abs (a := l2.getD i 0) (b := l0.getD i 0) (A := 1000) (B := 100000) ⟨by omega, by omega⟩ ⟨by omega, by omega⟩ (by omega)
  have p0 : 0 ≤ l2.getD i 0 * l1.getD i 0 := Int.mul_nonneg w0 q0
  have p1 : l2.getD i 0 * l1.getD i 0 ≤ 1000 * 1000 := Int.mul_le_mul w1 q1 q0 (by omega)
  simp only [sumsTo]
  refine ⟨w64 (by omega) (by omega), ?_, ?_⟩
  · rw [w64 (n := l2.getD i 0 * l1.getD i 0) (by omega) (by omega), w64 (by omega) (by omega)]
  · rw [w64 (n := l2.getD i 0 * l0.getD i 0) (by omega) (by omega), w64 (by omega) (by omega)]
theorem mean_between {l0 l1 l2 : List Int} {m M : Int} : ∀ i : Nat, i ≤ 40 → (∀ j, j < i → okZ l0 l1 l2 j = true) → (∀ j, j < i → m ≤ l1.getD j 0 ∧ l1.getD j 0 ≤ M) → m * (sumsTo l0 l1 l2 i).1 ≤ (sumsTo l0 l1 l2 i).2.1 ∧ (sumsTo l0 l1 l2 i).2.1 ≤ M * (sumsTo l0 l1 l2 i).1
  | 0, _, _, _ => by simp [sumsTo]
  | i + 1, hi, h, hm => by
    obtain ⟨a, b⟩ := mean_between i (by omega) (fun j hj => h j (by omega)) (fun j hj => hm j (by omega))
    obtain ⟨e1, e2, _⟩ := sums_all (l0 := l0) (l1 := l1) (l2 := l2) (i := i) (by omega) (fun j hj => h j (by omega))
    obtain ⟨_, _, ⟨w0, w1⟩⟩ := okZ_iff (h i (by omega))
    obtain ⟨c, d⟩ := hm i (by omega)
    rw [e1, e2, Int.mul_add, Int.mul_add]
    have x := Int.mul_le_mul_of_nonneg_left c w0
    have y := Int.mul_le_mul_of_nonneg_left d w0
    rw [Int.mul_comm (l2.getD i 0) m] at x
    rw [Int.mul_comm (l2.getD i 0) M] at y
    omega
structure RefL (l0 l1 l2 : List Int) (r1 r2 r3 r4 : Int) (a b : Nat) : Prop where
  ok : LineOk r1 r2 r3 r4
  low0 : lowB r1 r2 = true
  low1 : lowB r3 r4 = true
  ha : a < l0.length
  hb : b < l0.length
  abv : ∀ z, z < l0.length → 0 ≤ rmN l0 l1 r1 r2 r3 r4 z ∧ rmN l0 l1 r1 r2 r3 r4 z ≤ 400000000000
  ra : rmN l0 l1 r1 r2 r3 r4 a = 0
  rb : rmN l0 l1 r1 r2 r3 r4 b = 0
  qa : l1.getD a 0 * (sumsTo l0 l1 l2 l0.length).1 ≤ (sumsTo l0 l1 l2 l0.length).2.1
  qb : (sumsTo l0 l1 l2 l0.length).2.1 ≤ l1.getD b 0 * (sumsTo l0 l1 l2 l0.length).1
  ab : l1.getD a 0 < l1.getD b 0 ∨ a = b
theorem lowB_low (n : Int) {d : Int} (hd : 0 < d) : lowB (lowV n d).1 (lowV n d).2 = true := by
  unfold lowB
  have h2 := (low_sign n hd).2.2
  have hg : Int.gcd (lowV n d).1 (lowV n d).2 = 1 := by
    obtain ⟨g, hg, e1, e2, e3⟩ := low_facts n hd
    have hgn : Int.gcd n d = g.natAbs * Int.gcd (lowV n d).1 (lowV n d).2 := by
      have : Int.gcd (g * (lowV n d).1) (g * (lowV n d).2) = g.natAbs * Int.gcd (lowV n d).1 (lowV n d).2 := Int.gcd_mul_left ..
      rw [← e1, ← e2] at this
      exact this
    have hgg : g.natAbs = Int.gcd n d := by omega
    rw [hgg] at hgn
    have hp : 0 < Int.gcd n d := by omega
    have : Int.gcd n d * 1 = Int.gcd n d * Int.gcd (lowV n d).1 (lowV n d).2 := by omega
    exact (Nat.eq_of_mul_eq_mul_left hp this).symm
  rw [hg, decide_eq_true h2, show wrap64 ((1 : Nat) : Int) = 1 from w64 (by omega) (by omega)]
  rfl
theorem through_rm {l0 l1 : List Int} {a b : Nat} (Z : Zs l0 l1) (ha : a < l0.length) (hb : b < l0.length) (hab : qz l1 a < qz l1 b) (hc : ∀ z, z < l0.length → 0 ≤ cross (qz l1) (qz l0) a b z) :
    LineOk (lowV (qz l0 a * (qz l1 b - qz l1 a) - (qz l0 b - qz l0 a) * qz l1 a) (qz l1 b - qz l1 a)).1 (lowV (qz l0 a * (qz l1 b - qz l1 a) - (qz l0 b - qz l0 a) * qz l1 a) (qz l1 b - qz l1 a)).2 (lowV (qz l0 b - qz l0 a) (qz l1 b - qz l1 a)).1 (lowV (qz l0 b - qz l0 a) (qz l1 b - qz l1 a)).2 ∧
    ∀ z, z < l0.length → ∃ c : Int, 0 < c ∧ c * rmN l0 l1 (lowV (qz l0 a * (qz l1 b - qz l1 a) - (qz l0 b - qz l0 a) * qz l1 a) (qz l1 b - qz l1 a)).1 (lowV (qz l0 a * (qz l1 b - qz l1 a) - (qz l0 b - qz l0 a) * qz l1 a) (qz l1 b - qz l1 a)).2 (lowV (qz l0 b - qz l0 a) (qz l1 b - qz l1 a)).1 (lowV (qz l0 b - qz l0 a) (qz l1 b - qz l1 a)).2 z = (qz l1 b - qz l1 a) * cross (qz l1) (qz l0) a b z := by
  have ha1 := Z.h a ha
  have hb1 := Z.h b hb
  have ha2 := Z.q a ha
  have hb2 := Z.q b hb
  obtain ⟨N, hN⟩ : ∃ N, N = qz l0 a * (qz l1 b - qz l1 a) - (qz l0 b - qz l0 a) * qz l1 a := ⟨_, rfl⟩
  obtain ⟨run, hrun⟩ : ∃ r, r = qz l1 b - qz l1 a := ⟨_, rfl⟩
  obtain ⟨rise, hrise⟩ : ∃ r, r = qz l0 b - qz l0 a := ⟨_, rfl⟩
  rw [← hN, ← hrun, ← hrise]
  have hpos : 0 < run := by omega
  have m1 := mulb (a := qz l0 a) (b := qz l1 b - qz l1 a) (A := 100000) (B := 1000) ⟨by omega, by omega⟩ ⟨by omega, by omega⟩ (by omega)
  have m2 := mulb (a := qz l0 b - qz l0 a) (b := qz l1 a) (A := 200000) (B := 1000) ⟨by omega, by omega⟩ ⟨by omega, by omega⟩ (by omega)
  obtain ⟨g, hg, e1, e2, _⟩ := low_facts N hpos
  obtain ⟨g', hg', e1', e2', _⟩ := low_facts rise hpos
  have s1 := (low_sign N hpos).2.2
  have s2 := (low_sign rise hpos).2.2
  have b1 := low_abs N hpos
  have b2 := low_abs rise hpos
  refine ⟨⟨by omega, by omega, by omega, by omega⟩, fun z hz => ⟨g * g', Int.mul_pos hg hg', ?_⟩⟩
  unfold rmN cross
  change g * g' * (qz l0 z * ((lowV N run).2 * (lowV rise run).2) - (lowV N run).1 * (lowV rise run).2 - (lowV rise run).1 * qz l1 z * (lowV N run).2) = run * ((qz l0 z - qz l0 a) * (qz l1 b - qz l1 a) - (qz l0 b - qz l0 a) * (qz l1 z - qz l1 a))
  generalize (lowV N run).1 = x1 at *
  generalize (lowV N run).2 = x2 at *
  generalize (lowV rise run).1 = x3 at *
  generalize (lowV rise run).2 = x4 at *
  have f1 : g * g' * (qz l0 z * (x2 * x4) - x1 * x4 - x3 * qz l1 z * x2) = qz l0 z * (g * x2) * (g' * x4) - (g * x1) * (g' * x4) - (g' * x3) * qz l1 z * (g * x2) := by grind
  rw [f1, ← e1, ← e2, ← e1', ← e2', hN, hrise, ← hrun]
  grind
theorem idx_ev {l0 l1 : List Int} (W SQ SH : Int) {R : List Nat} (hR : R.length ≤ 100) (hlen : l1.length = l0.length) (hm : ∀ i, i < R.length → ∃ a : Nat, (toL R).getD i 0 = (a : Int) ∧ a < l0.length) : ∀ (m i : Nat), i + m = R.length →
    (∃ j : Nat, i ≤ j ∧ j < R.length ∧ (∀ a : Nat, (toL R).getD j 0 = (a : Int) → 0 ≤ sdV W SQ (l1.getD a 0)) ∧ (∀ c, i ≤ c → c < j → ∀ a : Nat, (toL R).getD c 0 = (a : Int) → sdV W SQ (l1.getD a 0) < 0) ∧ Ev (fun k => slices_IndexFunc_int_int__figure_reference_1.l0 (E := ⟨⟨W, SQ, SH, l1⟩⟩) k (toL R) (R.length : Int) (i : Int)) (j : Int)) ∨
    (∀ c, i ≤ c → c < R.length → ∀ a : Nat, (toL R).getD c 0 = (a : Int) → sdV W SQ (l1.getD a 0) < 0) := by
  intro m
  induction m with
  | zero => intro i hi; exact .inr (fun c h1 h2 => by omega)
  | succ m ih =>
    intro i hi
    have hlt : (i : Int) < (R.length : Int) := by omega
    have hl' : (i : Int) < ((toL R).length : Int) := by rw [toL_len]; exact hlt
    obtain ⟨a, ea, ha⟩ := hm i (by omega)
    have ha1 : (a : Int) < (l1.length : Int) := by omega
    have hf : refC.f (E := ⟨⟨W, SQ, SH, l1⟩⟩) (a : Int) = some (decide (sdV W SQ (l1.getD a 0) ≥ 0)) := by
      show figure_reference_1.f (a : Int) W SQ SH [] l1 [] = _
      unfold figure_reference_1.f
      rw [if_pos (n0 a), if_pos ha1, side_f]; rfl
    by_cases hs : sdV W SQ (l1.getD a 0) ≥ 0
    · refine .inl ⟨i, Nat.le_refl _, by omega, fun a' ea' => ?_, fun c h1 h2 => by omega, Ev.s ?_⟩
      · rw [ea] at ea'
        obtain rfl : a = a' := by omega
        exact hs
      · simp only [slices_IndexFunc_int_int__figure_reference_1.l0, hlt, hl', n0, if_true, rdn, ea, hf, Option.bind_some, hs, decide_true]
        exact Ev.now _
    · have first : ∀ a' : Nat, (toL R).getD i 0 = (a' : Int) → sdV W SQ (l1.getD a' 0) < 0 := fun a' ea' => by
        rw [ea] at ea'
        obtain rfl : a = a' := by omega
        omega
      rcases ih (i + 1) (by omega) with ⟨j, h1, h2, h3, h4, h5⟩ | h
      · refine .inl ⟨j, by omega, h2, h3, fun c c1 c2 => ?_, Ev.s ?_⟩
        · rcases Nat.eq_or_lt_of_le c1 with e | e
          · subst e; exact first
          · exact h4 c e c2
        · simp only [slices_IndexFunc_int_int__figure_reference_1.l0, hlt, hl', n0, if_true, rdn, ea, hf, Option.bind_some, hs, decide_false, Bool.false_eq_true, if_false, wi (show i ≤ 100000 by omega)]
          exact h5
      · refine .inr (fun c c1 c2 => ?_)
        rcases Nat.eq_or_lt_of_le c1 with e | e
        · subst e; exact first
        · exact h c e c2
theorem sd_iff {W SQ q : Int} (hq : 0 ≤ q ∧ q ≤ 1000) (hW : 0 ≤ W ∧ W ≤ 100000) : (0 ≤ sdV W SQ q ↔ SQ ≤ q * W) := by
  have b1 : 0 ≤ q * W := Int.mul_nonneg hq.1 hW.1
  have b2 : q * W ≤ 1000 * 100000 := Int.mul_le_mul hq.2 hW.2 hW.1 (by omega)
  unfold sdV
  rw [w64 (n := q * W) (by omega) (by omega)]
  repeat' split
  all_goals omega
theorem reference_ev {l0 l1 l2 : List Int} (hm : checkV l0 l1 l2 = 0) (hn : l0.length < 20) : ∃ r1 r2 r3 r4 : Int, ∃ a b : Nat, RefL l0 l1 l2 r1 r2 r3 r4 a b ∧ Ev (fun k => figure_reference.f k l0 l1 l2) (r1, r2, r3, r4, (a : Int), (b : Int)) := by
  have Z := zs_of hm
  obtain ⟨⟨hn0, hn40, h1, h2⟩, hok, hz⟩ := checkV_0 hm
  obtain ⟨⟨w0, w1⟩, ⟨s0, s1⟩⟩ := sums_bd (l0 := l0) (l1 := l1) (l2 := l2) l0.length hn40 hok
  obtain ⟨t, r, hr, g, top, he⟩ := hull_ev (l2 := l2) Z hn0 hn
  have hs : figure_sumsOf.f l0 l1 l2 = some (sumsTo l0 l1 l2 l0.length) := by
    unfold figure_sumsOf.f
    rw [if_pos (by omega), h2]
  unfold figure_reference.f
  cases r with
  | nil =>
    -- one corner alone: all q are the same
    have ht : t < l0.length := g.1
    have hq : ∀ z, z < l0.length → qz l1 z = qz l1 t ∧ qz l0 t ≤ qz l0 z := fun z hz => by
      have g1 := (g.2 z hz).1
      have g2 := top z hz
      exact ⟨by omega, (g.2 z hz).2 (by omega)⟩
    have hbt := mean_between (l0 := l0) (l1 := l1) (l2 := l2) (m := qz l1 t) (M := qz l1 t) l0.length hn40 hok (fun j hj => by have := (hq j hj).1; unfold qz at *; omega)
    have hht := Z.h t ht
    refine ⟨qz l0 t, 1, 0, 1, t, t, ⟨⟨by omega, by omega, by omega, by omega⟩, ?_, ?_, ht, ht, fun z hz => ?_, ?_, ?_, hbt.1, hbt.2, .inr rfl⟩, ?_⟩
    · unfold lowB
      rw [Int.gcd_one_right, show wrap64 ((1 : Nat) : Int) = 1 from w64 (by omega) (by omega)]; rfl
    · unfold lowB
      rw [Int.gcd_one_right, show wrap64 ((1 : Nat) : Int) = 1 from w64 (by omega) (by omega)]; rfl
    · have := (hq z hz).2
      have := Z.h z hz
      unfold rmN
      change 0 ≤ qz l0 z * (1 * 1) - qz l0 t * 1 - 0 * l1.getD z 0 * 1 ∧ qz l0 z * (1 * 1) - qz l0 t * 1 - 0 * l1.getD z 0 * 1 ≤ 400000000000
      omega
    · unfold rmN
      change qz l0 t * (1 * 1) - qz l0 t * 1 - 0 * l1.getD t 0 * 1 = 0
      omega
    · unfold rmN
      change qz l0 t * (1 * 1) - qz l0 t * 1 - 0 * l1.getD t 0 * 1 = 0
      omega
    · refine Ev.bind he ?_
      have c1 : ((toL [t]).length : Int) = 1 := rfl
      have c2 : (0 : Int) < ((toL [t]).length : Int) := by rw [c1]; omega
      have e0 : rd (toL [t]) 0 = (t : Int) := rfl
      have ht' : (t : Int) < (l0.length : Int) := by omega
      simp only [hs, Option.bind_some, c1, if_true, e0, n0, ht', rdn, show (0 : Int) < 1 by omega]
      exact Ev.now _
  | cons p r =>
    have L : (toL (t :: p :: r)).length = r.length + 2 := by rw [toL_len]; rfl
    have hmem : ∀ i, i < (t :: p :: r).length → ∃ a : Nat, (toL (t :: p :: r)).getD i 0 = (a : Int) ∧ a < l0.length := fun i hi => by
      obtain ⟨a, e1, e2, _⟩ := g.mem i hi
      exact ⟨a, e1, e2⟩
    have hr2 : r.length + 1 < l0.length := by simpa using hr
    have sd := fun z (hz : z < l0.length) => sd_iff (q := l1.getD z 0) (W := (sumsTo l0 l1 l2 l0.length).1) (SQ := (sumsTo l0 l1 l2 l0.length).2.1) (Z.q z hz) ⟨w0, by omega⟩
    -- an index with both sides
    obtain ⟨i, hi1, hi2, hidx, hside⟩ : ∃ i : Nat, 1 ≤ i ∧ i < r.length + 2 ∧ (∃ v : Int, Ev (fun k => slices_IndexFunc_int_int__figure_reference_1.f (E := ⟨⟨(sumsTo l0 l1 l2 l0.length).1, (sumsTo l0 l1 l2 l0.length).2.1, (sumsTo l0 l1 l2 l0.length).2.2, l1⟩⟩) k (toL (t :: p :: r))) v ∧ mx 1 v = (i : Int)) ∧
        ∀ a b : Nat, (toL (t :: p :: r)).getD (i - 1) 0 = (a : Int) → (toL (t :: p :: r)).getD i 0 = (b : Int) → l1.getD a 0 < l1.getD b 0 → a < l0.length → b < l0.length → l1.getD a 0 * (sumsTo l0 l1 l2 l0.length).1 ≤ (sumsTo l0 l1 l2 l0.length).2.1 ∧ (sumsTo l0 l1 l2 l0.length).2.1 ≤ l1.getD b 0 * (sumsTo l0 l1 l2 l0.length).1 := by
      rcases idx_ev (l0 := l0) (l1 := l1) (sumsTo l0 l1 l2 l0.length).1 (sumsTo l0 l1 l2 l0.length).2.1 (sumsTo l0 l1 l2 l0.length).2.2 (R := t :: p :: r) (by simp; omega) h1 hmem (r.length + 2) 0 (by simp) with ⟨j, _, hj, hj1, hj2, hj3⟩ | hno
      · have hj' : j < r.length + 2 := by simpa using hj
        have hf : Ev (fun k => slices_IndexFunc_int_int__figure_reference_1.f (E := ⟨⟨(sumsTo l0 l1 l2 l0.length).1, (sumsTo l0 l1 l2 l0.length).2.1, (sumsTo l0 l1 l2 l0.length).2.2, l1⟩⟩) k (toL (t :: p :: r))) (j : Int) := by
          unfold slices_IndexFunc_int_int__figure_reference_1.f
          rw [toL_len]
          exact hj3
        by_cases hj0 : j = 0
        · subst hj0
          refine ⟨1, Nat.le_refl _, by omega, ⟨_, hf, by unfold mx; omega⟩, fun a b ea eb hab ha hb => ?_⟩
          have h0 := (sd a ha).1 (hj1 a ea)
          obtain ⟨a', ea', _, hmin⟩ := g.mem 0 (by simp)
          have ea2 : (toL (t :: p :: r)).getD 0 0 = (a : Int) := ea
          rw [ea'] at ea2
          obtain rfl : a' = a := by omega
          have hbt := (mean_between (l0 := l0) (l1 := l1) (l2 := l2) (m := l1.getD a' 0) (M := 1000) l0.length hn40 hok (fun c hc => ⟨hmin rfl c hc, (Z.q c hc).2⟩)).1
          refine ⟨hbt, ?_⟩
          have := Int.mul_le_mul_of_nonneg_right (Int.le_of_lt hab) w0
          omega
        · refine ⟨j, by omega, hj', ⟨_, hf, by unfold mx; split <;> omega⟩, fun a b ea eb hab ha hb => ?_⟩
          have h0 := (sd b hb).1 (hj1 b eb)
          have h3 := hj2 (j - 1) (by omega) (by omega) a ea
          refine ⟨?_, h0⟩
          rcases Int.lt_or_le (sumsTo l0 l1 l2 l0.length).2.1 (l1.getD a 0 * (sumsTo l0 l1 l2 l0.length).1) with h | h
          · have := (sd a ha).2 (by omega); omega
          · exact h
      · -- the greatest q is not below the mean
        have ht := g.top
        have hbt := (mean_between (l0 := l0) (l1 := l1) (l2 := l2) (m := 0) (M := l1.getD t 0) l0.length hn40 hok (fun c hc => ⟨(Z.q c hc).1, top c hc⟩)).2
        have := hno (r.length + 1) (by omega) (by simp) t (toL_top t (p :: r))
        have := (sd t ht).2 hbt
        omega
    obtain ⟨v, hv, hvi⟩ := hidx
    obtain ⟨a, b, ea, eb, ha, hb, hab, hcr⟩ := g.pair i hi1 (by simpa using hi2)
    obtain ⟨hside1, hside2⟩ := hside a b ea eb hab ha hb
    obtain ⟨hL, hrm⟩ := through_rm Z ha hb hab hcr
    have ha1 := Z.h a ha
    have hb1 := Z.h b hb
    have ha2 := Z.q a ha
    have hb2 := Z.q b hb
    have hpos : 0 < qz l1 b - qz l1 a := by omega
    have m1 := mulb (a := qz l0 a) (b := qz l1 b - qz l1 a) (A := 100000) (B := 1000) ⟨by omega, by omega⟩ ⟨by omega, by omega⟩ (by omega)
    have m2 := mulb (a := qz l0 b - qz l0 a) (b := qz l1 a) (A := 200000) (B := 1000) ⟨by omega, by omega⟩ ⟨by omega, by omega⟩ (by omega)
    refine ⟨_, _, _, _, a, b, ⟨hL, lowB_low _ hpos, lowB_low _ hpos, ha, hb, fun z hz => ?_, ?_, ?_, hside1, hside2, .inl hab⟩, ?_⟩
    · obtain ⟨c, hc, e⟩ := hrm z hz
      have hcz := hcr z hz
      have hz1 := Z.h z hz
      have hz2 := Z.q z hz
      have k1 := mulb (a := qz l0 z - qz l0 a) (b := qz l1 b - qz l1 a) (A := 200000) (B := 1000) ⟨by omega, by omega⟩ ⟨by omega, by omega⟩ (by omega)
      have k2 := mulb (a := qz l0 b - qz l0 a) (b := qz l1 z - qz l1 a) (A := 200000) (B := 1000) ⟨by omega, by omega⟩ ⟨by omega, by omega⟩ (by omega)
      have hcb : cross (qz l1) (qz l0) a b z ≤ 400000000 := by unfold cross; omega
      have p1 := Int.mul_nonneg (Int.le_of_lt hpos) hcz
      have p2 : (qz l1 b - qz l1 a) * cross (qz l1) (qz l0) a b z ≤ 1000 * 400000000 := Int.mul_le_mul (by omega) hcb hcz (by omega)
      rw [← e] at p1 p2
      have hnn := nn hc p1
      refine ⟨hnn, ?_⟩
      have := Int.mul_le_mul_of_nonneg_right (show 1 ≤ c by omega) hnn
      omega
    · obtain ⟨c, hc, e⟩ := hrm a ha
      have : cross (qz l1) (qz l0) a b a = 0 := by unfold cross; grind
      rw [this, Int.mul_zero] at e
      rcases Int.mul_eq_zero.1 e with h | h
      · omega
      · exact h
    · obtain ⟨c, hc, e⟩ := hrm b hb
      rw [cross_self, Int.mul_zero] at e
      rcases Int.mul_eq_zero.1 e with h | h
      · omega
      · exact h
    · refine Ev.bind he ?_
      have c1 : ¬ ((toL (t :: p :: r)).length : Int) = 1 := by rw [L]; omega
      simp only [hs, Option.bind_some, c1, if_false]
      refine Ev.bind hv ?_
      rw [hvi, wm hi1 (by omega)]
      have d1 : ((i - 1 : Nat) : Int) < ((toL (t :: p :: r)).length : Int) := by rw [L]; omega
      have d2 : (i : Int) < ((toL (t :: p :: r)).length : Int) := by rw [L]; omega
      simp only [n0, d1, d2, if_true, rdn, ea, eb]
      have a0 : (a : Int) < (l0.length : Int) := by omega
      have a1 : (a : Int) < (l1.length : Int) := by omega
      have b0 : (b : Int) < (l0.length : Int) := by omega
      have b1 : (b : Int) < (l1.length : Int) := by omega
      unfold figure_through.f
      simp only [n0, a0, a1, b0, b1, if_true, rdn]
      change Ev (fun k => (((figure_lowest.f k (wrap64 (wrap64 (qz l0 a * wrap64 (qz l1 b - qz l1 a)) - wrap64 (wrap64 (qz l0 b - qz l0 a) * qz l1 a))) (wrap64 (qz l1 b - qz l1 a))).bind fun bt143 => (figure_lowest.f k (wrap64 (qz l0 b - qz l0 a)) (wrap64 (qz l1 b - qz l1 a))).bind fun bt145 => some (bt143.1, bt143.2, bt145.1, bt145.2))).bind fun bt149 => some (bt149.1, bt149.2.1, bt149.2.2.1, bt149.2.2.2, (a : Int), (b : Int))) _
      rw [w64 (n := qz l1 b - qz l1 a) (by omega) (by omega), w64 (n := qz l0 b - qz l0 a) (by omega) (by omega), w64 (n := qz l0 a * (qz l1 b - qz l1 a)) (by omega) (by omega), w64 (n := (qz l0 b - qz l0 a) * qz l1 a) (by omega) (by omega), w64 (n := qz l0 a * (qz l1 b - qz l1 a) - (qz l0 b - qz l0 a) * qz l1 a) (by omega) (by omega)]
      exact Ev.bind (Ev.bind (lowest_ev (by omega) hpos (by omega)).1 (Ev.bind (lowest_ev (by omega) hpos (by omega)).1 (Ev.now _))) (Ev.now _)
end Go.Proofs.Ytdkahcolfcmmpaa.Pure
set_option linter.unusedVariables false
namespace Go.Proofs.Ytdkahcolfcmmpaa.Pure
open Go.RowKit Go.Proofs.Ytdkahcolfcmmpaa.Pr Go.Proofs.YtdkahcolfcmmpaaW.PrintWords Go.Proofs.YtdkahcolfcmmpaaW.PrintLast Go.Proofs.YtdkahcolfcmmpaaW.PrintMore
def rsum (l0 l1 l2 : List Int) (a0 a1 a2 a3 : Int) : Nat → Int
  | 0 => 0
  | i + 1 => rsum l0 l1 l2 a0 a1 a2 a3 i + l2.getD i 0 * rmN l0 l1 a0 a1 a2 a3 i
theorem rsum_eq {l0 l1 l2 : List Int} (a0 a1 a2 a3 : Int) : ∀ i : Nat, i ≤ 40 → (∀ j, j < i → okZ l0 l1 l2 j = true) →
    rsum l0 l1 l2 a0 a1 a2 a3 i = (a1 * a3) * (sumsTo l0 l1 l2 i).2.2 - a0 * a3 * (sumsTo l0 l1 l2 i).1 - a2 * a1 * (sumsTo l0 l1 l2 i).2.1
  | 0, _, _ => by simp [rsum, sumsTo]
  | i + 1, hi, h => by
    obtain ⟨e1, e2, e3⟩ := sums_all (l0 := l0) (l1 := l1) (l2 := l2) (i := i) (by omega) (fun j hj => h j (by omega))
    rw [rsum, rsum_eq a0 a1 a2 a3 i (by omega) (fun j hj => h j (by omega)), e1, e2, e3]
    unfold rmN
    grind
theorem rsum_bd {l0 l1 l2 : List Int} {a0 a1 a2 a3 B : Int} (hB : 0 ≤ B) : ∀ i : Nat, (∀ j, j < i → okZ l0 l1 l2 j = true) → (∀ j, j < i → 0 ≤ rmN l0 l1 a0 a1 a2 a3 j ∧ rmN l0 l1 a0 a1 a2 a3 j ≤ B) → 0 ≤ rsum l0 l1 l2 a0 a1 a2 a3 i ∧ rsum l0 l1 l2 a0 a1 a2 a3 i ≤ (i : Int) * (1000 * B)
  | 0, _, _ => by simp [rsum]
  | i + 1, h, hr => by
    obtain ⟨a, b⟩ := rsum_bd hB i (fun j hj => h j (by omega)) (fun j hj => hr j (by omega))
    obtain ⟨_, _, ⟨w0, w1⟩⟩ := okZ_iff (h i (by omega))
    obtain ⟨c, d⟩ := hr i (by omega)
    have p0 := Int.mul_nonneg w0 c
    have p1 : l2.getD i 0 * rmN l0 l1 a0 a1 a2 a3 i ≤ 1000 * B := Int.mul_le_mul w1 d c (by omega)
    have e : ((i + 1 : Nat) : Int) * (1000 * B) = (i : Int) * (1000 * B) + 1000 * B := by rw [Int.natCast_add, Int.add_mul]; omega
    rw [rsum, e]
    omega
theorem no_less {l0 l1 l2 : List Int} {r1 r2 r3 r4 : Int} {a b : Nat} (hm : checkV l0 l1 l2 = 0) (R : RefL l0 l1 l2 r1 r2 r3 r4 a b) {a0 a1 a2 a3 : Int} (h : LineOk a0 a1 a2 a3) (hb : ∀ z, z < l0.length → 0 ≤ rmN l0 l1 a0 a1 a2 a3 z) :
    (a1 * a3) * rsum l0 l1 l2 r1 r2 r3 r4 l0.length ≤ (r2 * r4) * rsum l0 l1 l2 a0 a1 a2 a3 l0.length := by
  obtain ⟨⟨hn0, hn40, h1, h2⟩, hok, hz⟩ := checkV_0 hm
  obtain ⟨⟨w0, w1⟩, _⟩ := sums_bd (l0 := l0) (l1 := l1) (l2 := l2) l0.length hn40 hok
  rw [rsum_eq _ _ _ _ _ hn40 hok, rsum_eq _ _ _ _ _ hn40 hok]
  have hw := (whole_bd R.ok).1
  have qa := R.qa
  have qb := R.qb
  have ra := R.ra
  have rb := R.rb
  have sa := Int.mul_nonneg (show 0 ≤ r2 * r4 by omega) (hb a R.ha)
  have sb := Int.mul_nonneg (show 0 ≤ r2 * r4 by omega) (hb b R.hb)
  generalize hW : (sumsTo l0 l1 l2 l0.length).1 = W at *
  generalize hSQ : (sumsTo l0 l1 l2 l0.length).2.1 = SQ at *
  generalize hSH : (sumsTo l0 l1 l2 l0.length).2.2 = SH at *
  have fa : (r2 * r4) * rmN l0 l1 a0 a1 a2 a3 a = (a1 * a3 * (r1 * r4) - r2 * r4 * (a0 * a3)) + (a1 * a3 * (r3 * r2) - r2 * r4 * (a2 * a1)) * l1.getD a 0 + a1 * a3 * rmN l0 l1 r1 r2 r3 r4 a := by unfold rmN; grind
  have fb : (r2 * r4) * rmN l0 l1 a0 a1 a2 a3 b = (a1 * a3 * (r1 * r4) - r2 * r4 * (a0 * a3)) + (a1 * a3 * (r3 * r2) - r2 * r4 * (a2 * a1)) * l1.getD b 0 + a1 * a3 * rmN l0 l1 r1 r2 r3 r4 b := by unfold rmN; grind
  rw [ra, Int.mul_zero, Int.add_zero] at fa
  rw [rb, Int.mul_zero, Int.add_zero] at fb
  rw [fa] at sa
  rw [fb] at sb
  have goal : 0 ≤ W * (a1 * a3 * (r1 * r4) - r2 * r4 * (a0 * a3)) + SQ * (a1 * a3 * (r3 * r2) - r2 * r4 * (a2 * a1)) := by
    generalize (a1 * a3 * (r1 * r4) - r2 * r4 * (a0 * a3)) = F0 at *
    generalize (a1 * a3 * (r3 * r2) - r2 * r4 * (a2 * a1)) = F1 at *
    rcases R.ab with hab | hab
    · refine nn (x := l1.getD b 0 - l1.getD a 0) (by omega) ?_
      have e : (l1.getD b 0 - l1.getD a 0) * (W * F0 + SQ * F1) = (l1.getD b 0 * W - SQ) * (F0 + F1 * l1.getD a 0) + (SQ - l1.getD a 0 * W) * (F0 + F1 * l1.getD b 0) := by grind
      rw [e]
      have p := Int.mul_nonneg (show 0 ≤ l1.getD b 0 * W - SQ by omega) sa
      have q := Int.mul_nonneg (show 0 ≤ SQ - l1.getD a 0 * W by omega) sb
      omega
    · subst hab
      have e : SQ = l1.getD a 0 * W := by omega
      have e2 : W * F0 + SQ * F1 = W * (F0 + F1 * l1.getD a 0) := by rw [e]; grind
      rw [e2]
      exact Int.mul_nonneg w0 sa
  have e3 : r2 * r4 * (a1 * a3 * SH - a0 * a3 * W - a2 * a1 * SQ) - a1 * a3 * (r2 * r4 * SH - r1 * r4 * W - r3 * r2 * SQ) = W * (a1 * a3 * (r1 * r4) - r2 * r4 * (a0 * a3)) + SQ * (a1 * a3 * (r3 * r2) - r2 * r4 * (a2 * a1)) := by grind
  omega
theorem least_loop {l0 l1 l2 : List Int} {r1 r2 r3 r4 : Int} {a b : Nat} (a4 a5 : Int) (hm : checkV l0 l1 l2 = 0) (hn : l0.length < 20) (R : RefL l0 l1 l2 r1 r2 r3 r4 a b) : ∀ (m i : Nat) (x : Int), i + m = l0.length → (m = 0 → x = r2 * r4) →
    Ev (fun k => figure_Least.l0 k (rsum l0 l1 l2 r1 r2 r3 r4 i) x l2 (l2.length : Int) (i : Int) l0 l1 l2 r1 r2 r3 r4 a4 a5) ((lowV (rsum l0 l1 l2 r1 r2 r3 r4 l0.length) (r2 * r4)).1, (lowV (rsum l0 l1 l2 r1 r2 r3 r4 l0.length) (r2 * r4)).2, 0) := by
  obtain ⟨⟨hn0, hn40, h1, h2⟩, hok, hz⟩ := checkV_0 hm
  have hw := whole_bd R.ok
  intro m
  induction m with
  | zero =>
    intro i x hi hx
    obtain rfl : i = l0.length := by omega
    obtain rfl := hx rfl
    have hlt : ¬ (l0.length : Int) < (l2.length : Int) := by omega
    obtain ⟨s0, s1⟩ := rsum_bd (l0 := l0) (l1 := l1) (l2 := l2) (a0 := r1) (a1 := r2) (a2 := r3) (a3 := r4) (B := 400000000000) (by omega) l0.length hok (fun j hj => R.abv j hj)
    refine Ev.s ?_
    simp only [figure_Least.l0, hlt, if_false]
    exact Ev.bind (lowest_ev (by omega) (by omega) (by omega)).1 (Ev.now _)
  | succ m ih =>
    intro i x hi hx
    have hlt : (i : Int) < (l2.length : Int) := by omega
    obtain ⟨e1, e2, e3⟩ := rem_bd' R.ok (hok i (by omega))
    have hf := rem_f l0 l1 l2 r1 r2 r3 r4 a4 a5 (i : Int) (n0 i) (by omega) (by omega)
    rw [e1, e3] at hf
    obtain ⟨s0, s1⟩ := rsum_bd (l0 := l0) (l1 := l1) (l2 := l2) (a0 := r1) (a1 := r2) (a2 := r3) (a3 := r4) (B := 400000000000) (by omega) i (fun j hj => hok j (by omega)) (fun j hj => R.abv j (by omega))
    obtain ⟨c, d⟩ := R.abv i (by omega)
    obtain ⟨_, _, ⟨w0, w1⟩⟩ := okZ_iff (hok i (by omega))
    have p0 := Int.mul_nonneg w0 c
    have p1 : l2.getD i 0 * rmN l0 l1 r1 r2 r3 r4 i ≤ 1000 * 400000000000 := Int.mul_le_mul w1 d c (by omega)
    refine Ev.s ?_
    simp only [figure_Least.l0, hlt, n0, if_true, hf, Option.bind_some, rdn, wi (show i ≤ 100000 by omega)]
    rw [w64 (n := l2.getD i 0 * rmN l0 l1 r1 r2 r3 r4 i) (by omega) (by omega), w64 (by omega) (by omega)]
    exact ih (i + 1) (r2 * r4) (by omega) (fun _ => rfl)
theorem Least_ev {l0 l1 l2 : List Int} (hm : checkV l0 l1 l2 = 0) (hn : l0.length < 20) : ∃ r1 r2 r3 r4 : Int, ∃ a b : Nat, RefL l0 l1 l2 r1 r2 r3 r4 a b ∧ Ev (fun k => figure_Least.f k l0 l1 l2) ((lowV (rsum l0 l1 l2 r1 r2 r3 r4 l0.length) (r2 * r4)).1, (lowV (rsum l0 l1 l2 r1 r2 r3 r4 l0.length) (r2 * r4)).2, 0) := by
  obtain ⟨r1, r2, r3, r4, a, b, R, he⟩ := reference_ev hm hn
  have hn0 := (checkV_0 hm).1.1
  refine ⟨r1, r2, r3, r4, a, b, R, ?_⟩
  unfold figure_Least.f
  refine Ev.bind (CheckMap_ev l0 l1 l2) ?_
  simp only [hm, if_true]
  refine Ev.bind he ?_
  exact least_loop (a : Int) (b : Int) hm hn R l0.length 0 1 (by omega) (fun h => by omega)
theorem floor_eq {x d : Int} (hx : 0 ≤ x) (hx' : x ≤ 4000000000000000000) (hd : 0 < d) : speculumbase_Floor.f x d = some (x / d) := by
  unfold speculumbase_Floor.f
  have h1 : 0 ≤ Int.tmod x d := Int.tmod_nonneg d hx
  have h2 : 0 ≤ x / d := Int.ediv_nonneg hx (by omega)
  have h3 : x / d ≤ x := Int.ediv_le_self _ hx
  rw [if_neg (show ¬ d = 0 by omega), if_neg (show ¬ Int.tmod x d < 0 by omega), Int.tdiv_eq_ediv_of_nonneg hx, w64 (by omega) (by omega)]
theorem ends_true {S den x y : Int} (hS : 0 ≤ S ∧ S ≤ 1000000000000000000) (hd : 1 ≤ den ∧ den ≤ 1000000) (hx : 0 ≤ x ∧ x ≤ 1000000000000000000) (hy : 1 ≤ y ∧ y ≤ 1000000) (h : den * x ≤ y * S) :
    ¬ S / den < x / y ∧ (S / den = x / y → wrap64 (wrap64 (S - wrap64 (S / den * den)) * y) ≥ wrap64 (wrap64 (x - wrap64 (x / y * y)) * den)) := by
  have a1 := Int.ediv_mul_le S (show den ≠ 0 by omega)
  have a2 : S < (S / den + 1) * den := Int.lt_ediv_add_one_mul_self S (by omega)
  have b1 := Int.ediv_mul_le x (show y ≠ 0 by omega)
  have b2 : x < (x / y + 1) * y := Int.lt_ediv_add_one_mul_self x (by omega)
  have q0 : 0 ≤ S / den := Int.ediv_nonneg hS.1 (by omega)
  have q1 : 0 ≤ x / y := Int.ediv_nonneg hx.1 (by omega)
  have r0 := Int.mul_nonneg q0 (show 0 ≤ den by omega)
  have r1 := Int.mul_nonneg q1 (show 0 ≤ y by omega)
  rw [Int.add_mul, Int.one_mul] at a2 b2
  refine ⟨fun hlt => ?_, fun he => ?_⟩
  · have m1 : (S / den + 1) * den ≤ (x / y) * den := Int.mul_le_mul_of_nonneg_right (by omega) (by omega)
    rw [Int.add_mul, Int.one_mul] at m1
    have m2 : y * S < y * (x / y * den) := Int.mul_lt_mul_of_pos_left (by omega) (by omega)
    have m3 : den * (x / y * y) ≤ den * x := Int.mul_le_mul_of_nonneg_left b1 (by omega)
    have e : y * (x / y * den) = den * (x / y * y) := by grind
    omega
  · rw [w64 (n := S / den * den) (by omega) (by omega), w64 (n := x / y * y) (by omega) (by omega), w64 (n := S - S / den * den) (by omega) (by omega), w64 (n := x - x / y * y) (by omega) (by omega)]
    have c0 : 0 ≤ S - S / den * den ∧ S - S / den * den ≤ 1000000 := by omega
    have d0 : 0 ≤ x - x / y * y ∧ x - x / y * y ≤ 1000000 := by omega
    have c1 := Int.mul_nonneg c0.1 (show 0 ≤ y by omega)
    have c2 : (S - S / den * den) * y ≤ 1000000 * 1000000 := Int.mul_le_mul c0.2 hy.2 (by omega) (by omega)
    have d1 := Int.mul_nonneg d0.1 (show 0 ≤ den by omega)
    have d2 : (x - x / y * y) * den ≤ 1000000 * 1000000 := Int.mul_le_mul d0.2 hd.2 (by omega) (by omega)
    rw [w64 (by omega) (by omega), w64 (by omega) (by omega)]
    rw [he]
    have e1 : (S - x / y * den) * y = y * S - x / y * den * y := by grind
    have e2 : (x - x / y * y) * den = den * x - x / y * den * y := by grind
    rw [e1, e2]
    omega
theorem rm_small {l0 l1 l2 : List Int} {i : Nat} {a0 a1 a2 a3 : Int} (h : LineOk a0 a1 a2 a3) (hz : okZ l0 l1 l2 i = true) (h0 : -10000000 ≤ a0 ∧ a0 ≤ 10000000) (h2 : -10000000 ≤ a2 ∧ a2 ≤ 10000000) : rmN l0 l1 a0 a1 a2 a3 i ≤ 10200000000000 := by
  obtain ⟨⟨x0, x1⟩, ⟨y0, y1⟩, _⟩ := okZ_iff hz
  obtain ⟨w0, w1⟩ := whole_bd h
  obtain ⟨⟨p0, p1⟩, ⟨q0, q1⟩, ⟨r0, r1⟩, ⟨s0, s1⟩⟩ := h
  have m1 := mul_abs (a := l0.getD i 0) (b := a1 * a3) (A := 100000) (B := 1000000) ⟨by omega, by omega⟩ ⟨by omega, by omega⟩ (by omega)
  have m2 := mul_abs (a := a0) (b := a3) (A := 10000000) (B := 1000) ⟨by omega, by omega⟩ ⟨by omega, by omega⟩ (by omega)
  have m3 := mul_abs (a := a2) (b := l1.getD i 0) (A := 10000000) (B := 1000) ⟨by omega, by omega⟩ ⟨by omega, by omega⟩ (by omega)
  have m4 := mul_abs (a := a2 * l1.getD i 0) (b := a1) (A := 10000000000) (B := 1000) ⟨by omega, by omega⟩ ⟨by omega, by omega⟩ (by omega)
  unfold rmN
  omega
theorem addend {N den w : Int} (hd : 0 < den ∧ den ≤ 1000000) (hN : 0 ≤ N ∧ N ≤ 10200000000000) (hw : 0 ≤ w ∧ w ≤ 1000) : wrap64 (wrap64 (w * (lowV N den).1) * wrap64 (Int.tdiv den (lowV N den).2)) = w * N := by
  obtain ⟨g, hg, e1, e2, _⟩ := low_facts N hd.1
  have hp := (low_sign N hd.1).2.2
  have hab := low_abs N hd.1
  have ht : Int.tdiv den (lowV N den).2 = g := by
    have : Int.tdiv (g * (lowV N den).2) (lowV N den).2 = g := Int.mul_tdiv_cancel _ (by omega)
    rwa [← e2] at this
  have h0 : 0 ≤ (lowV N den).1 := by
    rcases Int.lt_or_le (lowV N den).1 0 with h | h
    · have := (low_sign N hd.1).1.1 h; omega
    · exact h
  have hgd : g ≤ den := by
    have : g * 1 ≤ g * (lowV N den).2 := Int.mul_le_mul_of_nonneg_left (by omega) (by omega)
    omega
  have p0 := Int.mul_nonneg hw.1 h0
  have p1 : w * (lowV N den).1 ≤ 1000 * 10200000000000 := Int.mul_le_mul hw.2 (by omega) h0 (by omega)
  have q0 := Int.mul_nonneg hw.1 hN.1
  have q1 : w * N ≤ 1000 * 10200000000000 := Int.mul_le_mul hw.2 hN.2 hN.1 (by omega)
  rw [ht, w64 (n := w * (lowV N den).1) (by omega) (by omega), w64 (n := g) (by omega) (by omega)]
  have e : w * (lowV N den).1 * g = w * N := by
    have : w * (lowV N den).1 * g = w * (g * (lowV N den).1) := by grind
    rw [this, ← e1]
  rw [e]
  exact w64 (by omega) (by omega)
theorem law_loop {l0 l1 l2 : List Int} {r1 r2 r3 r4 : Int} {a b : Nat} (hm : checkV l0 l1 l2 = 0) (hn : l0.length < 20) (R : RefL l0 l1 l2 r1 r2 r3 r4 a b) {a0 a1 a2 a3 : Int} (a4 a5 : Int) (h : LineOk a0 a1 a2 a3) (h0 : -10000000 ≤ a0 ∧ a0 ≤ 10000000) (h2' : -10000000 ≤ a2 ∧ a2 ≤ 10000000) : ∀ (m i : Nat), i + m = l0.length → (∀ j, j < i → 0 ≤ rmN l0 l1 a0 a1 a2 a3 j) →
    Ev (fun k => speculumlaw06_FigureLeast.l0 k (rmS l0 l1 a0 a1 a2 a3 l0.length) (a1 * a3) (rsum l0 l1 l2 a0 a1 a2 a3 i) (i : Int) l0 l1 l2 a0 a1 a2 a3 a4 a5 (lowV (rsum l0 l1 l2 r1 r2 r3 r4 l0.length) (r2 * r4)).1 (lowV (rsum l0 l1 l2 r1 r2 r3 r4 l0.length) (r2 * r4)).2) true := by
  obtain ⟨⟨hn0, hn40, h1, h2⟩, hok, hz⟩ := checkV_0 hm
  have hw := whole_bd h
  have hw' := whole_bd R.ok
  intro m
  induction m with
  | zero =>
    intro i hi hpos
    obtain rfl : i = l0.length := by omega
    have hlt : ¬ (l0.length : Int) < ((rmS l0 l1 a0 a1 a2 a3 l0.length).length : Int) := by rw [rmS_len]; omega
    obtain ⟨s0, s1⟩ := rsum_bd (l0 := l0) (l1 := l1) (l2 := l2) (a0 := r1) (a1 := r2) (a2 := r3) (a3 := r4) (B := 400000000000) (by omega) l0.length hok (fun j hj => R.abv j hj)
    obtain ⟨t0, t1⟩ := rsum_bd (l0 := l0) (l1 := l1) (l2 := l2) (a0 := a0) (a1 := a1) (a2 := a2) (a3 := a3) (B := 10200000000000) (by omega) l0.length hok (fun j hj => ⟨hpos j hj, rm_small h (hok j hj) h0 h2'⟩)
    have main := no_less hm R h hpos
    obtain ⟨g, hg, e1, e2, _⟩ := low_facts (rsum l0 l1 l2 r1 r2 r3 r4 l0.length) (show 0 < r2 * r4 by omega)
    have hp := (low_sign (rsum l0 l1 l2 r1 r2 r3 r4 l0.length) (show 0 < r2 * r4 by omega))
    have hab := low_abs (rsum l0 l1 l2 r1 r2 r3 r4 l0.length) (show 0 < r2 * r4 by omega)
    generalize (lowV (rsum l0 l1 l2 r1 r2 r3 r4 l0.length) (r2 * r4)).1 = x at *
    generalize (lowV (rsum l0 l1 l2 r1 r2 r3 r4 l0.length) (r2 * r4)).2 = y at *
    generalize rsum l0 l1 l2 r1 r2 r3 r4 l0.length = SR at *
    generalize rsum l0 l1 l2 a0 a1 a2 a3 l0.length = S at *
    have hx0 : 0 ≤ x := by
      rcases Int.lt_or_le x 0 with hh | hh
      · have := hp.1.1 hh; omega
      · exact hh
    have key : a1 * a3 * x ≤ y * S := by
      have e : g * (y * S - a1 * a3 * x) = r2 * r4 * S - a1 * a3 * SR := by
        have e3 : g * (y * S - a1 * a3 * x) = (g * y) * S - a1 * a3 * (g * x) := by grind
        rw [e3, ← e1, ← e2]
      have := nn hg (show 0 ≤ g * (y * S - a1 * a3 * x) by rw [e]; omega)
      omega
    obtain ⟨k1, k2⟩ := ends_true (S := S) (den := a1 * a3) (x := x) (y := y) ⟨t0, by omega⟩ hw ⟨hx0, by omega⟩ ⟨by omega, by omega⟩ key
    refine Ev.s ?_
    simp only [speculumlaw06_FigureLeast.l0, hlt, if_false, floor_eq (x := S) (d := a1 * a3) t0 (by omega) (by omega), floor_eq (x := x) (d := y) hx0 (by omega) (by omega), Option.bind_some]
    by_cases hgt : S / (a1 * a3) > x / y
    · simp only [hgt, if_true]; exact Ev.now _
    · have he : S / (a1 * a3) = x / y := by omega
      have k2 := k2 he
      have hn' : ¬ x / y > x / y := by omega
      rw [he] at k2
      simp only [he, hn', if_false, if_true, k2, decide_true]
      exact Ev.now _
  | succ m ih =>
    intro i hi hpos
    have hlt : (i : Int) < ((rmS l0 l1 a0 a1 a2 a3 l0.length).length : Int) := by rw [rmS_len]; omega
    have hr : rd_T28 (rmS l0 l1 a0 a1 a2 a3 l0.length) (i : Int) = ⟨(rmL l0 l1 a0 a1 a2 a3 i).1, (rmL l0 l1 a0 a1 a2 a3 i).2⟩ := rmS_at l0 l1 a0 a1 a2 a3 _ l0.length i (by omega)
    have hsg := low_sign (rmN l0 l1 a0 a1 a2 a3 i) (show 0 < a1 * a3 by omega)
    refine Ev.s ?_
    simp only [speculumlaw06_FigureLeast.l0, hlt, n0, if_true, hr]
    refine Ev.bind (refRemoval_ev a4 a5 h (hok i (by omega)) (by omega) (by omega)) ?_
    simp only [beq_self_eq_true, Bool.not_true, Bool.or_self, Bool.false_eq_true, if_false]
    by_cases hneg : (rmL l0 l1 a0 a1 a2 a3 i).1 < 0
    · simp only [hneg, if_true]; exact Ev.now _
    · have hN : 0 ≤ rmN l0 l1 a0 a1 a2 a3 i := by
        rcases Int.lt_or_le (rmN l0 l1 a0 a1 a2 a3 i) 0 with hh | hh
        · exact absurd (hsg.1.2 hh) hneg
        · exact hh
      have hl2 : (i : Int) < (l2.length : Int) := by omega
      have hz1 : ¬ (rmL l0 l1 a0 a1 a2 a3 i).2 = 0 := by have := hsg.2.2; unfold rmL; omega
      obtain ⟨_, _, hwi⟩ := okZ_iff (hok i (by omega))
      have had := addend (N := rmN l0 l1 a0 a1 a2 a3 i) (den := a1 * a3) (w := l2.getD i 0) ⟨by omega, by omega⟩ ⟨hN, rm_small h (hok i (by omega)) h0 h2'⟩ hwi
      change wrap64 (wrap64 (l2.getD i 0 * (rmL l0 l1 a0 a1 a2 a3 i).1) * wrap64 (Int.tdiv (a1 * a3) (rmL l0 l1 a0 a1 a2 a3 i).2)) = _ at had
      have hpos' : ∀ j, j < i + 1 → 0 ≤ rmN l0 l1 a0 a1 a2 a3 j := fun j hj => by
        rcases Nat.lt_or_ge j i with hh | hh
        · exact hpos j hh
        · obtain rfl : j = i := by omega
          exact hN
      obtain ⟨t0, t1⟩ := rsum_bd (l0 := l0) (l1 := l1) (l2 := l2) (a0 := a0) (a1 := a1) (a2 := a2) (a3 := a3) (B := 10200000000000) (by omega) (i + 1) (fun j hj => hok j (by omega)) (fun j hj => ⟨hpos' j hj, rm_small h (hok j (by omega)) h0 h2'⟩)
      rw [rsum] at t0 t1
      simp only [hneg, if_false, hl2, if_true, hz1, rdn, had, wi (show i ≤ 100000 by omega)]
      rw [w64 (by omega) (by omega)]
      exact ih (i + 1) (by omega) hpos'
theorem least_j0 {l0 l1 l2 : List Int} {a0 a1 a2 a3 : Int} (a4 a5 : Int) (x : Bool) (j0 : I64 a0) (j1 : I64 a1) (j2 : I64 a2) (j3 : I64 a3) (hx : x = false → checkV l0 l1 l2 = 0 ∧ clV a0 a1 a2 a3 = 0 ∧ (-10000000 ≤ a0 ∧ a0 ≤ 10000000) ∧ (-10000000 ≤ a2 ∧ a2 ≤ 10000000) ∧ l0.length < 20) : Ev (fun k => speculumlaw06_FigureLeast.j0 k x l0 l1 l2 a0 a1 a2 a3 a4 a5) true := by
  refine Ev.s ?_
  cases x with
  | true => simp only [speculumlaw06_FigureLeast.j0, if_true]; exact Ev.now _
  | false =>
    obtain ⟨hm, hc, h0, h2', hn⟩ := hx rfl
    obtain ⟨⟨hn0, hn40, h1, h2⟩, hok, hz⟩ := checkV_0 hm
    have h := clV_0 hc
    have hw := whole_bd h
    obtain ⟨r1, r2, r3, r4, a, b, R, he⟩ := Least_ev hm hn
    have hw' := whole_bd R.ok
    obtain ⟨s0, s1⟩ := rsum_bd (l0 := l0) (l1 := l1) (l2 := l2) (a0 := r1) (a1 := r2) (a2 := r3) (a3 := r4) (B := 400000000000) (by omega) l0.length hok (fun j hj => R.abv j hj)
    have hp := low_sign (rsum l0 l1 l2 r1 r2 r3 r4 l0.length) (show 0 < r2 * r4 by omega)
    have hab := low_abs (rsum l0 l1 l2 r1 r2 r3 r4 l0.length) (show 0 < r2 * r4 by omega)
    simp only [speculumlaw06_FigureLeast.j0, Bool.false_eq_true, if_false, mapped_eq (show l0.length ≤ 1000 by omega) (show l1.length ≤ 1000 by omega) (show l2.length ≤ 1000 by omega), Option.bind_some]
    have hr := Removal_ev (l0 := l0) (l1 := l1) (l2 := l2) a4 a5 j0 j1 j2 j3
    rw [if_pos hm, if_pos hc] at hr
    refine Ev.bind hr (Ev.bind he ?_)
    have c1 : ¬ (lowV (rsum l0 l1 l2 r1 r2 r3 r4 l0.length) (r2 * r4)).2 < 1 := by omega
    have c2 : ¬ (lowV (rsum l0 l1 l2 r1 r2 r3 r4 l0.length) (r2 * r4)).2 > 40000000 := by omega
    have hx0 : 0 ≤ (lowV (rsum l0 l1 l2 r1 r2 r3 r4 l0.length) (r2 * r4)).1 := by
      rcases Int.lt_or_le (lowV (rsum l0 l1 l2 r1 r2 r3 r4 l0.length) (r2 * r4)).1 0 with hh | hh
      · have := hp.1.1 hh; omega
      · exact hh
    have c3 : inB (lowV (rsum l0 l1 l2 r1 r2 r3 r4 l0.length) (r2 * r4)).1 0 1000000000000000000 = true := inB_iff.2 ⟨hx0, by omega⟩
    simp only [if_true, rmS_len, c1, c2, if_false, Within_eq, Option.bind_some, c3, Bool.not_true]
    refine Ev.s ?_
    simp only [speculumlaw06_FigureLeast.j1, Bool.false_eq_true, if_false]
    rw [w64 (n := a1 * a3) (by omega) (by omega)]
    exact law_loop hm hn R a4 a5 h h0 h2' l0.length 0 (by omega) (fun j hj => absurd hj (Nat.not_lt_zero j))
theorem FigureLeast (l0 l1 l2 : List Int) (a0 a1 a2 a3 a4 a5 : Int) (h0 : (Lit.int .i64 a0).wf = true) (h1 : (Lit.int .i64 a1).wf = true) (h2 : (Lit.int .i64 a2).wf = true) (h3 : (Lit.int .i64 a3).wf = true) : ∃ k, speculumlaw06_FigureLeast.f k l0 l1 l2 a0 a1 a2 a3 a4 a5 = some true := by
  have i64 : ∀ {a : Int}, (Lit.int .i64 a).wf = true → I64 a := fun {a} h => by
    simp only [Lit.wf, Bool.and_eq_true, decide_eq_true_eq] at h
    have e1 : IntKind.i64.min = -9223372036854775808 := by decide
    have e2 : IntKind.i64.max = 9223372036854775807 := by decide
    rw [e1, e2] at h
    exact ⟨h.1, by omega⟩
  have j0 := i64 h0
  have j1 := i64 h1
  have j2 := i64 h2
  have j3 := i64 h3
  have any : ∀ x, (x = false → checkV l0 l1 l2 = 0 ∧ clV a0 a1 a2 a3 = 0 ∧ (-10000000 ≤ a0 ∧ a0 ≤ 10000000) ∧ (-10000000 ≤ a2 ∧ a2 ≤ 10000000) ∧ l0.length < 20) → Ev (fun k => speculumlaw06_FigureLeast.j0 k x l0 l1 l2 a0 a1 a2 a3 a4 a5) true := fun x hx => least_j0 a4 a5 x j0 j1 j2 j3 hx
  refine Ev.rounds (g := fun k => speculumlaw06_FigureLeast.f k l0 l1 l2 a0 a1 a2 a3 a4 a5) ?_
  unfold speculumlaw06_FigureLeast.f speculumlaw06_Few.f
  refine Ev.bind awake_ev ?_
  simp only [if_true, Option.bind_some]
  cases hf : fewB l0.length && fewB l1.length && fewB l2.length with
  | false => simp only [Bool.false_eq_true, if_false]; exact any true (fun h => by cases h)
  | true =>
    have hb : l0.length ≤ 10 ∨ 40 < l0.length := by
      simp only [Bool.and_eq_true] at hf
      have := few_true hf.1.1
      omega
    simp only [if_true]
    refine Ev.bind (refCheckMap_ev l0 l1 l2) ?_
    by_cases hm : checkV l0 l1 l2 = 0
    · have hn40 := (checkV_0 hm).1.2.1
      simp only [hm, if_true]
      refine Ev.bind (CheckLine_ev a4 a5 j0 j1 j2 j3) ?_
      by_cases hc : clV a0 a1 a2 a3 = 0
      · simp only [hc, if_true, Within_eq, Option.bind_some]
        cases b0 : inB a0 (-10000000) 10000000 with
        | false => simp only [Bool.false_eq_true, if_false]; exact any true (fun h => by cases h)
        | true =>
          simp only [if_true]
          exact any _ (fun h => ⟨hm, hc, inB_iff.1 b0, inB_iff.1 (by simpa using h), by omega⟩)
      · simp only [hc, if_false]; exact any true (fun h => by cases h)
    · simp only [hm, if_false]; exact any true (fun h => by cases h)
end Go.Proofs.Ytdkahcolfcmmpaa.Pure
namespace Go.Proofs.Ytdkahcolfcmmpaa.figureLeast
open Go.ChangeShapes Go.WideShapes Go.ChangeAt Go.RowKit Go.Proofs.Ytdkahcolfcmmpaa.RowB
open Go.ChangeMaps (open_string shut_string)
set_option linter.unusedVariables false
set_option maxRecDepth 100000 in
theorem lifted (os : Os) (started : os.Started) (H : Type) (enc : TypeId × Value → H) :
    ReturnsInHanded {} Try.checked os 5 .any (Rows.figureLeastSpec.pre6 enc Try.prog Try.f5 Rows.figureLeastRow.domain false) (Rows.figureLeastSpec.post enc Try.prog Try.f5 false true false false) := by
  refine returnsInHanded_of_change_sized (C := Try.checked) own started (by kernel_rfl) Try.func5
    (ChangeSpec.witness6 (enc := enc) (C := Try.checked) false ⟨#[], #[.agg #[.slice none 0 0, .slice none 0 0, .slice none 0 0], .agg #[.int .i64 0, .int .i64 0, .int .i64 0, .int .i64 0, .int .i64 0, .int .i64 0]], []⟩ 8 (by kernel_rfl) (by kernel_rfl) (by kernel_rfl) (by kernel_rfl)) ?_
  intro W base args ds gs before hval0 hW hcnd hsz0 _
  have hval : ∀ (j : Nat) t v, Try.f5.params[j]? = some t → args[j]? = some v → Value.okWide Try.prog W .any base t v := hval0
  have hW' := hW
  obtain ⟨p, q, hA0, hV, rfl, hfz, hnd⟩ := hW
  have hA : DataW.TrodAll enc Try.prog W 0 (fun _ => true) true Try.f5.params.toList args.toList ds p := hA0
  rw [Try.params5] at hA hval
  obtain ⟨v0, vs0, d0, ds0, p0, q0, hargs, rfl, rfl, h0, r0⟩ := trodAll_cons hA
  obtain ⟨v1, vs1, d1, ds1, p1, q1, rfl, rfl, rfl, h1, r1⟩ := trodAll_cons r0
  obtain ⟨rfl, rfl, rfl⟩ := trodAll_nil r1
  obtain rfl : args = #[v0, v1] := by cases args; simp_all
  obtain ⟨rfl, rfl⟩ := trodVars_none hV
  have k0 := h0
  have lt0 : ∀ x ∈ p0, x.block < W.heap.size := by obtain ⟨m, hm⟩ := k0; exact DataW.trod_lt m _ _ _ hm
  have k1 := h1
  have lt1 : ∀ x ∈ p1, x.block < W.heap.size := by obtain ⟨m, hm⟩ := k1; exact DataW.trod_lt m _ _ _ hm
  obtain ⟨u0_0, u0_1, u0_2, y0_0, y0_1, y0_2, n0, rfl, hd0, hp0, t0_0, t0_1, t0_2⟩ := Go.Joins.open_agg3 Try.underlying24 (by kernel_rfl) (by kernel_rfl) (hval 0 24 v0 rfl rfl) h0
  obtain ⟨a0_0, c0_0, l0_0, e0_0, hr0_0, hc0_0, hw0_0⟩ := isInts t0_0
  obtain rfl : u0_0 = _ := by simpa using e0_0
  obtain ⟨a0_1, c0_1, l0_1, e0_1, hr0_1, hc0_1, hw0_1⟩ := isInts t0_1
  obtain rfl : u0_1 = _ := by simpa using e0_1
  obtain ⟨a0_2, c0_2, l0_2, e0_2, hr0_2, hc0_2, hw0_2⟩ := isInts t0_2
  obtain rfl : u0_2 = _ := by simpa using e0_2
  obtain ⟨z1_0, z1_1, z1_2, z1_3, z1_4, z1_5, rfl, hw1_0, hw1_1, hw1_2, hw1_3, hw1_4, hw1_5⟩ := isLine (hval 1 50 v1 rfl rfl) h1
  clear hA0 hval0
  obtain ⟨k, h⟩ := Pure.FigureLeast l0_0 l0_1 l0_2 z1_0 z1_1 z1_2 z1_3 z1_4 z1_5 hw1_0 hw1_1 hw1_2 hw1_3
  refine (Pr.speculumlaw06_FigureLeast.calls k _ _ l0_0 _ _ l0_1 _ _ l0_2 z1_0 z1_1 z1_2 z1_3 z1_4 z1_5 true W hr0_0 hc0_0 hr0_1 hc0_1 hr0_2 hc0_2 rfl h).mono fun e W' ⟨he, bel⟩ => ?_
  subst he
  exact ⟨_, rfl, _, _, _, [], _, [], hW', trodAll_mk1 (shut_bool Try.underlying4 _), (trodAll_cons_mk (Below.trod laidOut (by kernel_rfl) (of_decide_eq_true (by kernel_rfl)) k0 bel lt0) (trodAll_cons_mk (Below.trod laidOut (by kernel_rfl) (of_decide_eq_true (by kernel_rfl)) k1 bel lt1) trodAll_mk0)), rfl, bel.frame _, fun h => by cases h⟩
theorem over : Rows.figureLeastRow.holds Try.pinned (OpenSpec.ofChange Rows.figureLeastSpec) :=
  OpenClaim.holds_of_wide 5 Try.f5 rfl rfl rfl rfl rfl rfl rfl ⟨rfl, rfl, rfl, rfl, rfl⟩ rfl rfl rfl rfl rfl (by kernel_rfl) Try.func5 (by kernel_rfl)
    (of_decide_eq_true (by kernel_rfl)) (by unfold Func.isWrapper; first | (rw [if_pos (by decide +kernel)]; kernel_rfl) | (rw [if_neg (by decide +kernel)]; exact ⟨rfl, rfl⟩))
    (fun os started H enc _ => lifted os started H enc)
theorem proved : Rows.FigureLeastSaid := over
end Go.Proofs.Ytdkahcolfcmmpaa.figureLeast
namespace Go.Proofs.Ytdkahcolfcmmpaa
theorem figureLeast_holds : Rows.FigureLeastSaid := figureLeast.proved
end Go.Proofs.Ytdkahcolfcmmpaa
