import Derived.Test.YtdkahcolfcmmpaaFq1
import Derived.Test.YtdkahcolfcmmpaaFq2
namespace Go.Proofs.Ytdkahcolfcmmpaa.Pr
open Go.RowKit Go.Proofs.YtdkahcolfcmmpaaW.PrintWords Go.Proofs.YtdkahcolfcmmpaaW.PrintLast Go.Proofs.YtdkahcolfcmmpaaW.PrintMore
attribute [local go_sem] max2_int min2_int max_two min_two max_three min_three max_four min_four
set_option linter.unusedVariables false
set_option linter.unusedSimpArgs false
mutual
def figure_hull.l0 : Nat → List Int → Int → Int → List Int → List Int → List Int → Option (List Int)
 | 0, _, _, _, _, _, _ => none
 | k + 1, x3, x13, x14, x123000, x123001, x123002 => if x14 < x13 then (if 0 ≤ x14 then (if x14 < (x3.length : Int) then (figure_hull.l0 k (x3.set (x14 : Int).toNat x14) x13 (wrap64 (x14 + 1)) x123000 x123001 x123002) else (none)) else (none)) else ((slices_SortStableFunc_int_int__figure_hull_1.f (E := ⟨⟨x123000, x123001⟩⟩) k x3).bind fun t127 => (figure_hull.l1 k ([] : List Int) t127 (x3.length : Int) 0 x123000 x123001 x123002))
def figure_hull.l1 : Nat → List Int → List Int → Int → Int → List Int → List Int → List Int → Option (List Int)
 | 0, _, _, _, _, _, _, _ => none
 | k + 1, x5, x25, x26, x27, x123000, x123001, x123002 => if x27 < x26 then (if 0 ≤ x27 then (if x27 < (x25.length : Int) then (if (x5.length : Int) > 0 then (if 0 ≤ (wrap64 ((x5.length : Int) - 1)) then (if (wrap64 ((x5.length : Int) - 1)) < (x5.length : Int) then (if 0 ≤ (rd x5 (wrap64 ((x5.length : Int) - 1))) then (if (rd x5 (wrap64 ((x5.length : Int) - 1))) < (x123001.length : Int) then (if 0 ≤ (rd x25 x27) then (if (rd x25 x27) < (x123001.length : Int) then (figure_hull.j2 k x5 (rd x25 x27) x25 x26 x27 ((rd x123001 (rd x5 (wrap64 ((x5.length : Int) - 1)))) == (rd x123001 (rd x25 x27))) x123000 x123001 x123002) else (none)) else (none)) else (none)) else (none)) else (none)) else (none)) else (figure_hull.j2 k x5 (rd x25 x27) x25 x26 x27 false x123000 x123001 x123002)) else (none)) else (none)) else (some x5)
def figure_hull.j2 : Nat → List Int → Int → List Int → Int → Int → Bool → List Int → List Int → List Int → Option (List Int)
 | 0, _, _, _, _, _, _, _, _, _ => none
 | k + 1, x5, x7, x25, x26, x27, x51, x123000, x123001, x123002 => if x51 = true then (figure_hull.l1 k x5 x25 x26 (wrap64 (x27 + 1)) x123000 x123001 x123002) else (figure_hull.l2 k x5 x7 x25 x26 x27 x123000 x123001 x123002)
def figure_hull.l2 : Nat → List Int → Int → List Int → Int → Int → List Int → List Int → List Int → Option (List Int)
 | 0, _, _, _, _, _, _, _, _ => none
 | k + 1, x5, x7, x25, x26, x27, x123000, x123001, x123002 => if (x5.length : Int) > 1 then (if 0 ≤ (wrap64 ((x5.length : Int) - 2)) then (if (wrap64 ((x5.length : Int) - 2)) < (x5.length : Int) then (if 0 ≤ (wrap64 ((x5.length : Int) - 1)) then (if (wrap64 ((x5.length : Int) - 1)) < (x5.length : Int) then ((figure_under.f x123000 x123001 x123002 (rd x5 (wrap64 ((x5.length : Int) - 2))) (rd x5 (wrap64 ((x5.length : Int) - 1))) x7).bind fun t134 => (if t134 = true then (if x5.length < 17592186044416 then (figure_hull.l1 k (x5 ++ [x7]) x25 x26 (wrap64 (x27 + 1)) x123000 x123001 x123002) else (none)) else (if (wrap64 ((x5.length : Int) - 1)) ≤ (x5.length : Int) then (figure_hull.l2 k (x5.take ((wrap64 ((x5.length : Int) - 1)) : Int).toNat) x7 x25 x26 x27 x123000 x123001 x123002) else (none)))) else (none)) else (none)) else (none)) else (none)) else (if x5.length < 17592186044416 then (figure_hull.l1 k (x5 ++ [x7]) x25 x26 (wrap64 (x27 + 1)) x123000 x123001 x123002) else (none))
end
def figure_hull.f (k : Nat) (l0_0 : List Int) (l0_1 : List Int) (l0_2 : List Int) : Option (List Int) := if 0 ≤ (l0_1.length : Int) then (if ((l0_1.length : Int) : Int).toNat ≤ 35184372088832 then ((some (List.replicate ((l0_1.length : Int) : Int).toNat 0 : List Int)).bind fun y123 => (figure_hull.l0 k y123 (y123.length : Int) 0 l0_0 l0_1 l0_2)) else (none)) else (none)
theorem figure_hull.mono_l : ∀ k, (∀ y0 y1 y2 y3 y4 y5, LeO (figure_hull.l0 k y0 y1 y2 y3 y4 y5) (figure_hull.l0 (k + 1) y0 y1 y2 y3 y4 y5)) ∧ (∀ y0 y1 y2 y3 y4 y5 y6, LeO (figure_hull.l1 k y0 y1 y2 y3 y4 y5 y6) (figure_hull.l1 (k + 1) y0 y1 y2 y3 y4 y5 y6)) ∧ (∀ y0 y1 y2 y3 y4 y5 y6 y7 y8, LeO (figure_hull.j2 k y0 y1 y2 y3 y4 y5 y6 y7 y8) (figure_hull.j2 (k + 1) y0 y1 y2 y3 y4 y5 y6 y7 y8)) ∧ (∀ y0 y1 y2 y3 y4 y5 y6 y7, LeO (figure_hull.l2 k y0 y1 y2 y3 y4 y5 y6 y7) (figure_hull.l2 (k + 1) y0 y1 y2 y3 y4 y5 y6 y7))
 | 0 => ⟨fun _ _ _ _ _ _ r h => by simp [figure_hull.l0] at h, fun _ _ _ _ _ _ _ r h => by simp [figure_hull.l1] at h, fun _ _ _ _ _ _ _ _ _ r h => by simp [figure_hull.j2] at h, fun _ _ _ _ _ _ _ _ r h => by simp [figure_hull.l2] at h⟩
 | k + 1 => by
  obtain ⟨ih0, ih1, ih2, ih3⟩ := figure_hull.mono_l k
  refine ⟨?_, ?_, ?_, ?_⟩
  ·intro y0 y1 y2 y3 y4 y5
   unfold figure_hull.l0
   repeat' first
   | (with_reducible exact ih0 _ _ _ _ _ _)
   | (with_reducible exact ih1 _ _ _ _ _ _ _)
   | (with_reducible exact ih2 _ _ _ _ _ _ _ _ _)
   | (with_reducible exact ih3 _ _ _ _ _ _ _ _)
   | (with_reducible exact slices_SortStableFunc_int_int__figure_hull_1.mono (E := _) _ _)
   | (with_reducible exact LeO.refl _)
   | (with_reducible exact LeO.none _)
   | (with_reducible refine LeO.ite ?_ ?_)
   | (with_reducible refine LeO.bind ?_ (fun _ => ?_))
   | exact ih0 _ _ _ _ _ _
   | exact ih1 _ _ _ _ _ _ _
   | exact ih2 _ _ _ _ _ _ _ _ _
   | exact ih3 _ _ _ _ _ _ _ _
   | exact slices_SortStableFunc_int_int__figure_hull_1.mono (E := _) _ _
   | exact LeO.none _
   | refine LeO.ite ?_ ?_
   | refine LeO.bind ?_ (fun _ => ?_)
  ·intro y0 y1 y2 y3 y4 y5 y6
   unfold figure_hull.l1
   repeat' first
   | (with_reducible exact ih0 _ _ _ _ _ _)
   | (with_reducible exact ih1 _ _ _ _ _ _ _)
   | (with_reducible exact ih2 _ _ _ _ _ _ _ _ _)
   | (with_reducible exact ih3 _ _ _ _ _ _ _ _)
   | (with_reducible exact slices_SortStableFunc_int_int__figure_hull_1.mono (E := _) _ _)
   | (with_reducible exact LeO.refl _)
   | (with_reducible exact LeO.none _)
   | (with_reducible refine LeO.ite ?_ ?_)
   | (with_reducible refine LeO.bind ?_ (fun _ => ?_))
   | exact ih0 _ _ _ _ _ _
   | exact ih1 _ _ _ _ _ _ _
   | exact ih2 _ _ _ _ _ _ _ _ _
   | exact ih3 _ _ _ _ _ _ _ _
   | exact slices_SortStableFunc_int_int__figure_hull_1.mono (E := _) _ _
   | exact LeO.none _
   | refine LeO.ite ?_ ?_
   | refine LeO.bind ?_ (fun _ => ?_)
  ·intro y0 y1 y2 y3 y4 y5 y6 y7 y8
   unfold figure_hull.j2
   repeat' first
   | (with_reducible exact ih0 _ _ _ _ _ _)
   | (with_reducible exact ih1 _ _ _ _ _ _ _)
   | (with_reducible exact ih2 _ _ _ _ _ _ _ _ _)
   | (with_reducible exact ih3 _ _ _ _ _ _ _ _)
   | (with_reducible exact slices_SortStableFunc_int_int__figure_hull_1.mono (E := _) _ _)
   | (with_reducible exact LeO.refl _)
   | (with_reducible exact LeO.none _)
   | (with_reducible refine LeO.ite ?_ ?_)
   | (with_reducible refine LeO.bind ?_ (fun _ => ?_))
   | exact ih0 _ _ _ _ _ _
   | exact ih1 _ _ _ _ _ _ _
   | exact ih2 _ _ _ _ _ _ _ _ _
   | exact ih3 _ _ _ _ _ _ _ _
   | exact slices_SortStableFunc_int_int__figure_hull_1.mono (E := _) _ _
   | exact LeO.none _
   | refine LeO.ite ?_ ?_
   | refine LeO.bind ?_ (fun _ => ?_)
  ·intro y0 y1 y2 y3 y4 y5 y6 y7
   unfold figure_hull.l2
   repeat' first
   | (with_reducible exact ih0 _ _ _ _ _ _)
   | (with_reducible exact ih1 _ _ _ _ _ _ _)
   | (with_reducible exact ih2 _ _ _ _ _ _ _ _ _)
   | (with_reducible exact ih3 _ _ _ _ _ _ _ _)
   | (with_reducible exact slices_SortStableFunc_int_int__figure_hull_1.mono (E := _) _ _)
   | (with_reducible exact LeO.refl _)
   | (with_reducible exact LeO.none _)
   | (with_reducible refine LeO.ite ?_ ?_)
   | (with_reducible refine LeO.bind ?_ (fun _ => ?_))
   | exact ih0 _ _ _ _ _ _
   | exact ih1 _ _ _ _ _ _ _
   | exact ih2 _ _ _ _ _ _ _ _ _
   | exact ih3 _ _ _ _ _ _ _ _
   | exact slices_SortStableFunc_int_int__figure_hull_1.mono (E := _) _ _
   | exact LeO.none _
   | refine LeO.ite ?_ ?_
   | refine LeO.bind ?_ (fun _ => ?_)
theorem figure_hull.mono : ∀ a0 a1 a2 k, LeO (figure_hull.f k a0 a1 a2) (figure_hull.f (k + 1) a0 a1 a2) := by
 intro a0 a1 a2 k
 obtain ⟨ih0, ih1, ih2, ih3⟩ := figure_hull.mono_l k
 unfold figure_hull.f
 repeat' first
   | (with_reducible exact ih0 _ _ _ _ _ _)
   | (with_reducible exact ih1 _ _ _ _ _ _ _)
   | (with_reducible exact ih2 _ _ _ _ _ _ _ _ _)
   | (with_reducible exact ih3 _ _ _ _ _ _ _ _)
   | (with_reducible exact slices_SortStableFunc_int_int__figure_hull_1.mono (E := _) _ _)
   | (with_reducible exact LeO.refl _)
   | (with_reducible exact LeO.none _)
   | (with_reducible refine LeO.ite ?_ ?_)
   | (with_reducible refine LeO.bind ?_ (fun _ => ?_))
   | exact ih0 _ _ _ _ _ _
   | exact ih1 _ _ _ _ _ _ _
   | exact ih2 _ _ _ _ _ _ _ _ _
   | exact ih3 _ _ _ _ _ _ _ _
   | exact slices_SortStableFunc_int_int__figure_hull_1.mono (E := _) _ _
   | exact LeO.none _
   | refine LeO.ite ?_ ?_
   | refine LeO.bind ?_ (fun _ => ?_)
def figure_hull.T12 : Bool × List (List Nat × List Nat) := (true, [([], []), ([0], [0]), ([1], [1]), ([2], [2]), ([3], [3]), ([4, 3], [3, 4]), ([3], [3]), ([3], [3]), ([7, 3], [3, 7]), ([8, 3], [3, 8]), ([6, 9, 3], [3, 6, 9]), ([10, 3], [3, 10]), ([5, 11, 3], [3, 5, 11]), ([12, 3], [3, 12]), ([3], [3]), ([14, 3], [3, 14]), ([3], [3]), ([15, 16, 3], [3, 15, 16]), ([17, 3], [3, 17]), ([13, 18, 3], [3, 13, 18]), ([3, 19], [3, 19])])
def figure_hull.B12 : List Nat := [0, 1, 3, 7, 15, 31, 15, 15, 143, 399, 975, 1999, 4095, 8191, 15, 16399, 15, 114703, 245775, 524287, 1048575]
theorem figure_hull.tab12 : rtab .any (opsOf Try.f107 12) = figure_hull.T12 := by kernel_rfl
theorem figure_hull.bits12 : waitsOk figure_hull.T12.2 figure_hull.B12 = true := by kernel_rfl
def figure_hull.T13 : Bool × List (List Nat × List Nat) := (true, [([], []), ([0], [0]), ([1], [1]), ([2], [2]), ([3], [3]), ([3], [3]), ([3], [3]), ([6, 3], [3, 6]), ([7, 3], [3, 7]), ([5, 8, 3], [3, 5, 8]), ([9, 3], [3, 9]), ([3], [3]), ([3], [3]), ([12, 3], [3, 12]), ([13, 3], [3, 13]), ([11, 14, 3], [3, 11, 14]), ([15, 3], [3, 15]), ([3], [3]), ([4, 10, 16, 17, 3, 3], [3, 4, 10, 16, 17]), ([18, 3], [3, 18]), ([3, 19], [3, 19])])
def figure_hull.B13 : List Nat := [0, 1, 3, 7, 15, 15, 15, 79, 207, 495, 1007, 15, 15, 4111, 12303, 30735, 63503, 15, 262143, 524287, 1048575]
theorem figure_hull.tab13 : rtab .any (opsOf Try.f107 13) = figure_hull.T13 := by kernel_rfl
theorem figure_hull.bits13 : waitsOk figure_hull.T13.2 figure_hull.B13 = true := by kernel_rfl
set_option maxHeartbeats 8000000 in
set_option maxRecDepth 100000 in
theorem figure_hull.calls (k : Nat) (A0_0 : Option Addr) (c0_0 : Nat) (l0_0 : List Int) (A0_1 : Option Addr) (c0_1 : Nat) (l0_1 : List Int) (A0_2 : Option Addr) (c0_2 : Nat) (l0_2 : List Int) (r : List Int) (w : World) (hr0_0 : Kd.C (Kd.int .i64) w A0_0 l0_0.length l0_0) (hc0_0 : l0_0.length ≤ c0_0) (hr0_1 : Kd.C (Kd.int .i64) w A0_1 l0_1.length l0_1) (hc0_1 : l0_1.length ≤ c0_1) (hr0_2 : Kd.C (Kd.int .i64) w A0_2 l0_2.length l0_2) (hc0_2 : l0_2.length ≤ c0_2) (h : figure_hull.f k l0_0 l0_1 l0_2 = some r) :
  Calls Try.prog 107 #[.agg #[.slice A0_0 l0_0.length c0_0, .slice A0_1 l0_1.length c0_1, .slice A0_2 l0_2.length c0_2]] w fun e w' => ∃ v0_ : Value, e = .returned (v0_) ∧ Kd.R (Kd.int .i64) 3 w' w.heap.size (fun _ => True) v0_ r ∧ Below w.heap.size w w' := by
 have hu24 := Try.underlying24
 have HR0_0 := Aside0.mk hr0_0
 have HC0_0 := Aside0.mk hc0_0
 clear hr0_0 hc0_0
 have HR0_1 := Aside0.mk hr0_1
 have HC0_1 := Aside0.mk hc0_1
 clear hr0_1 hc0_1
 have HR0_2 := Aside0.mk hr0_2
 have HC0_2 := Aside0.mk hc0_2
 clear hr0_2 hc0_2
 have HB := Aside0.mk (Below.refl w.heap.size w)
 have H : (if 0 ≤ (l0_1.length : Int) then (if ((l0_1.length : Int) : Int).toNat ≤ 35184372088832 then ((some (List.replicate ((l0_1.length : Int) : Int).toNat 0 : List Int)).bind fun y123 => (figure_hull.l0 k y123 (y123.length : Int) 0 l0_0 l0_1 l0_2)) else (none)) else (none)) = some r := h
 clear h
 by_cases c2 : 0 ≤ (l0_1.length : Int)
 ·rw [if_pos c2] at H
  have c2b0 := eq_true c2
  have c2b1 : decide (0 ≤ (l0_1.length : Int)) = true := decide_eq_true c2
  (try simp only [hl25_2] at c2b1)
  (try simp only [hl3_1] at c2b1)
  clear c2
  by_cases c3 : ((l0_1.length : Int) : Int).toNat ≤ 35184372088832
  ·rw [if_pos c3] at H
   have c3b0 := eq_true c3
   have c3b1 : decide (((l0_1.length : Int) : Int).toNat ≤ 35184372088832) = true := decide_eq_true c3
   clear c3
   obtain ⟨y123, hy123⟩ : ∃ y_ : List Int, y_ = (List.replicate ((l0_1.length : Int) : Int).toNat 0) := ⟨_, rfl⟩
   replace H : (figure_hull.l0 k y123 (y123.length : Int) 0 l0_0 l0_1 l0_2) = some r := by first | (rw [hy123]; with_reducible exact H) | (have H2_ := (Option.bind_some _ _).symm.trans H; rw [hy123]; with_reducible exact H2_) | (have H2_ := (Option.bind_some _ _).symm.trans H; with_reducible exact H2_) | with_reducible exact H | (rw [hy123]; exact H) | exact H
   have Ny123 := Aside0.mk hy123
   clear hy123
   have H' := Aside0.mk H
   clear H
   go_enter Try.func107, Try.ntmps107
   go_wp2_with (first | ((with_reducible refine gate_dst (N := 1) rfl ?_); (try (refine gate_guard (by rfl) ?_; dsimp only)); refine box_event ?hg (N := 1) ?hd (cs := #[.slice A0_0 l0_0.length c0_0, .slice A0_1 l0_1.length c0_1, .slice A0_2 l0_2.length c0_2]) (t := 24) ?hr ?_; (case hd => rfl); (case hg => rfl); (case hr => exact gr_); intro gb122 hg w4 hbox hb; have n0_ := Aside0.mk (below_step (hb_ HB) hb); have n1_ := Aside0.mk (hbox); have n2_ := Aside0.mk ((hz_ HB hg)); have n3_ := Aside0.mk ((hz_ HB hg)); clear HB; have HB := n0_; have BK122 := n1_; have GW122 := n2_; have GE122 := n3_; clear n0_ n1_ n2_ n3_; clear hb hbox hg; have hcz5_0 : w4.cell? ⟨gb122, 0, none⟩ = some (.slice A0_0 l0_0.length c0_0) := (blk_cell BK122.out 0).trans rfl; have hcz5_1 : w4.cell? ⟨gb122, 1, none⟩ = some (.slice A0_1 l0_1.length c0_1) := (blk_cell BK122.out 1).trans rfl; have hcz5_2 : w4.cell? ⟨gb122, 2, none⟩ = some (.slice A0_2 l0_2.length c0_2) := (blk_cell BK122.out 2).trans rfl; have hfz5_0 := blk_frozen BK122.out 0; have hfz5_1 := blk_frozen BK122.out 1; have hfz5_2 := blk_frozen BK122.out 2) | ((with_reducible refine gate_dst (N := 11) rfl ?_); (try (refine gate_guard (by rfl) ?_; dsimp only)); refine Kd.R_make (Kd.int .i64) _ 3 rfl (N := 11) rfl 22 _ _ rfl (l0_1.length : Int) rfl rfl Try.underlying22 (.int .i64 0) 8 info3 rfl di_ (by omega) 0 (ok := fun _ => True) (okp := fun _ => True) rfl (fun _ hk => hk) trivial (of_decide_eq_true as_) (Nat.le_trans (Nat.mul_le_mul_right _ (of_decide_eq_true as_ : (l0_1.length : Int).toNat ≤ 35184372088832)) (by omega)) (Below.refl _ _) (Nat.le_refl _) ?_; intro v124 w6 ho7 hb hg_ hnew_; clear hg_ hnew_; (first | rw [← Ny123.out] at ho7 | (simp only [Int.reduceToNat] at ho7; rw [← Ny123.out] at ho7)); have n0_ := Aside0.mk (Kd.R_lower ho7 (below_size (hb_ HB))); have n1_ := Aside0.mk (bb_ BK122 hb); have n2_ := Aside0.mk (below_step (hb_ HB) hb); clear BK122; clear HB; have HO125 := n0_; have BK122 := n1_; have HB := n2_; clear n0_ n1_ n2_; clear hb ho7; obtain ⟨Ao8, co8, eo8⟩ := Kd.R_slice HO125.out; subst eo8))
   go_loopg [14] k (fun kq v14 w' => ∃ (x3_1 : List Int) (x14_1 : Int), v14 = .int .i64 x14_1 ∧ Aside0 (figure_hull.l0 kq x3_1 (y123.length : Int) x14_1 l0_0 l0_1 l0_2 = some r) ∧ Aside0 (kq ≤ k) ∧ Aside0 (Kd.R (Kd.int .i64) 3 w' w.heap.size (fun _ => True) (.slice Ao8 y123.length co8) x3_1) ∧ Aside0 (w'.heap[gb122]? = some (.cells #[(.slice A0_0 l0_0.length c0_0), (.slice A0_1 l0_1.length c0_1), (.slice A0_2 l0_2.length c0_2)] 24 (0, 0))) ∧ Aside0 (Below w.heap.size w w'))
   case atStart => exact ⟨(y123), (0), rs_, H', ⟨Nat.le_refl _⟩, ⟨by (with_reducible repeat (first | apply Kd.R_alloc | apply Kd.R_drewN | apply Kd.R_drew)); exact HO125.out⟩, ⟨by (with_reducible repeat (first | refine blk_drewN ?_ _ | refine blk_drew ?_ | refine blk_alloc ?_ _)); exact BK122.out⟩, ⟨hb_ HB⟩⟩
   case round =>
    clear H'
    try clear c1
    try clear c2
    try clear c2b0
    try clear c2b1
    try clear p2
    try clear c3
    try clear c3b0
    try clear c3b1
    try clear hcz5_0
    try clear hcz5_1
    try clear hcz5_2
    try clear hfz5_0
    try clear hfz5_1
    try clear hfz5_2
    obtain ⟨x3_1, x14_1, rfl, HA, HK1, HO_3, BK122, HB⟩ := hrel
    have hl3_1 := (Kd.R_reads' HO_3.out).1
    rw [hl3_1] at HO_3
    (try simp only [hl3_1])
    (try simp only [hl3_1] at BK122)
    cases gk with
    | zero => exact absurd HA.out (by simp [figure_hull.l0])
    | succ k1 =>
     have H := HA.out
     clear HA
     simp only [figure_hull.l0] at H
     by_cases c9 : x14_1 < (y123.length : Int)
     ·rw [if_pos c9] at H
      have c9b0 : decide (x14_1 < (y123.length : Int)) = true := decide_eq_true c9
      (try simp only [hl25_2] at c9b0)
      (try simp only [hl3_1] at c9b0)
      clear c9
      by_cases c10 : 0 ≤ x14_1
      ·rw [if_pos c10] at H
       have c10b0 : decide (0 ≤ x14_1) = true := decide_eq_true c10
       clear c10
       by_cases c11 : x14_1 < (x3_1.length : Int)
       ·rw [if_pos c11] at H
        have c11b0 : decide (x14_1 < (x3_1.length : Int)) = true := decide_eq_true c11
        (try simp only [hl25_2] at c11b0)
        (try simp only [hl3_1] at c11b0)
        clear c11
        obtain ⟨y126, hy126⟩ : ∃ y_ : List Int, y_ = (x3_1.set (x14_1 : Int).toNat x14_1) := ⟨_, rfl⟩
        replace H : (figure_hull.l0 k1 y126 (y123.length : Int) (wrap64 (x14_1 + 1)) l0_0 l0_1 l0_2) = some r := by first | (rw [hy126]; with_reducible exact H) | (have H2_ := (Option.bind_some _ _).symm.trans H; rw [hy126]; with_reducible exact H2_) | (have H2_ := (Option.bind_some _ _).symm.trans H; with_reducible exact H2_) | with_reducible exact H | (rw [hy126]; exact H) | exact H
        have Ny126 := Aside0.mk hy126
        clear hy126
        have H' := Aside0.mk H
        clear H
        have p12 : 0 ≤ (x14_1 : Int) := of_decide_eq_true as_
        have q12 : (x14_1 : Int) < ((x3_1.length : Int) : Int) := of_decide_eq_true as_
        obtain ⟨go12, co12, eo12, gb12, gl12, cl12, HG12⟩ := Kd.R_form HO_3.out (by omega)
        (first | cases eo12 | (injection eo12 with ea_ en_ ec_; (first | subst ea_ | (injection ea_ with ea_; subst ea_)); subst ec_; clear en_))
        have GB12 := Aside0.mk gb12
        have GG12 := Aside0.mk HG12
        clear gb12 gl12 HG12
        obtain ⟨hx12_0, hf12_0⟩ := Kd.R_celln 0 HO_3.out (x14_1 : Int) p12 q12
        replace p12 := eq_true p12
        replace q12 := eq_true q12
        have HP13 := Kd.R_putg HO_3.out (x14_1 : Int) x14_1
        go_wp2_with (first | ((with_reducible refine gate_store (t := 3) (p := 20) rfl ?_); refine store_event (t := 3) (p := 20) (v := ?vo_w14) (w1 := (wr.setCell ⟨go12, (x14_1 : Int).toNat, none⟩ (.int .i64 x14_1))) ?hg ?ho ?hn ?hr ?_; (case ho => rfl); (case hg => rfl); (case hn => rfl); (case hr => exact gr_); intro w14 hw; have hg : wr.grownBy w14 (some go12) := (by rw [hw]; exact HP13.2); have hp_ : Kd.R (Kd.int .i64) 3 w14 w.heap.size (fun _ => True) (.slice (some ⟨go12, 0, none⟩) x3_1.length co8) y126 := (by rw [hw, Ny126.out]; exact HP13.1); clear HP13; have n0_ := Aside0.mk (hp_); have n1_ := Aside0.mk (blk_grown (g := gb122) (o := .cells #[.slice A0_0 l0_0.length c0_0, .slice A0_1 l0_1.length c0_1, .slice A0_2 l0_2.length c0_2] 24 (0, 0)) (bk_ BK122) hg (Kd.R_ne HO_3.out BK122.out di_)); have n2_ := Aside0.mk ((by rw [hw]; exact below_set (HB.out) GB12.out : Below w.heap.size w w14)); clear HO_3; clear BK122; clear HB; have HO_3 := n0_; have BK122 := n1_; have HB := n2_; clear n0_ n1_ n2_; clear hg hw hp_))
        (try simp only [← hl3_1])
        go_roundg k1
        case measure => have := HK1.out; omega
        case rel => exact ⟨(y126), (wrap64 (x14_1 + 1)), rs_, H', ⟨by have := HK1.out; omega⟩, ⟨by (try simp only [hl3_1]); (with_reducible repeat (first | apply Kd.R_alloc | apply Kd.R_drewN | apply Kd.R_drew)); exact HO_3.out⟩, ⟨by (try simp only [hl3_1]); (with_reducible repeat (first | refine blk_drewN ?_ _ | refine blk_drew ?_ | refine blk_alloc ?_ _)); exact BK122.out⟩, ⟨hb_ HB⟩⟩
       ·rw [if_neg c11] at H
        exact absurd H (by simp)
      ·rw [if_neg c10] at H
       exact absurd H (by simp)
     ·rw [if_neg c9] at H
      have c9b0 : decide (x14_1 < (y123.length : Int)) = false := decide_eq_false c9
      (try simp only [hl25_2] at c9b0)
      (try simp only [hl3_1] at c9b0)
      clear c9
      replace H := Option.bind_eq_some_iff.mp H
      obtain ⟨t127, A150, H⟩ := H
      replace H : (figure_hull.l1 k1 ([] : List Int) t127 (x3_1.length : Int) 0 l0_0 l0_1 l0_2) = some r := H
      have A15 := Aside0.mk A150
      clear A150
      have H' := Aside0.mk H
      clear H
      go_wp2_with (first | ((with_reducible refine gate_callee (f := 121) rfl ?_); refine goesL_ (some 24) rfl rfl Try.func121 (by kernel_rfl) rfl #[.slice Ao8 x3_1.length co8, .func (.func 122) #[] #[.pointer (some ⟨gb122, 0, none⟩)]] rfl ma_ ?_; (with_reducible refine (slices_SortStableFunc_int_int__figure_hull_1.calls (E := ⟨⟨l0_0, l0_1⟩⟩) k1 (fun k_ => some k_ = (.slice Ao8 x3_1.length co8 : Value).ownBlock) (.slice Ao8 x3_1.length co8) x3_1  t127 gb122 w _ ?sideE ?side1 ?side2 A15.out).mono ?_); (case sideE => exact @HEnv.mk ⟨⟨l0_0, l0_1⟩⟩ _ _ _ _ (fun hs_ => Kd.R_ne HO_3.out BK122.out di_ hs_) ⟨_, _, _, _, _, _, _, (bk_ BK122), ⟨HR0_0.out, HC0_0.out⟩, ⟨HR0_1.out, HC0_1.out⟩, ⟨HR0_2.out, HC0_2.out⟩⟩); (case side1 => repeat (first | (with_reducible first | exact HB.out | apply below_alloc | apply pw_below_drewN | apply below_drew1 | refine below_set ?_ GE122.out) | exact HB.out)); (case side2 => exact Kd.R_tight rfl HO_3.out); rintro e w16 ⟨rfl, hy0, hb, hkp⟩; refine ⟨_, rfl, ?_⟩; have n0_ := Aside0.mk (Kd.R_reok rfl hy0 (fun k_ e_ => HO_3.out.1 k_ e_)); have n1_ := Aside0.mk (blk_kept (bk_ BK122) hkp (fun hs_ => (fun e_ => (Kd.R_ne HO_3.out BK122.out di_) e_) hs_)); have n2_ := Aside0.mk (hb); clear HO_3; clear BK122; clear HB; have HO_3 := n0_; have BK122 := n1_; have HB := n2_; clear n0_ n1_ n2_; (try clear hb); (try clear hkp); (try clear hy0)))
      go_loopg [5, 27] k1 (fun kq v5 v27 w' => ∃ (x5_2 : List Int) (x27_2 : Int), v27 = .int .i64 x27_2 ∧ Aside0 (figure_hull.l1 kq x5_2 t127 (x3_1.length : Int) x27_2 l0_0 l0_1 l0_2 = some r) ∧ Aside0 (kq ≤ k1) ∧ Aside0 (Kd.R (Kd.int .i64) 3 w' w.heap.size (fun k_ => some k_ ≠ ((.slice Ao8 x3_1.length co8) : Value).ownBlock) v5 x5_2) ∧ Aside0 (Kd.R (Kd.int .i64) 3 w' w.heap.size (fun k_ => some k_ ≠ (v5 : Value).ownBlock) (.slice Ao8 x3_1.length co8) t127) ∧ Aside0 (w'.heap[gb122]? = some (.cells #[(.slice A0_0 l0_0.length c0_0), (.slice A0_1 l0_1.length c0_1), (.slice A0_2 l0_2.length c0_2)] 24 (0, 0))) ∧ Aside0 (Below w.heap.size w w'))
      case atStart => exact ⟨(([] : List Int)), (0), rs_, H', ⟨Nat.le_refl _⟩, ⟨by (try simp only [hl3_1]); first | exact Kd.R_nil _ _ _ _ _ | exact Kd.N_nil _ _ _ _ _ | exact Kd.V_nil _ _ _ _ _ | exact Kd.Q_nil _ _ _ _ _ | exact Kd.S_nil _ _ _ _ _⟩, ⟨by (try simp only [hl3_1]); (with_reducible repeat (first | apply Kd.R_alloc | apply Kd.R_drewN | apply Kd.R_drew)); exact Kd.R_mono HO_3.out (fun _ hk => (by simp [Value.ownBlock]))⟩, ⟨by (try simp only [hl3_1]); (with_reducible repeat (first | refine blk_drewN ?_ _ | refine blk_drew ?_ | refine blk_alloc ?_ _)); exact BK122.out⟩, ⟨hb_ HB⟩⟩
      case round =>
       clear H'
       try clear c1
       try clear p1
       try clear q1
       try clear hx1
       try clear hf1
       try clear c2
       try clear c2b0
       try clear c2b1
       try clear p2
       try clear c3
       try clear c3b0
       try clear c3b1
       try clear p6
       try clear c9
       try clear c9b0
       try clear c10
       try clear c10b0
       try clear c11
       try clear c11b0
       try clear c12
       try clear p12
       try clear q12
       try clear hx12
       try clear hf12
       try clear hcz5_0
       try clear hcz5_1
       try clear hcz5_2
       try clear hfz5_0
       try clear hfz5_1
       try clear hfz5_2
       try clear hx12_0
       try clear p12
       try clear p2
       try clear q12
       obtain ⟨x5_2, x27_2, rfl, HA, HK2, HO_5, HO_25, BK122, HB⟩ := hrel
       have hl25_2 := (Kd.R_reads' HO_25.out).1
       rw [hl25_2] at HO_25
       (try simp only [hl25_2])
       (try simp only [hl25_2] at BK122)
       (try simp only [hl25_2] at HO_5)
       cases gk with
       | zero => exact absurd HA.out (by simp [figure_hull.l1])
       | succ k2 =>
        have H := HA.out
        clear HA
        simp only [figure_hull.l1] at H
        by_cases c17 : x27_2 < (x3_1.length : Int)
        ·rw [if_pos c17] at H
         have c17b0 : decide (x27_2 < (x3_1.length : Int)) = true := decide_eq_true c17
         (try simp only [hl25_2] at c17b0)
         (try simp only [hl3_1] at c17b0)
         clear c17
         by_cases c18 : 0 ≤ x27_2
         ·rw [if_pos c18] at H
          have c18b0 : decide (0 ≤ x27_2) = true := decide_eq_true c18
          clear c18
          by_cases c19 : x27_2 < (t127.length : Int)
          ·rw [if_pos c19] at H
           have c19b0 : decide (x27_2 < (t127.length : Int)) = true := decide_eq_true c19
           (try simp only [hl25_2] at c19b0)
           (try simp only [hl3_1] at c19b0)
           clear c19
           have HC20 := Aside0.mk H
           clear H
           have p128 : 0 ≤ (x27_2 : Int) := of_decide_eq_true as_
           have q128 : x27_2 < (t127.length : Int) := of_decide_eq_true as_
           obtain ⟨ad128, e128, hx128_0⟩ := Kd.at_int (Kd.R_reads' HO_25.out).2.2 x27_2 p128 q128
           cases e128
           replace p128 := eq_true p128
           replace q128 := eq_true q128
           go_upto_region 12 with (fail)
           go_cut [51] (fun v51 wc => ∃ (kq : Nat) (x51_19 : Bool), v51 = .bool x51_19 ∧ Aside0 (figure_hull.j2 kq x5_2 (rd t127 x27_2) t127 (x3_1.length : Int) x27_2 x51_19 l0_0 l0_1 l0_2 = some r) ∧ Aside0 (kq ≤ k2) ∧ Aside0 (Kd.R (Kd.int .i64) 3 wc w.heap.size (fun k_ => some k_ ≠ ((.slice (some ad128) t127.length co8) : Value).ownBlock) u5 x5_2) ∧ Aside0 (Kd.R (Kd.int .i64) 3 wc w.heap.size (fun k_ => some k_ ≠ (u5 : Value).ownBlock) (.slice (some ad128) t127.length co8) t127) ∧ Aside0 (wc.heap[gb122]? = some (.cells #[(.slice A0_0 l0_0.length c0_0), (.slice A0_1 l0_1.length c0_1), (.slice A0_2 l0_2.length c0_2)] 24 (0, 0))) ∧ Aside0 (Below w.heap.size w wc))
           case first =>
            have H := HC20.out
            clear HC20
            by_cases c21 : (x5_2.length : Int) > 0
            ·rw [if_pos c21] at H
             have c21b0 : decide (0 < (x5_2.length : Int)) = true := decide_eq_true c21
             (try simp only [hl25_2] at c21b0)
             (try simp only [hl3_1] at c21b0)
             have c21b1 : decide (0 < x5_2.length) = true := decide_eq_true (by omega)
             clear c21
             (first | rw [c21b0] | (simp only [i64_w, i32_w]; rw [c21b0]) | skip)
             obtain ⟨ji22, hji22⟩ : ∃ j_ : Int, (wrap64 ((x5_2.length : Int) - 1)) = j_ := ⟨_, rfl⟩
             replace H : (if 0 ≤ (ji22) then (if (ji22) < (x5_2.length : Int) then (if 0 ≤ (rd x5_2 (ji22)) then (if (rd x5_2 (ji22)) < (l0_1.length : Int) then (if 0 ≤ (rd t127 x27_2) then (if (rd t127 x27_2) < (l0_1.length : Int) then (figure_hull.j2 k2 x5_2 (rd t127 x27_2) t127 (x3_1.length : Int) x27_2 ((rd l0_1 (rd x5_2 (ji22))) == (rd l0_1 (rd t127 x27_2))) l0_0 l0_1 l0_2) else (none)) else (none)) else (none)) else (none)) else (none)) else (none)) = some r := by first | (rw [hji22] at H; exact H) | (simp only [hji22] at H ⊢; exact H)
             have hji22w : (IntKind.i64.wrap ((x5_2.length : Int) - 1)) = ji22 := (i64_w _).trans hji22
             by_cases c23 : 0 ≤ (ji22)
             ·rw [if_pos c23] at H
              have c23b0 : decide (0 ≤ (ji22)) = true := decide_eq_true c23
              clear c23
              by_cases c24 : (ji22) < (x5_2.length : Int)
              ·rw [if_pos c24] at H
               have c24b0 : decide ((ji22) < (x5_2.length : Int)) = true := decide_eq_true c24
               (try simp only [hl25_2] at c24b0)
               (try simp only [hl3_1] at c24b0)
               clear c24
               by_cases c25 : 0 ≤ (rd x5_2 (ji22))
               ·rw [if_pos c25] at H
                have c25b0 : decide (0 ≤ (rd x5_2 (ji22))) = true := decide_eq_true c25
                clear c25
                by_cases c26 : (rd x5_2 (ji22)) < (l0_1.length : Int)
                ·rw [if_pos c26] at H
                 have c26b0 : decide ((rd x5_2 (ji22)) < (l0_1.length : Int)) = true := decide_eq_true c26
                 (try simp only [hl25_2] at c26b0)
                 (try simp only [hl3_1] at c26b0)
                 clear c26
                 by_cases c27 : 0 ≤ (rd t127 x27_2)
                 ·rw [if_pos c27] at H
                  have c27b0 : decide (0 ≤ (rd t127 x27_2)) = true := decide_eq_true c27
                  clear c27
                  by_cases c28 : (rd t127 x27_2) < (l0_1.length : Int)
                  ·rw [if_pos c28] at H
                   have c28b0 : decide ((rd t127 x27_2) < (l0_1.length : Int)) = true := decide_eq_true c28
                   (try simp only [hl25_2] at c28b0)
                   (try simp only [hl3_1] at c28b0)
                   clear c28
                   have H' := Aside0.mk H
                   clear H
                   try go_wp2
                   have n0_ := Aside0.mk (Kd.R_drew HO_5.out)
                   have n1_ := Aside0.mk (Kd.R_drew HO_25.out)
                   have n2_ := Aside0.mk (blk_drew BK122.out)
                   have n3_ := Aside0.mk (below_drew1 HB.out)
                   clear HO_5
                   clear HO_25
                   clear BK122
                   clear HB
                   have HO_5 := n0_
                   have HO_25 := n1_
                   have BK122 := n2_
                   have HB := n3_
                   clear n0_ n1_ n2_ n3_
                   obtain ⟨Ao30, co30, eo30⟩ := Kd.R_slice HO_5.out
                   (first | subst eo30 | (injection eo30 with f1_ f2_ f3_; have f4_ := f1_.symm; have f5_ := f3_.symm; clear f1_ f2_ f3_; subst f4_; subst f5_))
                   have p129 : 0 ≤ ((ji22) : Int) := of_decide_eq_true as_
                   have q129 : (ji22) < (x5_2.length : Int) := of_decide_eq_true as_
                   obtain ⟨ad129, e129, hx129_0⟩ := Kd.at_int (Kd.R_reads' HO_5.out).2.2 (ji22) p129 q129
                   cases e129
                   replace p129 := eq_true p129
                   replace q129 := eq_true q129
                   have p130 : 0 ≤ ((rd x5_2 (ji22)) : Int) := of_decide_eq_true as_
                   have q130 : (rd x5_2 (ji22)) < (l0_1.length : Int) := of_decide_eq_true as_
                   obtain ⟨ad130, e130, hx130_0⟩ := Kd.at_int HR0_1.out (rd x5_2 (ji22)) p130 q130
                   have hw130_0 := hx130_0
                   cases e130
                   replace hx130_0 := (HB.out.cell (World.block_lt_of_cell? w _ hx130_0)).trans hx130_0
                   replace p130 := eq_true p130
                   replace q130 := eq_true q130
                   have p131 : 0 ≤ ((rd t127 x27_2) : Int) := of_decide_eq_true as_
                   have q131 : (rd t127 x27_2) < (l0_1.length : Int) := of_decide_eq_true as_
                   obtain ⟨ad131, e131, hx131_0⟩ := Kd.at_int HR0_1.out (rd t127 x27_2) p131 q131
                   have hw131_0 := hx131_0
                   obtain rfl : ad130 = ad131 := (by injection e131)
                   replace hx131_0 := (HB.out.cell (World.block_lt_of_cell? w _ hx131_0)).trans hx131_0
                   replace p131 := eq_true p131
                   replace q131 := eq_true q131
                   refine start_ (n := 21) (S := fun w' => w'.cell? ⟨gb122, 0, none⟩ = some (.slice A0_0 l0_0.length c0_0) ∧ w'.cell? ⟨gb122, 1, none⟩ = some (.slice (some ad130) l0_1.length c0_1) ∧ w'.cell? ⟨gb122, 2, none⟩ = some (.slice A0_2 l0_2.length c0_2) ∧ w'.cell? (ad129.add ((ji22)).toNat) = some (.int .i64 (rd x5_2 (ji22))) ∧ w'.cell? (ad130.add ((rd x5_2 (ji22))).toNat) = some (.int .i64 (rd l0_1 (rd x5_2 (ji22)))) ∧ w'.cell? (ad130.add ((rd t127 x27_2)).toNat) = some (.int .i64 (rd l0_1 (rd t127 x27_2)))) (ds := []) #[false, false, false, false, false, false, false, false, false, false, false, false, false, false, false, false, false, false, false, false, false] (by kernel_rfl) rfl rfl ⟨(blk_cell BK122.out 0).trans rfl, (blk_cell BK122.out 1).trans rfl, (blk_cell BK122.out 2).trans rfl, hx129_0, ((HB.out.cell (World.block_lt_of_cell? w _ hw130_0)).trans hw130_0), ((HB.out.cell (World.block_lt_of_cell? w _ hw131_0)).trans hw131_0)⟩ (fun hHeld => ?_); refine with_tabW figure_hull.tab12 figure_hull.bits12 (fun HT_ HW_ => ?_)
                   generalize wr.drew = w29 at HO_5 HO_25 BK122 HB hx129_0 hx130_0 hx131_0 hHeld ⊢
                   refine pure_ (i := 0) (N := some 31) (v := ?_) (a' := ?_) #[true, false, false, false, false, false, false, false, false, false, false, false, false, false, false, false, false, false, false, false, false] rfl rfl (any_of HT_.out (by kernel_rfl)) (fun _ _ _ h => h) (Or.inl ⟨by rfl, ?_⟩) ?_ ?_
                   rotate_left
                   ·exact gs_
                   rotate_left
                   ·exact pt_
                   refine pure_ (i := 1) (N := some 32) (v := ?_) (a' := ?_) #[true, true, false, false, false, false, false, false, false, false, false, false, false, false, false, false, false, false, false, false, false] rfl rfl (any_of HT_.out (by kernel_rfl)) (fun _ _ _ h => h) (Or.inl ⟨by rfl, ?_⟩) ?_ ?_
                   rotate_left
                   ·exact gs_
                   rotate_left
                   ·exact pt_
                   refine pure_ (i := 2) (N := some 33) (v := ?_) (a' := ?_) #[true, true, true, false, false, false, false, false, false, false, false, false, false, false, false, false, false, false, false, false, false] rfl rfl (any_of HT_.out (by kernel_rfl)) (fun _ _ _ h => h) (Or.inl ⟨by rfl, ?_⟩) ?_ ?_
                   rotate_left
                   ·exact gs_
                   rotate_left
                   ·exact pt_
                   refine pure_ (i := 3) (N := some 34) (v := ?_) (a' := ?_) #[true, true, true, true, false, false, false, false, false, false, false, false, false, false, false, false, false, false, false, false, false] rfl rfl (any_of HT_.out (by kernel_rfl)) (fun _ _ _ h => h) (Or.inl ⟨by rfl, ?_⟩) ?_ ?_
                   rotate_left
                   ·exact gs_
                   rotate_left
                   ·exact pt_
                   refine pure_ (i := 4) (N := some 35) (v := ?_) (a' := ?_) #[true, true, true, true, true, false, false, false, false, false, false, false, false, false, false, false, false, false, false, false, false] rfl rfl (any_of HT_.out (by kernel_rfl)) (fun _ _ _ h => h) (Or.inl ⟨by rfl, ?_⟩) ?_ ?_
                   rotate_left
                   ·exact gs_
                   rotate_left
                   ·exact pt_
                   refine pure_ (i := 6) (N := some 37) (v := ?_) (a' := ?_) #[true, true, true, true, true, false, true, false, false, false, false, false, false, false, false, false, false, false, false, false, false] rfl rfl (any_of HT_.out (by kernel_rfl)) (fun _ _ _ h => h) (Or.inl ⟨by rfl, ?_⟩) ?_ ?_
                   rotate_left
                   ·exact gs_
                   rotate_left
                   ·exact pt_
                   refine pure_ (i := 7) (N := some 38) (v := ?_) (a' := ?_) #[true, true, true, true, true, false, true, true, false, false, false, false, false, false, false, false, false, false, false, false, false] rfl rfl (any_of HT_.out (by kernel_rfl)) (fun _ _ _ h => h) (Or.inl ⟨by rfl, ?_⟩) ?_ ?_
                   rotate_left
                   ·exact gs_
                   rotate_left
                   ·exact pt_
                   refine pure_ (i := 8) (N := some 39) (v := ?_) (a' := ?_) #[true, true, true, true, true, false, true, true, true, false, false, false, false, false, false, false, false, false, false, false, false] rfl rfl (any_of HT_.out (by kernel_rfl)) (fun _ _ _ h => h) (Or.inl ⟨by rfl, ?_⟩) ?_ ?_
                   rotate_left
                   ·exact gs_
                   rotate_left
                   ·exact pt_
                   refine pure_ (i := 9) (N := some 40) (v := ?_) (a' := ?_) #[true, true, true, true, true, false, true, true, true, true, false, false, false, false, false, false, false, false, false, false, false] rfl rfl (any_of HT_.out (by kernel_rfl)) (fun _ _ _ h => h) (Or.inl ⟨by rfl, ?_⟩) ?_ ?_
                   rotate_left
                   ·exact gs_
                   rotate_left
                   ·exact pt_
                   refine pure_ (i := 10) (N := some 41) (v := ?_) (a' := ?_) #[true, true, true, true, true, false, true, true, true, true, true, false, false, false, false, false, false, false, false, false, false] rfl rfl (any_of HT_.out (by kernel_rfl)) (fun _ _ _ h => h) (Or.inl ⟨by rfl, ?_⟩) ?_ ?_
                   rotate_left
                   ·exact gs_
                   rotate_left
                   ·exact pt_
                   refine pure_ (i := 14) (N := some 45) (v := ?_) (a' := ?_) #[true, true, true, true, true, false, true, true, true, true, true, false, false, false, true, false, false, false, false, false, false] rfl rfl (any_of HT_.out (by kernel_rfl)) (fun _ _ _ h => h) (Or.inl ⟨by rfl, ?_⟩) ?_ ?_
                   rotate_left
                   ·exact gs_
                   rotate_left
                   ·exact pt_
                   refine pure_ (i := 16) (N := some 47) (v := ?_) (a' := ?_) #[true, true, true, true, true, false, true, true, true, true, true, false, false, false, true, false, true, false, false, false, false] rfl rfl (any_of HT_.out (by kernel_rfl)) (fun _ _ _ h => h) (Or.inl ⟨by rfl, ?_⟩) ?_ ?_
                   rotate_left
                   ·exact gs_
                   rotate_left
                   ·exact pt_
                   refine take_ (i := 5) (N := some 36) (v := ?_) (a' := ?_) #[true, true, true, true, true, true, true, true, true, true, true, false, false, false, true, false, true, false, false, false, false] rfl rfl (take_ofW HT_.out HW_.out (by kernel_rfl)) (fun _ _ _ h => h) (Or.inl ⟨by rfl, ?_⟩) hHeld ?_ ?_
                   rotate_left
                   ·rintro w' ⟨s0, s1, s2, s3, s4, s5⟩; go_simp; with_reducible rfl
                   rotate_left
                   ·exact pt_
                   refine take_ (i := 11) (N := some 42) (v := ?_) (a' := ?_) #[true, true, true, true, true, true, true, true, true, true, true, true, false, false, true, false, true, false, false, false, false] rfl rfl (take_ofW HT_.out HW_.out (by kernel_rfl)) (fun _ _ _ h => h) (Or.inl ⟨by rfl, ?_⟩) hHeld ?_ ?_
                   rotate_left
                   ·rintro w' ⟨s0, s1, s2, s3, s4, s5⟩; go_simp; with_reducible rfl
                   rotate_left
                   ·exact pt_
                   refine pure_ (i := 12) (N := some 43) (v := ?_) (a' := ?_) #[true, true, true, true, true, true, true, true, true, true, true, true, true, false, true, false, true, false, false, false, false] rfl rfl (any_of HT_.out (by kernel_rfl)) (fun _ _ _ h => h) (Or.inl ⟨by rfl, ?_⟩) ?_ ?_
                   rotate_left
                   ·exact gs_
                   rotate_left
                   ·exact pt_
                   refine take_ (i := 13) (N := some 44) (v := ?_) (a' := ?_) #[true, true, true, true, true, true, true, true, true, true, true, true, true, true, true, false, true, false, false, false, false] rfl rfl (take_ofW HT_.out HW_.out (by kernel_rfl)) (fun _ _ _ h => h) (Or.inl ⟨by rfl, ?_⟩) hHeld ?_ ?_
                   rotate_left
                   ·rintro w' ⟨s0, s1, s2, s3, s4, s5⟩; go_simp; with_reducible rfl
                   rotate_left
                   ·exact pt_
                   refine take_ (i := 15) (N := some 46) (v := ?_) (a' := ?_) #[true, true, true, true, true, true, true, true, true, true, true, true, true, true, true, true, true, false, false, false, false] rfl rfl (take_ofW HT_.out HW_.out (by kernel_rfl)) (fun _ _ _ h => h) (Or.inl ⟨by rfl, ?_⟩) hHeld ?_ ?_
                   rotate_left
                   ·rintro w' ⟨s0, s1, s2, s3, s4, s5⟩; go_simp; with_reducible rfl
                   rotate_left
                   ·exact pt_
                   refine pure_ (i := 17) (N := some 48) (v := ?_) (a' := ?_) #[true, true, true, true, true, true, true, true, true, true, true, true, true, true, true, true, true, true, false, false, false] rfl rfl (any_of HT_.out (by kernel_rfl)) (fun _ _ _ h => h) (Or.inl ⟨by rfl, ?_⟩) ?_ ?_
                   rotate_left
                   ·exact gs_
                   rotate_left
                   ·exact pt_
                   refine take_ (i := 18) (N := some 49) (v := ?_) (a' := ?_) #[true, true, true, true, true, true, true, true, true, true, true, true, true, true, true, true, true, true, true, false, false] rfl rfl (take_ofW HT_.out HW_.out (by kernel_rfl)) (fun _ _ _ h => h) (Or.inl ⟨by rfl, ?_⟩) hHeld ?_ ?_
                   rotate_left
                   ·rintro w' ⟨s0, s1, s2, s3, s4, s5⟩; go_simp; with_reducible rfl
                   rotate_left
                   ·exact pt_
                   refine pure_ (i := 19) (N := some 50) (v := ?_) (a' := ?_) #[true, true, true, true, true, true, true, true, true, true, true, true, true, true, true, true, true, true, true, true, false] rfl rfl (any_of HT_.out (by kernel_rfl)) (fun _ _ _ h => h) (Or.inl ⟨by rfl, ?_⟩) ?_ ?_
                   rotate_left
                   ·exact gs_
                   rotate_left
                   ·exact pt_
                   refine pure_ (i := 20) (N := some 51) (v := ?_) (a' := ?_) #[true, true, true, true, true, true, true, true, true, true, true, true, true, true, true, true, true, true, true, true, true] rfl rfl (any_of HT_.out (by kernel_rfl)) (fun _ _ _ h => h) (Or.inl ⟨by rfl, ?_⟩) ?_ ?_
                   rotate_left
                   ·exact gs_
                   rotate_left
                   ·exact pt_
                   refine done_ (done_of HT_.out (by kernel_rfl)) ?_
                   try go_wp2
                   go_meet
                   case rel => exact ⟨_, (((rd l0_1 (rd x5_2 (ji22))) == (rd l0_1 (rd t127 x27_2)))), (by first | rfl | (simp; done) | (simp only [← hji22] <;> (first | rfl | simp)) | (simp [*]; done)), H', ⟨by have := HK1.out; have := HK2.out; first | omega | exact Nat.le_refl _⟩, ⟨by (try simp only [hl3_1]); (try simp only [hl25_2]); (with_reducible repeat (first | apply Kd.R_alloc | apply Kd.R_drewN | apply Kd.R_drew)); exact HO_5.out⟩, ⟨by (try simp only [hl3_1]); (try simp only [hl25_2]); (with_reducible repeat (first | apply Kd.R_alloc | apply Kd.R_drewN | apply Kd.R_drew)); exact HO_25.out⟩, ⟨by (try simp only [hl3_1]); (try simp only [hl25_2]); (with_reducible repeat (first | refine blk_drewN ?_ _ | refine blk_drew ?_ | refine blk_alloc ?_ _)); exact BK122.out⟩, ⟨hb_ HB⟩⟩
                  ·rw [if_neg c28] at H
                   exact absurd H (by simp)
                 ·rw [if_neg c27] at H
                  exact absurd H (by simp)
                ·rw [if_neg c26] at H
                 exact absurd H (by simp)
               ·rw [if_neg c25] at H
                exact absurd H (by simp)
              ·rw [if_neg c24] at H
               exact absurd H (by simp)
             ·rw [if_neg c23] at H
              exact absurd H (by simp)
            ·rw [if_neg c21] at H
             have c21b0 : decide (0 < (x5_2.length : Int)) = false := decide_eq_false c21
             (try simp only [hl25_2] at c21b0)
             (try simp only [hl3_1] at c21b0)
             have c21b1 : decide (0 < x5_2.length) = false := decide_eq_false (by omega)
             clear c21
             (first | rw [c21b0] | (simp only [i64_w, i32_w]; rw [c21b0]) | skip)
             have H' := Aside0.mk H
             clear H
             try go_wp2
             have n0_ := Aside0.mk (Kd.R_drew HO_5.out)
             have n1_ := Aside0.mk (Kd.R_drew HO_25.out)
             have n2_ := Aside0.mk (blk_drew BK122.out)
             have n3_ := Aside0.mk (below_drew1 HB.out)
             clear HO_5
             clear HO_25
             clear BK122
             clear HB
             have HO_5 := n0_
             have HO_25 := n1_
             have BK122 := n2_
             have HB := n3_
             clear n0_ n1_ n2_ n3_
             obtain ⟨Ao32, co32, eo32⟩ := Kd.R_slice HO_5.out
             (first | subst eo32 | (injection eo32 with f1_ f2_ f3_; have f4_ := f1_.symm; have f5_ := f3_.symm; clear f1_ f2_ f3_; subst f4_; subst f5_))
             refine start_ (n := 21) (S := fun w' => True) (ds := []) #[false, false, false, false, false, false, false, false, false, false, false, false, false, false, false, false, false, false, false, false, false] (by kernel_rfl) rfl rfl trivial (fun hHeld => ?_); refine with_tabW figure_hull.tab12 figure_hull.bits12 (fun HT_ HW_ => ?_)
             generalize wr.drew = w31 at HO_5 HO_25 BK122 HB hHeld ⊢
             refine pure_ (i := 0) (N := some 31) (v := ?_) (a' := ?_) #[true, false, false, false, false, false, false, false, false, false, false, false, false, false, false, false, false, false, false, false, false] rfl rfl (any_of HT_.out (by kernel_rfl)) (fun _ _ _ h => h) (Or.inl ⟨by rfl, ?_⟩) ?_ ?_
             rotate_left
             ·exact gs_
             rotate_left
             ·exact pt_
             refine pure_ (i := 1) (N := some 32) (v := ?_) (a' := ?_) #[true, true, false, false, false, false, false, false, false, false, false, false, false, false, false, false, false, false, false, false, false] rfl rfl (any_of HT_.out (by kernel_rfl)) (fun _ _ _ h => h) (Or.inl ⟨by rfl, ?_⟩) ?_ ?_
             rotate_left
             ·exact gs_
             rotate_left
             ·exact pt_
             refine pure_ (i := 2) (N := some 33) (v := ?_) (a' := ?_) #[true, true, true, false, false, false, false, false, false, false, false, false, false, false, false, false, false, false, false, false, false] rfl rfl (any_of HT_.out (by kernel_rfl)) (fun _ _ _ h => h) (Or.inl ⟨by rfl, ?_⟩) ?_ ?_
             rotate_left
             ·exact gs_
             rotate_left
             ·exact pt_
             refine pure_ (i := 3) (N := some 34) (v := ?_) (a' := ?_) #[true, true, true, true, false, false, false, false, false, false, false, false, false, false, false, false, false, false, false, false, false] rfl rfl (any_of HT_.out (by kernel_rfl)) (fun _ _ _ h => h) (Or.inl ⟨by rfl, ?_⟩) ?_ ?_
             rotate_left
             ·exact gs_
             rotate_left
             ·exact pt_
             refine pure_ (i := 4) (N := some 35) (v := undef) (a' := ?_) #[true, true, true, true, true, false, false, false, false, false, false, false, false, false, false, false, false, false, false, false, false] rfl rfl (any_of HT_.out (by kernel_rfl)) (fun _ _ _ h => h) (Or.inr ⟨by rfl, rfl⟩) ?_ ?_
             rotate_left
             ·exact pt_
             refine pure_ (i := 5) (N := some 36) (v := undef) (a' := ?_) #[true, true, true, true, true, true, false, false, false, false, false, false, false, false, false, false, false, false, false, false, false] rfl rfl (any_of HT_.out (by kernel_rfl)) (fun _ _ _ h => h) (Or.inr ⟨by rfl, rfl⟩) ?_ ?_
             rotate_left
             ·exact pt_
             refine pure_ (i := 6) (N := some 37) (v := undef) (a' := ?_) #[true, true, true, true, true, true, true, false, false, false, false, false, false, false, false, false, false, false, false, false, false] rfl rfl (any_of HT_.out (by kernel_rfl)) (fun _ _ _ h => h) (Or.inr ⟨by rfl, rfl⟩) ?_ ?_
             rotate_left
             ·exact pt_
             refine pure_ (i := 7) (N := some 38) (v := undef) (a' := ?_) #[true, true, true, true, true, true, true, true, false, false, false, false, false, false, false, false, false, false, false, false, false] rfl rfl (any_of HT_.out (by kernel_rfl)) (fun _ _ _ h => h) (Or.inr ⟨by rfl, rfl⟩) ?_ ?_
             rotate_left
             ·exact pt_
             refine pure_ (i := 8) (N := some 39) (v := undef) (a' := ?_) #[true, true, true, true, true, true, true, true, true, false, false, false, false, false, false, false, false, false, false, false, false] rfl rfl (any_of HT_.out (by kernel_rfl)) (fun _ _ _ h => h) (Or.inr ⟨by rfl, rfl⟩) ?_ ?_
             rotate_left
             ·exact pt_
             refine pure_ (i := 9) (N := some 40) (v := undef) (a' := ?_) #[true, true, true, true, true, true, true, true, true, true, false, false, false, false, false, false, false, false, false, false, false] rfl rfl (any_of HT_.out (by kernel_rfl)) (fun _ _ _ h => h) (Or.inr ⟨by rfl, rfl⟩) ?_ ?_
             rotate_left
             ·exact pt_
             refine pure_ (i := 10) (N := some 41) (v := undef) (a' := ?_) #[true, true, true, true, true, true, true, true, true, true, true, false, false, false, false, false, false, false, false, false, false] rfl rfl (any_of HT_.out (by kernel_rfl)) (fun _ _ _ h => h) (Or.inr ⟨by rfl, rfl⟩) ?_ ?_
             rotate_left
             ·exact pt_
             refine pure_ (i := 11) (N := some 42) (v := undef) (a' := ?_) #[true, true, true, true, true, true, true, true, true, true, true, true, false, false, false, false, false, false, false, false, false] rfl rfl (any_of HT_.out (by kernel_rfl)) (fun _ _ _ h => h) (Or.inr ⟨by rfl, rfl⟩) ?_ ?_
             rotate_left
             ·exact pt_
             refine pure_ (i := 12) (N := some 43) (v := undef) (a' := ?_) #[true, true, true, true, true, true, true, true, true, true, true, true, true, false, false, false, false, false, false, false, false] rfl rfl (any_of HT_.out (by kernel_rfl)) (fun _ _ _ h => h) (Or.inr ⟨by rfl, rfl⟩) ?_ ?_
             rotate_left
             ·exact pt_
             refine pure_ (i := 13) (N := some 44) (v := undef) (a' := ?_) #[true, true, true, true, true, true, true, true, true, true, true, true, true, true, false, false, false, false, false, false, false] rfl rfl (any_of HT_.out (by kernel_rfl)) (fun _ _ _ h => h) (Or.inr ⟨by rfl, rfl⟩) ?_ ?_
             rotate_left
             ·exact pt_
             refine pure_ (i := 14) (N := some 45) (v := undef) (a' := ?_) #[true, true, true, true, true, true, true, true, true, true, true, true, true, true, true, false, false, false, false, false, false] rfl rfl (any_of HT_.out (by kernel_rfl)) (fun _ _ _ h => h) (Or.inr ⟨by rfl, rfl⟩) ?_ ?_
             rotate_left
             ·exact pt_
             refine pure_ (i := 15) (N := some 46) (v := undef) (a' := ?_) #[true, true, true, true, true, true, true, true, true, true, true, true, true, true, true, true, false, false, false, false, false] rfl rfl (any_of HT_.out (by kernel_rfl)) (fun _ _ _ h => h) (Or.inr ⟨by rfl, rfl⟩) ?_ ?_
             rotate_left
             ·exact pt_
             refine pure_ (i := 16) (N := some 47) (v := undef) (a' := ?_) #[true, true, true, true, true, true, true, true, true, true, true, true, true, true, true, true, true, false, false, false, false] rfl rfl (any_of HT_.out (by kernel_rfl)) (fun _ _ _ h => h) (Or.inr ⟨by rfl, rfl⟩) ?_ ?_
             rotate_left
             ·exact pt_
             refine pure_ (i := 17) (N := some 48) (v := undef) (a' := ?_) #[true, true, true, true, true, true, true, true, true, true, true, true, true, true, true, true, true, true, false, false, false] rfl rfl (any_of HT_.out (by kernel_rfl)) (fun _ _ _ h => h) (Or.inr ⟨by rfl, rfl⟩) ?_ ?_
             rotate_left
             ·exact pt_
             refine pure_ (i := 18) (N := some 49) (v := undef) (a' := ?_) #[true, true, true, true, true, true, true, true, true, true, true, true, true, true, true, true, true, true, true, false, false] rfl rfl (any_of HT_.out (by kernel_rfl)) (fun _ _ _ h => h) (Or.inr ⟨by rfl, rfl⟩) ?_ ?_
             rotate_left
             ·exact pt_
             refine pure_ (i := 19) (N := some 50) (v := undef) (a' := ?_) #[true, true, true, true, true, true, true, true, true, true, true, true, true, true, true, true, true, true, true, true, false] rfl rfl (any_of HT_.out (by kernel_rfl)) (fun _ _ _ h => h) (Or.inr ⟨by rfl, rfl⟩) ?_ ?_
             rotate_left
             ·exact pt_
             refine pure_ (i := 20) (N := some 51) (v := ?_) (a' := ?_) #[true, true, true, true, true, true, true, true, true, true, true, true, true, true, true, true, true, true, true, true, true] rfl rfl (any_of HT_.out (by kernel_rfl)) (fun _ _ _ h => h) (Or.inl ⟨by rfl, ?_⟩) ?_ ?_
             rotate_left
             ·exact gs_
             rotate_left
             ·exact pt_
             refine done_ (done_of HT_.out (by kernel_rfl)) ?_
             try go_wp2
             go_meet
             case rel => exact ⟨_, (false), rs_, H', ⟨by have := HK1.out; have := HK2.out; first | omega | exact Nat.le_refl _⟩, ⟨by (try simp only [hl3_1]); (try simp only [hl25_2]); (with_reducible repeat (first | apply Kd.R_alloc | apply Kd.R_drewN | apply Kd.R_drew)); exact HO_5.out⟩, ⟨by (try simp only [hl3_1]); (try simp only [hl25_2]); (with_reducible repeat (first | apply Kd.R_alloc | apply Kd.R_drewN | apply Kd.R_drew)); exact HO_25.out⟩, ⟨by (try simp only [hl3_1]); (try simp only [hl25_2]); (with_reducible repeat (first | refine blk_drewN ?_ _ | refine blk_drew ?_ | refine blk_alloc ?_ _)); exact BK122.out⟩, ⟨hb_ HB⟩⟩
           case rest =>
            clear HC20
            try clear c1
            try clear p1
            try clear q1
            try clear hx1
            try clear hf1
            try clear c2
            try clear c2b0
            try clear c2b1
            try clear p2
            try clear c3
            try clear c3b0
            try clear c3b1
            try clear p6
            try clear c9
            try clear c9b0
            try clear c10
            try clear c10b0
            try clear c11
            try clear c11b0
            try clear c12
            try clear p12
            try clear q12
            try clear hx12
            try clear hf12
            try clear p13
            try clear q13
            try clear hx13
            try clear c17
            try clear c17b0
            try clear c18
            try clear c18b0
            try clear c19
            try clear c19b0
            try clear c21
            try clear c21b0
            try clear c21b1
            try clear c23
            try clear c23b0
            try clear c24
            try clear c24b0
            try clear c25
            try clear c25b0
            try clear c26
            try clear c26b0
            try clear c27
            try clear c27b0
            try clear c28
            try clear c28b0
            try clear hcz5_0
            try clear hcz5_1
            try clear hcz5_2
            try clear hfz5_0
            try clear hfz5_1
            try clear hfz5_2
            try clear hx128_0
            try clear hx129_0
            try clear hx12_0
            try clear hx130_0
            try clear hx131_0
            try clear p1
            try clear p12
            try clear p128
            try clear p129
            try clear p130
            try clear p131
            try clear p2
            try clear p6
            try clear q1
            try clear q12
            try clear q128
            try clear q129
            try clear q130
            try clear q131
            obtain ⟨kq, x51_19, rfl, HA, HJ19, HO_5, HO_25, BK122, HB⟩ := hcut
            cases kq with
            | zero => exact absurd HA.out (by simp [figure_hull.j2])
            | succ kj19 =>
             have H := HA.out
             clear HA
             simp only [figure_hull.j2] at H
             by_cases c33 : x51_19 = true
             ·subst c33
              have H1 : (figure_hull.l1 kj19 x5_2 t127 (x3_1.length : Int) (wrap64 (x27_2 + 1)) l0_0 l0_1 l0_2) = some r := by rw [if_pos rfl] at H; exact H
              clear H
              have H := H1
              clear H1
              have H' := Aside0.mk H
              clear H
              go_wp2
              (try simp only [← hl25_2])
              go_roundg kj19
              case measure => have := HK1.out; have := HK2.out; have := HJ19.out; omega
              case rel => exact ⟨(x5_2), (wrap64 (x27_2 + 1)), rs_, H', ⟨by have := HK1.out; have := HK2.out; have := HJ19.out; omega⟩, ⟨by (try simp only [hl3_1]); (try simp only [hl25_2]); (with_reducible repeat (first | apply Kd.R_alloc | apply Kd.R_drewN | apply Kd.R_drew)); exact HO_5.out⟩, ⟨by (try simp only [hl3_1]); (try simp only [hl25_2]); (with_reducible repeat (first | apply Kd.R_alloc | apply Kd.R_drewN | apply Kd.R_drew)); exact HO_25.out⟩, ⟨by (try simp only [hl3_1]); (try simp only [hl25_2]); (with_reducible repeat (first | refine blk_drewN ?_ _ | refine blk_drew ?_ | refine blk_alloc ?_ _)); exact BK122.out⟩, ⟨hb_ HB⟩⟩
             ·replace c33 := Bool.eq_false_iff.mpr c33
              subst c33
              have H1 : (figure_hull.l2 kj19 x5_2 (rd t127 x27_2) t127 (x3_1.length : Int) x27_2 l0_0 l0_1 l0_2) = some r := by rw [if_neg (show ¬ (false = true) by decide)] at H; exact H
              clear H
              have H := H1
              clear H1
              have H' := Aside0.mk H
              clear H
              go_wp2
              go_loopg [5] kj19 (fun kq v5 w' => ∃ (x5_4 : List Int), Aside0 (figure_hull.l2 kq x5_4 (rd t127 x27_2) t127 (x3_1.length : Int) x27_2 l0_0 l0_1 l0_2 = some r) ∧ Aside0 (kq ≤ kj19) ∧ Aside0 (Kd.R (Kd.int .i64) 3 w' w.heap.size (fun k_ => some k_ ≠ ((.slice (some ad128) t127.length co8) : Value).ownBlock) v5 x5_4) ∧ Aside0 (Kd.R (Kd.int .i64) 3 w' w.heap.size (fun k_ => some k_ ≠ (v5 : Value).ownBlock) (.slice (some ad128) t127.length co8) t127) ∧ Aside0 (w'.heap[gb122]? = some (.cells #[(.slice A0_0 l0_0.length c0_0), (.slice A0_1 l0_1.length c0_1), (.slice A0_2 l0_2.length c0_2)] 24 (0, 0))) ∧ Aside0 (Below w.heap.size w w'))
              case atStart => exact ⟨(x5_2), H', ⟨Nat.le_refl _⟩, ⟨by (try simp only [hl3_1]); (try simp only [hl25_2]); (with_reducible repeat (first | apply Kd.R_alloc | apply Kd.R_drewN | apply Kd.R_drew)); exact HO_5.out⟩, ⟨by (try simp only [hl3_1]); (try simp only [hl25_2]); (with_reducible repeat (first | apply Kd.R_alloc | apply Kd.R_drewN | apply Kd.R_drew)); exact HO_25.out⟩, ⟨by (try simp only [hl3_1]); (try simp only [hl25_2]); (with_reducible repeat (first | refine blk_drewN ?_ _ | refine blk_drew ?_ | refine blk_alloc ?_ _)); exact BK122.out⟩, ⟨hb_ HB⟩⟩
              case round =>
               clear H'
               try clear c1
               try clear p1
               try clear q1
               try clear hx1
               try clear hf1
               try clear c2
               try clear c2b0
               try clear c2b1
               try clear p2
               try clear c3
               try clear c3b0
               try clear c3b1
               try clear p6
               try clear c9
               try clear c9b0
               try clear c10
               try clear c10b0
               try clear c11
               try clear c11b0
               try clear c12
               try clear p12
               try clear q12
               try clear hx12
               try clear hf12
               try clear p13
               try clear q13
               try clear hx13
               try clear c17
               try clear c17b0
               try clear c18
               try clear c18b0
               try clear c19
               try clear c19b0
               try clear c21
               try clear c21b0
               try clear c21b1
               try clear c23
               try clear c23b0
               try clear c24
               try clear c24b0
               try clear c25
               try clear c25b0
               try clear c26
               try clear c26b0
               try clear c27
               try clear c27b0
               try clear c28
               try clear c28b0
               try clear c33
               try clear hcz5_0
               try clear hcz5_1
               try clear hcz5_2
               try clear hfz5_0
               try clear hfz5_1
               try clear hfz5_2
               try clear hx128_0
               try clear hx129_0
               try clear hx12_0
               try clear hx130_0
               try clear hx131_0
               try clear p1
               try clear p12
               try clear p128
               try clear p129
               try clear p13
               try clear p130
               try clear p131
               try clear p2
               try clear p6
               try clear q1
               try clear q12
               try clear q128
               try clear q129
               try clear q13
               try clear q130
               try clear q131
               obtain ⟨x5_4, HA, HK4, HO_5, HO_25, BK122, HB⟩ := hrel
               cases gk with
               | zero => exact absurd HA.out (by simp [figure_hull.l2])
               | succ k4 =>
                have H := HA.out
                clear HA
                simp only [figure_hull.l2] at H
                by_cases c34 : (x5_4.length : Int) > 1
                ·rw [if_pos c34] at H
                 have c34b0 : decide (1 < (x5_4.length : Int)) = true := decide_eq_true c34
                 (try simp only [hl25_2] at c34b0)
                 (try simp only [hl3_1] at c34b0)
                 have c34b1 : decide (1 < x5_4.length) = true := decide_eq_true (by omega)
                 clear c34
                 obtain ⟨ji35, hji35⟩ : ∃ j_ : Int, (wrap64 ((x5_4.length : Int) - 2)) = j_ := ⟨_, rfl⟩
                 replace H : (if 0 ≤ (ji35) then (if (ji35) < (x5_4.length : Int) then (if 0 ≤ (wrap64 ((x5_4.length : Int) - 1)) then (if (wrap64 ((x5_4.length : Int) - 1)) < (x5_4.length : Int) then ((figure_under.f l0_0 l0_1 l0_2 (rd x5_4 (ji35)) (rd x5_4 (wrap64 ((x5_4.length : Int) - 1))) (rd t127 x27_2)).bind fun t134 => (if t134 = true then (if x5_4.length < 17592186044416 then (figure_hull.l1 k4 (x5_4 ++ [(rd t127 x27_2)]) t127 (x3_1.length : Int) (wrap64 (x27_2 + 1)) l0_0 l0_1 l0_2) else (none)) else (if (wrap64 ((x5_4.length : Int) - 1)) ≤ (x5_4.length : Int) then (figure_hull.l2 k4 (x5_4.take ((wrap64 ((x5_4.length : Int) - 1)) : Int).toNat) (rd t127 x27_2) t127 (x3_1.length : Int) x27_2 l0_0 l0_1 l0_2) else (none)))) else (none)) else (none)) else (none)) else (none)) = some r := by first | (rw [hji35] at H; exact H) | (simp only [hji35] at H ⊢; exact H)
                 have hji35w : (IntKind.i64.wrap ((x5_4.length : Int) - 2)) = ji35 := (i64_w _).trans hji35
                 by_cases c36 : 0 ≤ (ji35)
                 ·rw [if_pos c36] at H
                  have c36b0 : decide (0 ≤ (ji35)) = true := decide_eq_true c36
                  clear c36
                  by_cases c37 : (ji35) < (x5_4.length : Int)
                  ·rw [if_pos c37] at H
                   have c37b0 : decide ((ji35) < (x5_4.length : Int)) = true := decide_eq_true c37
                   (try simp only [hl25_2] at c37b0)
                   (try simp only [hl3_1] at c37b0)
                   clear c37
                   obtain ⟨ji38, hji38⟩ : ∃ j_ : Int, (wrap64 ((x5_4.length : Int) - 1)) = j_ := ⟨_, rfl⟩
                   replace H : (if 0 ≤ (ji38) then (if (ji38) < (x5_4.length : Int) then ((figure_under.f l0_0 l0_1 l0_2 (rd x5_4 (ji35)) (rd x5_4 (ji38)) (rd t127 x27_2)).bind fun t134 => (if t134 = true then (if x5_4.length < 17592186044416 then (figure_hull.l1 k4 (x5_4 ++ [(rd t127 x27_2)]) t127 (x3_1.length : Int) (wrap64 (x27_2 + 1)) l0_0 l0_1 l0_2) else (none)) else (if (ji38) ≤ (x5_4.length : Int) then (figure_hull.l2 k4 (x5_4.take ((ji38) : Int).toNat) (rd t127 x27_2) t127 (x3_1.length : Int) x27_2 l0_0 l0_1 l0_2) else (none)))) else (none)) else (none)) = some r := by first | (rw [hji38] at H; exact H) | (simp only [hji38] at H ⊢; exact H)
                   have hji38w : (IntKind.i64.wrap ((x5_4.length : Int) - 1)) = ji38 := (i64_w _).trans hji38
                   by_cases c39 : 0 ≤ (ji38)
                   ·rw [if_pos c39] at H
                    have c39b0 : decide (0 ≤ (ji38)) = true := decide_eq_true c39
                    clear c39
                    by_cases c40 : (ji38) < (x5_4.length : Int)
                    ·rw [if_pos c40] at H
                     have c40b0 : decide ((ji38) < (x5_4.length : Int)) = true := decide_eq_true c40
                     (try simp only [hl25_2] at c40b0)
                     (try simp only [hl3_1] at c40b0)
                     clear c40
                     replace H := Option.bind_eq_some_iff.mp H
                     obtain ⟨t134, A410, H⟩ := H
                     replace H : (if t134 = true then (if x5_4.length < 17592186044416 then (figure_hull.l1 k4 (x5_4 ++ [(rd t127 x27_2)]) t127 (x3_1.length : Int) (wrap64 (x27_2 + 1)) l0_0 l0_1 l0_2) else (none)) else (if (ji38) ≤ (x5_4.length : Int) then (figure_hull.l2 k4 (x5_4.take ((ji38) : Int).toNat) (rd t127 x27_2) t127 (x3_1.length : Int) x27_2 l0_0 l0_1 l0_2) else (none))) = some r := H
                     have A41 := Aside0.mk A410
                     clear A410
                     by_cases c42 : t134 = true
                     ·subst c42
                      have H1 : (if x5_4.length < 17592186044416 then (figure_hull.l1 k4 (x5_4 ++ [(rd t127 x27_2)]) t127 (x3_1.length : Int) (wrap64 (x27_2 + 1)) l0_0 l0_1 l0_2) else (none)) = some r := by rw [if_pos rfl] at H; exact H
                      clear H
                      have H := H1
                      clear H1
                      by_cases c43 : x5_4.length < 17592186044416
                      ·rw [if_pos c43] at H
                       have LMc43 := Aside0.mk c43
                       clear c43
                       obtain ⟨y135, hy135⟩ : ∃ y_ : List Int, y_ = (x5_4 ++ [(rd t127 x27_2)]) := ⟨_, rfl⟩
                       replace H : (figure_hull.l1 k4 y135 t127 (x3_1.length : Int) (wrap64 (x27_2 + 1)) l0_0 l0_1 l0_2) = some r := by first | (rw [hy135]; with_reducible exact H) | (have H2_ := (Option.bind_some _ _).symm.trans H; rw [hy135]; with_reducible exact H2_) | (have H2_ := (Option.bind_some _ _).symm.trans H; with_reducible exact H2_) | with_reducible exact H | (rw [hy135]; exact H) | exact H
                       have Ny135 := Aside0.mk hy135
                       clear hy135
                       have H' := Aside0.mk H
                       clear H
                       try go_wp2
                       have n0_ := Aside0.mk (Kd.R_drew HO_5.out)
                       have n1_ := Aside0.mk (Kd.R_drew HO_25.out)
                       have n2_ := Aside0.mk (blk_drew BK122.out)
                       have n3_ := Aside0.mk (below_drew1 HB.out)
                       clear HO_5
                       clear HO_25
                       clear BK122
                       clear HB
                       have HO_5 := n0_
                       have HO_25 := n1_
                       have BK122 := n2_
                       have HB := n3_
                       clear n0_ n1_ n2_ n3_
                       obtain ⟨Ao45, co45, eo45⟩ := Kd.R_slice HO_5.out
                       (first | subst eo45 | (injection eo45 with f1_ f2_ f3_; have f4_ := f1_.symm; have f5_ := f3_.symm; clear f1_ f2_ f3_; subst f4_; subst f5_))
                       have p132 : 0 ≤ ((ji35) : Int) := of_decide_eq_true as_
                       have q132 : (ji35) < (x5_4.length : Int) := of_decide_eq_true as_
                       obtain ⟨ad132, e132, hx132_0⟩ := Kd.at_int (Kd.R_reads' HO_5.out).2.2 (ji35) p132 q132
                       cases e132
                       replace p132 := eq_true p132
                       replace q132 := eq_true q132
                       have p133 : 0 ≤ ((ji38) : Int) := of_decide_eq_true as_
                       have q133 : (ji38) < (x5_4.length : Int) := of_decide_eq_true as_
                       obtain ⟨ad133, e133, hx133_0⟩ := Kd.at_int (Kd.R_reads' HO_5.out).2.2 (ji38) p133 q133
                       obtain rfl : ad132 = ad133 := (by injection e133)
                       replace p133 := eq_true p133
                       replace q133 := eq_true q133
                       refine start_ (n := 21) (S := fun w' => w'.cell? ⟨gb122, 0, none⟩ = some (.slice A0_0 l0_0.length c0_0) ∧ w'.cell? ⟨gb122, 1, none⟩ = some (.slice A0_1 l0_1.length c0_1) ∧ w'.cell? ⟨gb122, 2, none⟩ = some (.slice A0_2 l0_2.length c0_2) ∧ w'.cell? (ad132.add ((ji35)).toNat) = some (.int .i64 (rd x5_4 (ji35))) ∧ w'.cell? (ad132.add ((ji38)).toNat) = some (.int .i64 (rd x5_4 (ji38)))) (ds := []) #[false, false, false, false, false, false, false, false, false, false, false, false, false, false, false, false, false, false, false, false, false] (by kernel_rfl) rfl rfl ⟨(blk_cell BK122.out 0).trans rfl, (blk_cell BK122.out 1).trans rfl, (blk_cell BK122.out 2).trans rfl, hx132_0, hx133_0⟩ (fun hHeld => ?_); refine with_tabW figure_hull.tab13 figure_hull.bits13 (fun HT_ HW_ => ?_)
                       generalize wr.drew = w44 at HO_5 HO_25 BK122 HB hx132_0 hx133_0 hHeld ⊢
                       refine pure_ (i := 0) (N := some 52) (v := ?_) (a' := ?_) #[true, false, false, false, false, false, false, false, false, false, false, false, false, false, false, false, false, false, false, false, false] rfl rfl (any_of HT_.out (by kernel_rfl)) (fun _ _ _ h => h) (Or.inl ⟨by rfl, ?_⟩) ?_ ?_
                       rotate_left
                       ·exact gs_
                       rotate_left
                       ·exact pt_
                       refine pure_ (i := 1) (N := some 53) (v := ?_) (a' := ?_) #[true, true, false, false, false, false, false, false, false, false, false, false, false, false, false, false, false, false, false, false, false] rfl rfl (any_of HT_.out (by kernel_rfl)) (fun _ _ _ h => h) (Or.inl ⟨by rfl, ?_⟩) ?_ ?_
                       rotate_left
                       ·exact gs_
                       rotate_left
                       ·exact pt_
                       refine pure_ (i := 2) (N := some 54) (v := ?_) (a' := ?_) #[true, true, true, false, false, false, false, false, false, false, false, false, false, false, false, false, false, false, false, false, false] rfl rfl (any_of HT_.out (by kernel_rfl)) (fun _ _ _ h => h) (Or.inl ⟨by rfl, ?_⟩) ?_ ?_
                       rotate_left
                       ·exact gs_
                       rotate_left
                       ·exact pt_
                       refine pure_ (i := 3) (N := some 55) (v := ?_) (a' := ?_) #[true, true, true, true, false, false, false, false, false, false, false, false, false, false, false, false, false, false, false, false, false] rfl rfl (any_of HT_.out (by kernel_rfl)) (fun _ _ _ h => h) (Or.inl ⟨by rfl, ?_⟩) ?_ ?_
                       rotate_left
                       ·exact gs_
                       rotate_left
                       ·exact pt_
                       refine pure_ (i := 5) (N := some 57) (v := ?_) (a' := ?_) #[true, true, true, true, false, true, false, false, false, false, false, false, false, false, false, false, false, false, false, false, false] rfl rfl (any_of HT_.out (by kernel_rfl)) (fun _ _ _ h => h) (Or.inl ⟨by rfl, ?_⟩) ?_ ?_
                       rotate_left
                       ·exact gs_
                       rotate_left
                       ·exact pt_
                       refine pure_ (i := 6) (N := some 58) (v := ?_) (a' := ?_) #[true, true, true, true, false, true, true, false, false, false, false, false, false, false, false, false, false, false, false, false, false] rfl rfl (any_of HT_.out (by kernel_rfl)) (fun _ _ _ h => h) (Or.inl ⟨by rfl, ?_⟩) ?_ ?_
                       rotate_left
                       ·exact gs_
                       rotate_left
                       ·exact pt_
                       refine pure_ (i := 7) (N := some 59) (v := ?_) (a' := ?_) #[true, true, true, true, false, true, true, true, false, false, false, false, false, false, false, false, false, false, false, false, false] rfl rfl (any_of HT_.out (by kernel_rfl)) (fun _ _ _ h => h) (Or.inl ⟨by rfl, ?_⟩) ?_ ?_
                       rotate_left
                       ·exact gs_
                       rotate_left
                       ·exact pt_
                       refine pure_ (i := 8) (N := some 60) (v := ?_) (a' := ?_) #[true, true, true, true, false, true, true, true, true, false, false, false, false, false, false, false, false, false, false, false, false] rfl rfl (any_of HT_.out (by kernel_rfl)) (fun _ _ _ h => h) (Or.inl ⟨by rfl, ?_⟩) ?_ ?_
                       rotate_left
                       ·exact gs_
                       rotate_left
                       ·exact pt_
                       refine pure_ (i := 9) (N := some 61) (v := ?_) (a' := ?_) #[true, true, true, true, false, true, true, true, true, true, false, false, false, false, false, false, false, false, false, false, false] rfl rfl (any_of HT_.out (by kernel_rfl)) (fun _ _ _ h => h) (Or.inl ⟨by rfl, ?_⟩) ?_ ?_
                       rotate_left
                       ·exact gs_
                       rotate_left
                       ·exact pt_
                       refine pure_ (i := 11) (N := some 63) (v := ?_) (a' := ?_) #[true, true, true, true, false, true, true, true, true, true, false, true, false, false, false, false, false, false, false, false, false] rfl rfl (any_of HT_.out (by kernel_rfl)) (fun _ _ _ h => h) (Or.inl ⟨by rfl, ?_⟩) ?_ ?_
                       rotate_left
                       ·exact gs_
                       rotate_left
                       ·exact pt_
                       refine pure_ (i := 12) (N := some 64) (v := ?_) (a' := ?_) #[true, true, true, true, false, true, true, true, true, true, false, true, true, false, false, false, false, false, false, false, false] rfl rfl (any_of HT_.out (by kernel_rfl)) (fun _ _ _ h => h) (Or.inl ⟨by rfl, ?_⟩) ?_ ?_
                       rotate_left
                       ·exact gs_
                       rotate_left
                       ·exact pt_
                       refine pure_ (i := 13) (N := some 65) (v := ?_) (a' := ?_) #[true, true, true, true, false, true, true, true, true, true, false, true, true, true, false, false, false, false, false, false, false] rfl rfl (any_of HT_.out (by kernel_rfl)) (fun _ _ _ h => h) (Or.inl ⟨by rfl, ?_⟩) ?_ ?_
                       rotate_left
                       ·exact gs_
                       rotate_left
                       ·exact pt_
                       refine pure_ (i := 14) (N := some 66) (v := ?_) (a' := ?_) #[true, true, true, true, false, true, true, true, true, true, false, true, true, true, true, false, false, false, false, false, false] rfl rfl (any_of HT_.out (by kernel_rfl)) (fun _ _ _ h => h) (Or.inl ⟨by rfl, ?_⟩) ?_ ?_
                       rotate_left
                       ·exact gs_
                       rotate_left
                       ·exact pt_
                       refine pure_ (i := 15) (N := some 67) (v := ?_) (a' := ?_) #[true, true, true, true, false, true, true, true, true, true, false, true, true, true, true, true, false, false, false, false, false] rfl rfl (any_of HT_.out (by kernel_rfl)) (fun _ _ _ h => h) (Or.inl ⟨by rfl, ?_⟩) ?_ ?_
                       rotate_left
                       ·exact gs_
                       rotate_left
                       ·exact pt_
                       refine pure_ (i := 17) (N := some 69) (v := ?_) (a' := ?_) #[true, true, true, true, false, true, true, true, true, true, false, true, true, true, true, true, false, true, false, false, false] rfl rfl (any_of HT_.out (by kernel_rfl)) (fun _ _ _ h => h) (Or.inl ⟨by rfl, ?_⟩) ?_ ?_
                       rotate_left
                       ·exact gs_
                       rotate_left
                       ·exact pt_
                       refine take_ (i := 4) (N := some 56) (v := ?_) (a' := ?_) #[true, true, true, true, true, true, true, true, true, true, false, true, true, true, true, true, false, true, false, false, false] rfl rfl (take_ofW HT_.out HW_.out (by kernel_rfl)) (fun _ _ _ h => h) (Or.inl ⟨by rfl, ?_⟩) hHeld ?_ ?_
                       rotate_left
                       ·rintro w' ⟨s0, s1, s2, s3, s4⟩; go_simp; with_reducible rfl
                       rotate_left
                       ·exact pt_
                       refine take_ (i := 10) (N := some 62) (v := ?_) (a' := ?_) #[true, true, true, true, true, true, true, true, true, true, true, true, true, true, true, true, false, true, false, false, false] rfl rfl (take_ofW HT_.out HW_.out (by kernel_rfl)) (fun _ _ _ h => h) (Or.inl ⟨by rfl, ?_⟩) hHeld ?_ ?_
                       rotate_left
                       ·rintro w' ⟨s0, s1, s2, s3, s4⟩; go_simp; with_reducible rfl
                       rotate_left
                       ·exact pt_
                       refine take_ (i := 16) (N := some 68) (v := ?_) (a' := ?_) #[true, true, true, true, true, true, true, true, true, true, true, true, true, true, true, true, true, true, false, false, false] rfl rfl (take_ofW HT_.out HW_.out (by kernel_rfl)) (fun _ _ _ h => h) (Or.inl ⟨by rfl, ?_⟩) hHeld ?_ ?_
                       rotate_left
                       ·rintro w' ⟨s0, s1, s2, s3, s4⟩; go_simp; with_reducible rfl
                       rotate_left
                       ·exact pt_
                       refine one_ (i := 18) (N := some 70) #[true, true, true, true, true, true, true, true, true, true, true, true, true, true, true, true, true, true, true, false, false] rfl rfl (one_of HT_.out (by kernel_rfl)) di_ (fun K hK => ?_)
                       refine goes_ Try.func124 (by kernel_rfl) rfl #[.agg #[.slice A0_0 l0_0.length c0_0, .slice A0_1 l0_1.length c0_1, .slice A0_2 l0_2.length c0_2], .int .i64 (rd x5_4 (ji35)), .int .i64 (rd x5_4 (ji38)), .int .i64 (rd t127 x27_2)] (by rfl) rfl rfl (by (try simp only [List.map_toArray, List.map_cons, List.map_nil]); first | done | (simp only [hji35, hji38]; rfl) | rfl | (simp only [List.length_drop, List.length_take]; rfl)) ?_
                       with_reducible refine (figure_under.calls _ _ l0_0 _ _ l0_1 _ _ l0_2 (rd x5_4 (ji35)) (rd x5_4 (ji38)) (rd t127 x27_2) true _ ?side1 ?side2 ?side3 ?side4 ?side5 ?side6 A41.out).mono ?_
                       (case side1 => exact cb_ (Kd.C_below HR0_0.out HB.out))
                       (case side2 => exact HC0_0.out)
                       (case side3 => exact cb_ (Kd.C_below HR0_1.out HB.out))
                       (case side4 => exact HC0_1.out)
                       (case side5 => exact cb_ (Kd.C_below HR0_2.out HB.out))
                       (case side6 => exact HC0_2.out)
                       rintro e w46 ⟨rfl, hb⟩
                       have HS3_ := (hb.cell (World.block_lt_of_cell? _ _ (hHeld.2.2.2.1))).trans (hHeld.2.2.2.1)
                       have HS4_ := (hb.cell (World.block_lt_of_cell? _ _ (hHeld.2.2.2.2))).trans (hHeld.2.2.2.2)
                       refine ⟨_, rfl, ?_⟩
                       have n0_ := Aside0.mk (Kd.R_below (rk_ HO_5) hb)
                       have n1_ := Aside0.mk (Kd.R_below (rk_ HO_25) hb)
                       have n2_ := Aside0.mk (bb_ BK122 hb)
                       have n3_ := Aside0.mk (below_step (hb_ HB) hb)
                       clear HO_5
                       clear HO_25
                       clear BK122
                       clear HB
                       have HO_5 := n0_
                       have HO_25 := n1_
                       have BK122 := n2_
                       have HB := n3_
                       clear n0_ n1_ n2_ n3_
                       (try clear hb)
                       (try clear hb2)
                       (try clear hk)
                       (try clear hi)
                       refine hK.out _ _ ⟨(blk_cell BK122.out 0).trans rfl, (blk_cell BK122.out 1).trans rfl, (blk_cell BK122.out 2).trans rfl, HS3_, HS4_⟩ (fun hHeld => ?_)
                       clear hK K
                       refine norm_ (a' := ?_) ?_ ?_
                       rotate_left
                       ·show Act.put _ (some 70) _ = _
                        simp only [Act.put, List.setIfInBounds_toArray, List.set_cons_zero, List.set_cons_succ, i64_w, i32_w]
                        rfl
                       refine pure_ (i := 19) (N := some 71) (v := ?_) (a' := ?_) #[true, true, true, true, true, true, true, true, true, true, true, true, true, true, true, true, true, true, true, true, false] rfl rfl (any_of HT_.out (by kernel_rfl)) (fun _ _ _ h => h) (Or.inl ⟨by rfl, ?_⟩) ?_ ?_
                       rotate_left
                       ·exact gs_
                       rotate_left
                       ·exact pt_
                       refine pure_ (i := 20) (N := some 72) (v := ?_) (a' := ?_) #[true, true, true, true, true, true, true, true, true, true, true, true, true, true, true, true, true, true, true, true, true] rfl rfl (any_of HT_.out (by kernel_rfl)) (fun _ _ _ h => h) (Or.inl ⟨by rfl, ?_⟩) ?_ ?_
                       rotate_left
                       ·exact gs_
                       rotate_left
                       ·exact pt_
                       refine done_ (done_of HT_.out (by kernel_rfl)) ?_
                       try go_wp2_with (first | ((with_reducible refine gate_builtin (b := .append) (xs := #[.tmp 78, .tmp 80]) rfl ?_); (try (refine gate_guard (by rfl) ?_; dsimp only)); at_builtin; refine Kd.R_append (Kd.int .i64) (w0 := w) w.heap.size rfl (.tmp 78) (.tmp 80) 22 3 (.int .i64 0) 8 rfl Try.underlying22 info3 rfl di_ (by omega) (.slice (some ad132) x5_4.length co45) x5_4 (rd t127 x27_2) [.int .i64 (rd t127 x27_2)] (fun k_ => some k_ ≠ (.slice (some ad128) t127.length co8 : Value).ownBlock) (fun _ => False) rfl rfl ?aP (fun _ hk => hk.elim) ?aF ?aO ?aB ?aS ?aL ?_; (case aP => exact rfl); (case aB => exact (hb_ HB)); (case aF => exact (fun k_ hk => Kd.fresh' (Kd.R_lt (rk_ HO_25)) k_ hk)); (case aO => exact (rk_ HO_5)); (case aS => exact (below_size (hb_ HB))); (case aL => have := LMc43.out; omega); intro v136 w47 ho hb hg hat; rw [← Ny135.out] at ho; have n0_ := Aside0.mk (Kd.R_after (ok := (fun _ => True)) (by (with_reducible repeat (first | apply Kd.R_alloc | apply Kd.R_drewN | apply Kd.R_drew)); exact Kd.R_mono HO_25.out (fun _ hk => ⟨trivial, hk⟩)) hg hat); have n1_ := Aside0.mk (blk_grown (g := gb122) (o := .cells #[.slice A0_0 l0_0.length c0_0, .slice A0_1 l0_1.length c0_1, .slice A0_2 l0_2.length c0_2] 24 (0, 0)) (bk_ BK122) hg (Kd.R_ne HO_5.out BK122.out di_)); have n2_ := Aside0.mk (hb); have n3_ := Aside0.mk (ho); clear HO_25; clear BK122; clear HB; clear HO_5; have HO_25 := n0_; have BK122 := n1_; have HB := n2_; have HO137 := n3_; clear n0_ n1_ n2_ n3_; clear ho hb hg hat))
                       (try simp only [← hl25_2])
                       go_roundg k4
                       case measure => have := HK1.out; have := HK2.out; have := HJ19.out; have := HK4.out; omega
                       case rel => exact ⟨(y135), (wrap64 (x27_2 + 1)), rs_, H', ⟨by have := HK1.out; have := HK2.out; have := HJ19.out; have := HK4.out; omega⟩, ⟨by (try simp only [hl3_1]); (try simp only [hl25_2]); (with_reducible repeat (first | apply Kd.R_alloc | apply Kd.R_drewN | apply Kd.R_drew)); exact HO137.out⟩, ⟨by (try simp only [hl3_1]); (try simp only [hl25_2]); (with_reducible repeat (first | apply Kd.R_alloc | apply Kd.R_drewN | apply Kd.R_drew)); exact Kd.R_mono HO_25.out (fun _ hk => hk.2)⟩, ⟨by (try simp only [hl3_1]); (try simp only [hl25_2]); (with_reducible repeat (first | refine blk_drewN ?_ _ | refine blk_drew ?_ | refine blk_alloc ?_ _)); exact BK122.out⟩, ⟨hb_ HB⟩⟩
                      ·rw [if_neg c43] at H
                       exact absurd H (by simp)
                     ·replace c42 := Bool.eq_false_iff.mpr c42
                      subst c42
                      have H1 : (if (ji38) ≤ (x5_4.length : Int) then (figure_hull.l2 k4 (x5_4.take ((ji38) : Int).toNat) (rd t127 x27_2) t127 (x3_1.length : Int) x27_2 l0_0 l0_1 l0_2) else (none)) = some r := by rw [if_neg (show ¬ (false = true) by decide)] at H; exact H
                      clear H
                      have H := H1
                      clear H1
                      by_cases c48 : (ji38) ≤ (x5_4.length : Int)
                      ·rw [if_pos c48] at H
                       have c48b0 := eq_true c48
                       have c48b1 : decide ((ji38) ≤ (x5_4.length : Int)) = true := decide_eq_true c48
                       (try simp only [hl25_2] at c48b1)
                       (try simp only [hl3_1] at c48b1)
                       clear c48
                       obtain ⟨y138, hy138⟩ : ∃ y_ : List Int, y_ = (x5_4.take ((ji38) : Int).toNat) := ⟨_, rfl⟩
                       replace H : (figure_hull.l2 k4 y138 (rd t127 x27_2) t127 (x3_1.length : Int) x27_2 l0_0 l0_1 l0_2) = some r := by first | (rw [hy138]; with_reducible exact H) | (have H2_ := (Option.bind_some _ _).symm.trans H; rw [hy138]; with_reducible exact H2_) | (have H2_ := (Option.bind_some _ _).symm.trans H; with_reducible exact H2_) | with_reducible exact H | (rw [hy138]; exact H) | exact H
                       have Ny138 := Aside0.mk hy138
                       clear hy138
                       have H' := Aside0.mk H
                       clear H
                       try go_wp2
                       have n0_ := Aside0.mk (Kd.R_drew HO_5.out)
                       have n1_ := Aside0.mk (Kd.R_drew HO_25.out)
                       have n2_ := Aside0.mk (blk_drew BK122.out)
                       have n3_ := Aside0.mk (below_drew1 HB.out)
                       clear HO_5
                       clear HO_25
                       clear BK122
                       clear HB
                       have HO_5 := n0_
                       have HO_25 := n1_
                       have BK122 := n2_
                       have HB := n3_
                       clear n0_ n1_ n2_ n3_
                       obtain ⟨Ao50, co50, eo50⟩ := Kd.R_slice HO_5.out
                       (first | subst eo50 | (injection eo50 with f1_ f2_ f3_; have f4_ := f1_.symm; have f5_ := f3_.symm; clear f1_ f2_ f3_; subst f4_; subst f5_))
                       have p132 : 0 ≤ ((ji35) : Int) := of_decide_eq_true as_
                       have q132 : (ji35) < (x5_4.length : Int) := of_decide_eq_true as_
                       obtain ⟨ad132, e132, hx132_0⟩ := Kd.at_int (Kd.R_reads' HO_5.out).2.2 (ji35) p132 q132
                       cases e132
                       replace p132 := eq_true p132
                       replace q132 := eq_true q132
                       have p133 : 0 ≤ ((ji38) : Int) := of_decide_eq_true as_
                       have q133 : (ji38) < (x5_4.length : Int) := of_decide_eq_true as_
                       obtain ⟨ad133, e133, hx133_0⟩ := Kd.at_int (Kd.R_reads' HO_5.out).2.2 (ji38) p133 q133
                       obtain rfl : ad132 = ad133 := (by injection e133)
                       replace p133 := eq_true p133
                       replace q133 := eq_true q133
                       refine start_ (n := 21) (S := fun w' => w'.cell? ⟨gb122, 0, none⟩ = some (.slice A0_0 l0_0.length c0_0) ∧ w'.cell? ⟨gb122, 1, none⟩ = some (.slice A0_1 l0_1.length c0_1) ∧ w'.cell? ⟨gb122, 2, none⟩ = some (.slice A0_2 l0_2.length c0_2) ∧ w'.cell? (ad132.add ((ji35)).toNat) = some (.int .i64 (rd x5_4 (ji35))) ∧ w'.cell? (ad132.add ((ji38)).toNat) = some (.int .i64 (rd x5_4 (ji38)))) (ds := []) #[false, false, false, false, false, false, false, false, false, false, false, false, false, false, false, false, false, false, false, false, false] (by kernel_rfl) rfl rfl ⟨(blk_cell BK122.out 0).trans rfl, (blk_cell BK122.out 1).trans rfl, (blk_cell BK122.out 2).trans rfl, hx132_0, hx133_0⟩ (fun hHeld => ?_); refine with_tabW figure_hull.tab13 figure_hull.bits13 (fun HT_ HW_ => ?_)
                       generalize wr.drew = w49 at HO_5 HO_25 BK122 HB hx132_0 hx133_0 hHeld ⊢
                       refine pure_ (i := 0) (N := some 52) (v := ?_) (a' := ?_) #[true, false, false, false, false, false, false, false, false, false, false, false, false, false, false, false, false, false, false, false, false] rfl rfl (any_of HT_.out (by kernel_rfl)) (fun _ _ _ h => h) (Or.inl ⟨by rfl, ?_⟩) ?_ ?_
                       rotate_left
                       ·exact gs_
                       rotate_left
                       ·exact pt_
                       refine pure_ (i := 1) (N := some 53) (v := ?_) (a' := ?_) #[true, true, false, false, false, false, false, false, false, false, false, false, false, false, false, false, false, false, false, false, false] rfl rfl (any_of HT_.out (by kernel_rfl)) (fun _ _ _ h => h) (Or.inl ⟨by rfl, ?_⟩) ?_ ?_
                       rotate_left
                       ·exact gs_
                       rotate_left
                       ·exact pt_
                       refine pure_ (i := 2) (N := some 54) (v := ?_) (a' := ?_) #[true, true, true, false, false, false, false, false, false, false, false, false, false, false, false, false, false, false, false, false, false] rfl rfl (any_of HT_.out (by kernel_rfl)) (fun _ _ _ h => h) (Or.inl ⟨by rfl, ?_⟩) ?_ ?_
                       rotate_left
                       ·exact gs_
                       rotate_left
                       ·exact pt_
                       refine pure_ (i := 3) (N := some 55) (v := ?_) (a' := ?_) #[true, true, true, true, false, false, false, false, false, false, false, false, false, false, false, false, false, false, false, false, false] rfl rfl (any_of HT_.out (by kernel_rfl)) (fun _ _ _ h => h) (Or.inl ⟨by rfl, ?_⟩) ?_ ?_
                       rotate_left
                       ·exact gs_
                       rotate_left
                       ·exact pt_
                       refine pure_ (i := 5) (N := some 57) (v := ?_) (a' := ?_) #[true, true, true, true, false, true, false, false, false, false, false, false, false, false, false, false, false, false, false, false, false] rfl rfl (any_of HT_.out (by kernel_rfl)) (fun _ _ _ h => h) (Or.inl ⟨by rfl, ?_⟩) ?_ ?_
                       rotate_left
                       ·exact gs_
                       rotate_left
                       ·exact pt_
                       refine pure_ (i := 6) (N := some 58) (v := ?_) (a' := ?_) #[true, true, true, true, false, true, true, false, false, false, false, false, false, false, false, false, false, false, false, false, false] rfl rfl (any_of HT_.out (by kernel_rfl)) (fun _ _ _ h => h) (Or.inl ⟨by rfl, ?_⟩) ?_ ?_
                       rotate_left
                       ·exact gs_
                       rotate_left
                       ·exact pt_
                       refine pure_ (i := 7) (N := some 59) (v := ?_) (a' := ?_) #[true, true, true, true, false, true, true, true, false, false, false, false, false, false, false, false, false, false, false, false, false] rfl rfl (any_of HT_.out (by kernel_rfl)) (fun _ _ _ h => h) (Or.inl ⟨by rfl, ?_⟩) ?_ ?_
                       rotate_left
                       ·exact gs_
                       rotate_left
                       ·exact pt_
                       refine pure_ (i := 8) (N := some 60) (v := ?_) (a' := ?_) #[true, true, true, true, false, true, true, true, true, false, false, false, false, false, false, false, false, false, false, false, false] rfl rfl (any_of HT_.out (by kernel_rfl)) (fun _ _ _ h => h) (Or.inl ⟨by rfl, ?_⟩) ?_ ?_
                       rotate_left
                       ·exact gs_
                       rotate_left
                       ·exact pt_
                       refine pure_ (i := 9) (N := some 61) (v := ?_) (a' := ?_) #[true, true, true, true, false, true, true, true, true, true, false, false, false, false, false, false, false, false, false, false, false] rfl rfl (any_of HT_.out (by kernel_rfl)) (fun _ _ _ h => h) (Or.inl ⟨by rfl, ?_⟩) ?_ ?_
                       rotate_left
                       ·exact gs_
                       rotate_left
                       ·exact pt_
                       refine pure_ (i := 11) (N := some 63) (v := ?_) (a' := ?_) #[true, true, true, true, false, true, true, true, true, true, false, true, false, false, false, false, false, false, false, false, false] rfl rfl (any_of HT_.out (by kernel_rfl)) (fun _ _ _ h => h) (Or.inl ⟨by rfl, ?_⟩) ?_ ?_
                       rotate_left
                       ·exact gs_
                       rotate_left
                       ·exact pt_
                       refine pure_ (i := 12) (N := some 64) (v := ?_) (a' := ?_) #[true, true, true, true, false, true, true, true, true, true, false, true, true, false, false, false, false, false, false, false, false] rfl rfl (any_of HT_.out (by kernel_rfl)) (fun _ _ _ h => h) (Or.inl ⟨by rfl, ?_⟩) ?_ ?_
                       rotate_left
                       ·exact gs_
                       rotate_left
                       ·exact pt_
                       refine pure_ (i := 13) (N := some 65) (v := ?_) (a' := ?_) #[true, true, true, true, false, true, true, true, true, true, false, true, true, true, false, false, false, false, false, false, false] rfl rfl (any_of HT_.out (by kernel_rfl)) (fun _ _ _ h => h) (Or.inl ⟨by rfl, ?_⟩) ?_ ?_
                       rotate_left
                       ·exact gs_
                       rotate_left
                       ·exact pt_
                       refine pure_ (i := 14) (N := some 66) (v := ?_) (a' := ?_) #[true, true, true, true, false, true, true, true, true, true, false, true, true, true, true, false, false, false, false, false, false] rfl rfl (any_of HT_.out (by kernel_rfl)) (fun _ _ _ h => h) (Or.inl ⟨by rfl, ?_⟩) ?_ ?_
                       rotate_left
                       ·exact gs_
                       rotate_left
                       ·exact pt_
                       refine pure_ (i := 15) (N := some 67) (v := ?_) (a' := ?_) #[true, true, true, true, false, true, true, true, true, true, false, true, true, true, true, true, false, false, false, false, false] rfl rfl (any_of HT_.out (by kernel_rfl)) (fun _ _ _ h => h) (Or.inl ⟨by rfl, ?_⟩) ?_ ?_
                       rotate_left
                       ·exact gs_
                       rotate_left
                       ·exact pt_
                       refine pure_ (i := 17) (N := some 69) (v := ?_) (a' := ?_) #[true, true, true, true, false, true, true, true, true, true, false, true, true, true, true, true, false, true, false, false, false] rfl rfl (any_of HT_.out (by kernel_rfl)) (fun _ _ _ h => h) (Or.inl ⟨by rfl, ?_⟩) ?_ ?_
                       rotate_left
                       ·exact gs_
                       rotate_left
                       ·exact pt_
                       refine take_ (i := 4) (N := some 56) (v := ?_) (a' := ?_) #[true, true, true, true, true, true, true, true, true, true, false, true, true, true, true, true, false, true, false, false, false] rfl rfl (take_ofW HT_.out HW_.out (by kernel_rfl)) (fun _ _ _ h => h) (Or.inl ⟨by rfl, ?_⟩) hHeld ?_ ?_
                       rotate_left
                       ·rintro w' ⟨s0, s1, s2, s3, s4⟩; go_simp; with_reducible rfl
                       rotate_left
                       ·exact pt_
                       refine take_ (i := 10) (N := some 62) (v := ?_) (a' := ?_) #[true, true, true, true, true, true, true, true, true, true, true, true, true, true, true, true, false, true, false, false, false] rfl rfl (take_ofW HT_.out HW_.out (by kernel_rfl)) (fun _ _ _ h => h) (Or.inl ⟨by rfl, ?_⟩) hHeld ?_ ?_
                       rotate_left
                       ·rintro w' ⟨s0, s1, s2, s3, s4⟩; go_simp; with_reducible rfl
                       rotate_left
                       ·exact pt_
                       refine take_ (i := 16) (N := some 68) (v := ?_) (a' := ?_) #[true, true, true, true, true, true, true, true, true, true, true, true, true, true, true, true, true, true, false, false, false] rfl rfl (take_ofW HT_.out HW_.out (by kernel_rfl)) (fun _ _ _ h => h) (Or.inl ⟨by rfl, ?_⟩) hHeld ?_ ?_
                       rotate_left
                       ·rintro w' ⟨s0, s1, s2, s3, s4⟩; go_simp; with_reducible rfl
                       rotate_left
                       ·exact pt_
                       refine one_ (i := 18) (N := some 70) #[true, true, true, true, true, true, true, true, true, true, true, true, true, true, true, true, true, true, true, false, false] rfl rfl (one_of HT_.out (by kernel_rfl)) di_ (fun K hK => ?_)
                       refine goes_ Try.func124 (by kernel_rfl) rfl #[.agg #[.slice A0_0 l0_0.length c0_0, .slice A0_1 l0_1.length c0_1, .slice A0_2 l0_2.length c0_2], .int .i64 (rd x5_4 (ji35)), .int .i64 (rd x5_4 (ji38)), .int .i64 (rd t127 x27_2)] (by rfl) rfl rfl (by (try simp only [List.map_toArray, List.map_cons, List.map_nil]); first | done | (simp only [hji35, hji38]; rfl) | rfl | (simp only [List.length_drop, List.length_take]; rfl)) ?_
                       with_reducible refine (figure_under.calls _ _ l0_0 _ _ l0_1 _ _ l0_2 (rd x5_4 (ji35)) (rd x5_4 (ji38)) (rd t127 x27_2) false _ ?side1 ?side2 ?side3 ?side4 ?side5 ?side6 A41.out).mono ?_
                       (case side1 => exact cb_ (Kd.C_below HR0_0.out HB.out))
                       (case side2 => exact HC0_0.out)
                       (case side3 => exact cb_ (Kd.C_below HR0_1.out HB.out))
                       (case side4 => exact HC0_1.out)
                       (case side5 => exact cb_ (Kd.C_below HR0_2.out HB.out))
                       (case side6 => exact HC0_2.out)
                       rintro e w51 ⟨rfl, hb⟩
                       have HS3_ := (hb.cell (World.block_lt_of_cell? _ _ (hHeld.2.2.2.1))).trans (hHeld.2.2.2.1)
                       have HS4_ := (hb.cell (World.block_lt_of_cell? _ _ (hHeld.2.2.2.2))).trans (hHeld.2.2.2.2)
                       refine ⟨_, rfl, ?_⟩
                       have n0_ := Aside0.mk (Kd.R_below (rk_ HO_5) hb)
                       have n1_ := Aside0.mk (Kd.R_below (rk_ HO_25) hb)
                       have n2_ := Aside0.mk (bb_ BK122 hb)
                       have n3_ := Aside0.mk (below_step (hb_ HB) hb)
                       clear HO_5
                       clear HO_25
                       clear BK122
                       clear HB
                       have HO_5 := n0_
                       have HO_25 := n1_
                       have BK122 := n2_
                       have HB := n3_
                       clear n0_ n1_ n2_ n3_
                       (try clear hb)
                       (try clear hb2)
                       (try clear hk)
                       (try clear hi)
                       refine hK.out _ _ ⟨(blk_cell BK122.out 0).trans rfl, (blk_cell BK122.out 1).trans rfl, (blk_cell BK122.out 2).trans rfl, HS3_, HS4_⟩ (fun hHeld => ?_)
                       clear hK K
                       refine norm_ (a' := ?_) ?_ ?_
                       rotate_left
                       ·show Act.put _ (some 70) _ = _
                        simp only [Act.put, List.setIfInBounds_toArray, List.set_cons_zero, List.set_cons_succ, i64_w, i32_w]
                        rfl
                       refine pure_ (i := 19) (N := some 71) (v := ?_) (a' := ?_) #[true, true, true, true, true, true, true, true, true, true, true, true, true, true, true, true, true, true, true, true, false] rfl rfl (any_of HT_.out (by kernel_rfl)) (fun _ _ _ h => h) (Or.inl ⟨by rfl, ?_⟩) ?_ ?_
                       rotate_left
                       ·exact gs_
                       rotate_left
                       ·exact pt_
                       refine pure_ (i := 20) (N := some 72) (v := ?_) (a' := ?_) #[true, true, true, true, true, true, true, true, true, true, true, true, true, true, true, true, true, true, true, true, true] rfl rfl (any_of HT_.out (by kernel_rfl)) (fun _ _ _ h => h) (Or.inl ⟨by rfl, ?_⟩) ?_ ?_
                       rotate_left
                       ·exact gs_
                       rotate_left
                       ·exact pt_
                       refine done_ (done_of HT_.out (by kernel_rfl)) ?_
                       have q52 : ((ji38) : Int) ≤ ((x5_4.length : Int) : Int) := of_decide_eq_true as_
                       obtain ⟨i052, hi052, _, hsz52, _⟩ := info_parts info3
                       have hcut52 := cut_to (P := Try.prog) 22 3 .i64 Try.underlying22 hi052 (some ad132) x5_4.length co50 (ji38) (of_decide_eq_true as_) q52 (Kd.R_reads' HO_5.out).2.1
                       have hr52 := Kd.R_take (m := ((ji38) : Int).toNat) HO_5.out (by omega)
                       have hy52 : y138.length = ((ji38) : Int).toNat := (by rw [Ny138.out, List.length_take]; omega)
                       rw [← Ny138.out] at hr52
                       rw [← hy52] at hr52 hcut52
                       clear hy52 hi052 hsz52 HO_5
                       have HO140 := Aside0.mk hr52
                       clear hr52
                       replace q52 := eq_true q52
                       try go_wp2
                       go_roundg k4
                       case measure => have := HK1.out; have := HK2.out; have := HJ19.out; have := HK4.out; omega
                       case rel => exact ⟨(y138), H', ⟨by have := HK1.out; have := HK2.out; have := HJ19.out; have := HK4.out; omega⟩, ⟨by (try simp only [hl3_1]); (try simp only [hl25_2]); (with_reducible repeat (first | apply Kd.R_alloc | apply Kd.R_drewN | apply Kd.R_drew)); exact HO140.out⟩, ⟨by (try simp only [hl3_1]); (try simp only [hl25_2]); (with_reducible repeat (first | apply Kd.R_alloc | apply Kd.R_drewN | apply Kd.R_drew)); exact HO_25.out⟩, ⟨by (try simp only [hl3_1]); (try simp only [hl25_2]); (with_reducible repeat (first | refine blk_drewN ?_ _ | refine blk_drew ?_ | refine blk_alloc ?_ _)); exact BK122.out⟩, ⟨hb_ HB⟩⟩
                      ·rw [if_neg c48] at H
                       exact absurd H (by simp)
                    ·rw [if_neg c40] at H
                     exact absurd H (by simp)
                   ·rw [if_neg c39] at H
                    exact absurd H (by simp)
                  ·rw [if_neg c37] at H
                   exact absurd H (by simp)
                 ·rw [if_neg c36] at H
                  exact absurd H (by simp)
                ·rw [if_neg c34] at H
                 have c34b0 : decide (1 < (x5_4.length : Int)) = false := decide_eq_false c34
                 (try simp only [hl25_2] at c34b0)
                 (try simp only [hl3_1] at c34b0)
                 have c34b1 : decide (1 < x5_4.length) = false := decide_eq_false (by omega)
                 clear c34
                 by_cases c53 : x5_4.length < 17592186044416
                 ·rw [if_pos c53] at H
                  have LMc53 := Aside0.mk c53
                  clear c53
                  obtain ⟨y141, hy141⟩ : ∃ y_ : List Int, y_ = (x5_4 ++ [(rd t127 x27_2)]) := ⟨_, rfl⟩
                  replace H : (figure_hull.l1 k4 y141 t127 (x3_1.length : Int) (wrap64 (x27_2 + 1)) l0_0 l0_1 l0_2) = some r := by first | (rw [hy141]; with_reducible exact H) | (have H2_ := (Option.bind_some _ _).symm.trans H; rw [hy141]; with_reducible exact H2_) | (have H2_ := (Option.bind_some _ _).symm.trans H; with_reducible exact H2_) | with_reducible exact H | (rw [hy141]; exact H) | exact H
                  have Ny141 := Aside0.mk hy141
                  clear hy141
                  have H' := Aside0.mk H
                  clear H
                  try go_wp2
                  have n0_ := Aside0.mk (Kd.R_drew HO_5.out)
                  have n1_ := Aside0.mk (Kd.R_drew HO_25.out)
                  have n2_ := Aside0.mk (blk_drew BK122.out)
                  have n3_ := Aside0.mk (below_drew1 HB.out)
                  clear HO_5
                  clear HO_25
                  clear BK122
                  clear HB
                  have HO_5 := n0_
                  have HO_25 := n1_
                  have BK122 := n2_
                  have HB := n3_
                  clear n0_ n1_ n2_ n3_
                  obtain ⟨Ao55, co55, eo55⟩ := Kd.R_slice HO_5.out
                  (first | subst eo55 | (injection eo55 with f1_ f2_ f3_; have f4_ := f1_.symm; have f5_ := f3_.symm; clear f1_ f2_ f3_; subst f4_; subst f5_))
                  refine start_ (n := 21) (S := fun w' => True) (ds := []) #[false, false, false, false, false, false, false, false, false, false, false, false, false, false, false, false, false, false, false, false, false] (by kernel_rfl) rfl rfl trivial (fun hHeld => ?_); refine with_tabW figure_hull.tab13 figure_hull.bits13 (fun HT_ HW_ => ?_)
                  generalize wr.drew = w54 at HO_5 HO_25 BK122 HB hHeld ⊢
                  refine pure_ (i := 0) (N := some 52) (v := ?_) (a' := ?_) #[true, false, false, false, false, false, false, false, false, false, false, false, false, false, false, false, false, false, false, false, false] rfl rfl (any_of HT_.out (by kernel_rfl)) (fun _ _ _ h => h) (Or.inl ⟨by rfl, ?_⟩) ?_ ?_
                  rotate_left
                  ·exact gs_
                  rotate_left
                  ·exact pt_
                  refine pure_ (i := 1) (N := some 53) (v := ?_) (a' := ?_) #[true, true, false, false, false, false, false, false, false, false, false, false, false, false, false, false, false, false, false, false, false] rfl rfl (any_of HT_.out (by kernel_rfl)) (fun _ _ _ h => h) (Or.inl ⟨by rfl, ?_⟩) ?_ ?_
                  rotate_left
                  ·exact gs_
                  rotate_left
                  ·exact pt_
                  refine pure_ (i := 2) (N := some 54) (v := ?_) (a' := ?_) #[true, true, true, false, false, false, false, false, false, false, false, false, false, false, false, false, false, false, false, false, false] rfl rfl (any_of HT_.out (by kernel_rfl)) (fun _ _ _ h => h) (Or.inl ⟨by rfl, ?_⟩) ?_ ?_
                  rotate_left
                  ·exact gs_
                  rotate_left
                  ·exact pt_
                  refine pure_ (i := 3) (N := some 55) (v := ?_) (a' := ?_) #[true, true, true, true, false, false, false, false, false, false, false, false, false, false, false, false, false, false, false, false, false] rfl rfl (any_of HT_.out (by kernel_rfl)) (fun _ _ _ h => h) (Or.inl ⟨by rfl, ?_⟩) ?_ ?_
                  rotate_left
                  ·exact gs_
                  rotate_left
                  ·exact pt_
                  refine pure_ (i := 4) (N := some 56) (v := undef) (a' := ?_) #[true, true, true, true, true, false, false, false, false, false, false, false, false, false, false, false, false, false, false, false, false] rfl rfl (any_of HT_.out (by kernel_rfl)) (fun _ _ _ h => h) (Or.inr ⟨by rfl, rfl⟩) ?_ ?_
                  rotate_left
                  ·exact pt_
                  refine pure_ (i := 5) (N := some 57) (v := undef) (a' := ?_) #[true, true, true, true, true, true, false, false, false, false, false, false, false, false, false, false, false, false, false, false, false] rfl rfl (any_of HT_.out (by kernel_rfl)) (fun _ _ _ h => h) (Or.inr ⟨by rfl, rfl⟩) ?_ ?_
                  rotate_left
                  ·exact pt_
                  refine pure_ (i := 6) (N := some 58) (v := undef) (a' := ?_) #[true, true, true, true, true, true, true, false, false, false, false, false, false, false, false, false, false, false, false, false, false] rfl rfl (any_of HT_.out (by kernel_rfl)) (fun _ _ _ h => h) (Or.inr ⟨by rfl, rfl⟩) ?_ ?_
                  rotate_left
                  ·exact pt_
                  refine pure_ (i := 7) (N := some 59) (v := undef) (a' := ?_) #[true, true, true, true, true, true, true, true, false, false, false, false, false, false, false, false, false, false, false, false, false] rfl rfl (any_of HT_.out (by kernel_rfl)) (fun _ _ _ h => h) (Or.inr ⟨by rfl, rfl⟩) ?_ ?_
                  rotate_left
                  ·exact pt_
                  refine pure_ (i := 8) (N := some 60) (v := undef) (a' := ?_) #[true, true, true, true, true, true, true, true, true, false, false, false, false, false, false, false, false, false, false, false, false] rfl rfl (any_of HT_.out (by kernel_rfl)) (fun _ _ _ h => h) (Or.inr ⟨by rfl, rfl⟩) ?_ ?_
                  rotate_left
                  ·exact pt_
                  refine pure_ (i := 9) (N := some 61) (v := undef) (a' := ?_) #[true, true, true, true, true, true, true, true, true, true, false, false, false, false, false, false, false, false, false, false, false] rfl rfl (any_of HT_.out (by kernel_rfl)) (fun _ _ _ h => h) (Or.inr ⟨by rfl, rfl⟩) ?_ ?_
                  rotate_left
                  ·exact pt_
                  refine pure_ (i := 10) (N := some 62) (v := undef) (a' := ?_) #[true, true, true, true, true, true, true, true, true, true, true, false, false, false, false, false, false, false, false, false, false] rfl rfl (any_of HT_.out (by kernel_rfl)) (fun _ _ _ h => h) (Or.inr ⟨by rfl, rfl⟩) ?_ ?_
                  rotate_left
                  ·exact pt_
                  refine pure_ (i := 11) (N := some 63) (v := undef) (a' := ?_) #[true, true, true, true, true, true, true, true, true, true, true, true, false, false, false, false, false, false, false, false, false] rfl rfl (any_of HT_.out (by kernel_rfl)) (fun _ _ _ h => h) (Or.inr ⟨by rfl, rfl⟩) ?_ ?_
                  rotate_left
                  ·exact pt_
                  refine pure_ (i := 12) (N := some 64) (v := undef) (a' := ?_) #[true, true, true, true, true, true, true, true, true, true, true, true, true, false, false, false, false, false, false, false, false] rfl rfl (any_of HT_.out (by kernel_rfl)) (fun _ _ _ h => h) (Or.inr ⟨by rfl, rfl⟩) ?_ ?_
                  rotate_left
                  ·exact pt_
                  refine pure_ (i := 13) (N := some 65) (v := undef) (a' := ?_) #[true, true, true, true, true, true, true, true, true, true, true, true, true, true, false, false, false, false, false, false, false] rfl rfl (any_of HT_.out (by kernel_rfl)) (fun _ _ _ h => h) (Or.inr ⟨by rfl, rfl⟩) ?_ ?_
                  rotate_left
                  ·exact pt_
                  refine pure_ (i := 14) (N := some 66) (v := undef) (a' := ?_) #[true, true, true, true, true, true, true, true, true, true, true, true, true, true, true, false, false, false, false, false, false] rfl rfl (any_of HT_.out (by kernel_rfl)) (fun _ _ _ h => h) (Or.inr ⟨by rfl, rfl⟩) ?_ ?_
                  rotate_left
                  ·exact pt_
                  refine pure_ (i := 15) (N := some 67) (v := undef) (a' := ?_) #[true, true, true, true, true, true, true, true, true, true, true, true, true, true, true, true, false, false, false, false, false] rfl rfl (any_of HT_.out (by kernel_rfl)) (fun _ _ _ h => h) (Or.inr ⟨by rfl, rfl⟩) ?_ ?_
                  rotate_left
                  ·exact pt_
                  refine pure_ (i := 16) (N := some 68) (v := undef) (a' := ?_) #[true, true, true, true, true, true, true, true, true, true, true, true, true, true, true, true, true, false, false, false, false] rfl rfl (any_of HT_.out (by kernel_rfl)) (fun _ _ _ h => h) (Or.inr ⟨by rfl, rfl⟩) ?_ ?_
                  rotate_left
                  ·exact pt_
                  refine pure_ (i := 17) (N := some 69) (v := undef) (a' := ?_) #[true, true, true, true, true, true, true, true, true, true, true, true, true, true, true, true, true, true, false, false, false] rfl rfl (any_of HT_.out (by kernel_rfl)) (fun _ _ _ h => h) (Or.inr ⟨by rfl, rfl⟩) ?_ ?_
                  rotate_left
                  ·exact pt_
                  refine pure_ (i := 18) (N := some 70) (v := undef) (a' := ?_) #[true, true, true, true, true, true, true, true, true, true, true, true, true, true, true, true, true, true, true, false, false] rfl rfl (any_of HT_.out (by kernel_rfl)) (fun _ _ _ h => h) (Or.inr ⟨by rfl, rfl⟩) ?_ ?_
                  rotate_left
                  ·exact pt_
                  refine pure_ (i := 19) (N := some 71) (v := undef) (a' := ?_) #[true, true, true, true, true, true, true, true, true, true, true, true, true, true, true, true, true, true, true, true, false] rfl rfl (any_of HT_.out (by kernel_rfl)) (fun _ _ _ h => h) (Or.inr ⟨by rfl, rfl⟩) ?_ ?_
                  rotate_left
                  ·exact pt_
                  refine pure_ (i := 20) (N := some 72) (v := ?_) (a' := ?_) #[true, true, true, true, true, true, true, true, true, true, true, true, true, true, true, true, true, true, true, true, true] rfl rfl (any_of HT_.out (by kernel_rfl)) (fun _ _ _ h => h) (Or.inl ⟨by rfl, ?_⟩) ?_ ?_
                  rotate_left
                  ·exact gs_
                  rotate_left
                  ·exact pt_
                  refine done_ (done_of HT_.out (by kernel_rfl)) ?_
                  try go_wp2_with (first | ((with_reducible refine gate_builtin (b := .append) (xs := #[.tmp 78, .tmp 80]) rfl ?_); (try (refine gate_guard (by rfl) ?_; dsimp only)); at_builtin; refine Kd.R_append (Kd.int .i64) (w0 := w) w.heap.size rfl (.tmp 78) (.tmp 80) 22 3 (.int .i64 0) 8 rfl Try.underlying22 info3 rfl di_ (by omega) (.slice Ao55 x5_4.length co55) x5_4 (rd t127 x27_2) [.int .i64 (rd t127 x27_2)] (fun k_ => some k_ ≠ (.slice (some ad128) t127.length co8 : Value).ownBlock) (fun _ => False) rfl rfl ?aP (fun _ hk => hk.elim) ?aF ?aO ?aB ?aS ?aL ?_; (case aP => exact rfl); (case aB => exact (hb_ HB)); (case aF => exact (fun k_ hk => Kd.fresh' (Kd.R_lt (rk_ HO_25)) k_ hk)); (case aO => exact (rk_ HO_5)); (case aS => exact (below_size (hb_ HB))); (case aL => have := LMc53.out; omega); intro v142 w56 ho hb hg hat; rw [← Ny141.out] at ho; have n0_ := Aside0.mk (Kd.R_after (ok := (fun _ => True)) (by (with_reducible repeat (first | apply Kd.R_alloc | apply Kd.R_drewN | apply Kd.R_drew)); exact Kd.R_mono HO_25.out (fun _ hk => ⟨trivial, hk⟩)) hg hat); have n1_ := Aside0.mk (blk_grown (g := gb122) (o := .cells #[.slice A0_0 l0_0.length c0_0, .slice A0_1 l0_1.length c0_1, .slice A0_2 l0_2.length c0_2] 24 (0, 0)) (bk_ BK122) hg (Kd.R_ne HO_5.out BK122.out di_)); have n2_ := Aside0.mk (hb); have n3_ := Aside0.mk (ho); clear HO_25; clear BK122; clear HB; clear HO_5; have HO_25 := n0_; have BK122 := n1_; have HB := n2_; have HO143 := n3_; clear n0_ n1_ n2_ n3_; clear ho hb hg hat))
                  (try simp only [← hl25_2])
                  go_roundg k4
                  case measure => have := HK1.out; have := HK2.out; have := HJ19.out; have := HK4.out; omega
                  case rel => exact ⟨(y141), (wrap64 (x27_2 + 1)), rs_, H', ⟨by have := HK1.out; have := HK2.out; have := HJ19.out; have := HK4.out; omega⟩, ⟨by (try simp only [hl3_1]); (try simp only [hl25_2]); (with_reducible repeat (first | apply Kd.R_alloc | apply Kd.R_drewN | apply Kd.R_drew)); exact HO143.out⟩, ⟨by (try simp only [hl3_1]); (try simp only [hl25_2]); (with_reducible repeat (first | apply Kd.R_alloc | apply Kd.R_drewN | apply Kd.R_drew)); exact Kd.R_mono HO_25.out (fun _ hk => hk.2)⟩, ⟨by (try simp only [hl3_1]); (try simp only [hl25_2]); (with_reducible repeat (first | refine blk_drewN ?_ _ | refine blk_drew ?_ | refine blk_alloc ?_ _)); exact BK122.out⟩, ⟨hb_ HB⟩⟩
                 ·rw [if_neg c53] at H
                  exact absurd H (by simp)
          ·rw [if_neg c19] at H
           exact absurd H (by simp)
         ·rw [if_neg c18] at H
          exact absurd H (by simp)
        ·rw [if_neg c17] at H
         have c17b0 : decide (x27_2 < (x3_1.length : Int)) = false := decide_eq_false c17
         (try simp only [hl25_2] at c17b0)
         (try simp only [hl3_1] at c17b0)
         clear c17
         obtain rfl := Option.some.inj H
         go_wp2
         go_ret
         exact ⟨_, ew_, by (with_reducible repeat (first | apply Kd.R_alloc | apply Kd.R_drewN | apply Kd.R_drew)); exact Kd.R_mono HO_5.out (fun _ hk => trivial), hb_ HB⟩
  ·rw [if_neg c3] at H
   exact absurd H (by simp)
 ·rw [if_neg c2] at H
  exact absurd H (by simp)
def figure_sums_side.f (a0_0 : Int) (a0_1 : Int) (a0_2 : Int) (a1 : Int) : Option (Int) := (cmp_Compare_int.f (wrap64 (a1 * a0_0)) a0_1).bind fun t133 => (some t133)
set_option maxHeartbeats 8000000 in
set_option maxRecDepth 100000 in
theorem figure_sums_side.calls (a0_0 : Int) (a0_1 : Int) (a0_2 : Int) (a1 : Int) (r : Int) (w : World) (h : figure_sums_side.f a0_0 a0_1 a0_2 a1 = some r) :
  Calls Try.prog 82 #[.agg #[.int .i64 a0_0, .int .i64 a0_1, .int .i64 a0_2], .int .i64 a1] w fun e w' => e = .returned (.int .i64 r) ∧ Below w.heap.size w w' := by
 have hu105 := Try.underlying105
 have HB := Aside0.mk (Below.refl w.heap.size w)
 have H : ((cmp_Compare_int.f (wrap64 (a1 * a0_0)) a0_1).bind fun t133 => (some t133)) = some r := h
 clear h
 replace H := Option.bind_eq_some_iff.mp H
 obtain ⟨t133, A30, H⟩ := H
 replace H : (some t133) = some r := H
 have A3 := Aside0.mk A30
 clear A30
 obtain rfl := Option.some.inj H
 go_enter Try.func82, Try.ntmps82
 go_wp2_with (first | ((with_reducible refine gate_dst (N := 2) rfl ?_); refine box_event ?hg (N := 2) ?hd (cs := #[.int .i64 a0_0, .int .i64 a0_1, .int .i64 a0_2]) (t := 105) ?hr ?_; (case hd => rfl); (case hg => rfl); (case hr => exact gr_); intro gb132 hg w4 hbox hb; have n0_ := Aside0.mk (below_step (hb_ HB) hb); have n1_ := Aside0.mk (hbox); have n2_ := Aside0.mk ((hz_ HB hg)); have n3_ := Aside0.mk ((hz_ HB hg)); clear HB; have HB := n0_; have BK132 := n1_; have GW132 := n2_; have GE132 := n3_; clear n0_ n1_ n2_ n3_; clear hb hbox hg; have hcz5_0 : w4.cell? ⟨gb132, 0, none⟩ = some (.int .i64 a0_0) := (blk_cell BK132.out 0).trans rfl; have hcz5_1 : w4.cell? ⟨gb132, 1, none⟩ = some (.int .i64 a0_1) := (blk_cell BK132.out 1).trans rfl; have hcz5_2 : w4.cell? ⟨gb132, 2, none⟩ = some (.int .i64 a0_2) := (blk_cell BK132.out 2).trans rfl; have hfz5_0 := blk_frozen BK132.out 0; have hfz5_1 := blk_frozen BK132.out 1; have hfz5_2 := blk_frozen BK132.out 2) | ((with_reducible refine gate_callee (f := 115) rfl ?_); refine goesL_ (some 11) rfl rfl Try.func115 (by kernel_rfl) rfl #[.int .i64 (wrap64 (a1 * a0_0)), .int .i64 a0_1] rfl ma_ ?_; (with_reducible refine (cmp_Compare_int.calls (wrap64 (a1 * a0_0)) a0_1 t133 _ A3.out).mono ?_); rintro e w' ⟨rfl, ⟨nd, rfl⟩⟩; refine ⟨_, rfl, ?_⟩))
 go_ret
 exact ⟨ew_, hb_ HB⟩
def figure_reference_1.f (a0 : Int) (a1_0 : Int) (a1_1 : Int) (a1_2 : Int) (l2_0 : List Int) (l2_1 : List Int) (l2_2 : List Int) : Option (Bool) := if 0 ≤ a0 then (if a0 < (l2_1.length : Int) then ((figure_sums_side.f a1_0 a1_1 a1_2 (rd l2_1 a0)).bind fun t108 => (some (decide (t108 ≥ 0)))) else (none)) else (none)
def figure_reference_1.T1 : Bool × List (List Nat × List Nat) := (true, [([], []), ([], []), ([1], [1]), ([], []), ([2, 3], [2, 3]), ([4], [4]), ([0, 5], [0, 5]), ([6], [6]), ([7, 6, 0, 1, 2, 3, 4, 5, 6, 7], [7])])
def figure_reference_1.B1 : List Nat := [0, 0, 2, 0, 14, 30, 63, 127, 255]
theorem figure_reference_1.tab1 : rtab .any (opsOf Try.f109 1) = figure_reference_1.T1 := by kernel_rfl
theorem figure_reference_1.bits1 : waitsOk figure_reference_1.T1.2 figure_reference_1.B1 = true := by kernel_rfl
set_option maxHeartbeats 8000000 in
set_option maxRecDepth 100000 in
theorem figure_reference_1.calls (a0 : Int) (a1_0 : Int) (a1_1 : Int) (a1_2 : Int) (A2_0 : Option Addr) (c2_0 : Nat) (l2_0 : List Int) (A2_1 : Option Addr) (c2_1 : Nat) (l2_1 : List Int) (A2_2 : Option Addr) (c2_2 : Nat) (l2_2 : List Int) (r : Bool) (g0 : Nat) (g1 : Nat) (w : World) (hg0 : w.heap[g0]? = some (.cells #[.int .i64 a1_0, .int .i64 a1_1, .int .i64 a1_2] 105 (0, 0))) (hg1 : w.heap[g1]? = some (.cells #[.slice A2_0 l2_0.length c2_0, .slice A2_1 l2_1.length c2_1, .slice A2_2 l2_2.length c2_2] 24 (0, 0))) (hr2_0 : Kd.C (Kd.int .i64) w A2_0 l2_0.length l2_0) (hc2_0 : l2_0.length ≤ c2_0) (hr2_1 : Kd.C (Kd.int .i64) w A2_1 l2_1.length l2_1) (hc2_1 : l2_1.length ≤ c2_1) (hr2_2 : Kd.C (Kd.int .i64) w A2_2 l2_2.length l2_2) (hc2_2 : l2_2.length ≤ c2_2) (h : figure_reference_1.f a0 a1_0 a1_1 a1_2 l2_0 l2_1 l2_2 = some r) :
  Calls Try.prog 109 #[.int .i64 a0, .pointer (some ⟨g0, 0, none⟩), .pointer (some ⟨g1, 0, none⟩)] w fun e w' => e = .returned (.bool r) ∧ Below w.heap.size w w' := by
 have hu105 := Try.underlying105
 have hu24 := Try.underlying24
 have HR2_0 := Aside0.mk hr2_0
 have HC2_0 := Aside0.mk hc2_0
 clear hr2_0 hc2_0
 have HR2_1 := Aside0.mk hr2_1
 have HC2_1 := Aside0.mk hc2_1
 clear hr2_1 hc2_1
 have HR2_2 := Aside0.mk hr2_2
 have HC2_2 := Aside0.mk hc2_2
 clear hr2_2 hc2_2
 have HB := Aside0.mk (Below.refl w.heap.size w)
 have H : (if 0 ≤ a0 then (if a0 < (l2_1.length : Int) then ((figure_sums_side.f a1_0 a1_1 a1_2 (rd l2_1 a0)).bind fun t108 => (some (decide (t108 ≥ 0)))) else (none)) else (none)) = some r := h
 clear h
 by_cases c4 : 0 ≤ a0
 ·rw [if_pos c4] at H
  have c4b0 : decide (0 ≤ a0) = true := decide_eq_true c4
  clear c4
  by_cases c5 : a0 < (l2_1.length : Int)
  ·rw [if_pos c5] at H
   have c5b0 : decide (a0 < (l2_1.length : Int)) = true := decide_eq_true c5
   clear c5
   replace H := Option.bind_eq_some_iff.mp H
   obtain ⟨t108, A60, H⟩ := H
   replace H : (some (decide (t108 ≥ 0))) = some r := H
   have A6 := Aside0.mk A60
   clear A60
   obtain rfl := Option.some.inj H
   go_enter Try.func109, Try.ntmps109
   have BK105 := Aside0.mk hg0
   have BK106 := Aside0.mk hg1
   try go_wp2
   have n0_ := Aside0.mk (blk_drew BK105.out)
   have n1_ := Aside0.mk (blk_drew BK106.out)
   have n2_ := Aside0.mk (below_drew1 HB.out)
   clear BK105
   clear BK106
   clear HB
   have BK105 := n0_
   have BK106 := n1_
   have HB := n2_
   clear n0_ n1_ n2_
   have p107 : 0 ≤ (a0 : Int) := of_decide_eq_true as_
   have q107 : a0 < (l2_1.length : Int) := of_decide_eq_true as_
   obtain ⟨ad107, e107, hx107_0⟩ := Kd.at_int HR2_1.out a0 p107 q107
   have hw107_0 := hx107_0
   cases e107
   replace hx107_0 := (HB.out.cell (World.block_lt_of_cell? w _ hx107_0)).trans hx107_0
   replace p107 := eq_true p107
   replace q107 := eq_true q107
   refine start_ (n := 9) (S := fun w' => w'.cell? ⟨g0, 0, none⟩ = some (.int .i64 a1_0) ∧ w'.cell? ⟨g0, 1, none⟩ = some (.int .i64 a1_1) ∧ w'.cell? ⟨g0, 2, none⟩ = some (.int .i64 a1_2) ∧ w'.cell? ⟨g1, 0, none⟩ = some (.slice A2_0 l2_0.length c2_0) ∧ w'.cell? ⟨g1, 1, none⟩ = some (.slice (some ad107) l2_1.length c2_1) ∧ w'.cell? ⟨g1, 2, none⟩ = some (.slice A2_2 l2_2.length c2_2) ∧ w'.cell? (ad107.add (a0).toNat) = some (.int .i64 (rd l2_1 a0))) (ds := []) #[false, false, false, false, false, false, false, false, false] (by kernel_rfl) rfl rfl ⟨(blk_cell BK105.out 0).trans rfl, (blk_cell BK105.out 1).trans rfl, (blk_cell BK105.out 2).trans rfl, (blk_cell BK106.out 0).trans rfl, (blk_cell BK106.out 1).trans rfl, (blk_cell BK106.out 2).trans rfl, ((HB.out.cell (World.block_lt_of_cell? w _ hw107_0)).trans hw107_0)⟩ (fun hHeld => ?_); refine with_tabW figure_reference_1.tab1 figure_reference_1.bits1 (fun HT_ HW_ => ?_)
   generalize w.drew = w9 at BK105 BK106 HB hx107_0 hHeld ⊢
   refine pure_ (i := 1) (N := some 6) (v := ?_) (a' := ?_) #[false, true, false, false, false, false, false, false, false] rfl rfl (any_of HT_.out (by kernel_rfl)) (fun _ _ _ h => h) (Or.inl ⟨by rfl, ?_⟩) ?_ ?_
   rotate_left
   ·exact gs_
   rotate_left
   ·exact pt_
   refine pure_ (i := 3) (N := some 8) (v := ?_) (a' := ?_) #[false, true, false, true, false, false, false, false, false] rfl rfl (any_of HT_.out (by kernel_rfl)) (fun _ _ _ h => h) (Or.inl ⟨by rfl, ?_⟩) ?_ ?_
   rotate_left
   ·exact gs_
   rotate_left
   ·exact pt_
   refine take_ (i := 0) (N := some 5) (v := ?_) (a' := ?_) #[true, true, false, true, false, false, false, false, false] rfl rfl (take_ofW HT_.out HW_.out (by kernel_rfl)) (fun _ _ _ h => h) (Or.inl ⟨by rfl, ?_⟩) hHeld ?_ ?_
   rotate_left
   ·rintro w' ⟨s0, s1, s2, s3, s4, s5, s6⟩; go_simp; with_reducible rfl
   rotate_left
   ·exact pt_
   refine take_ (i := 2) (N := some 7) (v := ?_) (a' := ?_) #[true, true, true, true, false, false, false, false, false] rfl rfl (take_ofW HT_.out HW_.out (by kernel_rfl)) (fun _ _ _ h => h) (Or.inl ⟨by rfl, ?_⟩) hHeld ?_ ?_
   rotate_left
   ·rintro w' ⟨s0, s1, s2, s3, s4, s5, s6⟩; go_simp; with_reducible rfl
   rotate_left
   ·exact pt_
   refine pure_ (i := 4) (N := some 9) (v := ?_) (a' := ?_) #[true, true, true, true, true, false, false, false, false] rfl rfl (any_of HT_.out (by kernel_rfl)) (fun _ _ _ h => h) (Or.inl ⟨by rfl, ?_⟩) ?_ ?_
   rotate_left
   ·exact gs_
   rotate_left
   ·exact pt_
   refine take_ (i := 5) (N := some 10) (v := ?_) (a' := ?_) #[true, true, true, true, true, true, false, false, false] rfl rfl (take_ofW HT_.out HW_.out (by kernel_rfl)) (fun _ _ _ h => h) (Or.inl ⟨by rfl, ?_⟩) hHeld ?_ ?_
   rotate_left
   ·rintro w' ⟨s0, s1, s2, s3, s4, s5, s6⟩; go_simp; with_reducible rfl
   rotate_left
   ·exact pt_
   refine one_ (i := 6) (N := some 11) #[true, true, true, true, true, true, true, false, false] rfl rfl (one_of HT_.out (by kernel_rfl)) di_ (fun K hK => ?_)
   refine goes_ Try.func82 (by kernel_rfl) rfl #[.agg #[.int .i64 a1_0, .int .i64 a1_1, .int .i64 a1_2], .int .i64 (rd l2_1 a0)] (by rfl) rfl rfl ma_ ?_
   with_reducible refine (figure_sums_side.calls a1_0 a1_1 a1_2 (rd l2_1 a0) t108 _ A6.out).mono ?_
   rintro e w10 ⟨rfl, hb⟩
   refine ⟨_, rfl, ?_⟩
   have n0_ := Aside0.mk (bb_ BK105 hb)
   have n1_ := Aside0.mk (bb_ BK106 hb)
   have n2_ := Aside0.mk (below_step (hb_ HB) hb)
   clear BK105
   clear BK106
   clear HB
   have BK105 := n0_
   have BK106 := n1_
   have HB := n2_
   clear n0_ n1_ n2_
   (try clear hb)
   (try clear hb2)
   (try clear hk)
   (try clear hi)
   refine hK.out _ _ ⟨(blk_cell BK105.out 0).trans rfl, (blk_cell BK105.out 1).trans rfl, (blk_cell BK105.out 2).trans rfl, (blk_cell BK106.out 0).trans rfl, (blk_cell BK106.out 1).trans rfl, (blk_cell BK106.out 2).trans rfl, ((HB.out.cell (World.block_lt_of_cell? w _ hw107_0)).trans hw107_0)⟩ (fun hHeld => ?_)
   clear hK K
   refine norm_ (a' := ?_) ?_ ?_
   rotate_left
   ·show Act.put _ (some 11) _ = _
    simp only [Act.put, List.setIfInBounds_toArray, List.set_cons_zero, List.set_cons_succ, i64_w, i32_w]
    rfl
   refine pure_ (i := 7) (N := some 12) (v := ?_) (a' := ?_) #[true, true, true, true, true, true, true, true, false] rfl rfl (any_of HT_.out (by kernel_rfl)) (fun _ _ _ h => h) (Or.inl ⟨by rfl, ?_⟩) ?_ ?_
   rotate_left
   ·exact gs_
   rotate_left
   ·exact pt_
   refine pure_ (i := 8) (N := some 4) (v := ?_) (a' := ?_) #[true, true, true, true, true, true, true, true, true] rfl rfl (any_of HT_.out (by kernel_rfl)) (fun _ _ _ h => h) (Or.inl ⟨by rfl, ?_⟩) ?_ ?_
   rotate_left
   ·exact gs_
   rotate_left
   ·exact pt_
   refine done_ (done_of HT_.out (by kernel_rfl)) ?_
   try go_wp2
   go_ret
   exact ⟨ew_, hb_ HB⟩
  ·rw [if_neg c5] at H
   exact absurd H (by simp)
 ·rw [if_neg c4] at H
  exact absurd H (by simp)
end Go.Proofs.Ytdkahcolfcmmpaa.Pr
namespace Go.Proofs.Ytdkahcolfcmmpaa.Pr
open Go.RowKit Go.Proofs.YtdkahcolfcmmpaaW.PrintWords Go.Proofs.YtdkahcolfcmmpaaW.PrintLast Go.Proofs.YtdkahcolfcmmpaaW.PrintMore
set_option linter.unusedVariables false
structure EnvR where
 s0 : Int
 s1 : Int
 s2 : Int
 l1 : List Int
def refC.f [E : Inhabited EnvR] (a0 : Int) : Option Bool := figure_reference_1.f a0 E.default.s0 E.default.s1 E.default.s2 [] E.default.l1 []
def REnv [E : Inhabited EnvR] (gs gm : Nat) (w : World) : Prop :=
 ∃ A0 c0 A1 c1 A2 c2, ∃ l0 l2 : List Int, w.heap[gs]? = some (.cells #[.int .i64 E.default.s0, .int .i64 E.default.s1, .int .i64 E.default.s2] 105 (0, 0)) ∧
  w.heap[gm]? = some (.cells #[.slice A0 l0.length c0, .slice A1 E.default.l1.length c1, .slice A2 l2.length c2] 24 (0, 0)) ∧
  (Kd.C (Kd.int .i64) w A0 l0.length l0 ∧ l0.length ≤ c0) ∧ (Kd.C (Kd.int .i64) w A1 E.default.l1.length E.default.l1 ∧ E.default.l1.length ≤ c1) ∧ (Kd.C (Kd.int .i64) w A2 l2.length l2 ∧ l2.length ≤ c2)
theorem REnv.below [E : Inhabited EnvR] {gs gm : Nat} {w W : World} (h : REnv gs gm w) (hB : Below w.heap.size w W) : REnv gs gm W := by
 obtain ⟨A0, c0, A1, c1, A2, c2, l0, l2, h1, h2, ⟨h3, k3⟩, ⟨h4, k4⟩, ⟨h5, k5⟩⟩ := h
 exact ⟨A0, c0, A1, c1, A2, c2, l0, l2, (hB.block _ (blk_lt h1)).trans h1, (hB.block _ (blk_lt h2)).trans h2, ⟨Kd.C_below h3 hB, k3⟩, ⟨Kd.C_below h4 hB, k4⟩, ⟨Kd.C_below h5 hB, k5⟩⟩
theorem refC.calls [E : Inhabited EnvR] (a0 : Int) (r : Bool) {gs gm : Nat} {w : World} (hE : REnv gs gm w) (W : World) (hB : Below w.heap.size w W) (h : refC.f a0 = some r) :
  Calls Try.prog 109 #[.int .i64 a0, .pointer (some ⟨gs, 0, none⟩), .pointer (some ⟨gm, 0, none⟩)] W fun e w' => e = .returned (.bool r) ∧ Below W.heap.size W w' := by
 obtain ⟨A0, c0, A1, c1, A2, c2, l0, l2, h1, h2, ⟨h3, k3⟩, ⟨h4, k4⟩, ⟨h5, k5⟩⟩ := hE.below hB
 exact figure_reference_1.calls a0 E.default.s0 E.default.s1 E.default.s2 A0 c0 l0 A1 c1 E.default.l1 A2 c2 l2 r gs gm W h1 h2 h3 k3 h4 k4 h5 k5 h
end Go.Proofs.Ytdkahcolfcmmpaa.Pr
namespace Go.Proofs.Ytdkahcolfcmmpaa.Pr
open Go.RowKit Go.Proofs.YtdkahcolfcmmpaaW.PrintWords Go.Proofs.YtdkahcolfcmmpaaW.PrintLast Go.Proofs.YtdkahcolfcmmpaaW.PrintMore
attribute [local go_sem] max2_int min2_int max_two min_two max_three min_three max_four min_four
set_option linter.unusedVariables false
set_option linter.unusedSimpArgs false
variable [E : Inhabited EnvR]
def slices_IndexFunc_int_int__figure_reference_1.l0 : Nat → List Int → Int → Int → Option (Int)
 | 0, _, _, _ => none
 | k + 1, x0, x7, x8 => if x8 < x7 then (if 0 ≤ x8 then (if x8 < (x0.length : Int) then ((refC.f (rd x0 x8)).bind fun t132 => (if t132 = true then (some x8) else (slices_IndexFunc_int_int__figure_reference_1.l0 k x0 x7 (wrap64 (x8 + 1))))) else (none)) else (none)) else (some (-1))
def slices_IndexFunc_int_int__figure_reference_1.f (k : Nat) (l0 : List Int)  : Option (Int) := slices_IndexFunc_int_int__figure_reference_1.l0 k l0 (l0.length : Int) 0
theorem slices_IndexFunc_int_int__figure_reference_1.mono_l : ∀ k, (∀ y0 y1 y2, LeO (slices_IndexFunc_int_int__figure_reference_1.l0 k y0 y1 y2) (slices_IndexFunc_int_int__figure_reference_1.l0 (k + 1) y0 y1 y2))
 | 0 => fun _ _ _ r h => by simp [slices_IndexFunc_int_int__figure_reference_1.l0] at h
 | k + 1 => by
  have ih0 := slices_IndexFunc_int_int__figure_reference_1.mono_l k
  ·intro y0 y1 y2
   unfold slices_IndexFunc_int_int__figure_reference_1.l0
   repeat' first
   | (with_reducible exact ih0 _ _ _)
   | (with_reducible exact LeO.refl _)
   | (with_reducible exact LeO.none _)
   | (with_reducible refine LeO.ite ?_ ?_)
   | (with_reducible refine LeO.bind ?_ (fun _ => ?_))
   | exact ih0 _ _ _
   | exact LeO.none _
   | refine LeO.ite ?_ ?_
   | refine LeO.bind ?_ (fun _ => ?_)
theorem slices_IndexFunc_int_int__figure_reference_1.mono : ∀ a0 k, LeO (slices_IndexFunc_int_int__figure_reference_1.f k a0) (slices_IndexFunc_int_int__figure_reference_1.f (k + 1) a0) := by
 intro a0 k
 have ih0 := slices_IndexFunc_int_int__figure_reference_1.mono_l k
 unfold slices_IndexFunc_int_int__figure_reference_1.f
 repeat' first
   | (with_reducible exact ih0 _ _ _)
   | (with_reducible exact LeO.refl _)
   | (with_reducible exact LeO.none _)
   | (with_reducible refine LeO.ite ?_ ?_)
   | (with_reducible refine LeO.bind ?_ (fun _ => ?_))
   | exact ih0 _ _ _
   | exact LeO.none _
   | refine LeO.ite ?_ ?_
   | refine LeO.bind ?_ (fun _ => ?_)
set_option maxHeartbeats 8000000 in
set_option maxRecDepth 100000 in
theorem slices_IndexFunc_int_int__figure_reference_1.calls (k : Nat) (A0 : Option Addr) (c0 : Nat) (l0 : List Int)  (r : Int) (gs gm : Nat) (w : World) (hE : REnv gs gm w) (hr0 : Kd.C (Kd.int .i64) w A0 l0.length l0) (hc0 : l0.length ≤ c0) (h : slices_IndexFunc_int_int__figure_reference_1.f k l0 = some r) :
  Calls Try.prog 108 #[.slice A0 l0.length c0, .func (.func 109) #[] #[.pointer (some ⟨gs, 0, none⟩), .pointer (some ⟨gm, 0, none⟩)]] w fun e w' => e = .returned (.int .i64 r) ∧ Below w.heap.size w w' := by
 have HR0 := Aside0.mk hr0
 have HC0 := Aside0.mk hc0
 clear hr0 hc0
 have HB := Aside0.mk (Below.refl w.heap.size w)
 have H : (slices_IndexFunc_int_int__figure_reference_1.l0 k l0 (l0.length : Int) 0) = some r := h
 clear h
 have H' := Aside0.mk H
 clear H
 go_enter Try.func108, Try.ntmps108
 go_wp2
 go_loopg [8] k (fun kq v8 w' => ∃ (x8_1 : Int), v8 = .int .i64 x8_1 ∧ Aside0 (slices_IndexFunc_int_int__figure_reference_1.l0 kq l0 (l0.length : Int) x8_1 = some r) ∧ Aside0 (kq ≤ k) ∧ Aside0 (Below w.heap.size w w'))
 case atStart => exact ⟨(0), rs_, H', ⟨Nat.le_refl _⟩, ⟨hb_ HB⟩⟩
 case round =>
  clear H'
  try clear c1
  try clear p2
  obtain ⟨x8_1, rfl, HA, HK1, HB⟩ := hrel
  cases gk with
  | zero => exact absurd HA.out (by simp [slices_IndexFunc_int_int__figure_reference_1.l0])
  | succ k1 =>
   have H := HA.out
   clear HA
   simp only [slices_IndexFunc_int_int__figure_reference_1.l0] at H
   by_cases c3 : x8_1 < (l0.length : Int)
   ·rw [if_pos c3] at H
    have c3b0 : decide (x8_1 < (l0.length : Int)) = true := decide_eq_true c3
    clear c3
    by_cases c4 : 0 ≤ x8_1
    ·rw [if_pos c4] at H
     have c4b0 : decide (0 ≤ x8_1) = true := decide_eq_true c4
     clear c4
     by_cases c5 : x8_1 < (l0.length : Int)
     ·rw [if_pos c5] at H
      have c5b0 : decide (x8_1 < (l0.length : Int)) = true := decide_eq_true c5
      clear c5
      replace H := Option.bind_eq_some_iff.mp H
      obtain ⟨t132, A60, H⟩ := H
      replace H : (if t132 = true then (some x8_1) else (slices_IndexFunc_int_int__figure_reference_1.l0 k1 l0 (l0.length : Int) (wrap64 (x8_1 + 1)))) = some r := H
      have A6 := Aside0.mk A60
      clear A60
      by_cases c7 : t132 = true
      ·subst c7
       have H1 : (some x8_1) = some r := by rw [if_pos rfl] at H; exact H
       clear H
       have H := H1
       clear H1
       obtain rfl := Option.some.inj H
       have p131 : 0 ≤ (x8_1 : Int) := of_decide_eq_true as_
       have q131 : x8_1 < (l0.length : Int) := of_decide_eq_true as_
       obtain ⟨ad131, e131, hx131_0⟩ := Kd.at_int HR0.out x8_1 p131 q131
       cases e131
       replace hx131_0 := (HB.out.cell (World.block_lt_of_cell? w _ hx131_0)).trans hx131_0
       replace p131 := eq_true p131
       replace q131 := eq_true q131
       go_wp2_with (first | (go_at_call 109; refine (refC.calls (rd l0 x8_1) true hE _ ?sideB A6.out).mono ?_; (case sideB => repeat (first | (with_reducible first | exact HB.out | apply below_alloc | apply pw_below_drewN | apply below_drew1) | exact HB.out)); rintro e w8 ⟨rfl, hb⟩; have n0_ := Aside0.mk (below_step (hb_ HB) hb); clear HB; have HB := n0_; clear n0_; (try clear hb); (try clear hb2); (try clear hk); (try clear hi)))
       go_ret
       exact ⟨ew_, hb_ HB⟩
      ·replace c7 := Bool.eq_false_iff.mpr c7
       subst c7
       have H1 : (slices_IndexFunc_int_int__figure_reference_1.l0 k1 l0 (l0.length : Int) (wrap64 (x8_1 + 1))) = some r := by rw [if_neg (show ¬ (false = true) by decide)] at H; exact H
       clear H
       have H := H1
       clear H1
       have H' := Aside0.mk H
       clear H
       have p131 : 0 ≤ (x8_1 : Int) := of_decide_eq_true as_
       have q131 : x8_1 < (l0.length : Int) := of_decide_eq_true as_
       obtain ⟨ad131, e131, hx131_0⟩ := Kd.at_int HR0.out x8_1 p131 q131
       cases e131
       replace hx131_0 := (HB.out.cell (World.block_lt_of_cell? w _ hx131_0)).trans hx131_0
       replace p131 := eq_true p131
       replace q131 := eq_true q131
       go_wp2_with (first | (go_at_call 109; refine (refC.calls (rd l0 x8_1) false hE _ ?sideB A6.out).mono ?_; (case sideB => repeat (first | (with_reducible first | exact HB.out | apply below_alloc | apply pw_below_drewN | apply below_drew1) | exact HB.out)); rintro e w9 ⟨rfl, hb⟩; have n0_ := Aside0.mk (below_step (hb_ HB) hb); clear HB; have HB := n0_; clear n0_; (try clear hb); (try clear hb2); (try clear hk); (try clear hi)))
       go_roundg k1
       case measure => have := HK1.out; omega
       case rel => exact ⟨(wrap64 (x8_1 + 1)), rs_, H', ⟨by have := HK1.out; omega⟩, ⟨hb_ HB⟩⟩
     ·rw [if_neg c5] at H
      exact absurd H (by simp)
    ·rw [if_neg c4] at H
     exact absurd H (by simp)
   ·rw [if_neg c3] at H
    have c3b0 : decide (x8_1 < (l0.length : Int)) = false := decide_eq_false c3
    clear c3
    obtain rfl := Option.some.inj H
    go_wp2
    go_ret
    exact ⟨ew_, hb_ HB⟩
end Go.Proofs.Ytdkahcolfcmmpaa.Pr
namespace Go.Proofs.Ytdkahcolfcmmpaa.Pr
open Go.RowKit Go.Proofs.YtdkahcolfcmmpaaW.PrintWords Go.Proofs.YtdkahcolfcmmpaaW.PrintLast Go.Proofs.YtdkahcolfcmmpaaW.PrintMore
attribute [local go_sem] max2_int min2_int max_two min_two max_three min_three max_four min_four
set_option linter.unusedVariables false
set_option linter.unusedSimpArgs false
def figure_through.f (k : Nat) (l0_0 : List Int) (l0_1 : List Int) (l0_2 : List Int) (a1 : Int) (a2 : Int) : Option (Int × Int × Int × Int) := if 0 ≤ a2 then (if a2 < (l0_0.length : Int) then (if 0 ≤ a1 then (if a1 < (l0_0.length : Int) then (if a2 < (l0_1.length : Int) then (if a1 < (l0_1.length : Int) then ((figure_lowest.f k (wrap64 ((wrap64 ((rd l0_0 a1) * (wrap64 ((rd l0_1 a2) - (rd l0_1 a1))))) - (wrap64 ((wrap64 ((rd l0_0 a2) - (rd l0_0 a1))) * (rd l0_1 a1))))) (wrap64 ((rd l0_1 a2) - (rd l0_1 a1)))).bind fun bt143 => ((figure_lowest.f k (wrap64 ((rd l0_0 a2) - (rd l0_0 a1))) (wrap64 ((rd l0_1 a2) - (rd l0_1 a1)))).bind fun bt145 => (some (bt143.1, bt143.2, bt145.1, bt145.2)))) else (none)) else (none)) else (none)) else (none)) else (none)) else (none)
theorem figure_through.mono : ∀ a0 a1 a2 a3 a4 k, LeO (figure_through.f k a0 a1 a2 a3 a4) (figure_through.f (k + 1) a0 a1 a2 a3 a4) := by
 intro a0 a1 a2 a3 a4 k
 unfold figure_through.f
 repeat' first
   | (with_reducible exact figure_lowest.mono _ _ _)
   | (with_reducible exact LeO.refl _)
   | (with_reducible exact LeO.none _)
   | (with_reducible refine LeO.ite ?_ ?_)
   | (with_reducible refine LeO.bind ?_ (fun _ => ?_))
   | exact figure_lowest.mono _ _ _
   | exact LeO.none _
   | refine LeO.ite ?_ ?_
   | refine LeO.bind ?_ (fun _ => ?_)
def figure_through.T1 : Bool × List (List Nat × List Nat) := (true, [([], []), ([0], [0]), ([], []), ([1, 2], [1, 2]), ([3], [3]), ([], []), ([5], [5]), ([], []), ([6, 7], [6, 7]), ([8], [8]), ([4, 9], [4, 9]), ([], []), ([11], [11]), ([], []), ([12, 13], [12, 13]), ([14], [14]), ([], []), ([16], [16]), ([], []), ([17, 18], [17, 18]), ([19], [19]), ([15, 20], [15, 20]), ([10, 0, 1, 2, 3, 4, 5, 6, 7, 8, 9, 10], [10]), ([21, 22, 0, 1, 2, 3, 4, 5, 6, 7, 8, 9, 10, 11, 12, 13, 14, 15, 16, 17, 18, 19, 20, 21, 22], [21])])
def figure_through.B1 : List Nat := [0, 1, 0, 7, 15, 0, 32, 0, 224, 480, 1023, 0, 2048, 0, 14336, 30720, 0, 65536, 0, 458752, 983040, 2095104, 2047, 8388607]
theorem figure_through.tab1 : rtab .any (opsOf Try.f110 1) = figure_through.T1 := by kernel_rfl
theorem figure_through.bits1 : waitsOk figure_through.T1.2 figure_through.B1 = true := by kernel_rfl
def figure_through.T2 : Bool × List (List Nat × List Nat) := (true, [([], []), ([0], [0]), ([], []), ([1, 2], [1, 2]), ([3], [3]), ([], []), ([4, 5], [4, 5]), ([], []), ([], []), ([8], [8]), ([], []), ([9, 10], [9, 10]), ([11], [11]), ([7, 12], [7, 12]), ([6, 13], [6, 13]), ([], []), ([14, 15], [14, 15]), ([], []), ([], []), ([17, 18, 16], [17, 18]), ([16, 19, 0, 1, 2, 3, 4, 5, 6, 7, 8, 9, 10, 11, 12, 13, 14, 15, 16], [16]), ([19, 20, 0, 1, 2, 3, 4, 5, 6, 7, 8, 9, 10, 11, 12, 13, 14, 15, 16, 17, 18, 19, 20], [19])])
def figure_through.B2 : List Nat := [0, 1, 0, 7, 15, 0, 63, 0, 0, 256, 0, 1792, 3840, 8064, 16383, 0, 65535, 0, 0, 524287, 1048575, 2097151]
theorem figure_through.tab2 : rtab .any (opsOf Try.f110 2) = figure_through.T2 := by kernel_rfl
theorem figure_through.bits2 : waitsOk figure_through.T2.2 figure_through.B2 = true := by kernel_rfl
set_option maxHeartbeats 8000000 in
set_option maxRecDepth 100000 in
theorem figure_through.calls (k : Nat) (A0_0 : Option Addr) (c0_0 : Nat) (l0_0 : List Int) (A0_1 : Option Addr) (c0_1 : Nat) (l0_1 : List Int) (A0_2 : Option Addr) (c0_2 : Nat) (l0_2 : List Int) (a1 : Int) (a2 : Int) (r1 : Int) (r2 : Int) (r3 : Int) (r4 : Int) (w : World) (hr0_0 : Kd.C (Kd.int .i64) w A0_0 l0_0.length l0_0) (hc0_0 : l0_0.length ≤ c0_0) (hr0_1 : Kd.C (Kd.int .i64) w A0_1 l0_1.length l0_1) (hc0_1 : l0_1.length ≤ c0_1) (hr0_2 : Kd.C (Kd.int .i64) w A0_2 l0_2.length l0_2) (hc0_2 : l0_2.length ≤ c0_2) (h : figure_through.f k l0_0 l0_1 l0_2 a1 a2 = some (r1, r2, r3, r4)) :
  Calls Try.prog 110 #[.agg #[.slice A0_0 l0_0.length c0_0, .slice A0_1 l0_1.length c0_1, .slice A0_2 l0_2.length c0_2], .int .i64 a1, .int .i64 a2] w fun e w' => e = .returned (.tuple #[.agg #[.int .i64 r1, .int .i64 r2], .agg #[.int .i64 r3, .int .i64 r4]]) ∧ Below w.heap.size w w' := by
 have hu24 := Try.underlying24
 have hu28 := Try.underlying28
 have HR0_0 := Aside0.mk hr0_0
 have HC0_0 := Aside0.mk hc0_0
 clear hr0_0 hc0_0
 have HR0_1 := Aside0.mk hr0_1
 have HC0_1 := Aside0.mk hc0_1
 clear hr0_1 hc0_1
 have HR0_2 := Aside0.mk hr0_2
 have HC0_2 := Aside0.mk hc0_2
 clear hr0_2 hc0_2
 have HB := Aside0.mk (Below.refl w.heap.size w)
 have H : (if 0 ≤ a2 then (if a2 < (l0_0.length : Int) then (if 0 ≤ a1 then (if a1 < (l0_0.length : Int) then (if a2 < (l0_1.length : Int) then (if a1 < (l0_1.length : Int) then ((figure_lowest.f k (wrap64 ((wrap64 ((rd l0_0 a1) * (wrap64 ((rd l0_1 a2) - (rd l0_1 a1))))) - (wrap64 ((wrap64 ((rd l0_0 a2) - (rd l0_0 a1))) * (rd l0_1 a1))))) (wrap64 ((rd l0_1 a2) - (rd l0_1 a1)))).bind fun bt143 => ((figure_lowest.f k (wrap64 ((rd l0_0 a2) - (rd l0_0 a1))) (wrap64 ((rd l0_1 a2) - (rd l0_1 a1)))).bind fun bt145 => (some (bt143.1, bt143.2, bt145.1, bt145.2)))) else (none)) else (none)) else (none)) else (none)) else (none)) else (none)) = some (r1, r2, r3, r4) := h
 clear h
 by_cases c4 : 0 ≤ a2
 ·rw [if_pos c4] at H
  have c4b0 : decide (0 ≤ a2) = true := decide_eq_true c4
  clear c4
  by_cases c5 : a2 < (l0_0.length : Int)
  ·rw [if_pos c5] at H
   have c5b0 : decide (a2 < (l0_0.length : Int)) = true := decide_eq_true c5
   clear c5
   by_cases c6 : 0 ≤ a1
   ·rw [if_pos c6] at H
    have c6b0 : decide (0 ≤ a1) = true := decide_eq_true c6
    clear c6
    by_cases c7 : a1 < (l0_0.length : Int)
    ·rw [if_pos c7] at H
     have c7b0 : decide (a1 < (l0_0.length : Int)) = true := decide_eq_true c7
     clear c7
     by_cases c8 : a2 < (l0_1.length : Int)
     ·rw [if_pos c8] at H
      have c8b0 : decide (a2 < (l0_1.length : Int)) = true := decide_eq_true c8
      clear c8
      by_cases c9 : a1 < (l0_1.length : Int)
      ·rw [if_pos c9] at H
       have c9b0 : decide (a1 < (l0_1.length : Int)) = true := decide_eq_true c9
       clear c9
       replace H := Option.bind_eq_some_iff.mp H
       obtain ⟨⟨t143, t144⟩, A100, H⟩ := H
       replace H : ((figure_lowest.f k (wrap64 ((rd l0_0 a2) - (rd l0_0 a1))) (wrap64 ((rd l0_1 a2) - (rd l0_1 a1)))).bind fun bt145 => (some (t143, t144, bt145.1, bt145.2))) = some (r1, r2, r3, r4) := H
       have A10 := Aside0.mk A100
       clear A100
       replace H := Option.bind_eq_some_iff.mp H
       obtain ⟨⟨t145, t146⟩, A110, H⟩ := H
       replace H : (some (t143, t144, t145, t146)) = some (r1, r2, r3, r4) := H
       have A11 := Aside0.mk A110
       clear A110
       simp only [Option.some.injEq, Prod.mk.injEq] at H
       obtain ⟨rfl, rfl, rfl, rfl⟩ := H
       go_enter Try.func110, Try.ntmps110
       try go_wp2_with (first | ((with_reducible refine gate_dst (N := 3) rfl ?_); refine box_event ?hg (N := 3) ?hd (cs := #[.slice A0_0 l0_0.length c0_0, .slice A0_1 l0_1.length c0_1, .slice A0_2 l0_2.length c0_2]) (t := 24) ?hr ?_; (case hd => rfl); (case hg => rfl); (case hr => exact gr_); intro gb134 hg w12 hbox hb; have n0_ := Aside0.mk (below_step (hb_ HB) hb); have n1_ := Aside0.mk (hbox); have n2_ := Aside0.mk ((hz_ HB hg)); have n3_ := Aside0.mk ((hz_ HB hg)); clear HB; have HB := n0_; have BK134 := n1_; have GW134 := n2_; have GE134 := n3_; clear n0_ n1_ n2_ n3_; clear hb hbox hg) | ((with_reducible refine gate_dst (N := 6) rfl ?_); refine box_event ?hg (N := 6) ?hd (cs := #[.int .i64 0, .int .i64 0]) (t := 28) ?hr ?_; (case hd => rfl); (case hg => rfl); (case hr => exact gr_); intro gb135 hg w13 hbox hb; have n0_ := Aside0.mk (bb_ BK134 hb); have n1_ := Aside0.mk (below_step (hb_ HB) hb); have n2_ := Aside0.mk (hbox); have n3_ := Aside0.mk ((hz_ HB hg)); have n4_ := Aside0.mk ((hz_ HB hg)); have n5_ := Aside0.mk ((nl_ BK134 hg)); have n6_ := Aside0.mk ((ng_ BK134 hg)); clear BK134; clear HB; have BK134 := n0_; have HB := n1_; have BK135 := n2_; have GW135 := n3_; have GE135 := n4_; have NB134_135 := n5_; have NB135_134 := n6_; clear n0_ n1_ n2_ n3_ n4_ n5_ n6_; clear hb hbox hg) | ((with_reducible refine gate_dst (N := 7) rfl ?_); refine box_event ?hg (N := 7) ?hd (cs := #[.int .i64 0, .int .i64 0]) (t := 28) ?hr ?_; (case hd => rfl); (case hg => rfl); (case hr => exact gr_); intro gb136 hg w14 hbox hb; have n0_ := Aside0.mk (bb_ BK134 hb); have n1_ := Aside0.mk (bb_ BK135 hb); have n2_ := Aside0.mk (below_step (hb_ HB) hb); have n3_ := Aside0.mk (hbox); have n4_ := Aside0.mk ((hz_ HB hg)); have n5_ := Aside0.mk ((hz_ HB hg)); have n6_ := Aside0.mk ((nl_ BK134 hg)); have n7_ := Aside0.mk ((ng_ BK134 hg)); have n8_ := Aside0.mk ((nl_ BK135 hg)); have n9_ := Aside0.mk ((ng_ BK135 hg)); clear BK134; clear BK135; clear HB; have BK134 := n0_; have BK135 := n1_; have HB := n2_; have BK136 := n3_; have GW136 := n4_; have GE136 := n5_; have NB134_136 := n6_; have NB136_134 := n7_; have NB135_136 := n8_; have NB136_135 := n9_; clear n0_ n1_ n2_ n3_ n4_ n5_ n6_ n7_ n8_ n9_; clear hb hbox hg))
       have n0_ := Aside0.mk (blk_drew BK134.out)
       have n1_ := Aside0.mk (blk_drew BK135.out)
       have n2_ := Aside0.mk (blk_drew BK136.out)
       have n3_ := Aside0.mk (below_drew1 HB.out)
       clear BK134
       clear BK135
       clear BK136
       clear HB
       have BK134 := n0_
       have BK135 := n1_
       have BK136 := n2_
       have HB := n3_
       clear n0_ n1_ n2_ n3_
       have p137 : 0 ≤ (a2 : Int) := of_decide_eq_true as_
       have q137 : a2 < (l0_0.length : Int) := of_decide_eq_true as_
       obtain ⟨ad137, e137, hx137_0⟩ := Kd.at_int HR0_0.out a2 p137 q137
       have hw137_0 := hx137_0
       cases e137
       replace hx137_0 := (HB.out.cell (World.block_lt_of_cell? w _ hx137_0)).trans hx137_0
       replace p137 := eq_true p137
       replace q137 := eq_true q137
       have p138 : 0 ≤ (a1 : Int) := of_decide_eq_true as_
       have q138 : a1 < (l0_0.length : Int) := of_decide_eq_true as_
       obtain ⟨ad138, e138, hx138_0⟩ := Kd.at_int HR0_0.out a1 p138 q138
       have hw138_0 := hx138_0
       obtain rfl : ad137 = ad138 := (by injection e138)
       replace hx138_0 := (HB.out.cell (World.block_lt_of_cell? w _ hx138_0)).trans hx138_0
       replace p138 := eq_true p138
       replace q138 := eq_true q138
       have p139 : 0 ≤ (a2 : Int) := of_decide_eq_true as_
       have q139 : a2 < (l0_1.length : Int) := of_decide_eq_true as_
       obtain ⟨ad139, e139, hx139_0⟩ := Kd.at_int HR0_1.out a2 p139 q139
       have hw139_0 := hx139_0
       cases e139
       replace hx139_0 := (HB.out.cell (World.block_lt_of_cell? w _ hx139_0)).trans hx139_0
       replace p139 := eq_true p139
       replace q139 := eq_true q139
       have p140 : 0 ≤ (a1 : Int) := of_decide_eq_true as_
       have q140 : a1 < (l0_1.length : Int) := of_decide_eq_true as_
       obtain ⟨ad140, e140, hx140_0⟩ := Kd.at_int HR0_1.out a1 p140 q140
       have hw140_0 := hx140_0
       obtain rfl : ad139 = ad140 := (by injection e140)
       replace hx140_0 := (HB.out.cell (World.block_lt_of_cell? w _ hx140_0)).trans hx140_0
       replace p140 := eq_true p140
       replace q140 := eq_true q140
       refine start_ (n := 24) (S := fun w' => w'.cell? ⟨gb134, 0, none⟩ = some (.slice (some ad137) l0_0.length c0_0) ∧ w'.cell? ⟨gb134, 1, none⟩ = some (.slice (some ad139) l0_1.length c0_1) ∧ w'.cell? ⟨gb134, 2, none⟩ = some (.slice A0_2 l0_2.length c0_2) ∧ w'.cell? (ad137.add (a2).toNat) = some (.int .i64 (rd l0_0 a2)) ∧ w'.cell? (ad137.add (a1).toNat) = some (.int .i64 (rd l0_0 a1)) ∧ w'.cell? (ad139.add (a2).toNat) = some (.int .i64 (rd l0_1 a2)) ∧ w'.cell? (ad139.add (a1).toNat) = some (.int .i64 (rd l0_1 a1))) (ds := []) #[false, false, false, false, false, false, false, false, false, false, false, false, false, false, false, false, false, false, false, false, false, false, false, false] (by kernel_rfl) rfl rfl ⟨(blk_cell BK134.out 0).trans rfl, (blk_cell BK134.out 1).trans rfl, (blk_cell BK134.out 2).trans rfl, ((HB.out.cell (World.block_lt_of_cell? w _ hw137_0)).trans hw137_0), ((HB.out.cell (World.block_lt_of_cell? w _ hw138_0)).trans hw138_0), ((HB.out.cell (World.block_lt_of_cell? w _ hw139_0)).trans hw139_0), ((HB.out.cell (World.block_lt_of_cell? w _ hw140_0)).trans hw140_0)⟩ (fun hHeld => ?_); refine with_tabW figure_through.tab1 figure_through.bits1 (fun HT_ HW_ => ?_)
       generalize w14.drew = w15 at BK134 BK135 BK136 HB hx137_0 hx138_0 hx139_0 hx140_0 hHeld ⊢
       refine pure_ (i := 0) (N := some 10) (v := ?_) (a' := ?_) #[true, false, false, false, false, false, false, false, false, false, false, false, false, false, false, false, false, false, false, false, false, false, false, false] rfl rfl (any_of HT_.out (by kernel_rfl)) (fun _ _ _ h => h) (Or.inl ⟨by rfl, ?_⟩) ?_ ?_
       rotate_left
       ·exact gs_
       rotate_left
       ·exact pt_
       refine pure_ (i := 2) (N := some 12) (v := ?_) (a' := ?_) #[true, false, true, false, false, false, false, false, false, false, false, false, false, false, false, false, false, false, false, false, false, false, false, false] rfl rfl (any_of HT_.out (by kernel_rfl)) (fun _ _ _ h => h) (Or.inl ⟨by rfl, ?_⟩) ?_ ?_
       rotate_left
       ·exact gs_
       rotate_left
       ·exact pt_
       refine pure_ (i := 5) (N := some 15) (v := ?_) (a' := ?_) #[true, false, true, false, false, true, false, false, false, false, false, false, false, false, false, false, false, false, false, false, false, false, false, false] rfl rfl (any_of HT_.out (by kernel_rfl)) (fun _ _ _ h => h) (Or.inl ⟨by rfl, ?_⟩) ?_ ?_
       rotate_left
       ·exact gs_
       rotate_left
       ·exact pt_
       refine pure_ (i := 7) (N := some 17) (v := ?_) (a' := ?_) #[true, false, true, false, false, true, false, true, false, false, false, false, false, false, false, false, false, false, false, false, false, false, false, false] rfl rfl (any_of HT_.out (by kernel_rfl)) (fun _ _ _ h => h) (Or.inl ⟨by rfl, ?_⟩) ?_ ?_
       rotate_left
       ·exact gs_
       rotate_left
       ·exact pt_
       refine pure_ (i := 11) (N := some 21) (v := ?_) (a' := ?_) #[true, false, true, false, false, true, false, true, false, false, false, true, false, false, false, false, false, false, false, false, false, false, false, false] rfl rfl (any_of HT_.out (by kernel_rfl)) (fun _ _ _ h => h) (Or.inl ⟨by rfl, ?_⟩) ?_ ?_
       rotate_left
       ·exact gs_
       rotate_left
       ·exact pt_
       refine pure_ (i := 13) (N := some 23) (v := ?_) (a' := ?_) #[true, false, true, false, false, true, false, true, false, false, false, true, false, true, false, false, false, false, false, false, false, false, false, false] rfl rfl (any_of HT_.out (by kernel_rfl)) (fun _ _ _ h => h) (Or.inl ⟨by rfl, ?_⟩) ?_ ?_
       rotate_left
       ·exact gs_
       rotate_left
       ·exact pt_
       refine pure_ (i := 16) (N := some 26) (v := ?_) (a' := ?_) #[true, false, true, false, false, true, false, true, false, false, false, true, false, true, false, false, true, false, false, false, false, false, false, false] rfl rfl (any_of HT_.out (by kernel_rfl)) (fun _ _ _ h => h) (Or.inl ⟨by rfl, ?_⟩) ?_ ?_
       rotate_left
       ·exact gs_
       rotate_left
       ·exact pt_
       refine pure_ (i := 18) (N := some 28) (v := ?_) (a' := ?_) #[true, false, true, false, false, true, false, true, false, false, false, true, false, true, false, false, true, false, true, false, false, false, false, false] rfl rfl (any_of HT_.out (by kernel_rfl)) (fun _ _ _ h => h) (Or.inl ⟨by rfl, ?_⟩) ?_ ?_
       rotate_left
       ·exact gs_
       rotate_left
       ·exact pt_
       refine take_ (i := 1) (N := some 11) (v := ?_) (a' := ?_) #[true, true, true, false, false, true, false, true, false, false, false, true, false, true, false, false, true, false, true, false, false, false, false, false] rfl rfl (take_ofW HT_.out HW_.out (by kernel_rfl)) (fun _ _ _ h => h) (Or.inl ⟨by rfl, ?_⟩) hHeld ?_ ?_
       rotate_left
       ·rintro w' ⟨s0, s1, s2, s3, s4, s5, s6⟩; go_simp; with_reducible rfl
       rotate_left
       ·exact pt_
       refine pure_ (i := 3) (N := some 13) (v := ?_) (a' := ?_) #[true, true, true, true, false, true, false, true, false, false, false, true, false, true, false, false, true, false, true, false, false, false, false, false] rfl rfl (any_of HT_.out (by kernel_rfl)) (fun _ _ _ h => h) (Or.inl ⟨by rfl, ?_⟩) ?_ ?_
       rotate_left
       ·exact gs_
       rotate_left
       ·exact pt_
       refine take_ (i := 4) (N := some 14) (v := ?_) (a' := ?_) #[true, true, true, true, true, true, false, true, false, false, false, true, false, true, false, false, true, false, true, false, false, false, false, false] rfl rfl (take_ofW HT_.out HW_.out (by kernel_rfl)) (fun _ _ _ h => h) (Or.inl ⟨by rfl, ?_⟩) hHeld ?_ ?_
       rotate_left
       ·rintro w' ⟨s0, s1, s2, s3, s4, s5, s6⟩; go_simp; with_reducible rfl
       rotate_left
       ·exact pt_
       refine take_ (i := 6) (N := some 16) (v := ?_) (a' := ?_) #[true, true, true, true, true, true, true, true, false, false, false, true, false, true, false, false, true, false, true, false, false, false, false, false] rfl rfl (take_ofW HT_.out HW_.out (by kernel_rfl)) (fun _ _ _ h => h) (Or.inl ⟨by rfl, ?_⟩) hHeld ?_ ?_
       rotate_left
       ·rintro w' ⟨s0, s1, s2, s3, s4, s5, s6⟩; go_simp; with_reducible rfl
       rotate_left
       ·exact pt_
       refine pure_ (i := 8) (N := some 18) (v := ?_) (a' := ?_) #[true, true, true, true, true, true, true, true, true, false, false, true, false, true, false, false, true, false, true, false, false, false, false, false] rfl rfl (any_of HT_.out (by kernel_rfl)) (fun _ _ _ h => h) (Or.inl ⟨by rfl, ?_⟩) ?_ ?_
       rotate_left
       ·exact gs_
       rotate_left
       ·exact pt_
       refine take_ (i := 9) (N := some 19) (v := ?_) (a' := ?_) #[true, true, true, true, true, true, true, true, true, true, false, true, false, true, false, false, true, false, true, false, false, false, false, false] rfl rfl (take_ofW HT_.out HW_.out (by kernel_rfl)) (fun _ _ _ h => h) (Or.inl ⟨by rfl, ?_⟩) hHeld ?_ ?_
       rotate_left
       ·rintro w' ⟨s0, s1, s2, s3, s4, s5, s6⟩; go_simp; with_reducible rfl
       rotate_left
       ·exact pt_
       refine pure_ (i := 10) (N := some 20) (v := ?_) (a' := ?_) #[true, true, true, true, true, true, true, true, true, true, true, true, false, true, false, false, true, false, true, false, false, false, false, false] rfl rfl (any_of HT_.out (by kernel_rfl)) (fun _ _ _ h => h) (Or.inl ⟨by rfl, ?_⟩) ?_ ?_
       rotate_left
       ·exact gs_
       rotate_left
       ·exact pt_
       refine pure_ (i := 22) (N := some 8) (v := ?_) (a' := ?_) #[true, true, true, true, true, true, true, true, true, true, true, true, false, true, false, false, true, false, true, false, false, false, true, false] rfl rfl (any_of HT_.out (by kernel_rfl)) (fun _ _ _ h => h) (Or.inl ⟨by rfl, ?_⟩) ?_ ?_
       rotate_left
       ·exact gs_
       rotate_left
       ·exact pt_
       refine take_ (i := 12) (N := some 22) (v := ?_) (a' := ?_) #[true, true, true, true, true, true, true, true, true, true, true, true, true, true, false, false, true, false, true, false, false, false, true, false] rfl rfl (take_ofW HT_.out HW_.out (by kernel_rfl)) (fun _ _ _ h => h) (Or.inl ⟨by rfl, ?_⟩) hHeld ?_ ?_
       rotate_left
       ·rintro w' ⟨s0, s1, s2, s3, s4, s5, s6⟩; go_simp; with_reducible rfl
       rotate_left
       ·exact pt_
       refine pure_ (i := 14) (N := some 24) (v := ?_) (a' := ?_) #[true, true, true, true, true, true, true, true, true, true, true, true, true, true, true, false, true, false, true, false, false, false, true, false] rfl rfl (any_of HT_.out (by kernel_rfl)) (fun _ _ _ h => h) (Or.inl ⟨by rfl, ?_⟩) ?_ ?_
       rotate_left
       ·exact gs_
       rotate_left
       ·exact pt_
       refine take_ (i := 15) (N := some 25) (v := ?_) (a' := ?_) #[true, true, true, true, true, true, true, true, true, true, true, true, true, true, true, true, true, false, true, false, false, false, true, false] rfl rfl (take_ofW HT_.out HW_.out (by kernel_rfl)) (fun _ _ _ h => h) (Or.inl ⟨by rfl, ?_⟩) hHeld ?_ ?_
       rotate_left
       ·rintro w' ⟨s0, s1, s2, s3, s4, s5, s6⟩; go_simp; with_reducible rfl
       rotate_left
       ·exact pt_
       refine take_ (i := 17) (N := some 27) (v := ?_) (a' := ?_) #[true, true, true, true, true, true, true, true, true, true, true, true, true, true, true, true, true, true, true, false, false, false, true, false] rfl rfl (take_ofW HT_.out HW_.out (by kernel_rfl)) (fun _ _ _ h => h) (Or.inl ⟨by rfl, ?_⟩) hHeld ?_ ?_
       rotate_left
       ·rintro w' ⟨s0, s1, s2, s3, s4, s5, s6⟩; go_simp; with_reducible rfl
       rotate_left
       ·exact pt_
       refine pure_ (i := 19) (N := some 29) (v := ?_) (a' := ?_) #[true, true, true, true, true, true, true, true, true, true, true, true, true, true, true, true, true, true, true, true, false, false, true, false] rfl rfl (any_of HT_.out (by kernel_rfl)) (fun _ _ _ h => h) (Or.inl ⟨by rfl, ?_⟩) ?_ ?_
       rotate_left
       ·exact gs_
       rotate_left
       ·exact pt_
       refine take_ (i := 20) (N := some 30) (v := ?_) (a' := ?_) #[true, true, true, true, true, true, true, true, true, true, true, true, true, true, true, true, true, true, true, true, true, false, true, false] rfl rfl (take_ofW HT_.out HW_.out (by kernel_rfl)) (fun _ _ _ h => h) (Or.inl ⟨by rfl, ?_⟩) hHeld ?_ ?_
       rotate_left
       ·rintro w' ⟨s0, s1, s2, s3, s4, s5, s6⟩; go_simp; with_reducible rfl
       rotate_left
       ·exact pt_
       refine pure_ (i := 21) (N := some 31) (v := ?_) (a' := ?_) #[true, true, true, true, true, true, true, true, true, true, true, true, true, true, true, true, true, true, true, true, true, true, true, false] rfl rfl (any_of HT_.out (by kernel_rfl)) (fun _ _ _ h => h) (Or.inl ⟨by rfl, ?_⟩) ?_ ?_
       rotate_left
       ·exact gs_
       rotate_left
       ·exact pt_
       refine pure_ (i := 23) (N := some 9) (v := ?_) (a' := ?_) #[true, true, true, true, true, true, true, true, true, true, true, true, true, true, true, true, true, true, true, true, true, true, true, true] rfl rfl (any_of HT_.out (by kernel_rfl)) (fun _ _ _ h => h) (Or.inl ⟨by rfl, ?_⟩) ?_ ?_
       rotate_left
       ·exact gs_
       rotate_left
       ·exact pt_
       refine done_ (done_of HT_.out (by kernel_rfl)) ?_
       try go_wp2
       have n0_ := Aside0.mk (blk_drew BK134.out)
       have n1_ := Aside0.mk (blk_drew BK135.out)
       have n2_ := Aside0.mk (blk_drew BK136.out)
       have n3_ := Aside0.mk (below_drew1 HB.out)
       clear BK134
       clear BK135
       clear BK136
       clear HB
       have BK134 := n0_
       have BK135 := n1_
       have BK136 := n2_
       have HB := n3_
       clear n0_ n1_ n2_ n3_
       have p141 : 0 ≤ (a1 : Int) := of_decide_eq_true as_
       have q141 : a1 < (l0_0.length : Int) := of_decide_eq_true as_
       obtain ⟨ad141, e141, hx141_0⟩ := Kd.at_int HR0_0.out a1 p141 q141
       have hw141_0 := hx141_0
       obtain rfl : ad137 = ad141 := (by injection e141)
       replace hx141_0 := (HB.out.cell (World.block_lt_of_cell? w _ hx141_0)).trans hx141_0
       replace p141 := eq_true p141
       replace q141 := eq_true q141
       have p142 : 0 ≤ (a1 : Int) := of_decide_eq_true as_
       have q142 : a1 < (l0_1.length : Int) := of_decide_eq_true as_
       obtain ⟨ad142, e142, hx142_0⟩ := Kd.at_int HR0_1.out a1 p142 q142
       have hw142_0 := hx142_0
       obtain rfl : ad139 = ad142 := (by injection e142)
       replace hx142_0 := (HB.out.cell (World.block_lt_of_cell? w _ hx142_0)).trans hx142_0
       replace p142 := eq_true p142
       replace q142 := eq_true q142
       refine start_ (n := 22) (S := fun w' => w'.cell? ⟨gb134, 0, none⟩ = some (.slice (some ad137) l0_0.length c0_0) ∧ w'.cell? ⟨gb134, 1, none⟩ = some (.slice (some ad139) l0_1.length c0_1) ∧ w'.cell? ⟨gb134, 2, none⟩ = some (.slice A0_2 l0_2.length c0_2) ∧ w'.cell? (ad137.add (a1).toNat) = some (.int .i64 (rd l0_0 a1)) ∧ w'.cell? (ad139.add (a1).toNat) = some (.int .i64 (rd l0_1 a1))) (ds := []) #[false, false, false, false, false, false, false, false, false, false, false, false, false, false, false, false, false, false, false, false, false, false] (by kernel_rfl) rfl rfl ⟨(blk_cell BK134.out 0).trans rfl, (blk_cell BK134.out 1).trans rfl, (blk_cell BK134.out 2).trans rfl, ((HB.out.cell (World.block_lt_of_cell? w _ hw141_0)).trans hw141_0), ((HB.out.cell (World.block_lt_of_cell? w _ hw142_0)).trans hw142_0)⟩ (fun hHeld => ?_); refine with_tabW figure_through.tab2 figure_through.bits2 (fun HT_ HW_ => ?_)
       generalize w15.drew = w16 at BK134 BK135 BK136 HB hx141_0 hx142_0 hHeld ⊢
       refine pure_ (i := 0) (N := some 32) (v := ?_) (a' := ?_) #[true, false, false, false, false, false, false, false, false, false, false, false, false, false, false, false, false, false, false, false, false, false] rfl rfl (any_of HT_.out (by kernel_rfl)) (fun _ _ _ h => h) (Or.inl ⟨by rfl, ?_⟩) ?_ ?_
       rotate_left
       ·exact gs_
       rotate_left
       ·exact pt_
       refine pure_ (i := 2) (N := some 34) (v := ?_) (a' := ?_) #[true, false, true, false, false, false, false, false, false, false, false, false, false, false, false, false, false, false, false, false, false, false] rfl rfl (any_of HT_.out (by kernel_rfl)) (fun _ _ _ h => h) (Or.inl ⟨by rfl, ?_⟩) ?_ ?_
       rotate_left
       ·exact gs_
       rotate_left
       ·exact pt_
       refine pure_ (i := 5) (N := some 37) (v := ?_) (a' := ?_) #[true, false, true, false, false, true, false, false, false, false, false, false, false, false, false, false, false, false, false, false, false, false] rfl rfl (any_of HT_.out (by kernel_rfl)) (fun _ _ _ h => h) (Or.inl ⟨by rfl, ?_⟩) ?_ ?_
       rotate_left
       ·exact gs_
       rotate_left
       ·exact pt_
       refine pure_ (i := 7) (N := some 39) (v := ?_) (a' := ?_) #[true, false, true, false, false, true, false, true, false, false, false, false, false, false, false, false, false, false, false, false, false, false] rfl rfl (any_of HT_.out (by kernel_rfl)) (fun _ _ _ h => h) (Or.inl ⟨by rfl, ?_⟩) ?_ ?_
       rotate_left
       ·exact gs_
       rotate_left
       ·exact pt_
       refine pure_ (i := 8) (N := some 40) (v := ?_) (a' := ?_) #[true, false, true, false, false, true, false, true, true, false, false, false, false, false, false, false, false, false, false, false, false, false] rfl rfl (any_of HT_.out (by kernel_rfl)) (fun _ _ _ h => h) (Or.inl ⟨by rfl, ?_⟩) ?_ ?_
       rotate_left
       ·exact gs_
       rotate_left
       ·exact pt_
       refine pure_ (i := 10) (N := some 42) (v := ?_) (a' := ?_) #[true, false, true, false, false, true, false, true, true, false, true, false, false, false, false, false, false, false, false, false, false, false] rfl rfl (any_of HT_.out (by kernel_rfl)) (fun _ _ _ h => h) (Or.inl ⟨by rfl, ?_⟩) ?_ ?_
       rotate_left
       ·exact gs_
       rotate_left
       ·exact pt_
       refine pure_ (i := 15) (N := some 47) (v := ?_) (a' := ?_) #[true, false, true, false, false, true, false, true, true, false, true, false, false, false, false, true, false, false, false, false, false, false] rfl rfl (any_of HT_.out (by kernel_rfl)) (fun _ _ _ h => h) (Or.inl ⟨by rfl, ?_⟩) ?_ ?_
       rotate_left
       ·exact gs_
       rotate_left
       ·exact pt_
       refine pure_ (i := 17) (N := some 49) (v := ?_) (a' := ?_) #[true, false, true, false, false, true, false, true, true, false, true, false, false, false, false, true, false, true, false, false, false, false] rfl rfl (any_of HT_.out (by kernel_rfl)) (fun _ _ _ h => h) (Or.inl ⟨by rfl, ?_⟩) ?_ ?_
       rotate_left
       ·exact gs_
       rotate_left
       ·exact pt_
       refine pure_ (i := 18) (N := some 50) (v := ?_) (a' := ?_) #[true, false, true, false, false, true, false, true, true, false, true, false, false, false, false, true, false, true, true, false, false, false] rfl rfl (any_of HT_.out (by kernel_rfl)) (fun _ _ _ h => h) (Or.inl ⟨by rfl, ?_⟩) ?_ ?_
       rotate_left
       ·exact gs_
       rotate_left
       ·exact pt_
       refine take_ (i := 1) (N := some 33) (v := ?_) (a' := ?_) #[true, true, true, false, false, true, false, true, true, false, true, false, false, false, false, true, false, true, true, false, false, false] rfl rfl (take_ofW HT_.out HW_.out (by kernel_rfl)) (fun _ _ _ h => h) (Or.inl ⟨by rfl, ?_⟩) hHeld ?_ ?_
       rotate_left
       ·rintro w' ⟨s0, s1, s2, s3, s4⟩; go_simp; with_reducible rfl
       rotate_left
       ·exact pt_
       refine pure_ (i := 3) (N := some 35) (v := ?_) (a' := ?_) #[true, true, true, true, false, true, false, true, true, false, true, false, false, false, false, true, false, true, true, false, false, false] rfl rfl (any_of HT_.out (by kernel_rfl)) (fun _ _ _ h => h) (Or.inl ⟨by rfl, ?_⟩) ?_ ?_
       rotate_left
       ·exact gs_
       rotate_left
       ·exact pt_
       refine take_ (i := 4) (N := some 36) (v := ?_) (a' := ?_) #[true, true, true, true, true, true, false, true, true, false, true, false, false, false, false, true, false, true, true, false, false, false] rfl rfl (take_ofW HT_.out HW_.out (by kernel_rfl)) (fun _ _ _ h => h) (Or.inl ⟨by rfl, ?_⟩) hHeld ?_ ?_
       rotate_left
       ·rintro w' ⟨s0, s1, s2, s3, s4⟩; go_simp; with_reducible rfl
       rotate_left
       ·exact pt_
       refine pure_ (i := 6) (N := some 38) (v := ?_) (a' := ?_) #[true, true, true, true, true, true, true, true, true, false, true, false, false, false, false, true, false, true, true, false, false, false] rfl rfl (any_of HT_.out (by kernel_rfl)) (fun _ _ _ h => h) (Or.inl ⟨by rfl, ?_⟩) ?_ ?_
       rotate_left
       ·exact gs_
       rotate_left
       ·exact pt_
       refine take_ (i := 9) (N := some 41) (v := ?_) (a' := ?_) #[true, true, true, true, true, true, true, true, true, true, true, false, false, false, false, true, false, true, true, false, false, false] rfl rfl (take_ofW HT_.out HW_.out (by kernel_rfl)) (fun _ _ _ h => h) (Or.inl ⟨by rfl, ?_⟩) hHeld ?_ ?_
       rotate_left
       ·rintro w' ⟨s0, s1, s2, s3, s4⟩; go_simp; with_reducible rfl
       rotate_left
       ·exact pt_
       refine pure_ (i := 11) (N := some 43) (v := ?_) (a' := ?_) #[true, true, true, true, true, true, true, true, true, true, true, true, false, false, false, true, false, true, true, false, false, false] rfl rfl (any_of HT_.out (by kernel_rfl)) (fun _ _ _ h => h) (Or.inl ⟨by rfl, ?_⟩) ?_ ?_
       rotate_left
       ·exact gs_
       rotate_left
       ·exact pt_
       refine take_ (i := 12) (N := some 44) (v := ?_) (a' := ?_) #[true, true, true, true, true, true, true, true, true, true, true, true, true, false, false, true, false, true, true, false, false, false] rfl rfl (take_ofW HT_.out HW_.out (by kernel_rfl)) (fun _ _ _ h => h) (Or.inl ⟨by rfl, ?_⟩) hHeld ?_ ?_
       rotate_left
       ·rintro w' ⟨s0, s1, s2, s3, s4⟩; go_simp; with_reducible rfl
       rotate_left
       ·exact pt_
       refine pure_ (i := 13) (N := some 45) (v := ?_) (a' := ?_) #[true, true, true, true, true, true, true, true, true, true, true, true, true, true, false, true, false, true, true, false, false, false] rfl rfl (any_of HT_.out (by kernel_rfl)) (fun _ _ _ h => h) (Or.inl ⟨by rfl, ?_⟩) ?_ ?_
       rotate_left
       ·exact gs_
       rotate_left
       ·exact pt_
       refine pure_ (i := 14) (N := some 46) (v := ?_) (a' := ?_) #[true, true, true, true, true, true, true, true, true, true, true, true, true, true, true, true, false, true, true, false, false, false] rfl rfl (any_of HT_.out (by kernel_rfl)) (fun _ _ _ h => h) (Or.inl ⟨by rfl, ?_⟩) ?_ ?_
       rotate_left
       ·exact gs_
       rotate_left
       ·exact pt_
       refine one_ (i := 16) (N := some 48) #[true, true, true, true, true, true, true, true, true, true, true, true, true, true, true, true, true, true, true, false, false, false] rfl rfl (one_of HT_.out (by kernel_rfl)) di_ (fun K hK => ?_)
       refine goes_ Try.func63 (by kernel_rfl) rfl #[.int .i64 (wrap64 ((wrap64 ((rd l0_0 a1) * (wrap64 ((rd l0_1 a2) - (rd l0_1 a1))))) - (wrap64 ((wrap64 ((rd l0_0 a2) - (rd l0_0 a1))) * (rd l0_1 a1))))), .int .i64 (wrap64 ((rd l0_1 a2) - (rd l0_1 a1)))] (by rfl) rfl rfl ma_ ?_
       with_reducible refine (figure_lowest.calls k (wrap64 ((wrap64 ((rd l0_0 a1) * (wrap64 ((rd l0_1 a2) - (rd l0_1 a1))))) - (wrap64 ((wrap64 ((rd l0_0 a2) - (rd l0_0 a1))) * (rd l0_1 a1))))) (wrap64 ((rd l0_1 a2) - (rd l0_1 a1))) t143 t144 _ A10.out).mono ?_
       rintro e w17 ⟨rfl, hb⟩
       refine ⟨_, rfl, ?_⟩
       have n0_ := Aside0.mk (bb_ BK134 hb)
       have n1_ := Aside0.mk (bb_ BK135 hb)
       have n2_ := Aside0.mk (bb_ BK136 hb)
       have n3_ := Aside0.mk (below_step (hb_ HB) hb)
       clear BK134
       clear BK135
       clear BK136
       clear HB
       have BK134 := n0_
       have BK135 := n1_
       have BK136 := n2_
       have HB := n3_
       clear n0_ n1_ n2_ n3_
       (try clear hb)
       (try clear hb2)
       (try clear hk)
       (try clear hi)
       refine hK.out _ _ ⟨(blk_cell BK134.out 0).trans rfl, (blk_cell BK134.out 1).trans rfl, (blk_cell BK134.out 2).trans rfl, ((HB.out.cell (World.block_lt_of_cell? w _ hw141_0)).trans hw141_0), ((HB.out.cell (World.block_lt_of_cell? w _ hw142_0)).trans hw142_0)⟩ (fun hHeld => ?_)
       clear hK K
       refine norm_ (a' := ?_) ?_ ?_
       rotate_left
       ·show Act.put _ (some 48) _ = _
        simp only [Act.put, List.setIfInBounds_toArray, List.set_cons_zero, List.set_cons_succ, i64_w, i32_w]
        rfl
       refine one_ (i := 19) (N := some 51) #[true, true, true, true, true, true, true, true, true, true, true, true, true, true, true, true, true, true, true, true, false, false] rfl rfl (one_of HT_.out (by kernel_rfl)) di_ (fun K hK => ?_)
       refine goes_ Try.func63 (by kernel_rfl) rfl #[.int .i64 (wrap64 ((rd l0_0 a2) - (rd l0_0 a1))), .int .i64 (wrap64 ((rd l0_1 a2) - (rd l0_1 a1)))] (by rfl) rfl rfl ma_ ?_
       with_reducible refine (figure_lowest.calls k (wrap64 ((rd l0_0 a2) - (rd l0_0 a1))) (wrap64 ((rd l0_1 a2) - (rd l0_1 a1))) t145 t146 _ A11.out).mono ?_
       rintro e w18 ⟨rfl, hb⟩
       refine ⟨_, rfl, ?_⟩
       have n0_ := Aside0.mk (bb_ BK134 hb)
       have n1_ := Aside0.mk (bb_ BK135 hb)
       have n2_ := Aside0.mk (bb_ BK136 hb)
       have n3_ := Aside0.mk (below_step (hb_ HB) hb)
       clear BK134
       clear BK135
       clear BK136
       clear HB
       have BK134 := n0_
       have BK135 := n1_
       have BK136 := n2_
       have HB := n3_
       clear n0_ n1_ n2_ n3_
       (try clear hb)
       (try clear hb2)
       (try clear hk)
       (try clear hi)
       refine hK.out _ _ ⟨(blk_cell BK134.out 0).trans rfl, (blk_cell BK134.out 1).trans rfl, (blk_cell BK134.out 2).trans rfl, ((HB.out.cell (World.block_lt_of_cell? w _ hw141_0)).trans hw141_0), ((HB.out.cell (World.block_lt_of_cell? w _ hw142_0)).trans hw142_0)⟩ (fun hHeld => ?_)
       clear hK K
       refine norm_ (a' := ?_) ?_ ?_
       rotate_left
       ·show Act.put _ (some 51) _ = _
        simp only [Act.put, List.setIfInBounds_toArray, List.set_cons_zero, List.set_cons_succ, i64_w, i32_w]
        rfl
       refine one_ (i := 20) (N := none) #[true, true, true, true, true, true, true, true, true, true, true, true, true, true, true, true, true, true, true, true, true, false] rfl rfl (one_of HT_.out (by kernel_rfl)) di_ (fun K hK => ?_)
       have hs19 : w18.cell? ⟨gb135, 0, none⟩ = some (.int .i64 0) := (blk_cell BK135.out 0).trans rfl
       have hfs19 := blk_frozen BK135.out 0
       have hns19_0 := NB134_135.out
       have hns19_2 := NB136_135.out
       have hms19_0 := NB135_134.out
       have hms19_2 := NB135_136.out
       have hs20 : w18.cell? ⟨gb135, 1, none⟩ = some (.int .i64 0) := (blk_cell BK135.out 1).trans rfl
       have hfs20 := blk_frozen BK135.out 1
       have hns20_0 := NB134_135.out
       have hns20_2 := NB136_135.out
       have hms20_0 := NB135_134.out
       have hms20_2 := NB135_136.out
       refine skip_ (w1 := ?_) (by rfl) rfl ?_ ?_
       rotate_left
       ·go_simp
        rfl
       refine hK.out _ _ ⟨((cell_far (p := ⟨gb135, _, none⟩) NB134_135.out _).trans (((cell_far (p := ⟨gb135, _, none⟩) NB134_135.out _).trans (hHeld.1)))), ((cell_far (p := ⟨gb135, _, none⟩) NB134_135.out _).trans (((cell_far (p := ⟨gb135, _, none⟩) NB134_135.out _).trans (hHeld.2.1)))), ((cell_far (p := ⟨gb135, _, none⟩) NB134_135.out _).trans (((cell_far (p := ⟨gb135, _, none⟩) NB134_135.out _).trans (hHeld.2.2.1)))), ((cell_far (p := ⟨gb135, _, none⟩) (ab_ hw141_0 GW135) _).trans (((cell_far (p := ⟨gb135, _, none⟩) (ab_ hw141_0 GW135) _).trans (hHeld.2.2.2.1)))), ((cell_far (p := ⟨gb135, _, none⟩) (ab_ hw142_0 GW135) _).trans (((cell_far (p := ⟨gb135, _, none⟩) (ab_ hw142_0 GW135) _).trans (hHeld.2.2.2.2))))⟩ (fun hHeld => ?_)
       clear hK K
       refine one_ (i := 21) (N := none) #[true, true, true, true, true, true, true, true, true, true, true, true, true, true, true, true, true, true, true, true, true, true] rfl rfl (one_of HT_.out (by kernel_rfl)) di_ (fun K hK => ?_)
       have hs21 : w18.cell? ⟨gb136, 0, none⟩ = some (.int .i64 0) := (blk_cell BK136.out 0).trans rfl
       have hfs21 := blk_frozen BK136.out 0
       have hns21_0 := NB134_136.out
       have hns21_1 := NB135_136.out
       have hms21_0 := NB136_134.out
       have hms21_1 := NB136_135.out
       have hs22 : w18.cell? ⟨gb136, 1, none⟩ = some (.int .i64 0) := (blk_cell BK136.out 1).trans rfl
       have hfs22 := blk_frozen BK136.out 1
       have hns22_0 := NB134_136.out
       have hns22_1 := NB135_136.out
       have hms22_0 := NB136_134.out
       have hms22_1 := NB136_135.out
       refine skip_ (w1 := ?_) (by rfl) rfl ?_ ?_
       rotate_left
       ·go_simp
        rfl
       refine hK.out _ _ ⟨((cell_far (p := ⟨gb136, _, none⟩) NB134_136.out _).trans (((cell_far (p := ⟨gb136, _, none⟩) NB134_136.out _).trans (hHeld.1)))), ((cell_far (p := ⟨gb136, _, none⟩) NB134_136.out _).trans (((cell_far (p := ⟨gb136, _, none⟩) NB134_136.out _).trans (hHeld.2.1)))), ((cell_far (p := ⟨gb136, _, none⟩) NB134_136.out _).trans (((cell_far (p := ⟨gb136, _, none⟩) NB134_136.out _).trans (hHeld.2.2.1)))), ((cell_far (p := ⟨gb136, _, none⟩) (ab_ hw141_0 GW136) _).trans (((cell_far (p := ⟨gb136, _, none⟩) (ab_ hw141_0 GW136) _).trans (hHeld.2.2.2.1)))), ((cell_far (p := ⟨gb136, _, none⟩) (ab_ hw142_0 GW136) _).trans (((cell_far (p := ⟨gb136, _, none⟩) (ab_ hw142_0 GW136) _).trans (hHeld.2.2.2.2))))⟩ (fun hHeld => ?_)
       clear hK K
       refine done_ (done_of HT_.out (by kernel_rfl)) ?_
       try go_wp2
       refine bodyPost_ret (results_cc rfl _ _ gb135 gb136 28 28 #[.int .i64 t143, .int .i64 t144] #[.int .i64 t145, .int .i64 t146] (0, 0) (0, 0) _ _ rfl (by (with_reducible repeat (first | refine blk_drewN ?_ _ | refine blk_drew ?_ | refine blk_alloc ?_ _)); refine blk_far ?_ NB135_136.out _; (with_reducible repeat (first | refine blk_drewN ?_ _ | refine blk_drew ?_ | refine blk_alloc ?_ _)); refine blk_far ?_ NB135_136.out _; (with_reducible repeat (first | refine blk_drewN ?_ _ | refine blk_drew ?_ | refine blk_alloc ?_ _)); refine blk_put (cs := #[.int .i64 t143, .int .i64 0]) ?_ 1 _ rfl; (with_reducible repeat (first | refine blk_drewN ?_ _ | refine blk_drew ?_ | refine blk_alloc ?_ _)); refine blk_put (cs := #[.int .i64 0, .int .i64 0]) ?_ 0 _ rfl; (with_reducible repeat (first | refine blk_drewN ?_ _ | refine blk_drew ?_ | refine blk_alloc ?_ _)); exact BK135.out) Try.underlying28 rfl (by kernel_rfl) rfl (by (with_reducible repeat (first | refine blk_drewN ?_ _ | refine blk_drew ?_ | refine blk_alloc ?_ _)); refine blk_put (cs := #[.int .i64 t145, .int .i64 0]) ?_ 1 _ rfl; (with_reducible repeat (first | refine blk_drewN ?_ _ | refine blk_drew ?_ | refine blk_alloc ?_ _)); refine blk_put (cs := #[.int .i64 0, .int .i64 0]) ?_ 0 _ rfl; (with_reducible repeat (first | refine blk_drewN ?_ _ | refine blk_drew ?_ | refine blk_alloc ?_ _)); refine blk_far ?_ NB136_135.out _; (with_reducible repeat (first | refine blk_drewN ?_ _ | refine blk_drew ?_ | refine blk_alloc ?_ _)); refine blk_far ?_ NB136_135.out _; (with_reducible repeat (first | refine blk_drewN ?_ _ | refine blk_drew ?_ | refine blk_alloc ?_ _)); exact BK136.out) Try.underlying28 rfl (by kernel_rfl)) rfl ?_
       exact ⟨ew_, hb_ HB⟩
      ·rw [if_neg c9] at H
       exact absurd H (by simp)
     ·rw [if_neg c8] at H
      exact absurd H (by simp)
    ·rw [if_neg c7] at H
     exact absurd H (by simp)
   ·rw [if_neg c6] at H
    exact absurd H (by simp)
  ·rw [if_neg c5] at H
   exact absurd H (by simp)
 ·rw [if_neg c4] at H
  exact absurd H (by simp)
end Go.Proofs.Ytdkahcolfcmmpaa.Pr
