import Derived.Test.YtdkahcolfcmmpaaFq1
import Derived.Test.YtdkahcolfcmmpaaFq2
import Derived.Test.YtdkahcolfcmmpaaFq3
namespace Go.Proofs.Ytdkahcolfcmmpaa.Pr
open Go.RowKit Go.Proofs.YtdkahcolfcmmpaaW.PrintWords Go.Proofs.YtdkahcolfcmmpaaW.PrintLast Go.Proofs.YtdkahcolfcmmpaaW.PrintMore
attribute [local go_sem] max2_int min2_int max_two min_two max_three min_three max_four min_four
set_option linter.unusedVariables false
set_option linter.unusedSimpArgs false
def figure_reference.f (k : Nat) (l0_0 : List Int) (l0_1 : List Int) (l0_2 : List Int) : Option (Int × Int × Int × Int × Int × Int) := (figure_hull.f k l0_0 l0_1 l0_2).bind fun t135 => ((figure_sumsOf.f l0_0 l0_1 l0_2).bind fun bt138 => (if (t135.length : Int) = 1 then (if 0 < (t135.length : Int) then (if 0 ≤ (rd t135 0) then (if (rd t135 0) < (l0_0.length : Int) then (some (rd l0_0 (rd t135 0), 1, 0, 1, rd t135 0, rd t135 0)) else (none)) else (none)) else (none)) else ((slices_IndexFunc_int_int__figure_reference_1.f (E := ⟨⟨bt138.1, bt138.2.1, bt138.2.2, l0_1⟩⟩) k t135).bind fun t146 => (if 0 ≤ (wrap64 ((mx 1 t146) - 1)) then (if (wrap64 ((mx 1 t146) - 1)) < (t135.length : Int) then (if 0 ≤ (mx 1 t146) then (if (mx 1 t146) < (t135.length : Int) then ((figure_through.f k l0_0 l0_1 l0_2 (rd t135 (wrap64 ((mx 1 t146) - 1))) (rd t135 (mx 1 t146))).bind fun bt149 => (some (bt149.1, bt149.2.1, bt149.2.2.1, bt149.2.2.2, rd t135 (wrap64 ((mx 1 t146) - 1)), rd t135 (mx 1 t146)))) else (none)) else (none)) else (none)) else (none)))))
theorem figure_reference.mono : ∀ a0 a1 a2 k, LeO (figure_reference.f k a0 a1 a2) (figure_reference.f (k + 1) a0 a1 a2) := by
 intro a0 a1 a2 k
 unfold figure_reference.f
 repeat' first
   | (with_reducible exact figure_hull.mono _ _ _ _)
   | (with_reducible exact figure_through.mono _ _ _ _ _ _)
   | (with_reducible exact slices_IndexFunc_int_int__figure_reference_1.mono (E := _) _ _)
   | (with_reducible exact LeO.refl _)
   | (with_reducible exact LeO.none _)
   | (with_reducible refine LeO.ite ?_ ?_)
   | (with_reducible refine LeO.bind ?_ (fun _ => ?_))
   | exact figure_hull.mono _ _ _ _
   | exact figure_through.mono _ _ _ _ _ _
   | exact slices_IndexFunc_int_int__figure_reference_1.mono (E := _) _ _
   | exact LeO.none _
   | refine LeO.ite ?_ ?_
   | refine LeO.bind ?_ (fun _ => ?_)
def figure_reference.T3 : Bool × List (List Nat × List Nat) := (true, [([], []), ([0], [0]), ([], []), ([2], [2]), ([3], [3]), ([1, 4], [1, 4]), ([5], [5]), ([6], [6]), ([], []), ([], []), ([9], [9]), ([10], [10]), ([], []), ([12], [12]), ([13], [13]), ([11, 14], [11, 14]), ([7, 8, 15], [7, 8, 15]), ([16, 0, 1, 2, 3, 4, 5, 6, 7, 8, 9, 10, 11, 12, 13, 14, 15, 16], [16])])
def figure_reference.B3 : List Nat := [0, 1, 0, 4, 12, 31, 63, 127, 0, 0, 512, 1536, 0, 4096, 12288, 32256, 65535, 131071]
theorem figure_reference.tab3 : rtab .any (opsOf Try.f74 3) = figure_reference.T3 := by kernel_rfl
theorem figure_reference.bits3 : waitsOk figure_reference.T3.2 figure_reference.B3 = true := by kernel_rfl
def figure_reference.T5 : Bool × List (List Nat × List Nat) := (true, [([], []), ([], []), ([], []), ([2], [2]), ([1, 3], [1, 3]), ([4], [4]), ([], []), ([], []), ([6, 7], [6, 7]), ([8], [8]), ([0, 5, 9], [0, 5, 9]), ([10], [10]), ([11], [11]), ([11], [11]), ([], []), ([], []), ([14, 12, 10, 0, 1, 2, 3, 4, 5, 6, 7, 8, 9, 10, 11, 12, 14, 15], [12, 14]), ([15, 13, 16, 0, 1, 2, 3, 4, 5, 6, 7, 8, 9, 10, 11, 12, 13, 14, 15, 16], [13, 15])])
def figure_reference.B5 : List Nat := [0, 0, 0, 4, 14, 30, 0, 0, 192, 448, 1023, 2047, 4095, 4095, 0, 0, 57343, 131071]
theorem figure_reference.tab5 : rtab .any (opsOf Try.f74 5) = figure_reference.T5 := by kernel_rfl
theorem figure_reference.bits5 : waitsOk figure_reference.T5.2 figure_reference.B5 = true := by kernel_rfl
def figure_reference.T6 : Bool × List (List Nat × List Nat) := (true, [([], []), ([], []), ([], []), ([], []), ([3], [3]), ([2, 4], [2, 4]), ([5], [5]), ([], []), ([], []), ([7, 8], [7, 8]), ([9], [9]), ([6, 10], [6, 10]), ([0, 1, 11], [0, 1, 11]), ([12, 0, 1, 2, 3, 4, 5, 6, 7, 8, 9, 10, 11, 12], [12])])
def figure_reference.B6 : List Nat := [0, 0, 0, 0, 8, 28, 60, 0, 0, 384, 896, 2044, 4095, 8191]
theorem figure_reference.tab6 : rtab .any (opsOf Try.f74 6) = figure_reference.T6 := by kernel_rfl
theorem figure_reference.bits6 : waitsOk figure_reference.T6.2 figure_reference.B6 = true := by kernel_rfl
set_option maxHeartbeats 8000000 in
set_option maxRecDepth 100000 in
theorem figure_reference.calls (k : Nat) (A0_0 : Option Addr) (c0_0 : Nat) (l0_0 : List Int) (A0_1 : Option Addr) (c0_1 : Nat) (l0_1 : List Int) (A0_2 : Option Addr) (c0_2 : Nat) (l0_2 : List Int) (r1 : Int) (r2 : Int) (r3 : Int) (r4 : Int) (r5 : Int) (r6 : Int) (w : World) (hr0_0 : Kd.C (Kd.int .i64) w A0_0 l0_0.length l0_0) (hc0_0 : l0_0.length ≤ c0_0) (hr0_1 : Kd.C (Kd.int .i64) w A0_1 l0_1.length l0_1) (hc0_1 : l0_1.length ≤ c0_1) (hr0_2 : Kd.C (Kd.int .i64) w A0_2 l0_2.length l0_2) (hc0_2 : l0_2.length ≤ c0_2) (h : figure_reference.f k l0_0 l0_1 l0_2 = some (r1, r2, r3, r4, r5, r6)) :
  Calls Try.prog 74 #[.agg #[.slice A0_0 l0_0.length c0_0, .slice A0_1 l0_1.length c0_1, .slice A0_2 l0_2.length c0_2]] w fun e w' => e = .returned (.agg #[.int .i64 r1, .int .i64 r2, .int .i64 r3, .int .i64 r4, .int .i64 r5, .int .i64 r6]) ∧ Below w.heap.size w w' := by
 have hu24 := Try.underlying24
 have hu50 := Try.underlying50
 have hu105 := Try.underlying105
 have hu28 := Try.underlying28
 have hu48 := Try.underlying48
 have HR0_0 := Aside0.mk hr0_0
 have HC0_0 := Aside0.mk hc0_0
 clear hr0_0 hc0_0
 have HR0_1 := Aside0.mk hr0_1
 have HC0_1 := Aside0.mk hc0_1
 clear hr0_1 hc0_1
 have HR0_2 := Aside0.mk hr0_2
 have HC0_2 := Aside0.mk hc0_2
 clear hr0_2 hc0_2
 have HB := Aside0.mk (Below.refl w.heap.size w)
 have H : ((figure_hull.f k l0_0 l0_1 l0_2).bind fun t135 => ((figure_sumsOf.f l0_0 l0_1 l0_2).bind fun bt138 => (if (t135.length : Int) = 1 then (if 0 < (t135.length : Int) then (if 0 ≤ (rd t135 0) then (if (rd t135 0) < (l0_0.length : Int) then (some (rd l0_0 (rd t135 0), 1, 0, 1, rd t135 0, rd t135 0)) else (none)) else (none)) else (none)) else ((slices_IndexFunc_int_int__figure_reference_1.f (E := ⟨⟨bt138.1, bt138.2.1, bt138.2.2, l0_1⟩⟩) k t135).bind fun t146 => (if 0 ≤ (wrap64 ((mx 1 t146) - 1)) then (if (wrap64 ((mx 1 t146) - 1)) < (t135.length : Int) then (if 0 ≤ (mx 1 t146) then (if (mx 1 t146) < (t135.length : Int) then ((figure_through.f k l0_0 l0_1 l0_2 (rd t135 (wrap64 ((mx 1 t146) - 1))) (rd t135 (mx 1 t146))).bind fun bt149 => (some (bt149.1, bt149.2.1, bt149.2.2.1, bt149.2.2.2, rd t135 (wrap64 ((mx 1 t146) - 1)), rd t135 (mx 1 t146)))) else (none)) else (none)) else (none)) else (none)))))) = some (r1, r2, r3, r4, r5, r6) := h
 clear h
 replace H := Option.bind_eq_some_iff.mp H
 obtain ⟨t135, A20, H⟩ := H
 replace H : ((figure_sumsOf.f l0_0 l0_1 l0_2).bind fun bt138 => (if (t135.length : Int) = 1 then (if 0 < (t135.length : Int) then (if 0 ≤ (rd t135 0) then (if (rd t135 0) < (l0_0.length : Int) then (some (rd l0_0 (rd t135 0), 1, 0, 1, rd t135 0, rd t135 0)) else (none)) else (none)) else (none)) else ((slices_IndexFunc_int_int__figure_reference_1.f (E := ⟨⟨bt138.1, bt138.2.1, bt138.2.2, l0_1⟩⟩) k t135).bind fun t146 => (if 0 ≤ (wrap64 ((mx 1 t146) - 1)) then (if (wrap64 ((mx 1 t146) - 1)) < (t135.length : Int) then (if 0 ≤ (mx 1 t146) then (if (mx 1 t146) < (t135.length : Int) then ((figure_through.f k l0_0 l0_1 l0_2 (rd t135 (wrap64 ((mx 1 t146) - 1))) (rd t135 (mx 1 t146))).bind fun bt149 => (some (bt149.1, bt149.2.1, bt149.2.2.1, bt149.2.2.2, rd t135 (wrap64 ((mx 1 t146) - 1)), rd t135 (mx 1 t146)))) else (none)) else (none)) else (none)) else (none))))) = some (r1, r2, r3, r4, r5, r6) := H
 have A2 := Aside0.mk A20
 clear A20
 replace H := Option.bind_eq_some_iff.mp H
 obtain ⟨⟨t138, t139, t140⟩, A30, H⟩ := H
 replace H : (if (t135.length : Int) = 1 then (if 0 < (t135.length : Int) then (if 0 ≤ (rd t135 0) then (if (rd t135 0) < (l0_0.length : Int) then (some (rd l0_0 (rd t135 0), 1, 0, 1, rd t135 0, rd t135 0)) else (none)) else (none)) else (none)) else ((slices_IndexFunc_int_int__figure_reference_1.f (E := ⟨⟨t138, t139, t140, l0_1⟩⟩) k t135).bind fun t146 => (if 0 ≤ (wrap64 ((mx 1 t146) - 1)) then (if (wrap64 ((mx 1 t146) - 1)) < (t135.length : Int) then (if 0 ≤ (mx 1 t146) then (if (mx 1 t146) < (t135.length : Int) then ((figure_through.f k l0_0 l0_1 l0_2 (rd t135 (wrap64 ((mx 1 t146) - 1))) (rd t135 (mx 1 t146))).bind fun bt149 => (some (bt149.1, bt149.2.1, bt149.2.2.1, bt149.2.2.2, rd t135 (wrap64 ((mx 1 t146) - 1)), rd t135 (mx 1 t146)))) else (none)) else (none)) else (none)) else (none)))) = some (r1, r2, r3, r4, r5, r6) := H
 have A3 := Aside0.mk A30
 clear A30
 by_cases c4 : (t135.length : Int) = 1
 ·rw [if_pos c4] at H
  have c4b0 : ((t135.length : Int) == 1) = true := beq_iff_eq.mpr c4
  have c4b1 : ((t135.length : Int) != 1) = false := bne_eq_false_iff_eq.mpr c4
  clear c4
  by_cases c5 : 0 < (t135.length : Int)
  ·rw [if_pos c5] at H
   have c5b0 : decide (0 < (t135.length : Int)) = true := decide_eq_true c5
   have c5b1 : decide (0 < t135.length) = true := decide_eq_true (by omega)
   clear c5
   by_cases c6 : 0 ≤ (rd t135 0)
   ·rw [if_pos c6] at H
    have c6b0 : decide (0 ≤ (rd t135 0)) = true := decide_eq_true c6
    clear c6
    by_cases c7 : (rd t135 0) < (l0_0.length : Int)
    ·rw [if_pos c7] at H
     have c7b0 : decide ((rd t135 0) < (l0_0.length : Int)) = true := decide_eq_true c7
     clear c7
     simp only [Option.some.injEq, Prod.mk.injEq] at H
     obtain ⟨rfl, rfl, rfl, rfl, rfl, rfl⟩ := H
     go_enter Try.func74, Try.ntmps74
     try go_wp2_with (first | ((with_reducible refine gate_dst (N := 1) rfl ?_); refine box_event ?hg (N := 1) ?hd (cs := #[.slice A0_0 l0_0.length c0_0, .slice A0_1 l0_1.length c0_1, .slice A0_2 l0_2.length c0_2]) (t := 24) ?hr ?_; (case hd => rfl); (case hg => rfl); (case hr => exact gr_); intro gb133 hg w8 hbox hb; have n0_ := Aside0.mk (below_step (hb_ HB) hb); have n1_ := Aside0.mk (hbox); have n2_ := Aside0.mk ((hz_ HB hg)); have n3_ := Aside0.mk ((hz_ HB hg)); clear HB; have HB := n0_; have BK133 := n1_; have GW133 := n2_; have GE133 := n3_; clear n0_ n1_ n2_ n3_; clear hb hbox hg) | ((with_reducible refine gate_dst (N := 2) rfl ?_); refine box_event ?hg (N := 2) ?hd (cs := #[.int .i64 0, .int .i64 0, .int .i64 0, .int .i64 0, .int .i64 0, .int .i64 0]) (t := 50) ?hr ?_; (case hd => rfl); (case hg => rfl); (case hr => exact gr_); intro gb134 hg w9 hbox hb; have n0_ := Aside0.mk (bb_ BK133 hb); have n1_ := Aside0.mk (below_step (hb_ HB) hb); have n2_ := Aside0.mk (hbox); have n3_ := Aside0.mk ((hz_ HB hg)); have n4_ := Aside0.mk ((hz_ HB hg)); have n5_ := Aside0.mk ((nl_ BK133 hg)); have n6_ := Aside0.mk ((ng_ BK133 hg)); clear BK133; clear HB; have BK133 := n0_; have HB := n1_; have BK134 := n2_; have GW134 := n3_; have GE134 := n4_; have NB133_134 := n5_; have NB134_133 := n6_; clear n0_ n1_ n2_ n3_ n4_ n5_ n6_; clear hb hbox hg))
     have n0_ := Aside0.mk (blk_drew BK133.out)
     have n1_ := Aside0.mk (blk_drew BK134.out)
     have n2_ := Aside0.mk (below_drew1 HB.out)
     clear BK133
     clear BK134
     clear HB
     have BK133 := n0_
     have BK134 := n1_
     have HB := n2_
     clear n0_ n1_ n2_
     refine start_ (n := 7) (S := fun w' => w'.cell? ⟨gb133, 0, none⟩ = some (.slice A0_0 l0_0.length c0_0) ∧ w'.cell? ⟨gb133, 1, none⟩ = some (.slice A0_1 l0_1.length c0_1) ∧ w'.cell? ⟨gb133, 2, none⟩ = some (.slice A0_2 l0_2.length c0_2)) (ds := []) #[false, false, false, false, false, false, false] (by kernel_rfl) rfl rfl ⟨(blk_cell BK133.out 0).trans rfl, (blk_cell BK133.out 1).trans rfl, (blk_cell BK133.out 2).trans rfl⟩ (fun hHeld => ?_)
     generalize w9.drew = w10 at BK133 BK134 HB hHeld ⊢
     refine take_ (i := 0) (N := some 8) (v := ?_) (a' := ?_) #[true, false, false, false, false, false, false] rfl rfl (by kernel_rfl) (fun _ _ _ h => h) (Or.inl ⟨by rfl, ?_⟩) hHeld ?_ ?_
     rotate_left
     ·rintro w' ⟨s0, s1, s2⟩; go_simp; with_reducible rfl
     rotate_left
     ·exact pt_
     refine take_ (i := 2) (N := some 10) (v := ?_) (a' := ?_) #[true, false, true, false, false, false, false] rfl rfl (by kernel_rfl) (fun _ _ _ h => h) (Or.inl ⟨by rfl, ?_⟩) hHeld ?_ ?_
     rotate_left
     ·rintro w' ⟨s0, s1, s2⟩; go_simp; with_reducible rfl
     rotate_left
     ·exact pt_
     refine join_ (σ := Value × Nat) 2 #[true, true, true, true, true, false, false] (fun s_ => [(9, s_.1), (11, .agg #[.int .i64 t138, .int .i64 t139, .int .i64 t140]), (4, .pointer (some ⟨s_.2, 0, none⟩))]) (fun s_ w' => (w'.cell? ⟨gb133, 0, none⟩ = some (.slice A0_0 l0_0.length c0_0) ∧ w'.cell? ⟨gb133, 1, none⟩ = some (.slice A0_1 l0_1.length c0_1) ∧ w'.cell? ⟨gb133, 2, none⟩ = some (.slice A0_2 l0_2.length c0_2)) ∧ (Kd.R (Kd.int .i64) 3 w' w.heap.size (fun _ => True) s_.1 t135) ∧ (w'.heap[gb133]? = some (.cells #[.slice A0_0 l0_0.length c0_0, .slice A0_1 l0_1.length c0_1, .slice A0_2 l0_2.length c0_2] 24 (0, 0))) ∧ (w'.heap[gb134]? = some (.cells #[.int .i64 0, .int .i64 0, .int .i64 0, .int .i64 0, .int .i64 0, .int .i64 0] 50 (0, 0))) ∧ (w'.heap[s_.2]? = some (.cells #[.int .i64 0, .int .i64 0, .int .i64 0] 105 (0, 0))) ∧ (w.heap.size ≤ s_.2) ∧ (w.heap.size ≤ s_.2) ∧ (gb133 ≠ s_.2) ∧ (s_.2 ≠ gb133) ∧ (gb134 ≠ s_.2) ∧ (s_.2 ≠ gb134) ∧ (Below w.heap.size w w')) ?_ ?_
     rotate_left
     ·intro hCont
      refine two_ (i := 1) (j := 4) (Ni := some 9) (Nj := some 4) #[true, true, true, false, false, false, false] #[true, false, true, false, true, false, false] rfl rfl rfl rfl (by kernel_rfl) di_ di_ (fun K hK => ?_) (fun K hK => ?_)
      ·skip
       refine goes_ Try.func107 (by kernel_rfl) rfl #[.agg #[.slice A0_0 l0_0.length c0_0, .slice A0_1 l0_1.length c0_1, .slice A0_2 l0_2.length c0_2]] (by rfl) rfl rfl ma_ ?_
       with_reducible refine (figure_hull.calls k _ _ l0_0 _ _ l0_1 _ _ l0_2 t135 _ ?side1 ?side2 ?side3 ?side4 ?side5 ?side6 A2.out).mono ?_
       (case side1 => exact cb_ (Kd.C_below HR0_0.out HB.out))
       (case side2 => exact HC0_0.out)
       (case side3 => exact cb_ (Kd.C_below HR0_1.out HB.out))
       (case side4 => exact HC0_1.out)
       (case side5 => exact cb_ (Kd.C_below HR0_2.out HB.out))
       (case side6 => exact HC0_2.out)
       rintro e w11 ⟨v136, rfl, ho0, hb⟩
       refine ⟨_, rfl, ?_⟩
       have n0_ := Aside0.mk (Kd.R_lower ho0 (below_size (hb_ HB)))
       have n1_ := Aside0.mk (bb_ BK133 hb)
       have n2_ := Aside0.mk (bb_ BK134 hb)
       have n3_ := Aside0.mk (below_step (hb_ HB) hb)
       clear BK133
       clear BK134
       clear HB
       have HO137 := n0_
       have BK133 := n1_
       have BK134 := n2_
       have HB := n3_
       clear n0_ n1_ n2_ n3_
       (try clear hb)
       (try clear hb2)
       (try clear hk)
       (try clear hi)
       (try clear ho0)
       refine hK.out _ _ ⟨(blk_cell BK133.out 0).trans rfl, (blk_cell BK133.out 1).trans rfl, (blk_cell BK133.out 2).trans rfl⟩ (fun hHeld => ?_)
       clear hK K
       refine norm_ (a' := ?_) ?_ ?_
       rotate_left
       ·show Act.put _ (some 9) _ = _
        simp only [Act.put, List.setIfInBounds_toArray, List.set_cons_zero, List.set_cons_succ, i64_w, i32_w]
        rfl
       refine two_ (i := 3) (j := 4) (Ni := some 11) (Nj := some 4) #[true, true, true, true, false, false, false] #[true, true, true, false, true, false, false] rfl rfl rfl rfl (by kernel_rfl) di_ di_ (fun K hK => ?_) (fun K hK => ?_)
       ·skip
        refine goes_ Try.func62 (by kernel_rfl) rfl #[.agg #[.slice A0_0 l0_0.length c0_0, .slice A0_1 l0_1.length c0_1, .slice A0_2 l0_2.length c0_2]] (by rfl) rfl rfl ma_ ?_
        with_reducible refine (figure_sumsOf.calls _ _ l0_0 _ _ l0_1 _ _ l0_2 t138 t139 t140 _ ?side1 ?side2 ?side3 ?side4 ?side5 ?side6 A3.out).mono ?_
        (case side1 => exact cb_ (Kd.C_below HR0_0.out HB.out))
        (case side2 => exact HC0_0.out)
        (case side3 => exact cb_ (Kd.C_below HR0_1.out HB.out))
        (case side4 => exact HC0_1.out)
        (case side5 => exact cb_ (Kd.C_below HR0_2.out HB.out))
        (case side6 => exact HC0_2.out)
        rintro e w12 ⟨rfl, hb⟩
        refine ⟨_, rfl, ?_⟩
        have n0_ := Aside0.mk (Kd.R_below (rk_ HO137) hb)
        have n1_ := Aside0.mk (bb_ BK133 hb)
        have n2_ := Aside0.mk (bb_ BK134 hb)
        have n3_ := Aside0.mk (below_step (hb_ HB) hb)
        clear HO137
        clear BK133
        clear BK134
        clear HB
        have HO137 := n0_
        have BK133 := n1_
        have BK134 := n2_
        have HB := n3_
        clear n0_ n1_ n2_ n3_
        (try clear hb)
        (try clear hb2)
        (try clear hk)
        (try clear hi)
        refine hK.out _ _ ⟨(blk_cell BK133.out 0).trans rfl, (blk_cell BK133.out 1).trans rfl, (blk_cell BK133.out 2).trans rfl⟩ (fun hHeld => ?_)
        clear hK K
        refine norm_ (a' := ?_) ?_ ?_
        rotate_left
        ·show Act.put _ (some 11) _ = _
         simp only [Act.put, List.setIfInBounds_toArray, List.set_cons_zero, List.set_cons_succ, i64_w, i32_w]
         rfl
        refine one_ (i := 4) (N := some 4) #[true, true, true, true, true, false, false] rfl rfl (by kernel_rfl) di_ (fun K hK => ?_)
        refine box_step ?hg (N := 4) ?hd (cs := #[.int .i64 0, .int .i64 0, .int .i64 0]) (t := 105) ?hr ?_; (case hd => rfl); (case hg => rfl); (case hr => exact gr_)
        intro gb141 hg w13 hbox hb
        have n0_ := Aside0.mk (Kd.R_below (rk_ HO137) hb)
        have n1_ := Aside0.mk (bb_ BK133 hb)
        have n2_ := Aside0.mk (bb_ BK134 hb)
        have n3_ := Aside0.mk (below_step (hb_ HB) hb)
        have n4_ := Aside0.mk (hbox)
        have n5_ := Aside0.mk ((hz_ HB hg))
        have n6_ := Aside0.mk ((hz_ HB hg))
        have n7_ := Aside0.mk ((nl_ BK133 hg))
        have n8_ := Aside0.mk ((ng_ BK133 hg))
        have n9_ := Aside0.mk ((nl_ BK134 hg))
        have n10_ := Aside0.mk ((ng_ BK134 hg))
        clear HO137
        clear BK133
        clear BK134
        clear HB
        have HO137 := n0_
        have BK133 := n1_
        have BK134 := n2_
        have HB := n3_
        have BK141 := n4_
        have GW141 := n5_
        have GE141 := n6_
        have NB133_141 := n7_
        have NB141_133 := n8_
        have NB134_141 := n9_
        have NB141_134 := n10_
        clear n0_ n1_ n2_ n3_ n4_ n5_ n6_ n7_ n8_ n9_ n10_
        clear hb hbox hg
        refine hK.out _ _ ⟨(blk_cell BK133.out 0).trans rfl, (blk_cell BK133.out 1).trans rfl, (blk_cell BK133.out 2).trans rfl⟩ (fun hHeld => ?_)
        clear hK K
        refine norm_ (a' := ?_) ?_ ?_
        rotate_left
        ·show Act.put _ (some 4) _ = _
         simp only [Act.put, List.setIfInBounds_toArray, List.set_cons_zero, List.set_cons_succ, i64_w, i32_w]
         rfl
        exact norm_ (by simp only [putAll, Act.put, List.setIfInBounds_toArray, List.set_cons_zero, List.set_cons_succ]) (hCont (v136, gb141) _ ⟨hHeld, (rk_ HO137), (bk_ BK133), (bk_ BK134), (bk_ BK141), GW141.out, GE141.out, NB133_141.out, NB141_133.out, NB134_141.out, NB141_134.out, (hb_ HB)⟩)
       ·skip
        refine box_step ?hg (N := 4) ?hd (cs := #[.int .i64 0, .int .i64 0, .int .i64 0]) (t := 105) ?hr ?_; (case hd => rfl); (case hg => rfl); (case hr => exact gr_)
        intro gb141 hg w12 hbox hb
        have n0_ := Aside0.mk (Kd.R_below (rk_ HO137) hb)
        have n1_ := Aside0.mk (bb_ BK133 hb)
        have n2_ := Aside0.mk (bb_ BK134 hb)
        have n3_ := Aside0.mk (below_step (hb_ HB) hb)
        have n4_ := Aside0.mk (hbox)
        have n5_ := Aside0.mk ((hz_ HB hg))
        have n6_ := Aside0.mk ((hz_ HB hg))
        have n7_ := Aside0.mk ((nl_ BK133 hg))
        have n8_ := Aside0.mk ((ng_ BK133 hg))
        have n9_ := Aside0.mk ((nl_ BK134 hg))
        have n10_ := Aside0.mk ((ng_ BK134 hg))
        clear HO137
        clear BK133
        clear BK134
        clear HB
        have HO137 := n0_
        have BK133 := n1_
        have BK134 := n2_
        have HB := n3_
        have BK141 := n4_
        have GW141 := n5_
        have GE141 := n6_
        have NB133_141 := n7_
        have NB141_133 := n8_
        have NB134_141 := n9_
        have NB141_134 := n10_
        clear n0_ n1_ n2_ n3_ n4_ n5_ n6_ n7_ n8_ n9_ n10_
        clear hb hbox hg
        refine hK.out _ _ ⟨(blk_cell BK133.out 0).trans rfl, (blk_cell BK133.out 1).trans rfl, (blk_cell BK133.out 2).trans rfl⟩ (fun hHeld => ?_)
        clear hK K
        refine norm_ (a' := ?_) ?_ ?_
        rotate_left
        ·show Act.put _ (some 4) _ = _
         simp only [Act.put, List.setIfInBounds_toArray, List.set_cons_zero, List.set_cons_succ, i64_w, i32_w]
         rfl
        refine one_ (i := 3) (N := some 11) #[true, true, true, true, true, false, false] rfl rfl (by kernel_rfl) di_ (fun K hK => ?_)
        refine goes_ Try.func62 (by kernel_rfl) rfl #[.agg #[.slice A0_0 l0_0.length c0_0, .slice A0_1 l0_1.length c0_1, .slice A0_2 l0_2.length c0_2]] (by rfl) rfl rfl ma_ ?_
        with_reducible refine (figure_sumsOf.calls _ _ l0_0 _ _ l0_1 _ _ l0_2 t138 t139 t140 _ ?side1 ?side2 ?side3 ?side4 ?side5 ?side6 A3.out).mono ?_
        (case side1 => exact cb_ (Kd.C_below HR0_0.out HB.out))
        (case side2 => exact HC0_0.out)
        (case side3 => exact cb_ (Kd.C_below HR0_1.out HB.out))
        (case side4 => exact HC0_1.out)
        (case side5 => exact cb_ (Kd.C_below HR0_2.out HB.out))
        (case side6 => exact HC0_2.out)
        rintro e w13 ⟨rfl, hb⟩
        refine ⟨_, rfl, ?_⟩
        have n0_ := Aside0.mk (Kd.R_below (rk_ HO137) hb)
        have n1_ := Aside0.mk (bb_ BK133 hb)
        have n2_ := Aside0.mk (bb_ BK134 hb)
        have n3_ := Aside0.mk (bb_ BK141 hb)
        have n4_ := Aside0.mk (below_step (hb_ HB) hb)
        clear HO137
        clear BK133
        clear BK134
        clear BK141
        clear HB
        have HO137 := n0_
        have BK133 := n1_
        have BK134 := n2_
        have BK141 := n3_
        have HB := n4_
        clear n0_ n1_ n2_ n3_ n4_
        (try clear hb)
        (try clear hb2)
        (try clear hk)
        (try clear hi)
        refine hK.out _ _ ⟨(blk_cell BK133.out 0).trans rfl, (blk_cell BK133.out 1).trans rfl, (blk_cell BK133.out 2).trans rfl⟩ (fun hHeld => ?_)
        clear hK K
        refine norm_ (a' := ?_) ?_ ?_
        rotate_left
        ·show Act.put _ (some 11) _ = _
         simp only [Act.put, List.setIfInBounds_toArray, List.set_cons_zero, List.set_cons_succ, i64_w, i32_w]
         rfl
        exact norm_ (by simp only [putAll, Act.put, List.setIfInBounds_toArray, List.set_cons_zero, List.set_cons_succ]) (hCont (v136, gb141) _ ⟨hHeld, (rk_ HO137), (bk_ BK133), (bk_ BK134), (bk_ BK141), GW141.out, GE141.out, NB133_141.out, NB141_133.out, NB134_141.out, NB141_134.out, (hb_ HB)⟩)
      ·skip
       refine box_step ?hg (N := 4) ?hd (cs := #[.int .i64 0, .int .i64 0, .int .i64 0]) (t := 105) ?hr ?_; (case hd => rfl); (case hg => rfl); (case hr => exact gr_)
       intro gb141 hg w11 hbox hb
       have n0_ := Aside0.mk (bb_ BK133 hb)
       have n1_ := Aside0.mk (bb_ BK134 hb)
       have n2_ := Aside0.mk (below_step (hb_ HB) hb)
       have n3_ := Aside0.mk (hbox)
       have n4_ := Aside0.mk ((hz_ HB hg))
       have n5_ := Aside0.mk ((hz_ HB hg))
       have n6_ := Aside0.mk ((nl_ BK133 hg))
       have n7_ := Aside0.mk ((ng_ BK133 hg))
       have n8_ := Aside0.mk ((nl_ BK134 hg))
       have n9_ := Aside0.mk ((ng_ BK134 hg))
       clear BK133
       clear BK134
       clear HB
       have BK133 := n0_
       have BK134 := n1_
       have HB := n2_
       have BK141 := n3_
       have GW141 := n4_
       have GE141 := n5_
       have NB133_141 := n6_
       have NB141_133 := n7_
       have NB134_141 := n8_
       have NB141_134 := n9_
       clear n0_ n1_ n2_ n3_ n4_ n5_ n6_ n7_ n8_ n9_
       clear hb hbox hg
       refine hK.out _ _ ⟨(blk_cell BK133.out 0).trans rfl, (blk_cell BK133.out 1).trans rfl, (blk_cell BK133.out 2).trans rfl⟩ (fun hHeld => ?_)
       clear hK K
       refine norm_ (a' := ?_) ?_ ?_
       rotate_left
       ·show Act.put _ (some 4) _ = _
        simp only [Act.put, List.setIfInBounds_toArray, List.set_cons_zero, List.set_cons_succ, i64_w, i32_w]
        rfl
       refine one_ (i := 1) (N := some 9) #[true, true, true, false, true, false, false] rfl rfl (by kernel_rfl) di_ (fun K hK => ?_)
       refine goes_ Try.func107 (by kernel_rfl) rfl #[.agg #[.slice A0_0 l0_0.length c0_0, .slice A0_1 l0_1.length c0_1, .slice A0_2 l0_2.length c0_2]] (by rfl) rfl rfl ma_ ?_
       with_reducible refine (figure_hull.calls k _ _ l0_0 _ _ l0_1 _ _ l0_2 t135 _ ?side1 ?side2 ?side3 ?side4 ?side5 ?side6 A2.out).mono ?_
       (case side1 => exact cb_ (Kd.C_below HR0_0.out HB.out))
       (case side2 => exact HC0_0.out)
       (case side3 => exact cb_ (Kd.C_below HR0_1.out HB.out))
       (case side4 => exact HC0_1.out)
       (case side5 => exact cb_ (Kd.C_below HR0_2.out HB.out))
       (case side6 => exact HC0_2.out)
       rintro e w12 ⟨v136, rfl, ho0, hb⟩
       refine ⟨_, rfl, ?_⟩
       have n0_ := Aside0.mk (Kd.R_lower ho0 (below_size (hb_ HB)))
       have n1_ := Aside0.mk (bb_ BK133 hb)
       have n2_ := Aside0.mk (bb_ BK134 hb)
       have n3_ := Aside0.mk (bb_ BK141 hb)
       have n4_ := Aside0.mk (below_step (hb_ HB) hb)
       clear BK133
       clear BK134
       clear BK141
       clear HB
       have HO137 := n0_
       have BK133 := n1_
       have BK134 := n2_
       have BK141 := n3_
       have HB := n4_
       clear n0_ n1_ n2_ n3_ n4_
       (try clear hb)
       (try clear hb2)
       (try clear hk)
       (try clear hi)
       (try clear ho0)
       refine hK.out _ _ ⟨(blk_cell BK133.out 0).trans rfl, (blk_cell BK133.out 1).trans rfl, (blk_cell BK133.out 2).trans rfl⟩ (fun hHeld => ?_)
       clear hK K
       refine norm_ (a' := ?_) ?_ ?_
       rotate_left
       ·show Act.put _ (some 9) _ = _
        simp only [Act.put, List.setIfInBounds_toArray, List.set_cons_zero, List.set_cons_succ, i64_w, i32_w]
        rfl
       refine one_ (i := 3) (N := some 11) #[true, true, true, true, true, false, false] rfl rfl (by kernel_rfl) di_ (fun K hK => ?_)
       refine goes_ Try.func62 (by kernel_rfl) rfl #[.agg #[.slice A0_0 l0_0.length c0_0, .slice A0_1 l0_1.length c0_1, .slice A0_2 l0_2.length c0_2]] (by rfl) rfl rfl ma_ ?_
       with_reducible refine (figure_sumsOf.calls _ _ l0_0 _ _ l0_1 _ _ l0_2 t138 t139 t140 _ ?side1 ?side2 ?side3 ?side4 ?side5 ?side6 A3.out).mono ?_
       (case side1 => exact cb_ (Kd.C_below HR0_0.out HB.out))
       (case side2 => exact HC0_0.out)
       (case side3 => exact cb_ (Kd.C_below HR0_1.out HB.out))
       (case side4 => exact HC0_1.out)
       (case side5 => exact cb_ (Kd.C_below HR0_2.out HB.out))
       (case side6 => exact HC0_2.out)
       rintro e w13 ⟨rfl, hb⟩
       refine ⟨_, rfl, ?_⟩
       have n0_ := Aside0.mk (Kd.R_below (rk_ HO137) hb)
       have n1_ := Aside0.mk (bb_ BK133 hb)
       have n2_ := Aside0.mk (bb_ BK134 hb)
       have n3_ := Aside0.mk (bb_ BK141 hb)
       have n4_ := Aside0.mk (below_step (hb_ HB) hb)
       clear HO137
       clear BK133
       clear BK134
       clear BK141
       clear HB
       have HO137 := n0_
       have BK133 := n1_
       have BK134 := n2_
       have BK141 := n3_
       have HB := n4_
       clear n0_ n1_ n2_ n3_ n4_
       (try clear hb)
       (try clear hb2)
       (try clear hk)
       (try clear hi)
       refine hK.out _ _ ⟨(blk_cell BK133.out 0).trans rfl, (blk_cell BK133.out 1).trans rfl, (blk_cell BK133.out 2).trans rfl⟩ (fun hHeld => ?_)
       clear hK K
       refine norm_ (a' := ?_) ?_ ?_
       rotate_left
       ·show Act.put _ (some 11) _ = _
        simp only [Act.put, List.setIfInBounds_toArray, List.set_cons_zero, List.set_cons_succ, i64_w, i32_w]
        rfl
       exact norm_ (by simp only [putAll, Act.put, List.setIfInBounds_toArray, List.set_cons_zero, List.set_cons_succ]) (hCont (v136, gb141) _ ⟨hHeld, (rk_ HO137), (bk_ BK133), (bk_ BK134), (bk_ BK141), GW141.out, GE141.out, NB133_141.out, NB141_133.out, NB134_141.out, NB141_134.out, (hb_ HB)⟩)
     rintro ⟨v136, gb141⟩ w14 ⟨hS_, h0_, h1_, h2_, h3_, h4_, h5_, h6_, h7_, h8_, h9_, h10_⟩
     have n0_ : Aside0 (Kd.R (Kd.int .i64) 3 w14 w.heap.size (fun _ => True) v136 t135) := ⟨h0_⟩
     have n1_ : Aside0 (w14.heap[gb133]? = some (.cells #[.slice A0_0 l0_0.length c0_0, .slice A0_1 l0_1.length c0_1, .slice A0_2 l0_2.length c0_2] 24 (0, 0))) := ⟨h1_⟩
     have n2_ : Aside0 (w14.heap[gb134]? = some (.cells #[.int .i64 0, .int .i64 0, .int .i64 0, .int .i64 0, .int .i64 0, .int .i64 0] 50 (0, 0))) := ⟨h2_⟩
     have n3_ : Aside0 (w14.heap[gb141]? = some (.cells #[.int .i64 0, .int .i64 0, .int .i64 0] 105 (0, 0))) := ⟨h3_⟩
     have n4_ : Aside0 (w.heap.size ≤ gb141) := ⟨h4_⟩
     have n5_ : Aside0 (w.heap.size ≤ gb141) := ⟨h5_⟩
     have n6_ : Aside0 (gb133 ≠ gb141) := ⟨h6_⟩
     have n7_ : Aside0 (gb141 ≠ gb133) := ⟨h7_⟩
     have n8_ : Aside0 (gb134 ≠ gb141) := ⟨h8_⟩
     have n9_ : Aside0 (gb141 ≠ gb134) := ⟨h9_⟩
     have n10_ : Aside0 (Below w.heap.size w w14) := ⟨h10_⟩
     clear BK133
     clear BK134
     clear HB
     clear h0_ h1_ h2_ h3_ h4_ h5_ h6_ h7_ h8_ h9_ h10_
     have HO137 := n0_
     have BK133 := n1_
     have BK134 := n2_
     have BK141 := n3_
     have GW141 := n4_
     have GE141 := n5_
     have NB133_141 := n6_
     have NB141_133 := n7_
     have NB134_141 := n8_
     have NB141_134 := n9_
     have HB := n10_
     clear n0_ n1_ n2_ n3_ n4_ n5_ n6_ n7_ n8_ n9_ n10_
     have hHeld : w14.cell? ⟨gb133, 0, none⟩ = some (.slice A0_0 l0_0.length c0_0) ∧ w14.cell? ⟨gb133, 1, none⟩ = some (.slice A0_1 l0_1.length c0_1) ∧ w14.cell? ⟨gb133, 2, none⟩ = some (.slice A0_2 l0_2.length c0_2) := hS_
     refine norm_ (a' := ?_) ?_ ?_
     rotate_left
     ·simp only [putAll, Act.put, List.setIfInBounds_toArray, List.set_cons_zero, List.set_cons_succ]
      rfl
     refine pure_ (i := 5) (N := some 3) (v := ?_) (a' := ?_) #[true, true, true, true, true, true, false] rfl rfl (by kernel_rfl) (fun _ _ _ h => h) (Or.inl ⟨by rfl, ?_⟩) ?_ ?_
     rotate_left
     ·exact gs_
     rotate_left
     ·exact pt_
     refine one_ (i := 6) (N := none) #[true, true, true, true, true, true, true] rfl rfl (by kernel_rfl) di_ (fun K hK => ?_)
     have hs15 : w14.cell? ⟨gb141, 0, none⟩ = some (.int .i64 0) := (blk_cell BK141.out 0).trans rfl
     have hfs15 := blk_frozen BK141.out 0
     have hns15_0 := NB133_141.out
     have hns15_1 := NB134_141.out
     have hms15_0 := NB141_133.out
     have hms15_1 := NB141_134.out
     have hs16 : w14.cell? ⟨gb141, 1, none⟩ = some (.int .i64 0) := (blk_cell BK141.out 1).trans rfl
     have hfs16 := blk_frozen BK141.out 1
     have hns16_0 := NB133_141.out
     have hns16_1 := NB134_141.out
     have hms16_0 := NB141_133.out
     have hms16_1 := NB141_134.out
     have hs17 : w14.cell? ⟨gb141, 2, none⟩ = some (.int .i64 0) := (blk_cell BK141.out 2).trans rfl
     have hfs17 := blk_frozen BK141.out 2
     have hns17_0 := NB133_141.out
     have hns17_1 := NB134_141.out
     have hms17_0 := NB141_133.out
     have hms17_1 := NB141_134.out
     refine skip_ (w1 := ?_) (by rfl) rfl ?_ ?_
     rotate_left
     ·go_simp
      rfl
     refine hK.out _ _ ⟨((cell_far (p := ⟨gb141, _, none⟩) NB133_141.out _).trans (((cell_far (p := ⟨gb141, _, none⟩) NB133_141.out _).trans (((cell_far (p := ⟨gb141, _, none⟩) NB133_141.out _).trans (hHeld.1)))))), ((cell_far (p := ⟨gb141, _, none⟩) NB133_141.out _).trans (((cell_far (p := ⟨gb141, _, none⟩) NB133_141.out _).trans (((cell_far (p := ⟨gb141, _, none⟩) NB133_141.out _).trans (hHeld.2.1)))))), ((cell_far (p := ⟨gb141, _, none⟩) NB133_141.out _).trans (((cell_far (p := ⟨gb141, _, none⟩) NB133_141.out _).trans (((cell_far (p := ⟨gb141, _, none⟩) NB133_141.out _).trans (hHeld.2.2))))))⟩ (fun hHeld => ?_)
     clear hK K
     refine done_ (by kernel_rfl) ?_
     obtain ⟨Ao18, co18, eo18⟩ := Kd.R_slice HO137.out
     subst eo18
     try go_wp2
     have n0_ : Aside0 (Kd.R (Kd.int .i64) 3 (((w14.setCell ⟨gb141, 0, none⟩ (.int .i64 t138)).setCell ⟨gb141, 1, none⟩ (.int .i64 t139)).setCell ⟨gb141, 2, none⟩ (.int .i64 t140)) w.heap.size (fun _ => True) (.slice Ao18 t135.length co18) t135) := ⟨by (with_reducible repeat (first | apply Kd.R_alloc | apply Kd.R_drewN | apply Kd.R_drew)); exact Kd.R_mono (Kd.R_far (p := ⟨gb141, 2, none⟩) (Kd.R_far (p := ⟨gb141, 1, none⟩) (Kd.R_far (p := ⟨gb141, 0, none⟩) (Kd.R_types HO137.out BK141.out di_) (fun _ hk => hk.2) (.int .i64 t138)) (fun _ hk => hk.2) (.int .i64 t139)) (fun _ hk => hk.2) (.int .i64 t140)) (fun _ hk => trivial)⟩
     have n1_ : Aside0 ((((w14.setCell ⟨gb141, 0, none⟩ (.int .i64 t138)).setCell ⟨gb141, 1, none⟩ (.int .i64 t139)).setCell ⟨gb141, 2, none⟩ (.int .i64 t140)).heap[gb133]? = some (.cells #[.slice A0_0 l0_0.length c0_0, .slice A0_1 l0_1.length c0_1, .slice A0_2 l0_2.length c0_2] 24 (0, 0))) := ⟨by (with_reducible repeat (first | refine blk_drewN ?_ _ | refine blk_drew ?_ | refine blk_alloc ?_ _)); refine blk_far ?_ NB133_141.out _; (with_reducible repeat (first | refine blk_drewN ?_ _ | refine blk_drew ?_ | refine blk_alloc ?_ _)); refine blk_far ?_ NB133_141.out _; (with_reducible repeat (first | refine blk_drewN ?_ _ | refine blk_drew ?_ | refine blk_alloc ?_ _)); refine blk_far ?_ NB133_141.out _; (with_reducible repeat (first | refine blk_drewN ?_ _ | refine blk_drew ?_ | refine blk_alloc ?_ _)); exact BK133.out⟩
     have n2_ : Aside0 ((((w14.setCell ⟨gb141, 0, none⟩ (.int .i64 t138)).setCell ⟨gb141, 1, none⟩ (.int .i64 t139)).setCell ⟨gb141, 2, none⟩ (.int .i64 t140)).heap[gb134]? = some (.cells #[.int .i64 0, .int .i64 0, .int .i64 0, .int .i64 0, .int .i64 0, .int .i64 0] 50 (0, 0))) := ⟨by (with_reducible repeat (first | refine blk_drewN ?_ _ | refine blk_drew ?_ | refine blk_alloc ?_ _)); refine blk_far ?_ NB134_141.out _; (with_reducible repeat (first | refine blk_drewN ?_ _ | refine blk_drew ?_ | refine blk_alloc ?_ _)); refine blk_far ?_ NB134_141.out _; (with_reducible repeat (first | refine blk_drewN ?_ _ | refine blk_drew ?_ | refine blk_alloc ?_ _)); refine blk_far ?_ NB134_141.out _; (with_reducible repeat (first | refine blk_drewN ?_ _ | refine blk_drew ?_ | refine blk_alloc ?_ _)); exact BK134.out⟩
     have n3_ : Aside0 ((((w14.setCell ⟨gb141, 0, none⟩ (.int .i64 t138)).setCell ⟨gb141, 1, none⟩ (.int .i64 t139)).setCell ⟨gb141, 2, none⟩ (.int .i64 t140)).heap[gb141]? = some (.cells #[.int .i64 t138, .int .i64 t139, .int .i64 t140] 105 (0, 0))) := ⟨by (with_reducible repeat (first | refine blk_drewN ?_ _ | refine blk_drew ?_ | refine blk_alloc ?_ _)); refine blk_put (cs := #[.int .i64 t138, .int .i64 t139, .int .i64 0]) ?_ 2 _ rfl; (with_reducible repeat (first | refine blk_drewN ?_ _ | refine blk_drew ?_ | refine blk_alloc ?_ _)); refine blk_put (cs := #[.int .i64 t138, .int .i64 0, .int .i64 0]) ?_ 1 _ rfl; (with_reducible repeat (first | refine blk_drewN ?_ _ | refine blk_drew ?_ | refine blk_alloc ?_ _)); refine blk_put (cs := #[.int .i64 0, .int .i64 0, .int .i64 0]) ?_ 0 _ rfl; (with_reducible repeat (first | refine blk_drewN ?_ _ | refine blk_drew ?_ | refine blk_alloc ?_ _)); exact BK141.out⟩
     have n4_ : Aside0 (Below w.heap.size w (((w14.setCell ⟨gb141, 0, none⟩ (.int .i64 t138)).setCell ⟨gb141, 1, none⟩ (.int .i64 t139)).setCell ⟨gb141, 2, none⟩ (.int .i64 t140))) := ⟨hb_ HB⟩
     (try clear HO137)
     (try clear BK133)
     (try clear BK134)
     (try clear BK141)
     (try clear HB)
     generalize (((w14.setCell ⟨gb141, 0, none⟩ (.int .i64 t138)).setCell ⟨gb141, 1, none⟩ (.int .i64 t139)).setCell ⟨gb141, 2, none⟩ (.int .i64 t140)) = w19 at n0_ n1_ n2_ n3_ n4_ ⊢
     have HO137 := n0_
     have BK133 := n1_
     have BK134 := n2_
     have BK141 := n3_
     have HB := n4_
     clear n0_ n1_ n2_ n3_ n4_
     have n0_ := Aside0.mk (Kd.R_drew HO137.out)
     have n1_ := Aside0.mk (blk_drew BK133.out)
     have n2_ := Aside0.mk (blk_drew BK134.out)
     have n3_ := Aside0.mk (blk_drew BK141.out)
     have n4_ := Aside0.mk (below_drew1 HB.out)
     clear HO137
     clear BK133
     clear BK134
     clear BK141
     clear HB
     have HO137 := n0_
     have BK133 := n1_
     have BK134 := n2_
     have BK141 := n3_
     have HB := n4_
     clear n0_ n1_ n2_ n3_ n4_
     have p142 : 0 ≤ (0 : Int) := (by omega)
     have q142 : 0 < (t135.length : Int) := of_decide_eq_true as_
     obtain ⟨ad142, e142, hx142_0⟩ := Kd.at_int (Kd.R_reads' HO137.out).2.2 0 p142 q142
     cases e142
     have qi142 : (0 < t135.length) = True := eq_true (by omega)
     (try rw [show ((0 : Int)).toNat = 0 from rfl] at hx142_0)
     (try rw [Addr.add_zero'] at hx142_0)
     replace p142 := eq_true p142
     replace q142 := eq_true q142
     have p143 : 0 ≤ ((rd t135 0) : Int) := of_decide_eq_true as_
     have q143 : (rd t135 0) < (l0_0.length : Int) := of_decide_eq_true as_
     obtain ⟨ad143, e143, hx143_0⟩ := Kd.at_int HR0_0.out (rd t135 0) p143 q143
     have hw143_0 := hx143_0
     cases e143
     replace hx143_0 := (HB.out.cell (World.block_lt_of_cell? w _ hx143_0)).trans hx143_0
     replace p143 := eq_true p143
     replace q143 := eq_true q143
     have p144 : 0 ≤ (0 : Int) := (by omega)
     have q144 : 0 < (t135.length : Int) := of_decide_eq_true as_
     obtain ⟨ad144, e144, hx144_0⟩ := Kd.at_int (Kd.R_reads' HO137.out).2.2 0 p144 q144
     obtain rfl : ad142 = ad144 := (by injection e144)
     have qi144 : (0 < t135.length) = True := eq_true (by omega)
     (try rw [show ((0 : Int)).toNat = 0 from rfl] at hx144_0)
     (try rw [Addr.add_zero'] at hx144_0)
     replace p144 := eq_true p144
     replace q144 := eq_true q144
     have p145 : 0 ≤ (0 : Int) := (by omega)
     have q145 : 0 < (t135.length : Int) := of_decide_eq_true as_
     obtain ⟨ad145, e145, hx145_0⟩ := Kd.at_int (Kd.R_reads' HO137.out).2.2 0 p145 q145
     obtain rfl : ad142 = ad145 := (by injection e145)
     have qi145 : (0 < t135.length) = True := eq_true (by omega)
     (try rw [show ((0 : Int)).toNat = 0 from rfl] at hx145_0)
     (try rw [Addr.add_zero'] at hx145_0)
     replace p145 := eq_true p145
     replace q145 := eq_true q145
     refine start_ (n := 18) (S := fun w' => w'.cell? ⟨gb133, 0, none⟩ = some (.slice (some ad143) l0_0.length c0_0) ∧ w'.cell? ⟨gb133, 1, none⟩ = some (.slice A0_1 l0_1.length c0_1) ∧ w'.cell? ⟨gb133, 2, none⟩ = some (.slice A0_2 l0_2.length c0_2) ∧ w'.cell? ad142 = some (.int .i64 (rd t135 0)) ∧ w'.cell? (ad143.add ((rd t135 0)).toNat) = some (.int .i64 (rd l0_0 (rd t135 0))) ∧ w'.cell? ad142 = some (.int .i64 (rd t135 0)) ∧ w'.cell? ad142 = some (.int .i64 (rd t135 0))) (ds := []) #[false, false, false, false, false, false, false, false, false, false, false, false, false, false, false, false, false, false] (by kernel_rfl) rfl rfl ⟨(blk_cell BK133.out 0).trans rfl, (blk_cell BK133.out 1).trans rfl, (blk_cell BK133.out 2).trans rfl, hx142_0, ((HB.out.cell (World.block_lt_of_cell? w _ hw143_0)).trans hw143_0), hx144_0, hx145_0⟩ (fun hHeld => ?_); refine with_tabW figure_reference.tab3 figure_reference.bits3 (fun HT_ HW_ => ?_)
     generalize w19.drew = w20 at HO137 BK133 BK134 BK141 HB hx142_0 hx143_0 hx144_0 hx145_0 hHeld ⊢
     refine pure_ (i := 0) (N := some 15) (v := ?_) (a' := ?_) #[true, false, false, false, false, false, false, false, false, false, false, false, false, false, false, false, false, false] rfl rfl (any_of HT_.out (by kernel_rfl)) (fun _ _ _ h => h) (Or.inl ⟨by rfl, ?_⟩) ?_ ?_
     rotate_left
     ·exact gs_
     rotate_left
     ·exact pt_
     refine pure_ (i := 2) (N := some 17) (v := ?_) (a' := ?_) #[true, false, true, false, false, false, false, false, false, false, false, false, false, false, false, false, false, false] rfl rfl (any_of HT_.out (by kernel_rfl)) (fun _ _ _ h => h) (Or.inl ⟨by rfl, ?_⟩) ?_ ?_
     rotate_left
     ·exact gs_
     rotate_left
     ·exact pt_
     refine pure_ (i := 3) (N := some 18) (v := ?_) (a' := ?_) #[true, false, true, true, false, false, false, false, false, false, false, false, false, false, false, false, false, false] rfl rfl (any_of HT_.out (by kernel_rfl)) (fun _ _ _ h => h) (Or.inl ⟨by rfl, ?_⟩) ?_ ?_
     rotate_left
     ·exact gs_
     rotate_left
     ·exact pt_
     refine pure_ (i := 8) (N := some 23) (v := ?_) (a' := ?_) #[true, false, true, true, false, false, false, false, true, false, false, false, false, false, false, false, false, false] rfl rfl (any_of HT_.out (by kernel_rfl)) (fun _ _ _ h => h) (Or.inl ⟨by rfl, ?_⟩) ?_ ?_
     rotate_left
     ·exact gs_
     rotate_left
     ·exact pt_
     refine pure_ (i := 9) (N := some 24) (v := ?_) (a' := ?_) #[true, false, true, true, false, false, false, false, true, true, false, false, false, false, false, false, false, false] rfl rfl (any_of HT_.out (by kernel_rfl)) (fun _ _ _ h => h) (Or.inl ⟨by rfl, ?_⟩) ?_ ?_
     rotate_left
     ·exact gs_
     rotate_left
     ·exact pt_
     refine pure_ (i := 10) (N := some 25) (v := ?_) (a' := ?_) #[true, false, true, true, false, false, false, false, true, true, true, false, false, false, false, false, false, false] rfl rfl (any_of HT_.out (by kernel_rfl)) (fun _ _ _ h => h) (Or.inl ⟨by rfl, ?_⟩) ?_ ?_
     rotate_left
     ·exact gs_
     rotate_left
     ·exact pt_
     refine pure_ (i := 12) (N := some 27) (v := ?_) (a' := ?_) #[true, false, true, true, false, false, false, false, true, true, true, false, true, false, false, false, false, false] rfl rfl (any_of HT_.out (by kernel_rfl)) (fun _ _ _ h => h) (Or.inl ⟨by rfl, ?_⟩) ?_ ?_
     rotate_left
     ·exact gs_
     rotate_left
     ·exact pt_
     refine pure_ (i := 13) (N := some 28) (v := ?_) (a' := ?_) #[true, false, true, true, false, false, false, false, true, true, true, false, true, true, false, false, false, false] rfl rfl (any_of HT_.out (by kernel_rfl)) (fun _ _ _ h => h) (Or.inl ⟨by rfl, ?_⟩) ?_ ?_
     rotate_left
     ·exact gs_
     rotate_left
     ·exact pt_
     refine take_ (i := 1) (N := some 16) (v := ?_) (a' := ?_) #[true, true, true, true, false, false, false, false, true, true, true, false, true, true, false, false, false, false] rfl rfl (take_ofW HT_.out HW_.out (by kernel_rfl)) (fun _ _ _ h => h) (Or.inl ⟨by rfl, ?_⟩) hHeld ?_ ?_
     rotate_left
     ·rintro w' ⟨s0, s1, s2, s3, s4, s5, s6⟩; go_simp; with_reducible rfl
     rotate_left
     ·exact pt_
     refine take_ (i := 4) (N := some 19) (v := ?_) (a' := ?_) #[true, true, true, true, true, false, false, false, true, true, true, false, true, true, false, false, false, false] rfl rfl (take_ofW HT_.out HW_.out (by kernel_rfl)) (fun _ _ _ h => h) (Or.inl ⟨by rfl, ?_⟩) hHeld ?_ ?_
     rotate_left
     ·rintro w' ⟨s0, s1, s2, s3, s4, s5, s6⟩; go_simp; with_reducible rfl
     rotate_left
     ·exact pt_
     refine pure_ (i := 5) (N := some 20) (v := ?_) (a' := ?_) #[true, true, true, true, true, true, false, false, true, true, true, false, true, true, false, false, false, false] rfl rfl (any_of HT_.out (by kernel_rfl)) (fun _ _ _ h => h) (Or.inl ⟨by rfl, ?_⟩) ?_ ?_
     rotate_left
     ·exact gs_
     rotate_left
     ·exact pt_
     refine take_ (i := 6) (N := some 21) (v := ?_) (a' := ?_) #[true, true, true, true, true, true, true, false, true, true, true, false, true, true, false, false, false, false] rfl rfl (take_ofW HT_.out HW_.out (by kernel_rfl)) (fun _ _ _ h => h) (Or.inl ⟨by rfl, ?_⟩) hHeld ?_ ?_
     rotate_left
     ·rintro w' ⟨s0, s1, s2, s3, s4, s5, s6⟩; go_simp; with_reducible rfl
     rotate_left
     ·exact pt_
     refine pure_ (i := 7) (N := some 22) (v := ?_) (a' := ?_) #[true, true, true, true, true, true, true, true, true, true, true, false, true, true, false, false, false, false] rfl rfl (any_of HT_.out (by kernel_rfl)) (fun _ _ _ h => h) (Or.inl ⟨by rfl, ?_⟩) ?_ ?_
     rotate_left
     ·exact gs_
     rotate_left
     ·exact pt_
     refine take_ (i := 11) (N := some 26) (v := ?_) (a' := ?_) #[true, true, true, true, true, true, true, true, true, true, true, true, true, true, false, false, false, false] rfl rfl (take_ofW HT_.out HW_.out (by kernel_rfl)) (fun _ _ _ h => h) (Or.inl ⟨by rfl, ?_⟩) hHeld ?_ ?_
     rotate_left
     ·rintro w' ⟨s0, s1, s2, s3, s4, s5, s6⟩; go_simp; with_reducible rfl
     rotate_left
     ·exact pt_
     refine take_ (i := 14) (N := some 29) (v := ?_) (a' := ?_) #[true, true, true, true, true, true, true, true, true, true, true, true, true, true, true, false, false, false] rfl rfl (take_ofW HT_.out HW_.out (by kernel_rfl)) (fun _ _ _ h => h) (Or.inl ⟨by rfl, ?_⟩) hHeld ?_ ?_
     rotate_left
     ·rintro w' ⟨s0, s1, s2, s3, s4, s5, s6⟩; go_simp; with_reducible rfl
     rotate_left
     ·exact pt_
     refine pure_ (i := 15) (N := some 30) (v := ?_) (a' := ?_) #[true, true, true, true, true, true, true, true, true, true, true, true, true, true, true, true, false, false] rfl rfl (any_of HT_.out (by kernel_rfl)) (fun _ _ _ h => h) (Or.inl ⟨by rfl, ?_⟩) ?_ ?_
     rotate_left
     ·exact gs_
     rotate_left
     ·exact pt_
     refine pure_ (i := 16) (N := some 31) (v := ?_) (a' := ?_) #[true, true, true, true, true, true, true, true, true, true, true, true, true, true, true, true, true, false] rfl rfl (any_of HT_.out (by kernel_rfl)) (fun _ _ _ h => h) (Or.inl ⟨by rfl, ?_⟩) ?_ ?_
     rotate_left
     ·exact gs_
     rotate_left
     ·exact pt_
     refine one_ (i := 17) (N := none) #[true, true, true, true, true, true, true, true, true, true, true, true, true, true, true, true, true, true] rfl rfl (one_of HT_.out (by kernel_rfl)) di_ (fun K hK => ?_)
     have hs21 : w20.cell? ⟨gb134, 0, none⟩ = some (.int .i64 0) := (blk_cell BK134.out 0).trans rfl
     have hfs21 := blk_frozen BK134.out 0
     have hns21_0 := NB133_134.out
     have hns21_2 := NB141_134.out
     have hms21_0 := NB134_133.out
     have hms21_2 := NB134_141.out
     have hs22 : w20.cell? ⟨gb134, 1, none⟩ = some (.int .i64 0) := (blk_cell BK134.out 1).trans rfl
     have hfs22 := blk_frozen BK134.out 1
     have hns22_0 := NB133_134.out
     have hns22_2 := NB141_134.out
     have hms22_0 := NB134_133.out
     have hms22_2 := NB134_141.out
     have hs23 : w20.cell? ⟨gb134, 2, none⟩ = some (.int .i64 0) := (blk_cell BK134.out 2).trans rfl
     have hfs23 := blk_frozen BK134.out 2
     have hns23_0 := NB133_134.out
     have hns23_2 := NB141_134.out
     have hms23_0 := NB134_133.out
     have hms23_2 := NB134_141.out
     have hs24 : w20.cell? ⟨gb134, 3, none⟩ = some (.int .i64 0) := (blk_cell BK134.out 3).trans rfl
     have hfs24 := blk_frozen BK134.out 3
     have hns24_0 := NB133_134.out
     have hns24_2 := NB141_134.out
     have hms24_0 := NB134_133.out
     have hms24_2 := NB134_141.out
     have hs25 : w20.cell? ⟨gb134, 4, none⟩ = some (.int .i64 0) := (blk_cell BK134.out 4).trans rfl
     have hfs25 := blk_frozen BK134.out 4
     have hns25_0 := NB133_134.out
     have hns25_2 := NB141_134.out
     have hms25_0 := NB134_133.out
     have hms25_2 := NB134_141.out
     have hs26 : w20.cell? ⟨gb134, 5, none⟩ = some (.int .i64 0) := (blk_cell BK134.out 5).trans rfl
     have hfs26 := blk_frozen BK134.out 5
     have hns26_0 := NB133_134.out
     have hns26_2 := NB141_134.out
     have hms26_0 := NB134_133.out
     have hms26_2 := NB134_141.out
     refine skip_ (w1 := ?_) (by rfl) rfl ?_ ?_
     rotate_left
     ·go_simp
      rfl
     refine hK.out _ _ ⟨((cell_far (p := ⟨gb134, _, none⟩) NB133_134.out _).trans (((cell_far (p := ⟨gb134, _, none⟩) NB133_134.out _).trans (((cell_far (p := ⟨gb134, _, none⟩) NB133_134.out _).trans (((cell_far (p := ⟨gb134, _, none⟩) NB133_134.out _).trans (((cell_far (p := ⟨gb134, _, none⟩) NB133_134.out _).trans (((cell_far (p := ⟨gb134, _, none⟩) NB133_134.out _).trans (hHeld.1)))))))))))), ((cell_far (p := ⟨gb134, _, none⟩) NB133_134.out _).trans (((cell_far (p := ⟨gb134, _, none⟩) NB133_134.out _).trans (((cell_far (p := ⟨gb134, _, none⟩) NB133_134.out _).trans (((cell_far (p := ⟨gb134, _, none⟩) NB133_134.out _).trans (((cell_far (p := ⟨gb134, _, none⟩) NB133_134.out _).trans (((cell_far (p := ⟨gb134, _, none⟩) NB133_134.out _).trans (hHeld.2.1)))))))))))), ((cell_far (p := ⟨gb134, _, none⟩) NB133_134.out _).trans (((cell_far (p := ⟨gb134, _, none⟩) NB133_134.out _).trans (((cell_far (p := ⟨gb134, _, none⟩) NB133_134.out _).trans (((cell_far (p := ⟨gb134, _, none⟩) NB133_134.out _).trans (((cell_far (p := ⟨gb134, _, none⟩) NB133_134.out _).trans (((cell_far (p := ⟨gb134, _, none⟩) NB133_134.out _).trans (hHeld.2.2.1)))))))))))), ((cell_far (p := ⟨gb134, _, none⟩) (ob_ (Kd.R_ne HO137.out BK134.out di_)) _).trans (((cell_far (p := ⟨gb134, _, none⟩) (ob_ (Kd.R_ne HO137.out BK134.out di_)) _).trans (((cell_far (p := ⟨gb134, _, none⟩) (ob_ (Kd.R_ne HO137.out BK134.out di_)) _).trans (((cell_far (p := ⟨gb134, _, none⟩) (ob_ (Kd.R_ne HO137.out BK134.out di_)) _).trans (((cell_far (p := ⟨gb134, _, none⟩) (ob_ (Kd.R_ne HO137.out BK134.out di_)) _).trans (((cell_far (p := ⟨gb134, _, none⟩) (ob_ (Kd.R_ne HO137.out BK134.out di_)) _).trans (hHeld.2.2.2.1)))))))))))), ((cell_far (p := ⟨gb134, _, none⟩) (ab_ hw143_0 GW134) _).trans (((cell_far (p := ⟨gb134, _, none⟩) (ab_ hw143_0 GW134) _).trans (((cell_far (p := ⟨gb134, _, none⟩) (ab_ hw143_0 GW134) _).trans (((cell_far (p := ⟨gb134, _, none⟩) (ab_ hw143_0 GW134) _).trans (((cell_far (p := ⟨gb134, _, none⟩) (ab_ hw143_0 GW134) _).trans (((cell_far (p := ⟨gb134, _, none⟩) (ab_ hw143_0 GW134) _).trans (hHeld.2.2.2.2.1)))))))))))), ((cell_far (p := ⟨gb134, _, none⟩) (ob_ (Kd.R_ne HO137.out BK134.out di_)) _).trans (((cell_far (p := ⟨gb134, _, none⟩) (ob_ (Kd.R_ne HO137.out BK134.out di_)) _).trans (((cell_far (p := ⟨gb134, _, none⟩) (ob_ (Kd.R_ne HO137.out BK134.out di_)) _).trans (((cell_far (p := ⟨gb134, _, none⟩) (ob_ (Kd.R_ne HO137.out BK134.out di_)) _).trans (((cell_far (p := ⟨gb134, _, none⟩) (ob_ (Kd.R_ne HO137.out BK134.out di_)) _).trans (((cell_far (p := ⟨gb134, _, none⟩) (ob_ (Kd.R_ne HO137.out BK134.out di_)) _).trans (hHeld.2.2.2.2.2.1)))))))))))), ((cell_far (p := ⟨gb134, _, none⟩) (ob_ (Kd.R_ne HO137.out BK134.out di_)) _).trans (((cell_far (p := ⟨gb134, _, none⟩) (ob_ (Kd.R_ne HO137.out BK134.out di_)) _).trans (((cell_far (p := ⟨gb134, _, none⟩) (ob_ (Kd.R_ne HO137.out BK134.out di_)) _).trans (((cell_far (p := ⟨gb134, _, none⟩) (ob_ (Kd.R_ne HO137.out BK134.out di_)) _).trans (((cell_far (p := ⟨gb134, _, none⟩) (ob_ (Kd.R_ne HO137.out BK134.out di_)) _).trans (((cell_far (p := ⟨gb134, _, none⟩) (ob_ (Kd.R_ne HO137.out BK134.out di_)) _).trans (hHeld.2.2.2.2.2.2))))))))))))⟩ (fun hHeld => ?_)
     clear hK K
     refine done_ (done_of HT_.out (by kernel_rfl)) ?_
     try go_wp2
     refine bodyPost_ret (results_cell_row rfl _ _ gb134 50 #[.int .i64 (rd l0_0 (rd t135 0)), .int .i64 1, .int .i64 0, .int .i64 1, .int .i64 (rd t135 0), .int .i64 (rd t135 0)] (0, 0) _ rfl (by (with_reducible repeat (first | refine blk_drewN ?_ _ | refine blk_drew ?_ | refine blk_alloc ?_ _)); refine blk_put (cs := #[.int .i64 (rd l0_0 (rd t135 0)), .int .i64 1, .int .i64 0, .int .i64 1, .int .i64 (rd t135 0), .int .i64 0]) ?_ 5 _ rfl; (with_reducible repeat (first | refine blk_drewN ?_ _ | refine blk_drew ?_ | refine blk_alloc ?_ _)); refine blk_put (cs := #[.int .i64 (rd l0_0 (rd t135 0)), .int .i64 1, .int .i64 0, .int .i64 1, .int .i64 0, .int .i64 0]) ?_ 4 _ rfl; (with_reducible repeat (first | refine blk_drewN ?_ _ | refine blk_drew ?_ | refine blk_alloc ?_ _)); refine blk_put (cs := #[.int .i64 (rd l0_0 (rd t135 0)), .int .i64 1, .int .i64 0, .int .i64 0, .int .i64 0, .int .i64 0]) ?_ 3 _ rfl; (with_reducible repeat (first | refine blk_drewN ?_ _ | refine blk_drew ?_ | refine blk_alloc ?_ _)); refine blk_put (cs := #[.int .i64 (rd l0_0 (rd t135 0)), .int .i64 1, .int .i64 0, .int .i64 0, .int .i64 0, .int .i64 0]) ?_ 2 _ rfl; (with_reducible repeat (first | refine blk_drewN ?_ _ | refine blk_drew ?_ | refine blk_alloc ?_ _)); refine blk_put (cs := #[.int .i64 (rd l0_0 (rd t135 0)), .int .i64 0, .int .i64 0, .int .i64 0, .int .i64 0, .int .i64 0]) ?_ 1 _ rfl; (with_reducible repeat (first | refine blk_drewN ?_ _ | refine blk_drew ?_ | refine blk_alloc ?_ _)); refine blk_put (cs := #[.int .i64 0, .int .i64 0, .int .i64 0, .int .i64 0, .int .i64 0, .int .i64 0]) ?_ 0 _ rfl; (with_reducible repeat (first | refine blk_drewN ?_ _ | refine blk_drew ?_ | refine blk_alloc ?_ _)); exact BK134.out) Try.underlying50 rfl (by kernel_rfl)) rfl ?_
     exact ⟨ew_, hb_ HB⟩
    ·rw [if_neg c7] at H
     exact absurd H (by simp)
   ·rw [if_neg c6] at H
    exact absurd H (by simp)
  ·rw [if_neg c5] at H
   exact absurd H (by simp)
 ·rw [if_neg c4] at H
  have c4b0 : ((t135.length : Int) == 1) = false := beq_eq_false_iff_ne.mpr c4
  have c4b1 : ((t135.length : Int) != 1) = true := bne_iff_ne.mpr c4
  replace H := Option.bind_eq_some_iff.mp H
  obtain ⟨t146, A270, H⟩ := H
  replace H : (if 0 ≤ (wrap64 ((mx 1 t146) - 1)) then (if (wrap64 ((mx 1 t146) - 1)) < (t135.length : Int) then (if 0 ≤ (mx 1 t146) then (if (mx 1 t146) < (t135.length : Int) then ((figure_through.f k l0_0 l0_1 l0_2 (rd t135 (wrap64 ((mx 1 t146) - 1))) (rd t135 (mx 1 t146))).bind fun bt149 => (some (bt149.1, bt149.2.1, bt149.2.2.1, bt149.2.2.2, rd t135 (wrap64 ((mx 1 t146) - 1)), rd t135 (mx 1 t146)))) else (none)) else (none)) else (none)) else (none)) = some (r1, r2, r3, r4, r5, r6) := H
  have A27 := Aside0.mk A270
  clear A270
  obtain ⟨ji28, hji28⟩ : ∃ j_ : Int, (mx 1 t146) = j_ := ⟨_, rfl⟩
  replace H : (if 0 ≤ (wrap64 ((ji28) - 1)) then (if (wrap64 ((ji28) - 1)) < (t135.length : Int) then (if 0 ≤ (ji28) then (if (ji28) < (t135.length : Int) then ((figure_through.f k l0_0 l0_1 l0_2 (rd t135 (wrap64 ((ji28) - 1))) (rd t135 (ji28))).bind fun bt149 => (some (bt149.1, bt149.2.1, bt149.2.2.1, bt149.2.2.2, rd t135 (wrap64 ((ji28) - 1)), rd t135 (ji28)))) else (none)) else (none)) else (none)) else (none)) = some (r1, r2, r3, r4, r5, r6) := by first | (rw [hji28] at H; exact H) | (simp only [hji28] at H ⊢; exact H)
  (try rw [hji28] at A2)
  (try rw [hji28] at A3)
  (try rw [hji28] at A27)
  (try (have hji28l : 1 ≤ ji28 := by (rw [← hji28]; unfold mx; (repeat' split) <;> omega)))
  (try (have hji28m : 0 ≤ ji28 := by omega))
  have hji28_ : (if 1 < t146 then t146 else 1) = ji28 := hji28
  obtain ⟨ji29, hji29⟩ : ∃ j_ : Int, (wrap64 ((ji28) - 1)) = j_ := ⟨_, rfl⟩
  replace H : (if 0 ≤ (ji29) then (if (ji29) < (t135.length : Int) then (if 0 ≤ (ji28) then (if (ji28) < (t135.length : Int) then ((figure_through.f k l0_0 l0_1 l0_2 (rd t135 (ji29)) (rd t135 (ji28))).bind fun bt149 => (some (bt149.1, bt149.2.1, bt149.2.2.1, bt149.2.2.2, rd t135 (ji29), rd t135 (ji28)))) else (none)) else (none)) else (none)) else (none)) = some (r1, r2, r3, r4, r5, r6) := by first | (rw [hji29] at H; exact H) | (simp only [hji29] at H ⊢; exact H)
  (try rw [hji29] at A2)
  (try rw [hji29] at A3)
  (try rw [hji29] at A27)
  have hji29w : (IntKind.i64.wrap ((ji28) - 1)) = ji29 := (i64_w _).trans hji29
  by_cases c30 : 0 ≤ (ji29)
  ·rw [if_pos c30] at H
   have c30b0 : decide (0 ≤ (ji29)) = true := decide_eq_true c30
   clear c30
   by_cases c31 : (ji29) < (t135.length : Int)
   ·rw [if_pos c31] at H
    have c31b0 : decide ((ji29) < (t135.length : Int)) = true := decide_eq_true c31
    clear c31
    by_cases c32 : 0 ≤ (ji28)
    ·rw [if_pos c32] at H
     have c32b0 : decide (0 ≤ (ji28)) = true := decide_eq_true c32
     clear c32
     by_cases c33 : (ji28) < (t135.length : Int)
     ·rw [if_pos c33] at H
      have c33b0 : decide ((ji28) < (t135.length : Int)) = true := decide_eq_true c33
      clear c33
      replace H := Option.bind_eq_some_iff.mp H
      obtain ⟨⟨t149, t150, t151, t152⟩, A340, H⟩ := H
      replace H : (some (t149, t150, t151, t152, rd t135 (ji29), rd t135 (ji28))) = some (r1, r2, r3, r4, r5, r6) := H
      have A34 := Aside0.mk A340
      clear A340
      simp only [Option.some.injEq, Prod.mk.injEq] at H
      obtain ⟨rfl, rfl, rfl, rfl, rfl, rfl⟩ := H
      go_enter Try.func74, Try.ntmps74
      try go_wp2_with (first | ((with_reducible refine gate_dst (N := 1) rfl ?_); refine box_event ?hg (N := 1) ?hd (cs := #[.slice A0_0 l0_0.length c0_0, .slice A0_1 l0_1.length c0_1, .slice A0_2 l0_2.length c0_2]) (t := 24) ?hr ?_; (case hd => rfl); (case hg => rfl); (case hr => exact gr_); intro gb133 hg w35 hbox hb; have n0_ := Aside0.mk (below_step (hb_ HB) hb); have n1_ := Aside0.mk (hbox); have n2_ := Aside0.mk ((hz_ HB hg)); have n3_ := Aside0.mk ((hz_ HB hg)); clear HB; have HB := n0_; have BK133 := n1_; have GW133 := n2_; have GE133 := n3_; clear n0_ n1_ n2_ n3_; clear hb hbox hg) | ((with_reducible refine gate_dst (N := 2) rfl ?_); refine box_event ?hg (N := 2) ?hd (cs := #[.int .i64 0, .int .i64 0, .int .i64 0, .int .i64 0, .int .i64 0, .int .i64 0]) (t := 50) ?hr ?_; (case hd => rfl); (case hg => rfl); (case hr => exact gr_); intro gb134 hg w36 hbox hb; have n0_ := Aside0.mk (bb_ BK133 hb); have n1_ := Aside0.mk (below_step (hb_ HB) hb); have n2_ := Aside0.mk (hbox); have n3_ := Aside0.mk ((hz_ HB hg)); have n4_ := Aside0.mk ((hz_ HB hg)); have n5_ := Aside0.mk ((nl_ BK133 hg)); have n6_ := Aside0.mk ((ng_ BK133 hg)); clear BK133; clear HB; have BK133 := n0_; have HB := n1_; have BK134 := n2_; have GW134 := n3_; have GE134 := n4_; have NB133_134 := n5_; have NB134_133 := n6_; clear n0_ n1_ n2_ n3_ n4_ n5_ n6_; clear hb hbox hg))
      have n0_ := Aside0.mk (blk_drew BK133.out)
      have n1_ := Aside0.mk (blk_drew BK134.out)
      have n2_ := Aside0.mk (below_drew1 HB.out)
      clear BK133
      clear BK134
      clear HB
      have BK133 := n0_
      have BK134 := n1_
      have HB := n2_
      clear n0_ n1_ n2_
      refine start_ (n := 7) (S := fun w' => w'.cell? ⟨gb133, 0, none⟩ = some (.slice A0_0 l0_0.length c0_0) ∧ w'.cell? ⟨gb133, 1, none⟩ = some (.slice A0_1 l0_1.length c0_1) ∧ w'.cell? ⟨gb133, 2, none⟩ = some (.slice A0_2 l0_2.length c0_2)) (ds := []) #[false, false, false, false, false, false, false] (by kernel_rfl) rfl rfl ⟨(blk_cell BK133.out 0).trans rfl, (blk_cell BK133.out 1).trans rfl, (blk_cell BK133.out 2).trans rfl⟩ (fun hHeld => ?_)
      generalize w36.drew = w37 at BK133 BK134 HB hHeld ⊢
      refine take_ (i := 0) (N := some 8) (v := ?_) (a' := ?_) #[true, false, false, false, false, false, false] rfl rfl (by kernel_rfl) (fun _ _ _ h => h) (Or.inl ⟨by rfl, ?_⟩) hHeld ?_ ?_
      rotate_left
      ·rintro w' ⟨s0, s1, s2⟩; go_simp; with_reducible rfl
      rotate_left
      ·exact pt_
      refine take_ (i := 2) (N := some 10) (v := ?_) (a' := ?_) #[true, false, true, false, false, false, false] rfl rfl (by kernel_rfl) (fun _ _ _ h => h) (Or.inl ⟨by rfl, ?_⟩) hHeld ?_ ?_
      rotate_left
      ·rintro w' ⟨s0, s1, s2⟩; go_simp; with_reducible rfl
      rotate_left
      ·exact pt_
      refine join_ (σ := Value × Nat) 2 #[true, true, true, true, true, false, false] (fun s_ => [(9, s_.1), (11, .agg #[.int .i64 t138, .int .i64 t139, .int .i64 t140]), (4, .pointer (some ⟨s_.2, 0, none⟩))]) (fun s_ w' => (w'.cell? ⟨gb133, 0, none⟩ = some (.slice A0_0 l0_0.length c0_0) ∧ w'.cell? ⟨gb133, 1, none⟩ = some (.slice A0_1 l0_1.length c0_1) ∧ w'.cell? ⟨gb133, 2, none⟩ = some (.slice A0_2 l0_2.length c0_2)) ∧ (Kd.R (Kd.int .i64) 3 w' w.heap.size (fun _ => True) s_.1 t135) ∧ (w'.heap[gb133]? = some (.cells #[.slice A0_0 l0_0.length c0_0, .slice A0_1 l0_1.length c0_1, .slice A0_2 l0_2.length c0_2] 24 (0, 0))) ∧ (w'.heap[gb134]? = some (.cells #[.int .i64 0, .int .i64 0, .int .i64 0, .int .i64 0, .int .i64 0, .int .i64 0] 50 (0, 0))) ∧ (w'.heap[s_.2]? = some (.cells #[.int .i64 0, .int .i64 0, .int .i64 0] 105 (0, 0))) ∧ (w.heap.size ≤ s_.2) ∧ (w.heap.size ≤ s_.2) ∧ (gb133 ≠ s_.2) ∧ (s_.2 ≠ gb133) ∧ (gb134 ≠ s_.2) ∧ (s_.2 ≠ gb134) ∧ (Below w.heap.size w w')) ?_ ?_
      rotate_left
      ·intro hCont
       refine two_ (i := 1) (j := 4) (Ni := some 9) (Nj := some 4) #[true, true, true, false, false, false, false] #[true, false, true, false, true, false, false] rfl rfl rfl rfl (by kernel_rfl) di_ di_ (fun K hK => ?_) (fun K hK => ?_)
       ·skip
        refine goes_ Try.func107 (by kernel_rfl) rfl #[.agg #[.slice A0_0 l0_0.length c0_0, .slice A0_1 l0_1.length c0_1, .slice A0_2 l0_2.length c0_2]] (by rfl) rfl rfl ma_ ?_
        with_reducible refine (figure_hull.calls k _ _ l0_0 _ _ l0_1 _ _ l0_2 t135 _ ?side1 ?side2 ?side3 ?side4 ?side5 ?side6 A2.out).mono ?_
        (case side1 => exact cb_ (Kd.C_below HR0_0.out HB.out))
        (case side2 => exact HC0_0.out)
        (case side3 => exact cb_ (Kd.C_below HR0_1.out HB.out))
        (case side4 => exact HC0_1.out)
        (case side5 => exact cb_ (Kd.C_below HR0_2.out HB.out))
        (case side6 => exact HC0_2.out)
        rintro e w38 ⟨v136, rfl, ho0, hb⟩
        refine ⟨_, rfl, ?_⟩
        have n0_ := Aside0.mk (Kd.R_lower ho0 (below_size (hb_ HB)))
        have n1_ := Aside0.mk (bb_ BK133 hb)
        have n2_ := Aside0.mk (bb_ BK134 hb)
        have n3_ := Aside0.mk (below_step (hb_ HB) hb)
        clear BK133
        clear BK134
        clear HB
        have HO137 := n0_
        have BK133 := n1_
        have BK134 := n2_
        have HB := n3_
        clear n0_ n1_ n2_ n3_
        (try clear hb)
        (try clear hb2)
        (try clear hk)
        (try clear hi)
        (try clear ho0)
        refine hK.out _ _ ⟨(blk_cell BK133.out 0).trans rfl, (blk_cell BK133.out 1).trans rfl, (blk_cell BK133.out 2).trans rfl⟩ (fun hHeld => ?_)
        clear hK K
        refine norm_ (a' := ?_) ?_ ?_
        rotate_left
        ·show Act.put _ (some 9) _ = _
         simp only [Act.put, List.setIfInBounds_toArray, List.set_cons_zero, List.set_cons_succ, i64_w, i32_w]
         rfl
        refine two_ (i := 3) (j := 4) (Ni := some 11) (Nj := some 4) #[true, true, true, true, false, false, false] #[true, true, true, false, true, false, false] rfl rfl rfl rfl (by kernel_rfl) di_ di_ (fun K hK => ?_) (fun K hK => ?_)
        ·skip
         refine goes_ Try.func62 (by kernel_rfl) rfl #[.agg #[.slice A0_0 l0_0.length c0_0, .slice A0_1 l0_1.length c0_1, .slice A0_2 l0_2.length c0_2]] (by rfl) rfl rfl ma_ ?_
         with_reducible refine (figure_sumsOf.calls _ _ l0_0 _ _ l0_1 _ _ l0_2 t138 t139 t140 _ ?side1 ?side2 ?side3 ?side4 ?side5 ?side6 A3.out).mono ?_
         (case side1 => exact cb_ (Kd.C_below HR0_0.out HB.out))
         (case side2 => exact HC0_0.out)
         (case side3 => exact cb_ (Kd.C_below HR0_1.out HB.out))
         (case side4 => exact HC0_1.out)
         (case side5 => exact cb_ (Kd.C_below HR0_2.out HB.out))
         (case side6 => exact HC0_2.out)
         rintro e w39 ⟨rfl, hb⟩
         refine ⟨_, rfl, ?_⟩
         have n0_ := Aside0.mk (Kd.R_below (rk_ HO137) hb)
         have n1_ := Aside0.mk (bb_ BK133 hb)
         have n2_ := Aside0.mk (bb_ BK134 hb)
         have n3_ := Aside0.mk (below_step (hb_ HB) hb)
         clear HO137
         clear BK133
         clear BK134
         clear HB
         have HO137 := n0_
         have BK133 := n1_
         have BK134 := n2_
         have HB := n3_
         clear n0_ n1_ n2_ n3_
         (try clear hb)
         (try clear hb2)
         (try clear hk)
         (try clear hi)
         refine hK.out _ _ ⟨(blk_cell BK133.out 0).trans rfl, (blk_cell BK133.out 1).trans rfl, (blk_cell BK133.out 2).trans rfl⟩ (fun hHeld => ?_)
         clear hK K
         refine norm_ (a' := ?_) ?_ ?_
         rotate_left
         ·show Act.put _ (some 11) _ = _
          simp only [Act.put, List.setIfInBounds_toArray, List.set_cons_zero, List.set_cons_succ, i64_w, i32_w]
          rfl
         refine one_ (i := 4) (N := some 4) #[true, true, true, true, true, false, false] rfl rfl (by kernel_rfl) di_ (fun K hK => ?_)
         refine box_step ?hg (N := 4) ?hd (cs := #[.int .i64 0, .int .i64 0, .int .i64 0]) (t := 105) ?hr ?_; (case hd => rfl); (case hg => rfl); (case hr => exact gr_)
         intro gb141 hg w40 hbox hb
         have n0_ := Aside0.mk (Kd.R_below (rk_ HO137) hb)
         have n1_ := Aside0.mk (bb_ BK133 hb)
         have n2_ := Aside0.mk (bb_ BK134 hb)
         have n3_ := Aside0.mk (below_step (hb_ HB) hb)
         have n4_ := Aside0.mk (hbox)
         have n5_ := Aside0.mk ((hz_ HB hg))
         have n6_ := Aside0.mk ((hz_ HB hg))
         have n7_ := Aside0.mk ((nl_ BK133 hg))
         have n8_ := Aside0.mk ((ng_ BK133 hg))
         have n9_ := Aside0.mk ((nl_ BK134 hg))
         have n10_ := Aside0.mk ((ng_ BK134 hg))
         clear HO137
         clear BK133
         clear BK134
         clear HB
         have HO137 := n0_
         have BK133 := n1_
         have BK134 := n2_
         have HB := n3_
         have BK141 := n4_
         have GW141 := n5_
         have GE141 := n6_
         have NB133_141 := n7_
         have NB141_133 := n8_
         have NB134_141 := n9_
         have NB141_134 := n10_
         clear n0_ n1_ n2_ n3_ n4_ n5_ n6_ n7_ n8_ n9_ n10_
         clear hb hbox hg
         refine hK.out _ _ ⟨(blk_cell BK133.out 0).trans rfl, (blk_cell BK133.out 1).trans rfl, (blk_cell BK133.out 2).trans rfl⟩ (fun hHeld => ?_)
         clear hK K
         refine norm_ (a' := ?_) ?_ ?_
         rotate_left
         ·show Act.put _ (some 4) _ = _
          simp only [Act.put, List.setIfInBounds_toArray, List.set_cons_zero, List.set_cons_succ, i64_w, i32_w]
          rfl
         exact norm_ (by simp only [putAll, Act.put, List.setIfInBounds_toArray, List.set_cons_zero, List.set_cons_succ]) (hCont (v136, gb141) _ ⟨hHeld, (rk_ HO137), (bk_ BK133), (bk_ BK134), (bk_ BK141), GW141.out, GE141.out, NB133_141.out, NB141_133.out, NB134_141.out, NB141_134.out, (hb_ HB)⟩)
        ·skip
         refine box_step ?hg (N := 4) ?hd (cs := #[.int .i64 0, .int .i64 0, .int .i64 0]) (t := 105) ?hr ?_; (case hd => rfl); (case hg => rfl); (case hr => exact gr_)
         intro gb141 hg w39 hbox hb
         have n0_ := Aside0.mk (Kd.R_below (rk_ HO137) hb)
         have n1_ := Aside0.mk (bb_ BK133 hb)
         have n2_ := Aside0.mk (bb_ BK134 hb)
         have n3_ := Aside0.mk (below_step (hb_ HB) hb)
         have n4_ := Aside0.mk (hbox)
         have n5_ := Aside0.mk ((hz_ HB hg))
         have n6_ := Aside0.mk ((hz_ HB hg))
         have n7_ := Aside0.mk ((nl_ BK133 hg))
         have n8_ := Aside0.mk ((ng_ BK133 hg))
         have n9_ := Aside0.mk ((nl_ BK134 hg))
         have n10_ := Aside0.mk ((ng_ BK134 hg))
         clear HO137
         clear BK133
         clear BK134
         clear HB
         have HO137 := n0_
         have BK133 := n1_
         have BK134 := n2_
         have HB := n3_
         have BK141 := n4_
         have GW141 := n5_
         have GE141 := n6_
         have NB133_141 := n7_
         have NB141_133 := n8_
         have NB134_141 := n9_
         have NB141_134 := n10_
         clear n0_ n1_ n2_ n3_ n4_ n5_ n6_ n7_ n8_ n9_ n10_
         clear hb hbox hg
         refine hK.out _ _ ⟨(blk_cell BK133.out 0).trans rfl, (blk_cell BK133.out 1).trans rfl, (blk_cell BK133.out 2).trans rfl⟩ (fun hHeld => ?_)
         clear hK K
         refine norm_ (a' := ?_) ?_ ?_
         rotate_left
         ·show Act.put _ (some 4) _ = _
          simp only [Act.put, List.setIfInBounds_toArray, List.set_cons_zero, List.set_cons_succ, i64_w, i32_w]
          rfl
         refine one_ (i := 3) (N := some 11) #[true, true, true, true, true, false, false] rfl rfl (by kernel_rfl) di_ (fun K hK => ?_)
         refine goes_ Try.func62 (by kernel_rfl) rfl #[.agg #[.slice A0_0 l0_0.length c0_0, .slice A0_1 l0_1.length c0_1, .slice A0_2 l0_2.length c0_2]] (by rfl) rfl rfl ma_ ?_
         with_reducible refine (figure_sumsOf.calls _ _ l0_0 _ _ l0_1 _ _ l0_2 t138 t139 t140 _ ?side1 ?side2 ?side3 ?side4 ?side5 ?side6 A3.out).mono ?_
         (case side1 => exact cb_ (Kd.C_below HR0_0.out HB.out))
         (case side2 => exact HC0_0.out)
         (case side3 => exact cb_ (Kd.C_below HR0_1.out HB.out))
         (case side4 => exact HC0_1.out)
         (case side5 => exact cb_ (Kd.C_below HR0_2.out HB.out))
         (case side6 => exact HC0_2.out)
         rintro e w40 ⟨rfl, hb⟩
         refine ⟨_, rfl, ?_⟩
         have n0_ := Aside0.mk (Kd.R_below (rk_ HO137) hb)
         have n1_ := Aside0.mk (bb_ BK133 hb)
         have n2_ := Aside0.mk (bb_ BK134 hb)
         have n3_ := Aside0.mk (bb_ BK141 hb)
         have n4_ := Aside0.mk (below_step (hb_ HB) hb)
         clear HO137
         clear BK133
         clear BK134
         clear BK141
         clear HB
         have HO137 := n0_
         have BK133 := n1_
         have BK134 := n2_
         have BK141 := n3_
         have HB := n4_
         clear n0_ n1_ n2_ n3_ n4_
         (try clear hb)
         (try clear hb2)
         (try clear hk)
         (try clear hi)
         refine hK.out _ _ ⟨(blk_cell BK133.out 0).trans rfl, (blk_cell BK133.out 1).trans rfl, (blk_cell BK133.out 2).trans rfl⟩ (fun hHeld => ?_)
         clear hK K
         refine norm_ (a' := ?_) ?_ ?_
         rotate_left
         ·show Act.put _ (some 11) _ = _
          simp only [Act.put, List.setIfInBounds_toArray, List.set_cons_zero, List.set_cons_succ, i64_w, i32_w]
          rfl
         exact norm_ (by simp only [putAll, Act.put, List.setIfInBounds_toArray, List.set_cons_zero, List.set_cons_succ]) (hCont (v136, gb141) _ ⟨hHeld, (rk_ HO137), (bk_ BK133), (bk_ BK134), (bk_ BK141), GW141.out, GE141.out, NB133_141.out, NB141_133.out, NB134_141.out, NB141_134.out, (hb_ HB)⟩)
       ·skip
        refine box_step ?hg (N := 4) ?hd (cs := #[.int .i64 0, .int .i64 0, .int .i64 0]) (t := 105) ?hr ?_; (case hd => rfl); (case hg => rfl); (case hr => exact gr_)
        intro gb141 hg w38 hbox hb
        have n0_ := Aside0.mk (bb_ BK133 hb)
        have n1_ := Aside0.mk (bb_ BK134 hb)
        have n2_ := Aside0.mk (below_step (hb_ HB) hb)
        have n3_ := Aside0.mk (hbox)
        have n4_ := Aside0.mk ((hz_ HB hg))
        have n5_ := Aside0.mk ((hz_ HB hg))
        have n6_ := Aside0.mk ((nl_ BK133 hg))
        have n7_ := Aside0.mk ((ng_ BK133 hg))
        have n8_ := Aside0.mk ((nl_ BK134 hg))
        have n9_ := Aside0.mk ((ng_ BK134 hg))
        clear BK133
        clear BK134
        clear HB
        have BK133 := n0_
        have BK134 := n1_
        have HB := n2_
        have BK141 := n3_
        have GW141 := n4_
        have GE141 := n5_
        have NB133_141 := n6_
        have NB141_133 := n7_
        have NB134_141 := n8_
        have NB141_134 := n9_
        clear n0_ n1_ n2_ n3_ n4_ n5_ n6_ n7_ n8_ n9_
        clear hb hbox hg
        refine hK.out _ _ ⟨(blk_cell BK133.out 0).trans rfl, (blk_cell BK133.out 1).trans rfl, (blk_cell BK133.out 2).trans rfl⟩ (fun hHeld => ?_)
        clear hK K
        refine norm_ (a' := ?_) ?_ ?_
        rotate_left
        ·show Act.put _ (some 4) _ = _
         simp only [Act.put, List.setIfInBounds_toArray, List.set_cons_zero, List.set_cons_succ, i64_w, i32_w]
         rfl
        refine one_ (i := 1) (N := some 9) #[true, true, true, false, true, false, false] rfl rfl (by kernel_rfl) di_ (fun K hK => ?_)
        refine goes_ Try.func107 (by kernel_rfl) rfl #[.agg #[.slice A0_0 l0_0.length c0_0, .slice A0_1 l0_1.length c0_1, .slice A0_2 l0_2.length c0_2]] (by rfl) rfl rfl ma_ ?_
        with_reducible refine (figure_hull.calls k _ _ l0_0 _ _ l0_1 _ _ l0_2 t135 _ ?side1 ?side2 ?side3 ?side4 ?side5 ?side6 A2.out).mono ?_
        (case side1 => exact cb_ (Kd.C_below HR0_0.out HB.out))
        (case side2 => exact HC0_0.out)
        (case side3 => exact cb_ (Kd.C_below HR0_1.out HB.out))
        (case side4 => exact HC0_1.out)
        (case side5 => exact cb_ (Kd.C_below HR0_2.out HB.out))
        (case side6 => exact HC0_2.out)
        rintro e w39 ⟨v136, rfl, ho0, hb⟩
        refine ⟨_, rfl, ?_⟩
        have n0_ := Aside0.mk (Kd.R_lower ho0 (below_size (hb_ HB)))
        have n1_ := Aside0.mk (bb_ BK133 hb)
        have n2_ := Aside0.mk (bb_ BK134 hb)
        have n3_ := Aside0.mk (bb_ BK141 hb)
        have n4_ := Aside0.mk (below_step (hb_ HB) hb)
        clear BK133
        clear BK134
        clear BK141
        clear HB
        have HO137 := n0_
        have BK133 := n1_
        have BK134 := n2_
        have BK141 := n3_
        have HB := n4_
        clear n0_ n1_ n2_ n3_ n4_
        (try clear hb)
        (try clear hb2)
        (try clear hk)
        (try clear hi)
        (try clear ho0)
        refine hK.out _ _ ⟨(blk_cell BK133.out 0).trans rfl, (blk_cell BK133.out 1).trans rfl, (blk_cell BK133.out 2).trans rfl⟩ (fun hHeld => ?_)
        clear hK K
        refine norm_ (a' := ?_) ?_ ?_
        rotate_left
        ·show Act.put _ (some 9) _ = _
         simp only [Act.put, List.setIfInBounds_toArray, List.set_cons_zero, List.set_cons_succ, i64_w, i32_w]
         rfl
        refine one_ (i := 3) (N := some 11) #[true, true, true, true, true, false, false] rfl rfl (by kernel_rfl) di_ (fun K hK => ?_)
        refine goes_ Try.func62 (by kernel_rfl) rfl #[.agg #[.slice A0_0 l0_0.length c0_0, .slice A0_1 l0_1.length c0_1, .slice A0_2 l0_2.length c0_2]] (by rfl) rfl rfl ma_ ?_
        with_reducible refine (figure_sumsOf.calls _ _ l0_0 _ _ l0_1 _ _ l0_2 t138 t139 t140 _ ?side1 ?side2 ?side3 ?side4 ?side5 ?side6 A3.out).mono ?_
        (case side1 => exact cb_ (Kd.C_below HR0_0.out HB.out))
        (case side2 => exact HC0_0.out)
        (case side3 => exact cb_ (Kd.C_below HR0_1.out HB.out))
        (case side4 => exact HC0_1.out)
        (case side5 => exact cb_ (Kd.C_below HR0_2.out HB.out))
        (case side6 => exact HC0_2.out)
        rintro e w40 ⟨rfl, hb⟩
        refine ⟨_, rfl, ?_⟩
        have n0_ := Aside0.mk (Kd.R_below (rk_ HO137) hb)
        have n1_ := Aside0.mk (bb_ BK133 hb)
        have n2_ := Aside0.mk (bb_ BK134 hb)
        have n3_ := Aside0.mk (bb_ BK141 hb)
        have n4_ := Aside0.mk (below_step (hb_ HB) hb)
        clear HO137
        clear BK133
        clear BK134
        clear BK141
        clear HB
        have HO137 := n0_
        have BK133 := n1_
        have BK134 := n2_
        have BK141 := n3_
        have HB := n4_
        clear n0_ n1_ n2_ n3_ n4_
        (try clear hb)
        (try clear hb2)
        (try clear hk)
        (try clear hi)
        refine hK.out _ _ ⟨(blk_cell BK133.out 0).trans rfl, (blk_cell BK133.out 1).trans rfl, (blk_cell BK133.out 2).trans rfl⟩ (fun hHeld => ?_)
        clear hK K
        refine norm_ (a' := ?_) ?_ ?_
        rotate_left
        ·show Act.put _ (some 11) _ = _
         simp only [Act.put, List.setIfInBounds_toArray, List.set_cons_zero, List.set_cons_succ, i64_w, i32_w]
         rfl
        exact norm_ (by simp only [putAll, Act.put, List.setIfInBounds_toArray, List.set_cons_zero, List.set_cons_succ]) (hCont (v136, gb141) _ ⟨hHeld, (rk_ HO137), (bk_ BK133), (bk_ BK134), (bk_ BK141), GW141.out, GE141.out, NB133_141.out, NB141_133.out, NB134_141.out, NB141_134.out, (hb_ HB)⟩)
      rintro ⟨v136, gb141⟩ w41 ⟨hS_, h0_, h1_, h2_, h3_, h4_, h5_, h6_, h7_, h8_, h9_, h10_⟩
      have n0_ : Aside0 (Kd.R (Kd.int .i64) 3 w41 w.heap.size (fun _ => True) v136 t135) := ⟨h0_⟩
      have n1_ : Aside0 (w41.heap[gb133]? = some (.cells #[.slice A0_0 l0_0.length c0_0, .slice A0_1 l0_1.length c0_1, .slice A0_2 l0_2.length c0_2] 24 (0, 0))) := ⟨h1_⟩
      have n2_ : Aside0 (w41.heap[gb134]? = some (.cells #[.int .i64 0, .int .i64 0, .int .i64 0, .int .i64 0, .int .i64 0, .int .i64 0] 50 (0, 0))) := ⟨h2_⟩
      have n3_ : Aside0 (w41.heap[gb141]? = some (.cells #[.int .i64 0, .int .i64 0, .int .i64 0] 105 (0, 0))) := ⟨h3_⟩
      have n4_ : Aside0 (w.heap.size ≤ gb141) := ⟨h4_⟩
      have n5_ : Aside0 (w.heap.size ≤ gb141) := ⟨h5_⟩
      have n6_ : Aside0 (gb133 ≠ gb141) := ⟨h6_⟩
      have n7_ : Aside0 (gb141 ≠ gb133) := ⟨h7_⟩
      have n8_ : Aside0 (gb134 ≠ gb141) := ⟨h8_⟩
      have n9_ : Aside0 (gb141 ≠ gb134) := ⟨h9_⟩
      have n10_ : Aside0 (Below w.heap.size w w41) := ⟨h10_⟩
      clear BK133
      clear BK134
      clear HB
      clear h0_ h1_ h2_ h3_ h4_ h5_ h6_ h7_ h8_ h9_ h10_
      have HO137 := n0_
      have BK133 := n1_
      have BK134 := n2_
      have BK141 := n3_
      have GW141 := n4_
      have GE141 := n5_
      have NB133_141 := n6_
      have NB141_133 := n7_
      have NB134_141 := n8_
      have NB141_134 := n9_
      have HB := n10_
      clear n0_ n1_ n2_ n3_ n4_ n5_ n6_ n7_ n8_ n9_ n10_
      have hHeld : w41.cell? ⟨gb133, 0, none⟩ = some (.slice A0_0 l0_0.length c0_0) ∧ w41.cell? ⟨gb133, 1, none⟩ = some (.slice A0_1 l0_1.length c0_1) ∧ w41.cell? ⟨gb133, 2, none⟩ = some (.slice A0_2 l0_2.length c0_2) := hS_
      refine norm_ (a' := ?_) ?_ ?_
      rotate_left
      ·simp only [putAll, Act.put, List.setIfInBounds_toArray, List.set_cons_zero, List.set_cons_succ]
       rfl
      refine pure_ (i := 5) (N := some 3) (v := ?_) (a' := ?_) #[true, true, true, true, true, true, false] rfl rfl (by kernel_rfl) (fun _ _ _ h => h) (Or.inl ⟨by rfl, ?_⟩) ?_ ?_
      rotate_left
      ·exact gs_
      rotate_left
      ·exact pt_
      refine one_ (i := 6) (N := none) #[true, true, true, true, true, true, true] rfl rfl (by kernel_rfl) di_ (fun K hK => ?_)
      have hs42 : w41.cell? ⟨gb141, 0, none⟩ = some (.int .i64 0) := (blk_cell BK141.out 0).trans rfl
      have hfs42 := blk_frozen BK141.out 0
      have hns42_0 := NB133_141.out
      have hns42_1 := NB134_141.out
      have hms42_0 := NB141_133.out
      have hms42_1 := NB141_134.out
      have hs43 : w41.cell? ⟨gb141, 1, none⟩ = some (.int .i64 0) := (blk_cell BK141.out 1).trans rfl
      have hfs43 := blk_frozen BK141.out 1
      have hns43_0 := NB133_141.out
      have hns43_1 := NB134_141.out
      have hms43_0 := NB141_133.out
      have hms43_1 := NB141_134.out
      have hs44 : w41.cell? ⟨gb141, 2, none⟩ = some (.int .i64 0) := (blk_cell BK141.out 2).trans rfl
      have hfs44 := blk_frozen BK141.out 2
      have hns44_0 := NB133_141.out
      have hns44_1 := NB134_141.out
      have hms44_0 := NB141_133.out
      have hms44_1 := NB141_134.out
      refine skip_ (w1 := ?_) (by rfl) rfl ?_ ?_
      rotate_left
      ·go_simp
       rfl
      refine hK.out _ _ ⟨((cell_far (p := ⟨gb141, _, none⟩) NB133_141.out _).trans (((cell_far (p := ⟨gb141, _, none⟩) NB133_141.out _).trans (((cell_far (p := ⟨gb141, _, none⟩) NB133_141.out _).trans (hHeld.1)))))), ((cell_far (p := ⟨gb141, _, none⟩) NB133_141.out _).trans (((cell_far (p := ⟨gb141, _, none⟩) NB133_141.out _).trans (((cell_far (p := ⟨gb141, _, none⟩) NB133_141.out _).trans (hHeld.2.1)))))), ((cell_far (p := ⟨gb141, _, none⟩) NB133_141.out _).trans (((cell_far (p := ⟨gb141, _, none⟩) NB133_141.out _).trans (((cell_far (p := ⟨gb141, _, none⟩) NB133_141.out _).trans (hHeld.2.2))))))⟩ (fun hHeld => ?_)
      clear hK K
      refine done_ (by kernel_rfl) ?_
      obtain ⟨Ao45, co45, eo45⟩ := Kd.R_slice HO137.out
      subst eo45
      try go_wp2_with (first | ((with_reducible refine gate_callee (f := 108) rfl ?_); refine goesL_ (some 34) rfl rfl Try.func108 (by kernel_rfl) rfl #[.slice Ao45 t135.length co45, .func (.func 109) #[] #[.pointer (some ⟨gb141, 0, none⟩), .pointer (some ⟨gb133, 0, none⟩)]] rfl ma_ ?_; (with_reducible refine (slices_IndexFunc_int_int__figure_reference_1.calls (E := ⟨⟨t138, t139, t140, l0_1⟩⟩) k _ _ t135  t146 gb141 gb133 _ ?sideE ?side1 ?side2 A27.out).mono ?_); (case sideE => exact ⟨_, _, _, _, _, _, _, _, (by (with_reducible repeat (first | refine blk_drewN ?_ _ | refine blk_drew ?_ | refine blk_alloc ?_ _)); refine blk_put (cs := #[.int .i64 t138, .int .i64 t139, .int .i64 0]) ?_ 2 _ rfl; (with_reducible repeat (first | refine blk_drewN ?_ _ | refine blk_drew ?_ | refine blk_alloc ?_ _)); refine blk_put (cs := #[.int .i64 t138, .int .i64 0, .int .i64 0]) ?_ 1 _ rfl; (with_reducible repeat (first | refine blk_drewN ?_ _ | refine blk_drew ?_ | refine blk_alloc ?_ _)); refine blk_put (cs := #[.int .i64 0, .int .i64 0, .int .i64 0]) ?_ 0 _ rfl; (with_reducible repeat (first | refine blk_drewN ?_ _ | refine blk_drew ?_ | refine blk_alloc ?_ _)); exact BK141.out), (by (with_reducible repeat (first | refine blk_drewN ?_ _ | refine blk_drew ?_ | refine blk_alloc ?_ _)); refine blk_far ?_ NB133_141.out _; (with_reducible repeat (first | refine blk_drewN ?_ _ | refine blk_drew ?_ | refine blk_alloc ?_ _)); refine blk_far ?_ NB133_141.out _; (with_reducible repeat (first | refine blk_drewN ?_ _ | refine blk_drew ?_ | refine blk_alloc ?_ _)); refine blk_far ?_ NB133_141.out _; (with_reducible repeat (first | refine blk_drewN ?_ _ | refine blk_drew ?_ | refine blk_alloc ?_ _)); exact BK133.out), ⟨(Kd.C_below HR0_0.out (by repeat (first | (with_reducible first | exact HB.out | apply below_alloc | apply pw_below_drewN | apply below_drew1 | refine below_set ?_ (by first | exact GE141.out | exact GW141.out)) | exact HB.out))), HC0_0.out⟩, ⟨(Kd.C_below HR0_1.out (by repeat (first | (with_reducible first | exact HB.out | apply below_alloc | apply pw_below_drewN | apply below_drew1 | refine below_set ?_ (by first | exact GE141.out | exact GW141.out)) | exact HB.out))), HC0_1.out⟩, ⟨(Kd.C_below HR0_2.out (by repeat (first | (with_reducible first | exact HB.out | apply below_alloc | apply pw_below_drewN | apply below_drew1 | refine below_set ?_ (by first | exact GE141.out | exact GW141.out)) | exact HB.out))), HC0_2.out⟩⟩); (case side1 => refine (Kd.R_reads' (e := 3) (base := w.heap.size) (ok := fun k_ => True) (n := t135.length) (c := co45) ?_).2.2; exact (by (with_reducible repeat (first | apply Kd.R_alloc | apply Kd.R_drewN | apply Kd.R_drew)); exact (Kd.R_mono (Kd.R_far (p := ⟨gb141, 2, none⟩) (Kd.R_far (p := ⟨gb141, 1, none⟩) (Kd.R_far (p := ⟨gb141, 0, none⟩) (Kd.R_types HO137.out BK141.out di_) (fun _ hk => hk.2) (.int .i64 t138)) (fun _ hk => hk.2) (.int .i64 t139)) (fun _ hk => hk.2) (.int .i64 t140)) (fun _ h_ => h_.1)))); (case side2 => exact (Kd.R_reads' HO137.out).2.1); rintro e w46 ⟨rfl, hb⟩; refine ⟨_, rfl, ?_⟩; have n0_ := Aside0.mk (Kd.R_below (by (with_reducible repeat (first | apply Kd.R_alloc | apply Kd.R_drewN | apply Kd.R_drew)); exact (Kd.R_mono (Kd.R_far (p := ⟨gb141, 2, none⟩) (Kd.R_far (p := ⟨gb141, 1, none⟩) (Kd.R_far (p := ⟨gb141, 0, none⟩) (Kd.R_types HO137.out BK141.out di_) (fun _ hk => hk.2) (.int .i64 t138)) (fun _ hk => hk.2) (.int .i64 t139)) (fun _ hk => hk.2) (.int .i64 t140)) (fun _ h_ => h_.1))) hb); have n1_ := Aside0.mk (blk_below (g := gb133) (o := .cells #[.slice A0_0 l0_0.length c0_0, .slice A0_1 l0_1.length c0_1, .slice A0_2 l0_2.length c0_2] 24 (0, 0)) (by (with_reducible repeat (first | refine blk_drewN ?_ _ | refine blk_drew ?_ | refine blk_alloc ?_ _)); refine blk_far ?_ NB133_141.out _; (with_reducible repeat (first | refine blk_drewN ?_ _ | refine blk_drew ?_ | refine blk_alloc ?_ _)); refine blk_far ?_ NB133_141.out _; (with_reducible repeat (first | refine blk_drewN ?_ _ | refine blk_drew ?_ | refine blk_alloc ?_ _)); refine blk_far ?_ NB133_141.out _; (with_reducible repeat (first | refine blk_drewN ?_ _ | refine blk_drew ?_ | refine blk_alloc ?_ _)); exact BK133.out) hb); have n2_ := Aside0.mk (blk_below (g := gb134) (o := .cells #[.int .i64 0, .int .i64 0, .int .i64 0, .int .i64 0, .int .i64 0, .int .i64 0] 50 (0, 0)) (by (with_reducible repeat (first | refine blk_drewN ?_ _ | refine blk_drew ?_ | refine blk_alloc ?_ _)); refine blk_far ?_ NB134_141.out _; (with_reducible repeat (first | refine blk_drewN ?_ _ | refine blk_drew ?_ | refine blk_alloc ?_ _)); refine blk_far ?_ NB134_141.out _; (with_reducible repeat (first | refine blk_drewN ?_ _ | refine blk_drew ?_ | refine blk_alloc ?_ _)); refine blk_far ?_ NB134_141.out _; (with_reducible repeat (first | refine blk_drewN ?_ _ | refine blk_drew ?_ | refine blk_alloc ?_ _)); exact BK134.out) hb); have n3_ := Aside0.mk (blk_below (g := gb141) (o := .cells #[.int .i64 t138, .int .i64 t139, .int .i64 t140] 105 (0, 0)) (by (with_reducible repeat (first | refine blk_drewN ?_ _ | refine blk_drew ?_ | refine blk_alloc ?_ _)); refine blk_put (cs := #[.int .i64 t138, .int .i64 t139, .int .i64 0]) ?_ 2 _ rfl; (with_reducible repeat (first | refine blk_drewN ?_ _ | refine blk_drew ?_ | refine blk_alloc ?_ _)); refine blk_put (cs := #[.int .i64 t138, .int .i64 0, .int .i64 0]) ?_ 1 _ rfl; (with_reducible repeat (first | refine blk_drewN ?_ _ | refine blk_drew ?_ | refine blk_alloc ?_ _)); refine blk_put (cs := #[.int .i64 0, .int .i64 0, .int .i64 0]) ?_ 0 _ rfl; (with_reducible repeat (first | refine blk_drewN ?_ _ | refine blk_drew ?_ | refine blk_alloc ?_ _)); exact BK141.out) hb); have n4_ := Aside0.mk (below_step (hb_ HB) hb); clear HO137; clear BK133; clear BK134; clear BK141; clear HB; have HO137 := n0_; have BK133 := n1_; have BK134 := n2_; have BK141 := n3_; have HB := n4_; clear n0_ n1_ n2_ n3_ n4_; (try clear hb); (try clear hb2); (try clear hk); (try clear hi)))
      have n0_ := Aside0.mk (Kd.R_drew HO137.out)
      have n1_ := Aside0.mk (blk_drew BK133.out)
      have n2_ := Aside0.mk (blk_drew BK134.out)
      have n3_ := Aside0.mk (blk_drew BK141.out)
      have n4_ := Aside0.mk (below_drew1 HB.out)
      clear HO137
      clear BK133
      clear BK134
      clear BK141
      clear HB
      have HO137 := n0_
      have BK133 := n1_
      have BK134 := n2_
      have BK141 := n3_
      have HB := n4_
      clear n0_ n1_ n2_ n3_ n4_
      have p147 : 0 ≤ ((ji29) : Int) := of_decide_eq_true as_
      have q147 : (ji29) < (t135.length : Int) := of_decide_eq_true as_
      obtain ⟨ad147, e147, hx147_0⟩ := Kd.at_int (Kd.R_reads' HO137.out).2.2 (ji29) p147 q147
      cases e147
      replace p147 := eq_true p147
      replace q147 := eq_true q147
      have p148 : 0 ≤ ((ji28) : Int) := of_decide_eq_true as_
      have q148 : (ji28) < (t135.length : Int) := of_decide_eq_true as_
      obtain ⟨ad148, e148, hx148_0⟩ := Kd.at_int (Kd.R_reads' HO137.out).2.2 (ji28) p148 q148
      obtain rfl : ad147 = ad148 := (by injection e148)
      replace p148 := eq_true p148
      replace q148 := eq_true q148
      refine start_ (n := 18) (S := fun w' => w'.cell? ⟨gb133, 0, none⟩ = some (.slice A0_0 l0_0.length c0_0) ∧ w'.cell? ⟨gb133, 1, none⟩ = some (.slice A0_1 l0_1.length c0_1) ∧ w'.cell? ⟨gb133, 2, none⟩ = some (.slice A0_2 l0_2.length c0_2) ∧ w'.cell? (ad147.add ((ji29)).toNat) = some (.int .i64 (rd t135 (ji29))) ∧ w'.cell? (ad147.add ((ji28)).toNat) = some (.int .i64 (rd t135 (ji28)))) (ds := []) #[false, false, false, false, false, false, false, false, false, false, false, false, false, false, false, false, false, false] (by kernel_rfl) rfl rfl ⟨(blk_cell BK133.out 0).trans rfl, (blk_cell BK133.out 1).trans rfl, (blk_cell BK133.out 2).trans rfl, hx147_0, hx148_0⟩ (fun hHeld => ?_); refine with_tabW figure_reference.tab5 figure_reference.bits5 (fun HT_ HW_ => ?_)
      generalize w46.drew = w47 at HO137 BK133 BK134 BK141 HB hx147_0 hx148_0 hHeld ⊢
      refine pure_ (i := 1) (N := some 38) (v := ?_) (a' := ?_) #[false, true, false, false, false, false, false, false, false, false, false, false, false, false, false, false, false, false] rfl rfl (any_of HT_.out (by kernel_rfl)) (fun _ _ _ h => h) (Or.inl ⟨by rfl, ?_⟩) ?_ ?_
      rotate_left
      ·exact gs_
      rotate_left
      ·exact pt_
      refine pure_ (i := 2) (N := some 39) (v := ?_) (a' := ?_) #[false, true, true, false, false, false, false, false, false, false, false, false, false, false, false, false, false, false] rfl rfl (any_of HT_.out (by kernel_rfl)) (fun _ _ _ h => h) (Or.inl ⟨by rfl, ?_⟩) ?_ ?_
      rotate_left
      ·exact gs_
      rotate_left
      ·exact pt_
      refine pure_ (i := 3) (N := some 40) (v := ?_) (a' := ?_) #[false, true, true, true, false, false, false, false, false, false, false, false, false, false, false, false, false, false] rfl rfl (any_of HT_.out (by kernel_rfl)) (fun _ _ _ h => h) (Or.inl ⟨by rfl, ?_⟩) ?_ ?_
      rotate_left
      ·exact gs_
      rotate_left
      ·exact pt_
      refine pure_ (i := 4) (N := some 41) (v := ?_) (a' := ?_) #[false, true, true, true, true, false, false, false, false, false, false, false, false, false, false, false, false, false] rfl rfl (any_of HT_.out (by kernel_rfl)) (fun _ _ _ h => h) (Or.inl ⟨by rfl, ?_⟩) ?_ ?_
      rotate_left
      ·exact gs_
      rotate_left
      ·exact pt_
      refine pure_ (i := 6) (N := some 43) (v := ?_) (a' := ?_) #[false, true, true, true, true, false, true, false, false, false, false, false, false, false, false, false, false, false] rfl rfl (any_of HT_.out (by kernel_rfl)) (fun _ _ _ h => h) (Or.inl ⟨by rfl, ?_⟩) ?_ ?_
      rotate_left
      ·exact gs_
      rotate_left
      ·exact pt_
      refine pure_ (i := 7) (N := some 44) (v := ?_) (a' := ?_) #[false, true, true, true, true, false, true, true, false, false, false, false, false, false, false, false, false, false] rfl rfl (any_of HT_.out (by kernel_rfl)) (fun _ _ _ h => h) (Or.inl ⟨by rfl, ?_⟩) ?_ ?_
      rotate_left
      ·exact gs_
      rotate_left
      ·exact pt_
      refine pure_ (i := 8) (N := some 45) (v := ?_) (a' := ?_) #[false, true, true, true, true, false, true, true, true, false, false, false, false, false, false, false, false, false] rfl rfl (any_of HT_.out (by kernel_rfl)) (fun _ _ _ h => h) (Or.inl ⟨by rfl, ?_⟩) ?_ ?_
      rotate_left
      ·exact gs_
      rotate_left
      ·exact pt_
      refine take_ (i := 0) (N := some 37) (v := ?_) (a' := ?_) #[true, true, true, true, true, false, true, true, true, false, false, false, false, false, false, false, false, false] rfl rfl (take_ofW HT_.out HW_.out (by kernel_rfl)) (fun _ _ _ h => h) (Or.inl ⟨by rfl, ?_⟩) hHeld ?_ ?_
      rotate_left
      ·rintro w' ⟨s0, s1, s2, s3, s4⟩; go_simp; with_reducible rfl
      rotate_left
      ·exact pt_
      refine take_ (i := 5) (N := some 42) (v := ?_) (a' := ?_) #[true, true, true, true, true, true, true, true, true, false, false, false, false, false, false, false, false, false] rfl rfl (take_ofW HT_.out HW_.out (by kernel_rfl)) (fun _ _ _ h => h) (Or.inl ⟨by rfl, ?_⟩) hHeld ?_ ?_
      rotate_left
      ·rintro w' ⟨s0, s1, s2, s3, s4⟩; go_simp; with_reducible rfl
      rotate_left
      ·exact pt_
      refine take_ (i := 9) (N := some 46) (v := ?_) (a' := ?_) #[true, true, true, true, true, true, true, true, true, true, false, false, false, false, false, false, false, false] rfl rfl (take_ofW HT_.out HW_.out (by kernel_rfl)) (fun _ _ _ h => h) (Or.inl ⟨by rfl, ?_⟩) hHeld ?_ ?_
      rotate_left
      ·rintro w' ⟨s0, s1, s2, s3, s4⟩; go_simp; with_reducible rfl
      rotate_left
      ·exact pt_
      refine join_ (σ := Nat × Nat) 2 #[true, true, true, true, true, true, true, true, true, true, true, true, true, true, true, true, false, false] (fun s_ => [(47, .tuple #[.agg #[.int .i64 t149, .int .i64 t150], .agg #[.int .i64 t151, .int .i64 t152]]), (6, .pointer (some ⟨s_.1, 0, none⟩)), (7, .pointer (some ⟨s_.2, 0, none⟩)), (36, .tuple #[.agg #[.int .i64 t149, .int .i64 t150], .agg #[.int .i64 t151, .int .i64 t152]]), (48, .agg #[.int .i64 t149, .int .i64 t150]), (49, .agg #[.int .i64 t151, .int .i64 t152])]) (fun s_ w' => (w'.cell? ⟨gb133, 0, none⟩ = some (.slice A0_0 l0_0.length c0_0) ∧ w'.cell? ⟨gb133, 1, none⟩ = some (.slice A0_1 l0_1.length c0_1) ∧ w'.cell? ⟨gb133, 2, none⟩ = some (.slice A0_2 l0_2.length c0_2) ∧ w'.cell? (ad147.add ((ji29)).toNat) = some (.int .i64 (rd t135 (ji29))) ∧ w'.cell? (ad147.add ((ji28)).toNat) = some (.int .i64 (rd t135 (ji28)))) ∧ (Kd.R (Kd.int .i64) 3 w' w.heap.size (fun _ => True) (.slice (some ad147) t135.length co45) t135) ∧ (w'.heap[gb133]? = some (.cells #[.slice A0_0 l0_0.length c0_0, .slice A0_1 l0_1.length c0_1, .slice A0_2 l0_2.length c0_2] 24 (0, 0))) ∧ (w'.heap[gb134]? = some (.cells #[.int .i64 0, .int .i64 0, .int .i64 0, .int .i64 0, .int .i64 0, .int .i64 0] 50 (0, 0))) ∧ (w'.heap[gb141]? = some (.cells #[.int .i64 t138, .int .i64 t139, .int .i64 t140] 105 (0, 0))) ∧ (w'.heap[s_.1]? = some (.cells #[.int .i64 0, .int .i64 0] 28 (0, 0))) ∧ (w'.heap[s_.2]? = some (.cells #[.int .i64 0, .int .i64 0] 28 (0, 0))) ∧ (w.heap.size ≤ s_.1) ∧ (w.heap.size ≤ s_.1) ∧ (gb133 ≠ s_.1) ∧ (s_.1 ≠ gb133) ∧ (gb134 ≠ s_.1) ∧ (s_.1 ≠ gb134) ∧ (gb141 ≠ s_.1) ∧ (s_.1 ≠ gb141) ∧ (s_.2 ≠ s_.1) ∧ (s_.1 ≠ s_.2) ∧ (w.heap.size ≤ s_.2) ∧ (w.heap.size ≤ s_.2) ∧ (gb133 ≠ s_.2) ∧ (s_.2 ≠ gb133) ∧ (gb134 ≠ s_.2) ∧ (s_.2 ≠ gb134) ∧ (gb141 ≠ s_.2) ∧ (s_.2 ≠ gb141) ∧ (Below w.heap.size w w')) ?_ ?_
      rotate_left
      ·intro hJ10_14_15
       refine join_ (σ := Nat) 3 #[true, true, true, true, true, true, true, true, true, true, true, true, true, true, true, false, false, false] (fun s_ => [(47, .tuple #[.agg #[.int .i64 t149, .int .i64 t150], .agg #[.int .i64 t151, .int .i64 t152]]), (6, .pointer (some ⟨s_, 0, none⟩)), (36, .tuple #[.agg #[.int .i64 t149, .int .i64 t150], .agg #[.int .i64 t151, .int .i64 t152]]), (48, .agg #[.int .i64 t149, .int .i64 t150]), (49, .agg #[.int .i64 t151, .int .i64 t152])]) (fun s_ w' => (w'.cell? ⟨gb133, 0, none⟩ = some (.slice A0_0 l0_0.length c0_0) ∧ w'.cell? ⟨gb133, 1, none⟩ = some (.slice A0_1 l0_1.length c0_1) ∧ w'.cell? ⟨gb133, 2, none⟩ = some (.slice A0_2 l0_2.length c0_2) ∧ w'.cell? (ad147.add ((ji29)).toNat) = some (.int .i64 (rd t135 (ji29))) ∧ w'.cell? (ad147.add ((ji28)).toNat) = some (.int .i64 (rd t135 (ji28)))) ∧ (Kd.R (Kd.int .i64) 3 w' w.heap.size (fun _ => True) (.slice (some ad147) t135.length co45) t135) ∧ (w'.heap[gb133]? = some (.cells #[.slice A0_0 l0_0.length c0_0, .slice A0_1 l0_1.length c0_1, .slice A0_2 l0_2.length c0_2] 24 (0, 0))) ∧ (w'.heap[gb134]? = some (.cells #[.int .i64 0, .int .i64 0, .int .i64 0, .int .i64 0, .int .i64 0, .int .i64 0] 50 (0, 0))) ∧ (w'.heap[gb141]? = some (.cells #[.int .i64 t138, .int .i64 t139, .int .i64 t140] 105 (0, 0))) ∧ (w'.heap[s_]? = some (.cells #[.int .i64 0, .int .i64 0] 28 (0, 0))) ∧ (w.heap.size ≤ s_) ∧ (w.heap.size ≤ s_) ∧ (gb133 ≠ s_) ∧ (s_ ≠ gb133) ∧ (gb134 ≠ s_) ∧ (s_ ≠ gb134) ∧ (gb141 ≠ s_) ∧ (s_ ≠ gb141) ∧ (Below w.heap.size w w')) ?_ ?_
       rotate_left
       ·intro hJ10_14
        refine join_ (σ := Nat) 3 #[true, true, true, true, true, true, true, true, true, true, true, true, true, true, false, true, false, false] (fun s_ => [(47, .tuple #[.agg #[.int .i64 t149, .int .i64 t150], .agg #[.int .i64 t151, .int .i64 t152]]), (7, .pointer (some ⟨s_, 0, none⟩)), (36, .tuple #[.agg #[.int .i64 t149, .int .i64 t150], .agg #[.int .i64 t151, .int .i64 t152]]), (48, .agg #[.int .i64 t149, .int .i64 t150]), (49, .agg #[.int .i64 t151, .int .i64 t152])]) (fun s_ w' => (w'.cell? ⟨gb133, 0, none⟩ = some (.slice A0_0 l0_0.length c0_0) ∧ w'.cell? ⟨gb133, 1, none⟩ = some (.slice A0_1 l0_1.length c0_1) ∧ w'.cell? ⟨gb133, 2, none⟩ = some (.slice A0_2 l0_2.length c0_2) ∧ w'.cell? (ad147.add ((ji29)).toNat) = some (.int .i64 (rd t135 (ji29))) ∧ w'.cell? (ad147.add ((ji28)).toNat) = some (.int .i64 (rd t135 (ji28)))) ∧ (Kd.R (Kd.int .i64) 3 w' w.heap.size (fun _ => True) (.slice (some ad147) t135.length co45) t135) ∧ (w'.heap[gb133]? = some (.cells #[.slice A0_0 l0_0.length c0_0, .slice A0_1 l0_1.length c0_1, .slice A0_2 l0_2.length c0_2] 24 (0, 0))) ∧ (w'.heap[gb134]? = some (.cells #[.int .i64 0, .int .i64 0, .int .i64 0, .int .i64 0, .int .i64 0, .int .i64 0] 50 (0, 0))) ∧ (w'.heap[gb141]? = some (.cells #[.int .i64 t138, .int .i64 t139, .int .i64 t140] 105 (0, 0))) ∧ (w'.heap[s_]? = some (.cells #[.int .i64 0, .int .i64 0] 28 (0, 0))) ∧ (w.heap.size ≤ s_) ∧ (w.heap.size ≤ s_) ∧ (gb133 ≠ s_) ∧ (s_ ≠ gb133) ∧ (gb134 ≠ s_) ∧ (s_ ≠ gb134) ∧ (gb141 ≠ s_) ∧ (s_ ≠ gb141) ∧ (Below w.heap.size w w')) ?_ ?_
        rotate_left
        ·intro hJ10_15
         refine join_ (σ := Nat × Nat) 6 #[true, true, true, true, true, true, true, true, true, true, false, false, false, false, true, true, false, false] (fun s_ => [(6, .pointer (some ⟨s_.1, 0, none⟩)), (7, .pointer (some ⟨s_.2, 0, none⟩))]) (fun s_ w' => (w'.cell? ⟨gb133, 0, none⟩ = some (.slice A0_0 l0_0.length c0_0) ∧ w'.cell? ⟨gb133, 1, none⟩ = some (.slice A0_1 l0_1.length c0_1) ∧ w'.cell? ⟨gb133, 2, none⟩ = some (.slice A0_2 l0_2.length c0_2) ∧ w'.cell? (ad147.add ((ji29)).toNat) = some (.int .i64 (rd t135 (ji29))) ∧ w'.cell? (ad147.add ((ji28)).toNat) = some (.int .i64 (rd t135 (ji28)))) ∧ (Kd.R (Kd.int .i64) 3 w' w.heap.size (fun _ => True) (.slice (some ad147) t135.length co45) t135) ∧ (w'.heap[gb133]? = some (.cells #[.slice A0_0 l0_0.length c0_0, .slice A0_1 l0_1.length c0_1, .slice A0_2 l0_2.length c0_2] 24 (0, 0))) ∧ (w'.heap[gb134]? = some (.cells #[.int .i64 0, .int .i64 0, .int .i64 0, .int .i64 0, .int .i64 0, .int .i64 0] 50 (0, 0))) ∧ (w'.heap[gb141]? = some (.cells #[.int .i64 t138, .int .i64 t139, .int .i64 t140] 105 (0, 0))) ∧ (w'.heap[s_.1]? = some (.cells #[.int .i64 0, .int .i64 0] 28 (0, 0))) ∧ (w'.heap[s_.2]? = some (.cells #[.int .i64 0, .int .i64 0] 28 (0, 0))) ∧ (w.heap.size ≤ s_.1) ∧ (w.heap.size ≤ s_.1) ∧ (gb133 ≠ s_.1) ∧ (s_.1 ≠ gb133) ∧ (gb134 ≠ s_.1) ∧ (s_.1 ≠ gb134) ∧ (gb141 ≠ s_.1) ∧ (s_.1 ≠ gb141) ∧ (s_.2 ≠ s_.1) ∧ (s_.1 ≠ s_.2) ∧ (w.heap.size ≤ s_.2) ∧ (w.heap.size ≤ s_.2) ∧ (gb133 ≠ s_.2) ∧ (s_.2 ≠ gb133) ∧ (gb134 ≠ s_.2) ∧ (s_.2 ≠ gb134) ∧ (gb141 ≠ s_.2) ∧ (s_.2 ≠ gb141) ∧ (Below w.heap.size w w')) ?_ ?_
         rotate_left
         ·intro hJ14_15
          refine join_ (σ := Unit) 4 #[true, true, true, true, true, true, true, true, true, true, true, true, true, true, false, false, false, false] (fun s_ => [(47, .tuple #[.agg #[.int .i64 t149, .int .i64 t150], .agg #[.int .i64 t151, .int .i64 t152]]), (36, .tuple #[.agg #[.int .i64 t149, .int .i64 t150], .agg #[.int .i64 t151, .int .i64 t152]]), (48, .agg #[.int .i64 t149, .int .i64 t150]), (49, .agg #[.int .i64 t151, .int .i64 t152])]) (fun s_ w' => (w'.cell? ⟨gb133, 0, none⟩ = some (.slice A0_0 l0_0.length c0_0) ∧ w'.cell? ⟨gb133, 1, none⟩ = some (.slice A0_1 l0_1.length c0_1) ∧ w'.cell? ⟨gb133, 2, none⟩ = some (.slice A0_2 l0_2.length c0_2) ∧ w'.cell? (ad147.add ((ji29)).toNat) = some (.int .i64 (rd t135 (ji29))) ∧ w'.cell? (ad147.add ((ji28)).toNat) = some (.int .i64 (rd t135 (ji28)))) ∧ (Kd.R (Kd.int .i64) 3 w' w.heap.size (fun _ => True) (.slice (some ad147) t135.length co45) t135) ∧ (w'.heap[gb133]? = some (.cells #[.slice A0_0 l0_0.length c0_0, .slice A0_1 l0_1.length c0_1, .slice A0_2 l0_2.length c0_2] 24 (0, 0))) ∧ (w'.heap[gb134]? = some (.cells #[.int .i64 0, .int .i64 0, .int .i64 0, .int .i64 0, .int .i64 0, .int .i64 0] 50 (0, 0))) ∧ (w'.heap[gb141]? = some (.cells #[.int .i64 t138, .int .i64 t139, .int .i64 t140] 105 (0, 0))) ∧ (Below w.heap.size w w')) ?_ ?_
          rotate_left
          ·intro hJ10
           refine join_ (σ := Nat) 7 #[true, true, true, true, true, true, true, true, true, true, false, false, false, false, true, false, false, false] (fun s_ => [(6, .pointer (some ⟨s_, 0, none⟩))]) (fun s_ w' => (w'.cell? ⟨gb133, 0, none⟩ = some (.slice A0_0 l0_0.length c0_0) ∧ w'.cell? ⟨gb133, 1, none⟩ = some (.slice A0_1 l0_1.length c0_1) ∧ w'.cell? ⟨gb133, 2, none⟩ = some (.slice A0_2 l0_2.length c0_2) ∧ w'.cell? (ad147.add ((ji29)).toNat) = some (.int .i64 (rd t135 (ji29))) ∧ w'.cell? (ad147.add ((ji28)).toNat) = some (.int .i64 (rd t135 (ji28)))) ∧ (Kd.R (Kd.int .i64) 3 w' w.heap.size (fun _ => True) (.slice (some ad147) t135.length co45) t135) ∧ (w'.heap[gb133]? = some (.cells #[.slice A0_0 l0_0.length c0_0, .slice A0_1 l0_1.length c0_1, .slice A0_2 l0_2.length c0_2] 24 (0, 0))) ∧ (w'.heap[gb134]? = some (.cells #[.int .i64 0, .int .i64 0, .int .i64 0, .int .i64 0, .int .i64 0, .int .i64 0] 50 (0, 0))) ∧ (w'.heap[gb141]? = some (.cells #[.int .i64 t138, .int .i64 t139, .int .i64 t140] 105 (0, 0))) ∧ (w'.heap[s_]? = some (.cells #[.int .i64 0, .int .i64 0] 28 (0, 0))) ∧ (w.heap.size ≤ s_) ∧ (w.heap.size ≤ s_) ∧ (gb133 ≠ s_) ∧ (s_ ≠ gb133) ∧ (gb134 ≠ s_) ∧ (s_ ≠ gb134) ∧ (gb141 ≠ s_) ∧ (s_ ≠ gb141) ∧ (Below w.heap.size w w')) ?_ ?_
           rotate_left
           ·intro hJ14
            refine join_ (σ := Nat) 7 #[true, true, true, true, true, true, true, true, true, true, false, false, false, false, false, true, false, false] (fun s_ => [(7, .pointer (some ⟨s_, 0, none⟩))]) (fun s_ w' => (w'.cell? ⟨gb133, 0, none⟩ = some (.slice A0_0 l0_0.length c0_0) ∧ w'.cell? ⟨gb133, 1, none⟩ = some (.slice A0_1 l0_1.length c0_1) ∧ w'.cell? ⟨gb133, 2, none⟩ = some (.slice A0_2 l0_2.length c0_2) ∧ w'.cell? (ad147.add ((ji29)).toNat) = some (.int .i64 (rd t135 (ji29))) ∧ w'.cell? (ad147.add ((ji28)).toNat) = some (.int .i64 (rd t135 (ji28)))) ∧ (Kd.R (Kd.int .i64) 3 w' w.heap.size (fun _ => True) (.slice (some ad147) t135.length co45) t135) ∧ (w'.heap[gb133]? = some (.cells #[.slice A0_0 l0_0.length c0_0, .slice A0_1 l0_1.length c0_1, .slice A0_2 l0_2.length c0_2] 24 (0, 0))) ∧ (w'.heap[gb134]? = some (.cells #[.int .i64 0, .int .i64 0, .int .i64 0, .int .i64 0, .int .i64 0, .int .i64 0] 50 (0, 0))) ∧ (w'.heap[gb141]? = some (.cells #[.int .i64 t138, .int .i64 t139, .int .i64 t140] 105 (0, 0))) ∧ (w'.heap[s_]? = some (.cells #[.int .i64 0, .int .i64 0] 28 (0, 0))) ∧ (w.heap.size ≤ s_) ∧ (w.heap.size ≤ s_) ∧ (gb133 ≠ s_) ∧ (s_ ≠ gb133) ∧ (gb134 ≠ s_) ∧ (s_ ≠ gb134) ∧ (gb141 ≠ s_) ∧ (s_ ≠ gb141) ∧ (Below w.heap.size w w')) ?_ ?_
            rotate_left
            ·intro hJ15
             refine three_ (i := 10) (j := 14) (k := 15) (Ni := some 47) (Nj := some 6) (Nk := some 7) #[true, true, true, true, true, true, true, true, true, true, true, false, false, false, false, false, false, false] #[true, true, true, true, true, true, true, true, true, true, false, false, false, false, true, false, false, false] #[true, true, true, true, true, true, true, true, true, true, false, false, false, false, false, true, false, false] rfl rfl rfl rfl rfl rfl (three_of HT_.out (by kernel_rfl)) di_ di_ di_ (fun K hK => ?_) (fun K hK => ?_) (fun K hK => ?_)
             ·skip
              refine goes_ Try.func110 (by kernel_rfl) rfl #[.agg #[.slice A0_0 l0_0.length c0_0, .slice A0_1 l0_1.length c0_1, .slice A0_2 l0_2.length c0_2], .int .i64 (rd t135 (ji29)), .int .i64 (rd t135 (ji28))] (by rfl) rfl rfl (by (try simp only [List.map_toArray, List.map_cons, List.map_nil]); first | done | (simp only [hji28, hji29]; rfl) | rfl | (simp only [List.length_drop, List.length_take]; rfl)) ?_
              with_reducible refine (figure_through.calls k _ _ l0_0 _ _ l0_1 _ _ l0_2 (rd t135 (ji29)) (rd t135 (ji28)) t149 t150 t151 t152 _ ?side1 ?side2 ?side3 ?side4 ?side5 ?side6 A34.out).mono ?_
              (case side1 => exact cb_ (Kd.C_below HR0_0.out HB.out))
              (case side2 => exact HC0_0.out)
              (case side3 => exact cb_ (Kd.C_below HR0_1.out HB.out))
              (case side4 => exact HC0_1.out)
              (case side5 => exact cb_ (Kd.C_below HR0_2.out HB.out))
              (case side6 => exact HC0_2.out)
              rintro e w48 ⟨rfl, hb⟩
              have HS3_ := (hb.cell (World.block_lt_of_cell? _ _ (hHeld.2.2.2.1))).trans (hHeld.2.2.2.1)
              have HS4_ := (hb.cell (World.block_lt_of_cell? _ _ (hHeld.2.2.2.2))).trans (hHeld.2.2.2.2)
              refine ⟨_, rfl, ?_⟩
              have n0_ := Aside0.mk (Kd.R_below (rk_ HO137) hb)
              have n1_ := Aside0.mk (bb_ BK133 hb)
              have n2_ := Aside0.mk (bb_ BK134 hb)
              have n3_ := Aside0.mk (bb_ BK141 hb)
              have n4_ := Aside0.mk (below_step (hb_ HB) hb)
              clear HO137
              clear BK133
              clear BK134
              clear BK141
              clear HB
              have HO137 := n0_
              have BK133 := n1_
              have BK134 := n2_
              have BK141 := n3_
              have HB := n4_
              clear n0_ n1_ n2_ n3_ n4_
              (try clear hb)
              (try clear hb2)
              (try clear hk)
              (try clear hi)
              refine hK.out _ _ ⟨(blk_cell BK133.out 0).trans rfl, (blk_cell BK133.out 1).trans rfl, (blk_cell BK133.out 2).trans rfl, HS3_, HS4_⟩ (fun hHeld => ?_)
              clear hK K
              refine norm_ (a' := ?_) ?_ ?_
              rotate_left
              ·show Act.put _ (some 47) _ = _
               simp only [Act.put, List.setIfInBounds_toArray, List.set_cons_zero, List.set_cons_succ, i64_w, i32_w]
               rfl
              refine pure_ (i := 11) (N := some 36) (v := ?_) (a' := ?_) #[true, true, true, true, true, true, true, true, true, true, true, true, false, false, false, false, false, false] rfl rfl (any_of HT_.out (by kernel_rfl)) (fun _ _ _ h => h) (Or.inl ⟨by rfl, ?_⟩) ?_ ?_
              rotate_left
              ·exact gs_
              rotate_left
              ·exact pt_
              refine pure_ (i := 12) (N := some 48) (v := ?_) (a' := ?_) #[true, true, true, true, true, true, true, true, true, true, true, true, true, false, false, false, false, false] rfl rfl (any_of HT_.out (by kernel_rfl)) (fun _ _ _ h => h) (Or.inl ⟨by rfl, ?_⟩) ?_ ?_
              rotate_left
              ·exact gs_
              rotate_left
              ·exact pt_
              refine pure_ (i := 13) (N := some 49) (v := ?_) (a' := ?_) #[true, true, true, true, true, true, true, true, true, true, true, true, true, true, false, false, false, false] rfl rfl (any_of HT_.out (by kernel_rfl)) (fun _ _ _ h => h) (Or.inl ⟨by rfl, ?_⟩) ?_ ?_
              rotate_left
              ·exact gs_
              rotate_left
              ·exact pt_
              exact norm_ pa_ (hJ10 () _ ⟨hHeld, (rk_ HO137), (bk_ BK133), (bk_ BK134), (bk_ BK141), (hb_ HB)⟩)
             ·skip
              refine box_step ?hg (N := 6) ?hd (cs := #[.int .i64 0, .int .i64 0]) (t := 28) ?hr ?_; (case hd => rfl); (case hg => rfl); (case hr => exact gr_)
              intro gb153 hg w48 hbox hb
              have HS3_ := (hb.cell (World.block_lt_of_cell? _ _ (hHeld.2.2.2.1))).trans (hHeld.2.2.2.1)
              have HS4_ := (hb.cell (World.block_lt_of_cell? _ _ (hHeld.2.2.2.2))).trans (hHeld.2.2.2.2)
              have n0_ := Aside0.mk (Kd.R_below (rk_ HO137) hb)
              have n1_ := Aside0.mk (bb_ BK133 hb)
              have n2_ := Aside0.mk (bb_ BK134 hb)
              have n3_ := Aside0.mk (bb_ BK141 hb)
              have n4_ := Aside0.mk (below_step (hb_ HB) hb)
              have n5_ := Aside0.mk (hbox)
              have n6_ := Aside0.mk ((hz_ HB hg))
              have n7_ := Aside0.mk ((hz_ HB hg))
              have n8_ := Aside0.mk ((nl_ BK133 hg))
              have n9_ := Aside0.mk ((ng_ BK133 hg))
              have n10_ := Aside0.mk ((nl_ BK134 hg))
              have n11_ := Aside0.mk ((ng_ BK134 hg))
              have n12_ := Aside0.mk ((nl_ BK141 hg))
              have n13_ := Aside0.mk ((ng_ BK141 hg))
              clear HO137
              clear BK133
              clear BK134
              clear BK141
              clear HB
              have HO137 := n0_
              have BK133 := n1_
              have BK134 := n2_
              have BK141 := n3_
              have HB := n4_
              have BK153 := n5_
              have GW153 := n6_
              have GE153 := n7_
              have NB133_153 := n8_
              have NB153_133 := n9_
              have NB134_153 := n10_
              have NB153_134 := n11_
              have NB141_153 := n12_
              have NB153_141 := n13_
              clear n0_ n1_ n2_ n3_ n4_ n5_ n6_ n7_ n8_ n9_ n10_ n11_ n12_ n13_
              clear hb hbox hg
              refine hK.out _ _ ⟨(blk_cell BK133.out 0).trans rfl, (blk_cell BK133.out 1).trans rfl, (blk_cell BK133.out 2).trans rfl, HS3_, HS4_⟩ (fun hHeld => ?_)
              clear hK K
              refine norm_ (a' := ?_) ?_ ?_
              rotate_left
              ·show Act.put _ (some 6) _ = _
               simp only [Act.put, List.setIfInBounds_toArray, List.set_cons_zero, List.set_cons_succ, i64_w, i32_w]
               rfl
              exact norm_ pa_ (hJ14 (gb153) _ ⟨hHeld, (rk_ HO137), (bk_ BK133), (bk_ BK134), (bk_ BK141), (bk_ BK153), GW153.out, GE153.out, NB133_153.out, NB153_133.out, NB134_153.out, NB153_134.out, NB141_153.out, NB153_141.out, (hb_ HB)⟩)
             ·skip
              refine box_step ?hg (N := 7) ?hd (cs := #[.int .i64 0, .int .i64 0]) (t := 28) ?hr ?_; (case hd => rfl); (case hg => rfl); (case hr => exact gr_)
              intro gb154 hg w48 hbox hb
              have HS3_ := (hb.cell (World.block_lt_of_cell? _ _ (hHeld.2.2.2.1))).trans (hHeld.2.2.2.1)
              have HS4_ := (hb.cell (World.block_lt_of_cell? _ _ (hHeld.2.2.2.2))).trans (hHeld.2.2.2.2)
              have n0_ := Aside0.mk (Kd.R_below (rk_ HO137) hb)
              have n1_ := Aside0.mk (bb_ BK133 hb)
              have n2_ := Aside0.mk (bb_ BK134 hb)
              have n3_ := Aside0.mk (bb_ BK141 hb)
              have n4_ := Aside0.mk (below_step (hb_ HB) hb)
              have n5_ := Aside0.mk (hbox)
              have n6_ := Aside0.mk ((hz_ HB hg))
              have n7_ := Aside0.mk ((hz_ HB hg))
              have n8_ := Aside0.mk ((nl_ BK133 hg))
              have n9_ := Aside0.mk ((ng_ BK133 hg))
              have n10_ := Aside0.mk ((nl_ BK134 hg))
              have n11_ := Aside0.mk ((ng_ BK134 hg))
              have n12_ := Aside0.mk ((nl_ BK141 hg))
              have n13_ := Aside0.mk ((ng_ BK141 hg))
              clear HO137
              clear BK133
              clear BK134
              clear BK141
              clear HB
              have HO137 := n0_
              have BK133 := n1_
              have BK134 := n2_
              have BK141 := n3_
              have HB := n4_
              have BK154 := n5_
              have GW154 := n6_
              have GE154 := n7_
              have NB133_154 := n8_
              have NB154_133 := n9_
              have NB134_154 := n10_
              have NB154_134 := n11_
              have NB141_154 := n12_
              have NB154_141 := n13_
              clear n0_ n1_ n2_ n3_ n4_ n5_ n6_ n7_ n8_ n9_ n10_ n11_ n12_ n13_
              clear hb hbox hg
              refine hK.out _ _ ⟨(blk_cell BK133.out 0).trans rfl, (blk_cell BK133.out 1).trans rfl, (blk_cell BK133.out 2).trans rfl, HS3_, HS4_⟩ (fun hHeld => ?_)
              clear hK K
              refine norm_ (a' := ?_) ?_ ?_
              rotate_left
              ·show Act.put _ (some 7) _ = _
               simp only [Act.put, List.setIfInBounds_toArray, List.set_cons_zero, List.set_cons_succ, i64_w, i32_w]
               rfl
              exact norm_ pa_ (hJ15 (gb154) _ ⟨hHeld, (rk_ HO137), (bk_ BK133), (bk_ BK134), (bk_ BK141), (bk_ BK154), GW154.out, GE154.out, NB133_154.out, NB154_133.out, NB134_154.out, NB154_134.out, NB141_154.out, NB154_141.out, (hb_ HB)⟩)
            ·skip
             rintro gb154 w49 ⟨hS_, h0_, h1_, h2_, h3_, h4_, h5_, h6_, h7_, h8_, h9_, h10_, h11_, h12_, h13_⟩
             have n0_ : Aside0 (Kd.R (Kd.int .i64) 3 w49 w.heap.size (fun _ => True) (.slice (some ad147) t135.length co45) t135) := ⟨h0_⟩
             have n1_ : Aside0 (w49.heap[gb133]? = some (.cells #[.slice A0_0 l0_0.length c0_0, .slice A0_1 l0_1.length c0_1, .slice A0_2 l0_2.length c0_2] 24 (0, 0))) := ⟨h1_⟩
             have n2_ : Aside0 (w49.heap[gb134]? = some (.cells #[.int .i64 0, .int .i64 0, .int .i64 0, .int .i64 0, .int .i64 0, .int .i64 0] 50 (0, 0))) := ⟨h2_⟩
             have n3_ : Aside0 (w49.heap[gb141]? = some (.cells #[.int .i64 t138, .int .i64 t139, .int .i64 t140] 105 (0, 0))) := ⟨h3_⟩
             have n4_ : Aside0 (w49.heap[gb154]? = some (.cells #[.int .i64 0, .int .i64 0] 28 (0, 0))) := ⟨h4_⟩
             have n5_ : Aside0 (w.heap.size ≤ gb154) := ⟨h5_⟩
             have n6_ : Aside0 (w.heap.size ≤ gb154) := ⟨h6_⟩
             have n7_ : Aside0 (gb133 ≠ gb154) := ⟨h7_⟩
             have n8_ : Aside0 (gb154 ≠ gb133) := ⟨h8_⟩
             have n9_ : Aside0 (gb134 ≠ gb154) := ⟨h9_⟩
             have n10_ : Aside0 (gb154 ≠ gb134) := ⟨h10_⟩
             have n11_ : Aside0 (gb141 ≠ gb154) := ⟨h11_⟩
             have n12_ : Aside0 (gb154 ≠ gb141) := ⟨h12_⟩
             have n13_ : Aside0 (Below w.heap.size w w49) := ⟨h13_⟩
             clear HO137
             clear BK133
             clear BK134
             clear BK141
             clear HB
             clear h0_ h1_ h2_ h3_ h4_ h5_ h6_ h7_ h8_ h9_ h10_ h11_ h12_ h13_
             have HO137 := n0_
             have BK133 := n1_
             have BK134 := n2_
             have BK141 := n3_
             have BK154 := n4_
             have GW154 := n5_
             have GE154 := n6_
             have NB133_154 := n7_
             have NB154_133 := n8_
             have NB134_154 := n9_
             have NB154_134 := n10_
             have NB141_154 := n11_
             have NB154_141 := n12_
             have HB := n13_
             clear n0_ n1_ n2_ n3_ n4_ n5_ n6_ n7_ n8_ n9_ n10_ n11_ n12_ n13_
             have hHeld : w49.cell? ⟨gb133, 0, none⟩ = some (.slice A0_0 l0_0.length c0_0) ∧ w49.cell? ⟨gb133, 1, none⟩ = some (.slice A0_1 l0_1.length c0_1) ∧ w49.cell? ⟨gb133, 2, none⟩ = some (.slice A0_2 l0_2.length c0_2) ∧ w49.cell? (ad147.add ((ji29)).toNat) = some (.int .i64 (rd t135 (ji29))) ∧ w49.cell? (ad147.add ((ji28)).toNat) = some (.int .i64 (rd t135 (ji28))) := hS_
             refine norm_ (a' := ?_) ?_ ?_
             rotate_left
             ·simp only [putAll, Act.put, List.setIfInBounds_toArray, List.set_cons_zero, List.set_cons_succ]
              rfl
             refine two_ (i := 10) (j := 14) (Ni := some 47) (Nj := some 6) #[true, true, true, true, true, true, true, true, true, true, true, false, false, false, false, true, false, false] #[true, true, true, true, true, true, true, true, true, true, false, false, false, false, true, true, false, false] rfl rfl rfl rfl (two_of HT_.out (by kernel_rfl)) di_ di_ (fun K hK => ?_) (fun K hK => ?_)
             ·skip
              refine goes_ Try.func110 (by kernel_rfl) rfl #[.agg #[.slice A0_0 l0_0.length c0_0, .slice A0_1 l0_1.length c0_1, .slice A0_2 l0_2.length c0_2], .int .i64 (rd t135 (ji29)), .int .i64 (rd t135 (ji28))] (by rfl) rfl rfl (by (try simp only [List.map_toArray, List.map_cons, List.map_nil]); first | done | (simp only [hji28, hji29]; rfl) | rfl | (simp only [List.length_drop, List.length_take]; rfl)) ?_
              with_reducible refine (figure_through.calls k _ _ l0_0 _ _ l0_1 _ _ l0_2 (rd t135 (ji29)) (rd t135 (ji28)) t149 t150 t151 t152 _ ?side1 ?side2 ?side3 ?side4 ?side5 ?side6 A34.out).mono ?_
              (case side1 => exact cb_ (Kd.C_below HR0_0.out HB.out))
              (case side2 => exact HC0_0.out)
              (case side3 => exact cb_ (Kd.C_below HR0_1.out HB.out))
              (case side4 => exact HC0_1.out)
              (case side5 => exact cb_ (Kd.C_below HR0_2.out HB.out))
              (case side6 => exact HC0_2.out)
              rintro e w50 ⟨rfl, hb⟩
              have HS3_ := (hb.cell (World.block_lt_of_cell? _ _ (hHeld.2.2.2.1))).trans (hHeld.2.2.2.1)
              have HS4_ := (hb.cell (World.block_lt_of_cell? _ _ (hHeld.2.2.2.2))).trans (hHeld.2.2.2.2)
              refine ⟨_, rfl, ?_⟩
              have n0_ := Aside0.mk (Kd.R_below (rk_ HO137) hb)
              have n1_ := Aside0.mk (bb_ BK133 hb)
              have n2_ := Aside0.mk (bb_ BK134 hb)
              have n3_ := Aside0.mk (bb_ BK141 hb)
              have n4_ := Aside0.mk (bb_ BK154 hb)
              have n5_ := Aside0.mk (below_step (hb_ HB) hb)
              clear HO137
              clear BK133
              clear BK134
              clear BK141
              clear BK154
              clear HB
              have HO137 := n0_
              have BK133 := n1_
              have BK134 := n2_
              have BK141 := n3_
              have BK154 := n4_
              have HB := n5_
              clear n0_ n1_ n2_ n3_ n4_ n5_
              (try clear hb)
              (try clear hb2)
              (try clear hk)
              (try clear hi)
              refine hK.out _ _ ⟨(blk_cell BK133.out 0).trans rfl, (blk_cell BK133.out 1).trans rfl, (blk_cell BK133.out 2).trans rfl, HS3_, HS4_⟩ (fun hHeld => ?_)
              clear hK K
              refine norm_ (a' := ?_) ?_ ?_
              rotate_left
              ·show Act.put _ (some 47) _ = _
               simp only [Act.put, List.setIfInBounds_toArray, List.set_cons_zero, List.set_cons_succ, i64_w, i32_w]
               rfl
              refine pure_ (i := 11) (N := some 36) (v := ?_) (a' := ?_) #[true, true, true, true, true, true, true, true, true, true, true, true, false, false, false, true, false, false] rfl rfl (any_of HT_.out (by kernel_rfl)) (fun _ _ _ h => h) (Or.inl ⟨by rfl, ?_⟩) ?_ ?_
              rotate_left
              ·exact gs_
              rotate_left
              ·exact pt_
              refine pure_ (i := 12) (N := some 48) (v := ?_) (a' := ?_) #[true, true, true, true, true, true, true, true, true, true, true, true, true, false, false, true, false, false] rfl rfl (any_of HT_.out (by kernel_rfl)) (fun _ _ _ h => h) (Or.inl ⟨by rfl, ?_⟩) ?_ ?_
              rotate_left
              ·exact gs_
              rotate_left
              ·exact pt_
              refine pure_ (i := 13) (N := some 49) (v := ?_) (a' := ?_) #[true, true, true, true, true, true, true, true, true, true, true, true, true, true, false, true, false, false] rfl rfl (any_of HT_.out (by kernel_rfl)) (fun _ _ _ h => h) (Or.inl ⟨by rfl, ?_⟩) ?_ ?_
              rotate_left
              ·exact gs_
              rotate_left
              ·exact pt_
              exact norm_ pa_ (hJ10_15 (gb154) _ ⟨hHeld, (rk_ HO137), (bk_ BK133), (bk_ BK134), (bk_ BK141), (bk_ BK154), GW154.out, GE154.out, NB133_154.out, NB154_133.out, NB134_154.out, NB154_134.out, NB141_154.out, NB154_141.out, (hb_ HB)⟩)
             ·skip
              refine box_step ?hg (N := 6) ?hd (cs := #[.int .i64 0, .int .i64 0]) (t := 28) ?hr ?_; (case hd => rfl); (case hg => rfl); (case hr => exact gr_)
              intro gb153 hg w50 hbox hb
              have HS3_ := (hb.cell (World.block_lt_of_cell? _ _ (hHeld.2.2.2.1))).trans (hHeld.2.2.2.1)
              have HS4_ := (hb.cell (World.block_lt_of_cell? _ _ (hHeld.2.2.2.2))).trans (hHeld.2.2.2.2)
              have n0_ := Aside0.mk (Kd.R_below (rk_ HO137) hb)
              have n1_ := Aside0.mk (bb_ BK133 hb)
              have n2_ := Aside0.mk (bb_ BK134 hb)
              have n3_ := Aside0.mk (bb_ BK141 hb)
              have n4_ := Aside0.mk (bb_ BK154 hb)
              have n5_ := Aside0.mk (below_step (hb_ HB) hb)
              have n6_ := Aside0.mk (hbox)
              have n7_ := Aside0.mk ((hz_ HB hg))
              have n8_ := Aside0.mk ((hz_ HB hg))
              have n9_ := Aside0.mk ((nl_ BK133 hg))
              have n10_ := Aside0.mk ((ng_ BK133 hg))
              have n11_ := Aside0.mk ((nl_ BK134 hg))
              have n12_ := Aside0.mk ((ng_ BK134 hg))
              have n13_ := Aside0.mk ((nl_ BK141 hg))
              have n14_ := Aside0.mk ((ng_ BK141 hg))
              have n15_ := Aside0.mk ((nl_ BK154 hg))
              have n16_ := Aside0.mk ((ng_ BK154 hg))
              clear HO137
              clear BK133
              clear BK134
              clear BK141
              clear BK154
              clear HB
              have HO137 := n0_
              have BK133 := n1_
              have BK134 := n2_
              have BK141 := n3_
              have BK154 := n4_
              have HB := n5_
              have BK153 := n6_
              have GW153 := n7_
              have GE153 := n8_
              have NB133_153 := n9_
              have NB153_133 := n10_
              have NB134_153 := n11_
              have NB153_134 := n12_
              have NB141_153 := n13_
              have NB153_141 := n14_
              have NB154_153 := n15_
              have NB153_154 := n16_
              clear n0_ n1_ n2_ n3_ n4_ n5_ n6_ n7_ n8_ n9_ n10_ n11_ n12_ n13_ n14_ n15_ n16_
              clear hb hbox hg
              refine hK.out _ _ ⟨(blk_cell BK133.out 0).trans rfl, (blk_cell BK133.out 1).trans rfl, (blk_cell BK133.out 2).trans rfl, HS3_, HS4_⟩ (fun hHeld => ?_)
              clear hK K
              refine norm_ (a' := ?_) ?_ ?_
              rotate_left
              ·show Act.put _ (some 6) _ = _
               simp only [Act.put, List.setIfInBounds_toArray, List.set_cons_zero, List.set_cons_succ, i64_w, i32_w]
               rfl
              exact norm_ pa_ (hJ14_15 (gb153, gb154) _ ⟨hHeld, (rk_ HO137), (bk_ BK133), (bk_ BK134), (bk_ BK141), (bk_ BK153), (bk_ BK154), GW153.out, GE153.out, NB133_153.out, NB153_133.out, NB134_153.out, NB153_134.out, NB141_153.out, NB153_141.out, NB154_153.out, NB153_154.out, GW154.out, GE154.out, NB133_154.out, NB154_133.out, NB134_154.out, NB154_134.out, NB141_154.out, NB154_141.out, (hb_ HB)⟩)
           ·skip
            rintro gb153 w49 ⟨hS_, h0_, h1_, h2_, h3_, h4_, h5_, h6_, h7_, h8_, h9_, h10_, h11_, h12_, h13_⟩
            have n0_ : Aside0 (Kd.R (Kd.int .i64) 3 w49 w.heap.size (fun _ => True) (.slice (some ad147) t135.length co45) t135) := ⟨h0_⟩
            have n1_ : Aside0 (w49.heap[gb133]? = some (.cells #[.slice A0_0 l0_0.length c0_0, .slice A0_1 l0_1.length c0_1, .slice A0_2 l0_2.length c0_2] 24 (0, 0))) := ⟨h1_⟩
            have n2_ : Aside0 (w49.heap[gb134]? = some (.cells #[.int .i64 0, .int .i64 0, .int .i64 0, .int .i64 0, .int .i64 0, .int .i64 0] 50 (0, 0))) := ⟨h2_⟩
            have n3_ : Aside0 (w49.heap[gb141]? = some (.cells #[.int .i64 t138, .int .i64 t139, .int .i64 t140] 105 (0, 0))) := ⟨h3_⟩
            have n4_ : Aside0 (w49.heap[gb153]? = some (.cells #[.int .i64 0, .int .i64 0] 28 (0, 0))) := ⟨h4_⟩
            have n5_ : Aside0 (w.heap.size ≤ gb153) := ⟨h5_⟩
            have n6_ : Aside0 (w.heap.size ≤ gb153) := ⟨h6_⟩
            have n7_ : Aside0 (gb133 ≠ gb153) := ⟨h7_⟩
            have n8_ : Aside0 (gb153 ≠ gb133) := ⟨h8_⟩
            have n9_ : Aside0 (gb134 ≠ gb153) := ⟨h9_⟩
            have n10_ : Aside0 (gb153 ≠ gb134) := ⟨h10_⟩
            have n11_ : Aside0 (gb141 ≠ gb153) := ⟨h11_⟩
            have n12_ : Aside0 (gb153 ≠ gb141) := ⟨h12_⟩
            have n13_ : Aside0 (Below w.heap.size w w49) := ⟨h13_⟩
            clear HO137
            clear BK133
            clear BK134
            clear BK141
            clear HB
            clear h0_ h1_ h2_ h3_ h4_ h5_ h6_ h7_ h8_ h9_ h10_ h11_ h12_ h13_
            have HO137 := n0_
            have BK133 := n1_
            have BK134 := n2_
            have BK141 := n3_
            have BK153 := n4_
            have GW153 := n5_
            have GE153 := n6_
            have NB133_153 := n7_
            have NB153_133 := n8_
            have NB134_153 := n9_
            have NB153_134 := n10_
            have NB141_153 := n11_
            have NB153_141 := n12_
            have HB := n13_
            clear n0_ n1_ n2_ n3_ n4_ n5_ n6_ n7_ n8_ n9_ n10_ n11_ n12_ n13_
            have hHeld : w49.cell? ⟨gb133, 0, none⟩ = some (.slice A0_0 l0_0.length c0_0) ∧ w49.cell? ⟨gb133, 1, none⟩ = some (.slice A0_1 l0_1.length c0_1) ∧ w49.cell? ⟨gb133, 2, none⟩ = some (.slice A0_2 l0_2.length c0_2) ∧ w49.cell? (ad147.add ((ji29)).toNat) = some (.int .i64 (rd t135 (ji29))) ∧ w49.cell? (ad147.add ((ji28)).toNat) = some (.int .i64 (rd t135 (ji28))) := hS_
            refine norm_ (a' := ?_) ?_ ?_
            rotate_left
            ·simp only [putAll, Act.put, List.setIfInBounds_toArray, List.set_cons_zero, List.set_cons_succ]
             rfl
            refine two_ (i := 10) (j := 15) (Ni := some 47) (Nj := some 7) #[true, true, true, true, true, true, true, true, true, true, true, false, false, false, true, false, false, false] #[true, true, true, true, true, true, true, true, true, true, false, false, false, false, true, true, false, false] rfl rfl rfl rfl (two_of HT_.out (by kernel_rfl)) di_ di_ (fun K hK => ?_) (fun K hK => ?_)
            ·skip
             refine goes_ Try.func110 (by kernel_rfl) rfl #[.agg #[.slice A0_0 l0_0.length c0_0, .slice A0_1 l0_1.length c0_1, .slice A0_2 l0_2.length c0_2], .int .i64 (rd t135 (ji29)), .int .i64 (rd t135 (ji28))] (by rfl) rfl rfl (by (try simp only [List.map_toArray, List.map_cons, List.map_nil]); first | done | (simp only [hji28, hji29]; rfl) | rfl | (simp only [List.length_drop, List.length_take]; rfl)) ?_
             with_reducible refine (figure_through.calls k _ _ l0_0 _ _ l0_1 _ _ l0_2 (rd t135 (ji29)) (rd t135 (ji28)) t149 t150 t151 t152 _ ?side1 ?side2 ?side3 ?side4 ?side5 ?side6 A34.out).mono ?_
             (case side1 => exact cb_ (Kd.C_below HR0_0.out HB.out))
             (case side2 => exact HC0_0.out)
             (case side3 => exact cb_ (Kd.C_below HR0_1.out HB.out))
             (case side4 => exact HC0_1.out)
             (case side5 => exact cb_ (Kd.C_below HR0_2.out HB.out))
             (case side6 => exact HC0_2.out)
             rintro e w50 ⟨rfl, hb⟩
             have HS3_ := (hb.cell (World.block_lt_of_cell? _ _ (hHeld.2.2.2.1))).trans (hHeld.2.2.2.1)
             have HS4_ := (hb.cell (World.block_lt_of_cell? _ _ (hHeld.2.2.2.2))).trans (hHeld.2.2.2.2)
             refine ⟨_, rfl, ?_⟩
             have n0_ := Aside0.mk (Kd.R_below (rk_ HO137) hb)
             have n1_ := Aside0.mk (bb_ BK133 hb)
             have n2_ := Aside0.mk (bb_ BK134 hb)
             have n3_ := Aside0.mk (bb_ BK141 hb)
             have n4_ := Aside0.mk (bb_ BK153 hb)
             have n5_ := Aside0.mk (below_step (hb_ HB) hb)
             clear HO137
             clear BK133
             clear BK134
             clear BK141
             clear BK153
             clear HB
             have HO137 := n0_
             have BK133 := n1_
             have BK134 := n2_
             have BK141 := n3_
             have BK153 := n4_
             have HB := n5_
             clear n0_ n1_ n2_ n3_ n4_ n5_
             (try clear hb)
             (try clear hb2)
             (try clear hk)
             (try clear hi)
             refine hK.out _ _ ⟨(blk_cell BK133.out 0).trans rfl, (blk_cell BK133.out 1).trans rfl, (blk_cell BK133.out 2).trans rfl, HS3_, HS4_⟩ (fun hHeld => ?_)
             clear hK K
             refine norm_ (a' := ?_) ?_ ?_
             rotate_left
             ·show Act.put _ (some 47) _ = _
              simp only [Act.put, List.setIfInBounds_toArray, List.set_cons_zero, List.set_cons_succ, i64_w, i32_w]
              rfl
             refine pure_ (i := 11) (N := some 36) (v := ?_) (a' := ?_) #[true, true, true, true, true, true, true, true, true, true, true, true, false, false, true, false, false, false] rfl rfl (any_of HT_.out (by kernel_rfl)) (fun _ _ _ h => h) (Or.inl ⟨by rfl, ?_⟩) ?_ ?_
             rotate_left
             ·exact gs_
             rotate_left
             ·exact pt_
             refine pure_ (i := 12) (N := some 48) (v := ?_) (a' := ?_) #[true, true, true, true, true, true, true, true, true, true, true, true, true, false, true, false, false, false] rfl rfl (any_of HT_.out (by kernel_rfl)) (fun _ _ _ h => h) (Or.inl ⟨by rfl, ?_⟩) ?_ ?_
             rotate_left
             ·exact gs_
             rotate_left
             ·exact pt_
             refine pure_ (i := 13) (N := some 49) (v := ?_) (a' := ?_) #[true, true, true, true, true, true, true, true, true, true, true, true, true, true, true, false, false, false] rfl rfl (any_of HT_.out (by kernel_rfl)) (fun _ _ _ h => h) (Or.inl ⟨by rfl, ?_⟩) ?_ ?_
             rotate_left
             ·exact gs_
             rotate_left
             ·exact pt_
             exact norm_ pa_ (hJ10_14 (gb153) _ ⟨hHeld, (rk_ HO137), (bk_ BK133), (bk_ BK134), (bk_ BK141), (bk_ BK153), GW153.out, GE153.out, NB133_153.out, NB153_133.out, NB134_153.out, NB153_134.out, NB141_153.out, NB153_141.out, (hb_ HB)⟩)
            ·skip
             refine box_step ?hg (N := 7) ?hd (cs := #[.int .i64 0, .int .i64 0]) (t := 28) ?hr ?_; (case hd => rfl); (case hg => rfl); (case hr => exact gr_)
             intro gb154 hg w50 hbox hb
             have HS3_ := (hb.cell (World.block_lt_of_cell? _ _ (hHeld.2.2.2.1))).trans (hHeld.2.2.2.1)
             have HS4_ := (hb.cell (World.block_lt_of_cell? _ _ (hHeld.2.2.2.2))).trans (hHeld.2.2.2.2)
             have n0_ := Aside0.mk (Kd.R_below (rk_ HO137) hb)
             have n1_ := Aside0.mk (bb_ BK133 hb)
             have n2_ := Aside0.mk (bb_ BK134 hb)
             have n3_ := Aside0.mk (bb_ BK141 hb)
             have n4_ := Aside0.mk (bb_ BK153 hb)
             have n5_ := Aside0.mk (below_step (hb_ HB) hb)
             have n6_ := Aside0.mk (hbox)
             have n7_ := Aside0.mk ((hz_ HB hg))
             have n8_ := Aside0.mk ((hz_ HB hg))
             have n9_ := Aside0.mk ((nl_ BK133 hg))
             have n10_ := Aside0.mk ((ng_ BK133 hg))
             have n11_ := Aside0.mk ((nl_ BK134 hg))
             have n12_ := Aside0.mk ((ng_ BK134 hg))
             have n13_ := Aside0.mk ((nl_ BK141 hg))
             have n14_ := Aside0.mk ((ng_ BK141 hg))
             have n15_ := Aside0.mk ((nl_ BK153 hg))
             have n16_ := Aside0.mk ((ng_ BK153 hg))
             clear HO137
             clear BK133
             clear BK134
             clear BK141
             clear BK153
             clear HB
             have HO137 := n0_
             have BK133 := n1_
             have BK134 := n2_
             have BK141 := n3_
             have BK153 := n4_
             have HB := n5_
             have BK154 := n6_
             have GW154 := n7_
             have GE154 := n8_
             have NB133_154 := n9_
             have NB154_133 := n10_
             have NB134_154 := n11_
             have NB154_134 := n12_
             have NB141_154 := n13_
             have NB154_141 := n14_
             have NB153_154 := n15_
             have NB154_153 := n16_
             clear n0_ n1_ n2_ n3_ n4_ n5_ n6_ n7_ n8_ n9_ n10_ n11_ n12_ n13_ n14_ n15_ n16_
             clear hb hbox hg
             refine hK.out _ _ ⟨(blk_cell BK133.out 0).trans rfl, (blk_cell BK133.out 1).trans rfl, (blk_cell BK133.out 2).trans rfl, HS3_, HS4_⟩ (fun hHeld => ?_)
             clear hK K
             refine norm_ (a' := ?_) ?_ ?_
             rotate_left
             ·show Act.put _ (some 7) _ = _
              simp only [Act.put, List.setIfInBounds_toArray, List.set_cons_zero, List.set_cons_succ, i64_w, i32_w]
              rfl
             exact norm_ pa_ (hJ14_15 (gb153, gb154) _ ⟨hHeld, (rk_ HO137), (bk_ BK133), (bk_ BK134), (bk_ BK141), (bk_ BK153), (bk_ BK154), GW153.out, GE153.out, NB133_153.out, NB153_133.out, NB134_153.out, NB153_134.out, NB141_153.out, NB153_141.out, NB154_153.out, NB153_154.out, GW154.out, GE154.out, NB133_154.out, NB154_133.out, NB134_154.out, NB154_134.out, NB141_154.out, NB154_141.out, (hb_ HB)⟩)
          ·skip
           rintro _ w49 ⟨hS_, h0_, h1_, h2_, h3_, h4_⟩
           have n0_ : Aside0 (Kd.R (Kd.int .i64) 3 w49 w.heap.size (fun _ => True) (.slice (some ad147) t135.length co45) t135) := ⟨h0_⟩
           have n1_ : Aside0 (w49.heap[gb133]? = some (.cells #[.slice A0_0 l0_0.length c0_0, .slice A0_1 l0_1.length c0_1, .slice A0_2 l0_2.length c0_2] 24 (0, 0))) := ⟨h1_⟩
           have n2_ : Aside0 (w49.heap[gb134]? = some (.cells #[.int .i64 0, .int .i64 0, .int .i64 0, .int .i64 0, .int .i64 0, .int .i64 0] 50 (0, 0))) := ⟨h2_⟩
           have n3_ : Aside0 (w49.heap[gb141]? = some (.cells #[.int .i64 t138, .int .i64 t139, .int .i64 t140] 105 (0, 0))) := ⟨h3_⟩
           have n4_ : Aside0 (Below w.heap.size w w49) := ⟨h4_⟩
           clear HO137
           clear BK133
           clear BK134
           clear BK141
           clear HB
           clear h0_ h1_ h2_ h3_ h4_
           have HO137 := n0_
           have BK133 := n1_
           have BK134 := n2_
           have BK141 := n3_
           have HB := n4_
           clear n0_ n1_ n2_ n3_ n4_
           have hHeld : w49.cell? ⟨gb133, 0, none⟩ = some (.slice A0_0 l0_0.length c0_0) ∧ w49.cell? ⟨gb133, 1, none⟩ = some (.slice A0_1 l0_1.length c0_1) ∧ w49.cell? ⟨gb133, 2, none⟩ = some (.slice A0_2 l0_2.length c0_2) ∧ w49.cell? (ad147.add ((ji29)).toNat) = some (.int .i64 (rd t135 (ji29))) ∧ w49.cell? (ad147.add ((ji28)).toNat) = some (.int .i64 (rd t135 (ji28))) := hS_
           refine norm_ (a' := ?_) ?_ ?_
           rotate_left
           ·simp only [putAll, Act.put, List.setIfInBounds_toArray, List.set_cons_zero, List.set_cons_succ]
            rfl
           refine two_ (i := 14) (j := 15) (Ni := some 6) (Nj := some 7) #[true, true, true, true, true, true, true, true, true, true, true, true, true, true, true, false, false, false] #[true, true, true, true, true, true, true, true, true, true, true, true, true, true, false, true, false, false] rfl rfl rfl rfl (two_of HT_.out (by kernel_rfl)) di_ di_ (fun K hK => ?_) (fun K hK => ?_)
           ·skip
            refine box_step ?hg (N := 6) ?hd (cs := #[.int .i64 0, .int .i64 0]) (t := 28) ?hr ?_; (case hd => rfl); (case hg => rfl); (case hr => exact gr_)
            intro gb153 hg w50 hbox hb
            have HS3_ := (hb.cell (World.block_lt_of_cell? _ _ (hHeld.2.2.2.1))).trans (hHeld.2.2.2.1)
            have HS4_ := (hb.cell (World.block_lt_of_cell? _ _ (hHeld.2.2.2.2))).trans (hHeld.2.2.2.2)
            have n0_ := Aside0.mk (Kd.R_below (rk_ HO137) hb)
            have n1_ := Aside0.mk (bb_ BK133 hb)
            have n2_ := Aside0.mk (bb_ BK134 hb)
            have n3_ := Aside0.mk (bb_ BK141 hb)
            have n4_ := Aside0.mk (below_step (hb_ HB) hb)
            have n5_ := Aside0.mk (hbox)
            have n6_ := Aside0.mk ((hz_ HB hg))
            have n7_ := Aside0.mk ((hz_ HB hg))
            have n8_ := Aside0.mk ((nl_ BK133 hg))
            have n9_ := Aside0.mk ((ng_ BK133 hg))
            have n10_ := Aside0.mk ((nl_ BK134 hg))
            have n11_ := Aside0.mk ((ng_ BK134 hg))
            have n12_ := Aside0.mk ((nl_ BK141 hg))
            have n13_ := Aside0.mk ((ng_ BK141 hg))
            clear HO137
            clear BK133
            clear BK134
            clear BK141
            clear HB
            have HO137 := n0_
            have BK133 := n1_
            have BK134 := n2_
            have BK141 := n3_
            have HB := n4_
            have BK153 := n5_
            have GW153 := n6_
            have GE153 := n7_
            have NB133_153 := n8_
            have NB153_133 := n9_
            have NB134_153 := n10_
            have NB153_134 := n11_
            have NB141_153 := n12_
            have NB153_141 := n13_
            clear n0_ n1_ n2_ n3_ n4_ n5_ n6_ n7_ n8_ n9_ n10_ n11_ n12_ n13_
            clear hb hbox hg
            refine hK.out _ _ ⟨(blk_cell BK133.out 0).trans rfl, (blk_cell BK133.out 1).trans rfl, (blk_cell BK133.out 2).trans rfl, HS3_, HS4_⟩ (fun hHeld => ?_)
            clear hK K
            refine norm_ (a' := ?_) ?_ ?_
            rotate_left
            ·show Act.put _ (some 6) _ = _
             simp only [Act.put, List.setIfInBounds_toArray, List.set_cons_zero, List.set_cons_succ, i64_w, i32_w]
             rfl
            exact norm_ pa_ (hJ10_14 (gb153) _ ⟨hHeld, (rk_ HO137), (bk_ BK133), (bk_ BK134), (bk_ BK141), (bk_ BK153), GW153.out, GE153.out, NB133_153.out, NB153_133.out, NB134_153.out, NB153_134.out, NB141_153.out, NB153_141.out, (hb_ HB)⟩)
           ·skip
            refine box_step ?hg (N := 7) ?hd (cs := #[.int .i64 0, .int .i64 0]) (t := 28) ?hr ?_; (case hd => rfl); (case hg => rfl); (case hr => exact gr_)
            intro gb154 hg w50 hbox hb
            have HS3_ := (hb.cell (World.block_lt_of_cell? _ _ (hHeld.2.2.2.1))).trans (hHeld.2.2.2.1)
            have HS4_ := (hb.cell (World.block_lt_of_cell? _ _ (hHeld.2.2.2.2))).trans (hHeld.2.2.2.2)
            have n0_ := Aside0.mk (Kd.R_below (rk_ HO137) hb)
            have n1_ := Aside0.mk (bb_ BK133 hb)
            have n2_ := Aside0.mk (bb_ BK134 hb)
            have n3_ := Aside0.mk (bb_ BK141 hb)
            have n4_ := Aside0.mk (below_step (hb_ HB) hb)
            have n5_ := Aside0.mk (hbox)
            have n6_ := Aside0.mk ((hz_ HB hg))
            have n7_ := Aside0.mk ((hz_ HB hg))
            have n8_ := Aside0.mk ((nl_ BK133 hg))
            have n9_ := Aside0.mk ((ng_ BK133 hg))
            have n10_ := Aside0.mk ((nl_ BK134 hg))
            have n11_ := Aside0.mk ((ng_ BK134 hg))
            have n12_ := Aside0.mk ((nl_ BK141 hg))
            have n13_ := Aside0.mk ((ng_ BK141 hg))
            clear HO137
            clear BK133
            clear BK134
            clear BK141
            clear HB
            have HO137 := n0_
            have BK133 := n1_
            have BK134 := n2_
            have BK141 := n3_
            have HB := n4_
            have BK154 := n5_
            have GW154 := n6_
            have GE154 := n7_
            have NB133_154 := n8_
            have NB154_133 := n9_
            have NB134_154 := n10_
            have NB154_134 := n11_
            have NB141_154 := n12_
            have NB154_141 := n13_
            clear n0_ n1_ n2_ n3_ n4_ n5_ n6_ n7_ n8_ n9_ n10_ n11_ n12_ n13_
            clear hb hbox hg
            refine hK.out _ _ ⟨(blk_cell BK133.out 0).trans rfl, (blk_cell BK133.out 1).trans rfl, (blk_cell BK133.out 2).trans rfl, HS3_, HS4_⟩ (fun hHeld => ?_)
            clear hK K
            refine norm_ (a' := ?_) ?_ ?_
            rotate_left
            ·show Act.put _ (some 7) _ = _
             simp only [Act.put, List.setIfInBounds_toArray, List.set_cons_zero, List.set_cons_succ, i64_w, i32_w]
             rfl
            exact norm_ pa_ (hJ10_15 (gb154) _ ⟨hHeld, (rk_ HO137), (bk_ BK133), (bk_ BK134), (bk_ BK141), (bk_ BK154), GW154.out, GE154.out, NB133_154.out, NB154_133.out, NB134_154.out, NB154_134.out, NB141_154.out, NB154_141.out, (hb_ HB)⟩)
         ·skip
          rintro ⟨gb153, gb154⟩ w50 ⟨hS_, h0_, h1_, h2_, h3_, h4_, h5_, h6_, h7_, h8_, h9_, h10_, h11_, h12_, h13_, h14_, h15_, h16_, h17_, h18_, h19_, h20_, h21_, h22_, h23_, h24_⟩
          have n0_ : Aside0 (Kd.R (Kd.int .i64) 3 w50 w.heap.size (fun _ => True) (.slice (some ad147) t135.length co45) t135) := ⟨h0_⟩
          have n1_ : Aside0 (w50.heap[gb133]? = some (.cells #[.slice A0_0 l0_0.length c0_0, .slice A0_1 l0_1.length c0_1, .slice A0_2 l0_2.length c0_2] 24 (0, 0))) := ⟨h1_⟩
          have n2_ : Aside0 (w50.heap[gb134]? = some (.cells #[.int .i64 0, .int .i64 0, .int .i64 0, .int .i64 0, .int .i64 0, .int .i64 0] 50 (0, 0))) := ⟨h2_⟩
          have n3_ : Aside0 (w50.heap[gb141]? = some (.cells #[.int .i64 t138, .int .i64 t139, .int .i64 t140] 105 (0, 0))) := ⟨h3_⟩
          have n4_ : Aside0 (w50.heap[gb153]? = some (.cells #[.int .i64 0, .int .i64 0] 28 (0, 0))) := ⟨h4_⟩
          have n5_ : Aside0 (w50.heap[gb154]? = some (.cells #[.int .i64 0, .int .i64 0] 28 (0, 0))) := ⟨h5_⟩
          have n6_ : Aside0 (w.heap.size ≤ gb153) := ⟨h6_⟩
          have n7_ : Aside0 (w.heap.size ≤ gb153) := ⟨h7_⟩
          have n8_ : Aside0 (gb133 ≠ gb153) := ⟨h8_⟩
          have n9_ : Aside0 (gb153 ≠ gb133) := ⟨h9_⟩
          have n10_ : Aside0 (gb134 ≠ gb153) := ⟨h10_⟩
          have n11_ : Aside0 (gb153 ≠ gb134) := ⟨h11_⟩
          have n12_ : Aside0 (gb141 ≠ gb153) := ⟨h12_⟩
          have n13_ : Aside0 (gb153 ≠ gb141) := ⟨h13_⟩
          have n14_ : Aside0 (gb154 ≠ gb153) := ⟨h14_⟩
          have n15_ : Aside0 (gb153 ≠ gb154) := ⟨h15_⟩
          have n16_ : Aside0 (w.heap.size ≤ gb154) := ⟨h16_⟩
          have n17_ : Aside0 (w.heap.size ≤ gb154) := ⟨h17_⟩
          have n18_ : Aside0 (gb133 ≠ gb154) := ⟨h18_⟩
          have n19_ : Aside0 (gb154 ≠ gb133) := ⟨h19_⟩
          have n20_ : Aside0 (gb134 ≠ gb154) := ⟨h20_⟩
          have n21_ : Aside0 (gb154 ≠ gb134) := ⟨h21_⟩
          have n22_ : Aside0 (gb141 ≠ gb154) := ⟨h22_⟩
          have n23_ : Aside0 (gb154 ≠ gb141) := ⟨h23_⟩
          have n24_ : Aside0 (Below w.heap.size w w50) := ⟨h24_⟩
          clear HO137
          clear BK133
          clear BK134
          clear BK141
          clear HB
          clear h0_ h1_ h2_ h3_ h4_ h5_ h6_ h7_ h8_ h9_ h10_ h11_ h12_ h13_ h14_ h15_ h16_ h17_ h18_ h19_ h20_ h21_ h22_ h23_ h24_
          have HO137 := n0_
          have BK133 := n1_
          have BK134 := n2_
          have BK141 := n3_
          have BK153 := n4_
          have BK154 := n5_
          have GW153 := n6_
          have GE153 := n7_
          have NB133_153 := n8_
          have NB153_133 := n9_
          have NB134_153 := n10_
          have NB153_134 := n11_
          have NB141_153 := n12_
          have NB153_141 := n13_
          have NB154_153 := n14_
          have NB153_154 := n15_
          have GW154 := n16_
          have GE154 := n17_
          have NB133_154 := n18_
          have NB154_133 := n19_
          have NB134_154 := n20_
          have NB154_134 := n21_
          have NB141_154 := n22_
          have NB154_141 := n23_
          have HB := n24_
          clear n0_ n1_ n2_ n3_ n4_ n5_ n6_ n7_ n8_ n9_ n10_ n11_ n12_ n13_ n14_ n15_ n16_ n17_ n18_ n19_ n20_ n21_ n22_ n23_ n24_
          have hHeld : w50.cell? ⟨gb133, 0, none⟩ = some (.slice A0_0 l0_0.length c0_0) ∧ w50.cell? ⟨gb133, 1, none⟩ = some (.slice A0_1 l0_1.length c0_1) ∧ w50.cell? ⟨gb133, 2, none⟩ = some (.slice A0_2 l0_2.length c0_2) ∧ w50.cell? (ad147.add ((ji29)).toNat) = some (.int .i64 (rd t135 (ji29))) ∧ w50.cell? (ad147.add ((ji28)).toNat) = some (.int .i64 (rd t135 (ji28))) := hS_
          refine norm_ (a' := ?_) ?_ ?_
          rotate_left
          ·simp only [putAll, Act.put, List.setIfInBounds_toArray, List.set_cons_zero, List.set_cons_succ]
           rfl
          refine one_ (i := 10) (N := some 47) #[true, true, true, true, true, true, true, true, true, true, true, false, false, false, true, true, false, false] rfl rfl (one_of HT_.out (by kernel_rfl)) di_ (fun K hK => ?_)
          refine goes_ Try.func110 (by kernel_rfl) rfl #[.agg #[.slice A0_0 l0_0.length c0_0, .slice A0_1 l0_1.length c0_1, .slice A0_2 l0_2.length c0_2], .int .i64 (rd t135 (ji29)), .int .i64 (rd t135 (ji28))] (by rfl) rfl rfl (by (try simp only [List.map_toArray, List.map_cons, List.map_nil]); first | done | (simp only [hji28, hji29]; rfl) | rfl | (simp only [List.length_drop, List.length_take]; rfl)) ?_
          with_reducible refine (figure_through.calls k _ _ l0_0 _ _ l0_1 _ _ l0_2 (rd t135 (ji29)) (rd t135 (ji28)) t149 t150 t151 t152 _ ?side1 ?side2 ?side3 ?side4 ?side5 ?side6 A34.out).mono ?_
          (case side1 => exact cb_ (Kd.C_below HR0_0.out HB.out))
          (case side2 => exact HC0_0.out)
          (case side3 => exact cb_ (Kd.C_below HR0_1.out HB.out))
          (case side4 => exact HC0_1.out)
          (case side5 => exact cb_ (Kd.C_below HR0_2.out HB.out))
          (case side6 => exact HC0_2.out)
          rintro e w51 ⟨rfl, hb⟩
          have HS3_ := (hb.cell (World.block_lt_of_cell? _ _ (hHeld.2.2.2.1))).trans (hHeld.2.2.2.1)
          have HS4_ := (hb.cell (World.block_lt_of_cell? _ _ (hHeld.2.2.2.2))).trans (hHeld.2.2.2.2)
          refine ⟨_, rfl, ?_⟩
          have n0_ := Aside0.mk (Kd.R_below (rk_ HO137) hb)
          have n1_ := Aside0.mk (bb_ BK133 hb)
          have n2_ := Aside0.mk (bb_ BK134 hb)
          have n3_ := Aside0.mk (bb_ BK141 hb)
          have n4_ := Aside0.mk (bb_ BK153 hb)
          have n5_ := Aside0.mk (bb_ BK154 hb)
          have n6_ := Aside0.mk (below_step (hb_ HB) hb)
          clear HO137
          clear BK133
          clear BK134
          clear BK141
          clear BK153
          clear BK154
          clear HB
          have HO137 := n0_
          have BK133 := n1_
          have BK134 := n2_
          have BK141 := n3_
          have BK153 := n4_
          have BK154 := n5_
          have HB := n6_
          clear n0_ n1_ n2_ n3_ n4_ n5_ n6_
          (try clear hb)
          (try clear hb2)
          (try clear hk)
          (try clear hi)
          refine hK.out _ _ ⟨(blk_cell BK133.out 0).trans rfl, (blk_cell BK133.out 1).trans rfl, (blk_cell BK133.out 2).trans rfl, HS3_, HS4_⟩ (fun hHeld => ?_)
          clear hK K
          refine norm_ (a' := ?_) ?_ ?_
          rotate_left
          ·show Act.put _ (some 47) _ = _
           simp only [Act.put, List.setIfInBounds_toArray, List.set_cons_zero, List.set_cons_succ, i64_w, i32_w]
           rfl
          refine pure_ (i := 11) (N := some 36) (v := ?_) (a' := ?_) #[true, true, true, true, true, true, true, true, true, true, true, true, false, false, true, true, false, false] rfl rfl (any_of HT_.out (by kernel_rfl)) (fun _ _ _ h => h) (Or.inl ⟨by rfl, ?_⟩) ?_ ?_
          rotate_left
          ·exact gs_
          rotate_left
          ·exact pt_
          refine pure_ (i := 12) (N := some 48) (v := ?_) (a' := ?_) #[true, true, true, true, true, true, true, true, true, true, true, true, true, false, true, true, false, false] rfl rfl (any_of HT_.out (by kernel_rfl)) (fun _ _ _ h => h) (Or.inl ⟨by rfl, ?_⟩) ?_ ?_
          rotate_left
          ·exact gs_
          rotate_left
          ·exact pt_
          refine pure_ (i := 13) (N := some 49) (v := ?_) (a' := ?_) #[true, true, true, true, true, true, true, true, true, true, true, true, true, true, true, true, false, false] rfl rfl (any_of HT_.out (by kernel_rfl)) (fun _ _ _ h => h) (Or.inl ⟨by rfl, ?_⟩) ?_ ?_
          rotate_left
          ·exact gs_
          rotate_left
          ·exact pt_
          exact norm_ pa_ (hJ10_14_15 (gb153, gb154) _ ⟨hHeld, (rk_ HO137), (bk_ BK133), (bk_ BK134), (bk_ BK141), (bk_ BK153), (bk_ BK154), GW153.out, GE153.out, NB133_153.out, NB153_133.out, NB134_153.out, NB153_134.out, NB141_153.out, NB153_141.out, NB154_153.out, NB153_154.out, GW154.out, GE154.out, NB133_154.out, NB154_133.out, NB134_154.out, NB154_134.out, NB141_154.out, NB154_141.out, (hb_ HB)⟩)
        ·skip
         rintro gb154 w50 ⟨hS_, h0_, h1_, h2_, h3_, h4_, h5_, h6_, h7_, h8_, h9_, h10_, h11_, h12_, h13_⟩
         have n0_ : Aside0 (Kd.R (Kd.int .i64) 3 w50 w.heap.size (fun _ => True) (.slice (some ad147) t135.length co45) t135) := ⟨h0_⟩
         have n1_ : Aside0 (w50.heap[gb133]? = some (.cells #[.slice A0_0 l0_0.length c0_0, .slice A0_1 l0_1.length c0_1, .slice A0_2 l0_2.length c0_2] 24 (0, 0))) := ⟨h1_⟩
         have n2_ : Aside0 (w50.heap[gb134]? = some (.cells #[.int .i64 0, .int .i64 0, .int .i64 0, .int .i64 0, .int .i64 0, .int .i64 0] 50 (0, 0))) := ⟨h2_⟩
         have n3_ : Aside0 (w50.heap[gb141]? = some (.cells #[.int .i64 t138, .int .i64 t139, .int .i64 t140] 105 (0, 0))) := ⟨h3_⟩
         have n4_ : Aside0 (w50.heap[gb154]? = some (.cells #[.int .i64 0, .int .i64 0] 28 (0, 0))) := ⟨h4_⟩
         have n5_ : Aside0 (w.heap.size ≤ gb154) := ⟨h5_⟩
         have n6_ : Aside0 (w.heap.size ≤ gb154) := ⟨h6_⟩
         have n7_ : Aside0 (gb133 ≠ gb154) := ⟨h7_⟩
         have n8_ : Aside0 (gb154 ≠ gb133) := ⟨h8_⟩
         have n9_ : Aside0 (gb134 ≠ gb154) := ⟨h9_⟩
         have n10_ : Aside0 (gb154 ≠ gb134) := ⟨h10_⟩
         have n11_ : Aside0 (gb141 ≠ gb154) := ⟨h11_⟩
         have n12_ : Aside0 (gb154 ≠ gb141) := ⟨h12_⟩
         have n13_ : Aside0 (Below w.heap.size w w50) := ⟨h13_⟩
         clear HO137
         clear BK133
         clear BK134
         clear BK141
         clear HB
         clear h0_ h1_ h2_ h3_ h4_ h5_ h6_ h7_ h8_ h9_ h10_ h11_ h12_ h13_
         have HO137 := n0_
         have BK133 := n1_
         have BK134 := n2_
         have BK141 := n3_
         have BK154 := n4_
         have GW154 := n5_
         have GE154 := n6_
         have NB133_154 := n7_
         have NB154_133 := n8_
         have NB134_154 := n9_
         have NB154_134 := n10_
         have NB141_154 := n11_
         have NB154_141 := n12_
         have HB := n13_
         clear n0_ n1_ n2_ n3_ n4_ n5_ n6_ n7_ n8_ n9_ n10_ n11_ n12_ n13_
         have hHeld : w50.cell? ⟨gb133, 0, none⟩ = some (.slice A0_0 l0_0.length c0_0) ∧ w50.cell? ⟨gb133, 1, none⟩ = some (.slice A0_1 l0_1.length c0_1) ∧ w50.cell? ⟨gb133, 2, none⟩ = some (.slice A0_2 l0_2.length c0_2) ∧ w50.cell? (ad147.add ((ji29)).toNat) = some (.int .i64 (rd t135 (ji29))) ∧ w50.cell? (ad147.add ((ji28)).toNat) = some (.int .i64 (rd t135 (ji28))) := hS_
         refine norm_ (a' := ?_) ?_ ?_
         rotate_left
         ·simp only [putAll, Act.put, List.setIfInBounds_toArray, List.set_cons_zero, List.set_cons_succ]
          rfl
         refine one_ (i := 14) (N := some 6) #[true, true, true, true, true, true, true, true, true, true, true, true, true, true, true, true, false, false] rfl rfl (one_of HT_.out (by kernel_rfl)) di_ (fun K hK => ?_)
         refine box_step ?hg (N := 6) ?hd (cs := #[.int .i64 0, .int .i64 0]) (t := 28) ?hr ?_; (case hd => rfl); (case hg => rfl); (case hr => exact gr_)
         intro gb153 hg w51 hbox hb
         have HS3_ := (hb.cell (World.block_lt_of_cell? _ _ (hHeld.2.2.2.1))).trans (hHeld.2.2.2.1)
         have HS4_ := (hb.cell (World.block_lt_of_cell? _ _ (hHeld.2.2.2.2))).trans (hHeld.2.2.2.2)
         have n0_ := Aside0.mk (Kd.R_below (rk_ HO137) hb)
         have n1_ := Aside0.mk (bb_ BK133 hb)
         have n2_ := Aside0.mk (bb_ BK134 hb)
         have n3_ := Aside0.mk (bb_ BK141 hb)
         have n4_ := Aside0.mk (bb_ BK154 hb)
         have n5_ := Aside0.mk (below_step (hb_ HB) hb)
         have n6_ := Aside0.mk (hbox)
         have n7_ := Aside0.mk ((hz_ HB hg))
         have n8_ := Aside0.mk ((hz_ HB hg))
         have n9_ := Aside0.mk ((nl_ BK133 hg))
         have n10_ := Aside0.mk ((ng_ BK133 hg))
         have n11_ := Aside0.mk ((nl_ BK134 hg))
         have n12_ := Aside0.mk ((ng_ BK134 hg))
         have n13_ := Aside0.mk ((nl_ BK141 hg))
         have n14_ := Aside0.mk ((ng_ BK141 hg))
         have n15_ := Aside0.mk ((nl_ BK154 hg))
         have n16_ := Aside0.mk ((ng_ BK154 hg))
         clear HO137
         clear BK133
         clear BK134
         clear BK141
         clear BK154
         clear HB
         have HO137 := n0_
         have BK133 := n1_
         have BK134 := n2_
         have BK141 := n3_
         have BK154 := n4_
         have HB := n5_
         have BK153 := n6_
         have GW153 := n7_
         have GE153 := n8_
         have NB133_153 := n9_
         have NB153_133 := n10_
         have NB134_153 := n11_
         have NB153_134 := n12_
         have NB141_153 := n13_
         have NB153_141 := n14_
         have NB154_153 := n15_
         have NB153_154 := n16_
         clear n0_ n1_ n2_ n3_ n4_ n5_ n6_ n7_ n8_ n9_ n10_ n11_ n12_ n13_ n14_ n15_ n16_
         clear hb hbox hg
         refine hK.out _ _ ⟨(blk_cell BK133.out 0).trans rfl, (blk_cell BK133.out 1).trans rfl, (blk_cell BK133.out 2).trans rfl, HS3_, HS4_⟩ (fun hHeld => ?_)
         clear hK K
         refine norm_ (a' := ?_) ?_ ?_
         rotate_left
         ·show Act.put _ (some 6) _ = _
          simp only [Act.put, List.setIfInBounds_toArray, List.set_cons_zero, List.set_cons_succ, i64_w, i32_w]
          rfl
         exact norm_ pa_ (hJ10_14_15 (gb153, gb154) _ ⟨hHeld, (rk_ HO137), (bk_ BK133), (bk_ BK134), (bk_ BK141), (bk_ BK153), (bk_ BK154), GW153.out, GE153.out, NB133_153.out, NB153_133.out, NB134_153.out, NB153_134.out, NB141_153.out, NB153_141.out, NB154_153.out, NB153_154.out, GW154.out, GE154.out, NB133_154.out, NB154_133.out, NB134_154.out, NB154_134.out, NB141_154.out, NB154_141.out, (hb_ HB)⟩)
       ·skip
        rintro gb153 w50 ⟨hS_, h0_, h1_, h2_, h3_, h4_, h5_, h6_, h7_, h8_, h9_, h10_, h11_, h12_, h13_⟩
        have n0_ : Aside0 (Kd.R (Kd.int .i64) 3 w50 w.heap.size (fun _ => True) (.slice (some ad147) t135.length co45) t135) := ⟨h0_⟩
        have n1_ : Aside0 (w50.heap[gb133]? = some (.cells #[.slice A0_0 l0_0.length c0_0, .slice A0_1 l0_1.length c0_1, .slice A0_2 l0_2.length c0_2] 24 (0, 0))) := ⟨h1_⟩
        have n2_ : Aside0 (w50.heap[gb134]? = some (.cells #[.int .i64 0, .int .i64 0, .int .i64 0, .int .i64 0, .int .i64 0, .int .i64 0] 50 (0, 0))) := ⟨h2_⟩
        have n3_ : Aside0 (w50.heap[gb141]? = some (.cells #[.int .i64 t138, .int .i64 t139, .int .i64 t140] 105 (0, 0))) := ⟨h3_⟩
        have n4_ : Aside0 (w50.heap[gb153]? = some (.cells #[.int .i64 0, .int .i64 0] 28 (0, 0))) := ⟨h4_⟩
        have n5_ : Aside0 (w.heap.size ≤ gb153) := ⟨h5_⟩
        have n6_ : Aside0 (w.heap.size ≤ gb153) := ⟨h6_⟩
        have n7_ : Aside0 (gb133 ≠ gb153) := ⟨h7_⟩
        have n8_ : Aside0 (gb153 ≠ gb133) := ⟨h8_⟩
        have n9_ : Aside0 (gb134 ≠ gb153) := ⟨h9_⟩
        have n10_ : Aside0 (gb153 ≠ gb134) := ⟨h10_⟩
        have n11_ : Aside0 (gb141 ≠ gb153) := ⟨h11_⟩
        have n12_ : Aside0 (gb153 ≠ gb141) := ⟨h12_⟩
        have n13_ : Aside0 (Below w.heap.size w w50) := ⟨h13_⟩
        clear HO137
        clear BK133
        clear BK134
        clear BK141
        clear HB
        clear h0_ h1_ h2_ h3_ h4_ h5_ h6_ h7_ h8_ h9_ h10_ h11_ h12_ h13_
        have HO137 := n0_
        have BK133 := n1_
        have BK134 := n2_
        have BK141 := n3_
        have BK153 := n4_
        have GW153 := n5_
        have GE153 := n6_
        have NB133_153 := n7_
        have NB153_133 := n8_
        have NB134_153 := n9_
        have NB153_134 := n10_
        have NB141_153 := n11_
        have NB153_141 := n12_
        have HB := n13_
        clear n0_ n1_ n2_ n3_ n4_ n5_ n6_ n7_ n8_ n9_ n10_ n11_ n12_ n13_
        have hHeld : w50.cell? ⟨gb133, 0, none⟩ = some (.slice A0_0 l0_0.length c0_0) ∧ w50.cell? ⟨gb133, 1, none⟩ = some (.slice A0_1 l0_1.length c0_1) ∧ w50.cell? ⟨gb133, 2, none⟩ = some (.slice A0_2 l0_2.length c0_2) ∧ w50.cell? (ad147.add ((ji29)).toNat) = some (.int .i64 (rd t135 (ji29))) ∧ w50.cell? (ad147.add ((ji28)).toNat) = some (.int .i64 (rd t135 (ji28))) := hS_
        refine norm_ (a' := ?_) ?_ ?_
        rotate_left
        ·simp only [putAll, Act.put, List.setIfInBounds_toArray, List.set_cons_zero, List.set_cons_succ]
         rfl
        refine one_ (i := 15) (N := some 7) #[true, true, true, true, true, true, true, true, true, true, true, true, true, true, true, true, false, false] rfl rfl (one_of HT_.out (by kernel_rfl)) di_ (fun K hK => ?_)
        refine box_step ?hg (N := 7) ?hd (cs := #[.int .i64 0, .int .i64 0]) (t := 28) ?hr ?_; (case hd => rfl); (case hg => rfl); (case hr => exact gr_)
        intro gb154 hg w51 hbox hb
        have HS3_ := (hb.cell (World.block_lt_of_cell? _ _ (hHeld.2.2.2.1))).trans (hHeld.2.2.2.1)
        have HS4_ := (hb.cell (World.block_lt_of_cell? _ _ (hHeld.2.2.2.2))).trans (hHeld.2.2.2.2)
        have n0_ := Aside0.mk (Kd.R_below (rk_ HO137) hb)
        have n1_ := Aside0.mk (bb_ BK133 hb)
        have n2_ := Aside0.mk (bb_ BK134 hb)
        have n3_ := Aside0.mk (bb_ BK141 hb)
        have n4_ := Aside0.mk (bb_ BK153 hb)
        have n5_ := Aside0.mk (below_step (hb_ HB) hb)
        have n6_ := Aside0.mk (hbox)
        have n7_ := Aside0.mk ((hz_ HB hg))
        have n8_ := Aside0.mk ((hz_ HB hg))
        have n9_ := Aside0.mk ((nl_ BK133 hg))
        have n10_ := Aside0.mk ((ng_ BK133 hg))
        have n11_ := Aside0.mk ((nl_ BK134 hg))
        have n12_ := Aside0.mk ((ng_ BK134 hg))
        have n13_ := Aside0.mk ((nl_ BK141 hg))
        have n14_ := Aside0.mk ((ng_ BK141 hg))
        have n15_ := Aside0.mk ((nl_ BK153 hg))
        have n16_ := Aside0.mk ((ng_ BK153 hg))
        clear HO137
        clear BK133
        clear BK134
        clear BK141
        clear BK153
        clear HB
        have HO137 := n0_
        have BK133 := n1_
        have BK134 := n2_
        have BK141 := n3_
        have BK153 := n4_
        have HB := n5_
        have BK154 := n6_
        have GW154 := n7_
        have GE154 := n8_
        have NB133_154 := n9_
        have NB154_133 := n10_
        have NB134_154 := n11_
        have NB154_134 := n12_
        have NB141_154 := n13_
        have NB154_141 := n14_
        have NB153_154 := n15_
        have NB154_153 := n16_
        clear n0_ n1_ n2_ n3_ n4_ n5_ n6_ n7_ n8_ n9_ n10_ n11_ n12_ n13_ n14_ n15_ n16_
        clear hb hbox hg
        refine hK.out _ _ ⟨(blk_cell BK133.out 0).trans rfl, (blk_cell BK133.out 1).trans rfl, (blk_cell BK133.out 2).trans rfl, HS3_, HS4_⟩ (fun hHeld => ?_)
        clear hK K
        refine norm_ (a' := ?_) ?_ ?_
        rotate_left
        ·show Act.put _ (some 7) _ = _
         simp only [Act.put, List.setIfInBounds_toArray, List.set_cons_zero, List.set_cons_succ, i64_w, i32_w]
         rfl
        exact norm_ pa_ (hJ10_14_15 (gb153, gb154) _ ⟨hHeld, (rk_ HO137), (bk_ BK133), (bk_ BK134), (bk_ BK141), (bk_ BK153), (bk_ BK154), GW153.out, GE153.out, NB133_153.out, NB153_133.out, NB134_153.out, NB153_134.out, NB141_153.out, NB153_141.out, NB154_153.out, NB153_154.out, GW154.out, GE154.out, NB133_154.out, NB154_133.out, NB134_154.out, NB154_134.out, NB141_154.out, NB154_141.out, (hb_ HB)⟩)
      rintro ⟨gb153, gb154⟩ w51 ⟨hS_, h0_, h1_, h2_, h3_, h4_, h5_, h6_, h7_, h8_, h9_, h10_, h11_, h12_, h13_, h14_, h15_, h16_, h17_, h18_, h19_, h20_, h21_, h22_, h23_, h24_⟩
      have n0_ : Aside0 (Kd.R (Kd.int .i64) 3 w51 w.heap.size (fun _ => True) (.slice (some ad147) t135.length co45) t135) := ⟨h0_⟩
      have n1_ : Aside0 (w51.heap[gb133]? = some (.cells #[.slice A0_0 l0_0.length c0_0, .slice A0_1 l0_1.length c0_1, .slice A0_2 l0_2.length c0_2] 24 (0, 0))) := ⟨h1_⟩
      have n2_ : Aside0 (w51.heap[gb134]? = some (.cells #[.int .i64 0, .int .i64 0, .int .i64 0, .int .i64 0, .int .i64 0, .int .i64 0] 50 (0, 0))) := ⟨h2_⟩
      have n3_ : Aside0 (w51.heap[gb141]? = some (.cells #[.int .i64 t138, .int .i64 t139, .int .i64 t140] 105 (0, 0))) := ⟨h3_⟩
      have n4_ : Aside0 (w51.heap[gb153]? = some (.cells #[.int .i64 0, .int .i64 0] 28 (0, 0))) := ⟨h4_⟩
      have n5_ : Aside0 (w51.heap[gb154]? = some (.cells #[.int .i64 0, .int .i64 0] 28 (0, 0))) := ⟨h5_⟩
      have n6_ : Aside0 (w.heap.size ≤ gb153) := ⟨h6_⟩
      have n7_ : Aside0 (w.heap.size ≤ gb153) := ⟨h7_⟩
      have n8_ : Aside0 (gb133 ≠ gb153) := ⟨h8_⟩
      have n9_ : Aside0 (gb153 ≠ gb133) := ⟨h9_⟩
      have n10_ : Aside0 (gb134 ≠ gb153) := ⟨h10_⟩
      have n11_ : Aside0 (gb153 ≠ gb134) := ⟨h11_⟩
      have n12_ : Aside0 (gb141 ≠ gb153) := ⟨h12_⟩
      have n13_ : Aside0 (gb153 ≠ gb141) := ⟨h13_⟩
      have n14_ : Aside0 (gb154 ≠ gb153) := ⟨h14_⟩
      have n15_ : Aside0 (gb153 ≠ gb154) := ⟨h15_⟩
      have n16_ : Aside0 (w.heap.size ≤ gb154) := ⟨h16_⟩
      have n17_ : Aside0 (w.heap.size ≤ gb154) := ⟨h17_⟩
      have n18_ : Aside0 (gb133 ≠ gb154) := ⟨h18_⟩
      have n19_ : Aside0 (gb154 ≠ gb133) := ⟨h19_⟩
      have n20_ : Aside0 (gb134 ≠ gb154) := ⟨h20_⟩
      have n21_ : Aside0 (gb154 ≠ gb134) := ⟨h21_⟩
      have n22_ : Aside0 (gb141 ≠ gb154) := ⟨h22_⟩
      have n23_ : Aside0 (gb154 ≠ gb141) := ⟨h23_⟩
      have n24_ : Aside0 (Below w.heap.size w w51) := ⟨h24_⟩
      clear HO137
      clear BK133
      clear BK134
      clear BK141
      clear HB
      clear h0_ h1_ h2_ h3_ h4_ h5_ h6_ h7_ h8_ h9_ h10_ h11_ h12_ h13_ h14_ h15_ h16_ h17_ h18_ h19_ h20_ h21_ h22_ h23_ h24_
      have HO137 := n0_
      have BK133 := n1_
      have BK134 := n2_
      have BK141 := n3_
      have BK153 := n4_
      have BK154 := n5_
      have GW153 := n6_
      have GE153 := n7_
      have NB133_153 := n8_
      have NB153_133 := n9_
      have NB134_153 := n10_
      have NB153_134 := n11_
      have NB141_153 := n12_
      have NB153_141 := n13_
      have NB154_153 := n14_
      have NB153_154 := n15_
      have GW154 := n16_
      have GE154 := n17_
      have NB133_154 := n18_
      have NB154_133 := n19_
      have NB134_154 := n20_
      have NB154_134 := n21_
      have NB141_154 := n22_
      have NB154_141 := n23_
      have HB := n24_
      clear n0_ n1_ n2_ n3_ n4_ n5_ n6_ n7_ n8_ n9_ n10_ n11_ n12_ n13_ n14_ n15_ n16_ n17_ n18_ n19_ n20_ n21_ n22_ n23_ n24_
      have hHeld : w51.cell? ⟨gb133, 0, none⟩ = some (.slice A0_0 l0_0.length c0_0) ∧ w51.cell? ⟨gb133, 1, none⟩ = some (.slice A0_1 l0_1.length c0_1) ∧ w51.cell? ⟨gb133, 2, none⟩ = some (.slice A0_2 l0_2.length c0_2) ∧ w51.cell? (ad147.add ((ji29)).toNat) = some (.int .i64 (rd t135 (ji29))) ∧ w51.cell? (ad147.add ((ji28)).toNat) = some (.int .i64 (rd t135 (ji28))) := hS_
      refine norm_ (a' := ?_) ?_ ?_
      rotate_left
      ·simp only [putAll, Act.put, List.setIfInBounds_toArray, List.set_cons_zero, List.set_cons_succ]
       rfl
      refine one_ (i := 16) (N := none) #[true, true, true, true, true, true, true, true, true, true, true, true, true, true, true, true, true, false] rfl rfl (one_of HT_.out (by kernel_rfl)) di_ (fun K hK => ?_)
      have hs52 : w51.cell? ⟨gb153, 0, none⟩ = some (.int .i64 0) := (blk_cell BK153.out 0).trans rfl
      have hfs52 := blk_frozen BK153.out 0
      have hns52_0 := NB133_153.out
      have hns52_1 := NB134_153.out
      have hns52_2 := NB141_153.out
      have hns52_4 := NB154_153.out
      have hms52_0 := NB153_133.out
      have hms52_1 := NB153_134.out
      have hms52_2 := NB153_141.out
      have hms52_4 := NB153_154.out
      have hs53 : w51.cell? ⟨gb153, 1, none⟩ = some (.int .i64 0) := (blk_cell BK153.out 1).trans rfl
      have hfs53 := blk_frozen BK153.out 1
      have hns53_0 := NB133_153.out
      have hns53_1 := NB134_153.out
      have hns53_2 := NB141_153.out
      have hns53_4 := NB154_153.out
      have hms53_0 := NB153_133.out
      have hms53_1 := NB153_134.out
      have hms53_2 := NB153_141.out
      have hms53_4 := NB153_154.out
      refine skip_ (w1 := ?_) (by rfl) rfl ?_ ?_
      rotate_left
      ·go_simp
       rfl
      refine hK.out _ _ ⟨((cell_far (p := ⟨gb153, _, none⟩) NB133_153.out _).trans (((cell_far (p := ⟨gb153, _, none⟩) NB133_153.out _).trans (hHeld.1)))), ((cell_far (p := ⟨gb153, _, none⟩) NB133_153.out _).trans (((cell_far (p := ⟨gb153, _, none⟩) NB133_153.out _).trans (hHeld.2.1)))), ((cell_far (p := ⟨gb153, _, none⟩) NB133_153.out _).trans (((cell_far (p := ⟨gb153, _, none⟩) NB133_153.out _).trans (hHeld.2.2.1)))), ((cell_far (p := ⟨gb153, _, none⟩) (ob_ (Kd.R_ne HO137.out BK153.out di_)) _).trans (((cell_far (p := ⟨gb153, _, none⟩) (ob_ (Kd.R_ne HO137.out BK153.out di_)) _).trans (hHeld.2.2.2.1)))), ((cell_far (p := ⟨gb153, _, none⟩) (ob_ (Kd.R_ne HO137.out BK153.out di_)) _).trans (((cell_far (p := ⟨gb153, _, none⟩) (ob_ (Kd.R_ne HO137.out BK153.out di_)) _).trans (hHeld.2.2.2.2))))⟩ (fun hHeld => ?_)
      clear hK K
      refine one_ (i := 17) (N := none) #[true, true, true, true, true, true, true, true, true, true, true, true, true, true, true, true, true, true] rfl rfl (one_of HT_.out (by kernel_rfl)) di_ (fun K hK => ?_)
      have hs54 : w51.cell? ⟨gb154, 0, none⟩ = some (.int .i64 0) := (blk_cell BK154.out 0).trans rfl
      have hfs54 := blk_frozen BK154.out 0
      have hns54_0 := NB133_154.out
      have hns54_1 := NB134_154.out
      have hns54_2 := NB141_154.out
      have hns54_3 := NB153_154.out
      have hms54_0 := NB154_133.out
      have hms54_1 := NB154_134.out
      have hms54_2 := NB154_141.out
      have hms54_3 := NB154_153.out
      have hs55 : w51.cell? ⟨gb154, 1, none⟩ = some (.int .i64 0) := (blk_cell BK154.out 1).trans rfl
      have hfs55 := blk_frozen BK154.out 1
      have hns55_0 := NB133_154.out
      have hns55_1 := NB134_154.out
      have hns55_2 := NB141_154.out
      have hns55_3 := NB153_154.out
      have hms55_0 := NB154_133.out
      have hms55_1 := NB154_134.out
      have hms55_2 := NB154_141.out
      have hms55_3 := NB154_153.out
      refine skip_ (w1 := ?_) (by rfl) rfl ?_ ?_
      rotate_left
      ·go_simp
       rfl
      refine hK.out _ _ ⟨((cell_far (p := ⟨gb154, _, none⟩) NB133_154.out _).trans (((cell_far (p := ⟨gb154, _, none⟩) NB133_154.out _).trans (hHeld.1)))), ((cell_far (p := ⟨gb154, _, none⟩) NB133_154.out _).trans (((cell_far (p := ⟨gb154, _, none⟩) NB133_154.out _).trans (hHeld.2.1)))), ((cell_far (p := ⟨gb154, _, none⟩) NB133_154.out _).trans (((cell_far (p := ⟨gb154, _, none⟩) NB133_154.out _).trans (hHeld.2.2.1)))), ((cell_far (p := ⟨gb154, _, none⟩) (ob_ (Kd.R_ne HO137.out BK154.out di_)) _).trans (((cell_far (p := ⟨gb154, _, none⟩) (ob_ (Kd.R_ne HO137.out BK154.out di_)) _).trans (hHeld.2.2.2.1)))), ((cell_far (p := ⟨gb154, _, none⟩) (ob_ (Kd.R_ne HO137.out BK154.out di_)) _).trans (((cell_far (p := ⟨gb154, _, none⟩) (ob_ (Kd.R_ne HO137.out BK154.out di_)) _).trans (hHeld.2.2.2.2))))⟩ (fun hHeld => ?_)
      clear hK K
      refine done_ (done_of HT_.out (by kernel_rfl)) ?_
      try go_wp2
      have n0_ : Aside0 (Kd.R (Kd.int .i64) 3 ((((w51.setCell ⟨gb153, 0, none⟩ (.int .i64 t149)).setCell ⟨gb153, 1, none⟩ (.int .i64 t150)).setCell ⟨gb154, 0, none⟩ (.int .i64 t151)).setCell ⟨gb154, 1, none⟩ (.int .i64 t152)) w.heap.size (fun _ => True) (.slice (some ad147) t135.length co45) t135) := ⟨by (with_reducible repeat (first | apply Kd.R_alloc | apply Kd.R_drewN | apply Kd.R_drew)); exact Kd.R_mono (Kd.R_far (p := ⟨gb154, 1, none⟩) (Kd.R_far (p := ⟨gb154, 0, none⟩) (Kd.R_far (p := ⟨gb153, 1, none⟩) (Kd.R_far (p := ⟨gb153, 0, none⟩) (Kd.R_types (Kd.R_types HO137.out BK153.out di_) BK154.out di_) (fun _ hk => hk.1.2) (.int .i64 t149)) (fun _ hk => hk.1.2) (.int .i64 t150)) (fun _ hk => hk.2) (.int .i64 t151)) (fun _ hk => hk.2) (.int .i64 t152)) (fun _ hk => trivial)⟩
      have n1_ : Aside0 (((((w51.setCell ⟨gb153, 0, none⟩ (.int .i64 t149)).setCell ⟨gb153, 1, none⟩ (.int .i64 t150)).setCell ⟨gb154, 0, none⟩ (.int .i64 t151)).setCell ⟨gb154, 1, none⟩ (.int .i64 t152)).heap[gb133]? = some (.cells #[.slice A0_0 l0_0.length c0_0, .slice A0_1 l0_1.length c0_1, .slice A0_2 l0_2.length c0_2] 24 (0, 0))) := ⟨by (with_reducible repeat (first | refine blk_drewN ?_ _ | refine blk_drew ?_ | refine blk_alloc ?_ _)); refine blk_far ?_ NB133_154.out _; (with_reducible repeat (first | refine blk_drewN ?_ _ | refine blk_drew ?_ | refine blk_alloc ?_ _)); refine blk_far ?_ NB133_154.out _; (with_reducible repeat (first | refine blk_drewN ?_ _ | refine blk_drew ?_ | refine blk_alloc ?_ _)); refine blk_far ?_ NB133_153.out _; (with_reducible repeat (first | refine blk_drewN ?_ _ | refine blk_drew ?_ | refine blk_alloc ?_ _)); refine blk_far ?_ NB133_153.out _; (with_reducible repeat (first | refine blk_drewN ?_ _ | refine blk_drew ?_ | refine blk_alloc ?_ _)); exact BK133.out⟩
      have n2_ : Aside0 (((((w51.setCell ⟨gb153, 0, none⟩ (.int .i64 t149)).setCell ⟨gb153, 1, none⟩ (.int .i64 t150)).setCell ⟨gb154, 0, none⟩ (.int .i64 t151)).setCell ⟨gb154, 1, none⟩ (.int .i64 t152)).heap[gb134]? = some (.cells #[.int .i64 0, .int .i64 0, .int .i64 0, .int .i64 0, .int .i64 0, .int .i64 0] 50 (0, 0))) := ⟨by (with_reducible repeat (first | refine blk_drewN ?_ _ | refine blk_drew ?_ | refine blk_alloc ?_ _)); refine blk_far ?_ NB134_154.out _; (with_reducible repeat (first | refine blk_drewN ?_ _ | refine blk_drew ?_ | refine blk_alloc ?_ _)); refine blk_far ?_ NB134_154.out _; (with_reducible repeat (first | refine blk_drewN ?_ _ | refine blk_drew ?_ | refine blk_alloc ?_ _)); refine blk_far ?_ NB134_153.out _; (with_reducible repeat (first | refine blk_drewN ?_ _ | refine blk_drew ?_ | refine blk_alloc ?_ _)); refine blk_far ?_ NB134_153.out _; (with_reducible repeat (first | refine blk_drewN ?_ _ | refine blk_drew ?_ | refine blk_alloc ?_ _)); exact BK134.out⟩
      have n3_ : Aside0 (((((w51.setCell ⟨gb153, 0, none⟩ (.int .i64 t149)).setCell ⟨gb153, 1, none⟩ (.int .i64 t150)).setCell ⟨gb154, 0, none⟩ (.int .i64 t151)).setCell ⟨gb154, 1, none⟩ (.int .i64 t152)).heap[gb141]? = some (.cells #[.int .i64 t138, .int .i64 t139, .int .i64 t140] 105 (0, 0))) := ⟨by (with_reducible repeat (first | refine blk_drewN ?_ _ | refine blk_drew ?_ | refine blk_alloc ?_ _)); refine blk_far ?_ NB141_154.out _; (with_reducible repeat (first | refine blk_drewN ?_ _ | refine blk_drew ?_ | refine blk_alloc ?_ _)); refine blk_far ?_ NB141_154.out _; (with_reducible repeat (first | refine blk_drewN ?_ _ | refine blk_drew ?_ | refine blk_alloc ?_ _)); refine blk_far ?_ NB141_153.out _; (with_reducible repeat (first | refine blk_drewN ?_ _ | refine blk_drew ?_ | refine blk_alloc ?_ _)); refine blk_far ?_ NB141_153.out _; (with_reducible repeat (first | refine blk_drewN ?_ _ | refine blk_drew ?_ | refine blk_alloc ?_ _)); exact BK141.out⟩
      have n4_ : Aside0 (((((w51.setCell ⟨gb153, 0, none⟩ (.int .i64 t149)).setCell ⟨gb153, 1, none⟩ (.int .i64 t150)).setCell ⟨gb154, 0, none⟩ (.int .i64 t151)).setCell ⟨gb154, 1, none⟩ (.int .i64 t152)).heap[gb153]? = some (.cells #[.int .i64 t149, .int .i64 t150] 28 (0, 0))) := ⟨by (with_reducible repeat (first | refine blk_drewN ?_ _ | refine blk_drew ?_ | refine blk_alloc ?_ _)); refine blk_far ?_ NB153_154.out _; (with_reducible repeat (first | refine blk_drewN ?_ _ | refine blk_drew ?_ | refine blk_alloc ?_ _)); refine blk_far ?_ NB153_154.out _; (with_reducible repeat (first | refine blk_drewN ?_ _ | refine blk_drew ?_ | refine blk_alloc ?_ _)); refine blk_put (cs := #[.int .i64 t149, .int .i64 0]) ?_ 1 _ rfl; (with_reducible repeat (first | refine blk_drewN ?_ _ | refine blk_drew ?_ | refine blk_alloc ?_ _)); refine blk_put (cs := #[.int .i64 0, .int .i64 0]) ?_ 0 _ rfl; (with_reducible repeat (first | refine blk_drewN ?_ _ | refine blk_drew ?_ | refine blk_alloc ?_ _)); exact BK153.out⟩
      have n5_ : Aside0 (((((w51.setCell ⟨gb153, 0, none⟩ (.int .i64 t149)).setCell ⟨gb153, 1, none⟩ (.int .i64 t150)).setCell ⟨gb154, 0, none⟩ (.int .i64 t151)).setCell ⟨gb154, 1, none⟩ (.int .i64 t152)).heap[gb154]? = some (.cells #[.int .i64 t151, .int .i64 t152] 28 (0, 0))) := ⟨by (with_reducible repeat (first | refine blk_drewN ?_ _ | refine blk_drew ?_ | refine blk_alloc ?_ _)); refine blk_put (cs := #[.int .i64 t151, .int .i64 0]) ?_ 1 _ rfl; (with_reducible repeat (first | refine blk_drewN ?_ _ | refine blk_drew ?_ | refine blk_alloc ?_ _)); refine blk_put (cs := #[.int .i64 0, .int .i64 0]) ?_ 0 _ rfl; (with_reducible repeat (first | refine blk_drewN ?_ _ | refine blk_drew ?_ | refine blk_alloc ?_ _)); refine blk_far ?_ NB154_153.out _; (with_reducible repeat (first | refine blk_drewN ?_ _ | refine blk_drew ?_ | refine blk_alloc ?_ _)); refine blk_far ?_ NB154_153.out _; (with_reducible repeat (first | refine blk_drewN ?_ _ | refine blk_drew ?_ | refine blk_alloc ?_ _)); exact BK154.out⟩
      have n6_ : Aside0 (Below w.heap.size w ((((w51.setCell ⟨gb153, 0, none⟩ (.int .i64 t149)).setCell ⟨gb153, 1, none⟩ (.int .i64 t150)).setCell ⟨gb154, 0, none⟩ (.int .i64 t151)).setCell ⟨gb154, 1, none⟩ (.int .i64 t152))) := ⟨hb_ HB⟩
      (try clear HO137)
      (try clear BK133)
      (try clear BK134)
      (try clear BK141)
      (try clear BK153)
      (try clear BK154)
      (try clear HB)
      generalize ((((w51.setCell ⟨gb153, 0, none⟩ (.int .i64 t149)).setCell ⟨gb153, 1, none⟩ (.int .i64 t150)).setCell ⟨gb154, 0, none⟩ (.int .i64 t151)).setCell ⟨gb154, 1, none⟩ (.int .i64 t152)) = w56 at n0_ n1_ n2_ n3_ n4_ n5_ n6_ ⊢
      have HO137 := n0_
      have BK133 := n1_
      have BK134 := n2_
      have BK141 := n3_
      have BK153 := n4_
      have BK154 := n5_
      have HB := n6_
      clear n0_ n1_ n2_ n3_ n4_ n5_ n6_
      have n0_ := Aside0.mk (Kd.R_drew HO137.out)
      have n1_ := Aside0.mk (blk_drew BK133.out)
      have n2_ := Aside0.mk (blk_drew BK134.out)
      have n3_ := Aside0.mk (blk_drew BK141.out)
      have n4_ := Aside0.mk (blk_drew BK153.out)
      have n5_ := Aside0.mk (blk_drew BK154.out)
      have n6_ := Aside0.mk (below_drew1 HB.out)
      clear HO137
      clear BK133
      clear BK134
      clear BK141
      clear BK153
      clear BK154
      clear HB
      have HO137 := n0_
      have BK133 := n1_
      have BK134 := n2_
      have BK141 := n3_
      have BK153 := n4_
      have BK154 := n5_
      have HB := n6_
      clear n0_ n1_ n2_ n3_ n4_ n5_ n6_
      have p155 : 0 ≤ ((ji29) : Int) := of_decide_eq_true as_
      have q155 : (ji29) < (t135.length : Int) := of_decide_eq_true as_
      obtain ⟨ad155, e155, hx155_0⟩ := Kd.at_int (Kd.R_reads' HO137.out).2.2 (ji29) p155 q155
      obtain rfl : ad147 = ad155 := (by injection e155)
      replace p155 := eq_true p155
      replace q155 := eq_true q155
      have p156 : 0 ≤ ((ji28) : Int) := of_decide_eq_true as_
      have q156 : (ji28) < (t135.length : Int) := of_decide_eq_true as_
      obtain ⟨ad156, e156, hx156_0⟩ := Kd.at_int (Kd.R_reads' HO137.out).2.2 (ji28) p156 q156
      obtain rfl : ad147 = ad156 := (by injection e156)
      replace p156 := eq_true p156
      replace q156 := eq_true q156
      refine start_ (n := 14) (S := fun w' => w'.cell? ⟨gb153, 0, none⟩ = some (.int .i64 t149) ∧ w'.cell? ⟨gb153, 1, none⟩ = some (.int .i64 t150) ∧ w'.cell? ⟨gb154, 0, none⟩ = some (.int .i64 t151) ∧ w'.cell? ⟨gb154, 1, none⟩ = some (.int .i64 t152) ∧ w'.cell? (ad147.add ((ji29)).toNat) = some (.int .i64 (rd t135 (ji29))) ∧ w'.cell? (ad147.add ((ji28)).toNat) = some (.int .i64 (rd t135 (ji28)))) (ds := []) #[false, false, false, false, false, false, false, false, false, false, false, false, false, false] (by kernel_rfl) rfl rfl ⟨(blk_cell BK153.out 0).trans rfl, (blk_cell BK153.out 1).trans rfl, (blk_cell BK154.out 0).trans rfl, (blk_cell BK154.out 1).trans rfl, hx155_0, hx156_0⟩ (fun hHeld => ?_); refine with_tabW figure_reference.tab6 figure_reference.bits6 (fun HT_ HW_ => ?_)
      generalize w56.drew = w57 at HO137 BK133 BK134 BK141 BK153 BK154 HB hx155_0 hx156_0 hHeld ⊢
      refine pure_ (i := 2) (N := some 52) (v := ?_) (a' := ?_) #[false, false, true, false, false, false, false, false, false, false, false, false, false, false] rfl rfl (any_of HT_.out (by kernel_rfl)) (fun _ _ _ h => h) (Or.inl ⟨by rfl, ?_⟩) ?_ ?_
      rotate_left
      ·exact gs_
      rotate_left
      ·exact pt_
      refine pure_ (i := 3) (N := some 53) (v := ?_) (a' := ?_) #[false, false, true, true, false, false, false, false, false, false, false, false, false, false] rfl rfl (any_of HT_.out (by kernel_rfl)) (fun _ _ _ h => h) (Or.inl ⟨by rfl, ?_⟩) ?_ ?_
      rotate_left
      ·exact gs_
      rotate_left
      ·exact pt_
      refine pure_ (i := 4) (N := some 54) (v := ?_) (a' := ?_) #[false, false, true, true, true, false, false, false, false, false, false, false, false, false] rfl rfl (any_of HT_.out (by kernel_rfl)) (fun _ _ _ h => h) (Or.inl ⟨by rfl, ?_⟩) ?_ ?_
      rotate_left
      ·exact gs_
      rotate_left
      ·exact pt_
      refine pure_ (i := 5) (N := some 55) (v := ?_) (a' := ?_) #[false, false, true, true, true, true, false, false, false, false, false, false, false, false] rfl rfl (any_of HT_.out (by kernel_rfl)) (fun _ _ _ h => h) (Or.inl ⟨by rfl, ?_⟩) ?_ ?_
      rotate_left
      ·exact gs_
      rotate_left
      ·exact pt_
      refine pure_ (i := 7) (N := some 57) (v := ?_) (a' := ?_) #[false, false, true, true, true, true, false, true, false, false, false, false, false, false] rfl rfl (any_of HT_.out (by kernel_rfl)) (fun _ _ _ h => h) (Or.inl ⟨by rfl, ?_⟩) ?_ ?_
      rotate_left
      ·exact gs_
      rotate_left
      ·exact pt_
      refine pure_ (i := 8) (N := some 58) (v := ?_) (a' := ?_) #[false, false, true, true, true, true, false, true, true, false, false, false, false, false] rfl rfl (any_of HT_.out (by kernel_rfl)) (fun _ _ _ h => h) (Or.inl ⟨by rfl, ?_⟩) ?_ ?_
      rotate_left
      ·exact gs_
      rotate_left
      ·exact pt_
      refine pure_ (i := 9) (N := some 59) (v := ?_) (a' := ?_) #[false, false, true, true, true, true, false, true, true, true, false, false, false, false] rfl rfl (any_of HT_.out (by kernel_rfl)) (fun _ _ _ h => h) (Or.inl ⟨by rfl, ?_⟩) ?_ ?_
      rotate_left
      ·exact gs_
      rotate_left
      ·exact pt_
      refine take_ (i := 0) (N := some 50) (v := ?_) (a' := ?_) #[true, false, true, true, true, true, false, true, true, true, false, false, false, false] rfl rfl (take_ofW HT_.out HW_.out (by kernel_rfl)) (fun _ _ _ h => h) (Or.inl ⟨by rfl, ?_⟩) hHeld ?_ ?_
      rotate_left
      ·rintro w' ⟨s0, s1, s2, s3, s4, s5⟩; go_simp; with_reducible rfl
      rotate_left
      ·exact pt_
      refine take_ (i := 1) (N := some 51) (v := ?_) (a' := ?_) #[true, true, true, true, true, true, false, true, true, true, false, false, false, false] rfl rfl (take_ofW HT_.out HW_.out (by kernel_rfl)) (fun _ _ _ h => h) (Or.inl ⟨by rfl, ?_⟩) hHeld ?_ ?_
      rotate_left
      ·rintro w' ⟨s0, s1, s2, s3, s4, s5⟩; go_simp; with_reducible rfl
      rotate_left
      ·exact pt_
      refine take_ (i := 6) (N := some 56) (v := ?_) (a' := ?_) #[true, true, true, true, true, true, true, true, true, true, false, false, false, false] rfl rfl (take_ofW HT_.out HW_.out (by kernel_rfl)) (fun _ _ _ h => h) (Or.inl ⟨by rfl, ?_⟩) hHeld ?_ ?_
      rotate_left
      ·rintro w' ⟨s0, s1, s2, s3, s4, s5⟩; go_simp; with_reducible rfl
      rotate_left
      ·exact pt_
      refine take_ (i := 10) (N := some 60) (v := ?_) (a' := ?_) #[true, true, true, true, true, true, true, true, true, true, true, false, false, false] rfl rfl (take_ofW HT_.out HW_.out (by kernel_rfl)) (fun _ _ _ h => h) (Or.inl ⟨by rfl, ?_⟩) hHeld ?_ ?_
      rotate_left
      ·rintro w' ⟨s0, s1, s2, s3, s4, s5⟩; go_simp; with_reducible rfl
      rotate_left
      ·exact pt_
      refine pure_ (i := 11) (N := some 61) (v := ?_) (a' := ?_) #[true, true, true, true, true, true, true, true, true, true, true, true, false, false] rfl rfl (any_of HT_.out (by kernel_rfl)) (fun _ _ _ h => h) (Or.inl ⟨by rfl, ?_⟩) ?_ ?_
      rotate_left
      ·exact gs_
      rotate_left
      ·exact pt_
      refine pure_ (i := 12) (N := some 62) (v := ?_) (a' := ?_) #[true, true, true, true, true, true, true, true, true, true, true, true, true, false] rfl rfl (any_of HT_.out (by kernel_rfl)) (fun _ _ _ h => h) (Or.inl ⟨by rfl, ?_⟩) ?_ ?_
      rotate_left
      ·exact gs_
      rotate_left
      ·exact pt_
      refine one_ (i := 13) (N := none) #[true, true, true, true, true, true, true, true, true, true, true, true, true, true] rfl rfl (one_of HT_.out (by kernel_rfl)) di_ (fun K hK => ?_)
      have hs58 : w57.cell? ⟨gb134, 0, none⟩ = some (.int .i64 0) := (blk_cell BK134.out 0).trans rfl
      have hfs58 := blk_frozen BK134.out 0
      have hns58_0 := NB133_134.out
      have hns58_2 := NB141_134.out
      have hns58_3 := NB153_134.out
      have hns58_4 := NB154_134.out
      have hms58_0 := NB134_133.out
      have hms58_2 := NB134_141.out
      have hms58_3 := NB134_153.out
      have hms58_4 := NB134_154.out
      have hs59 : w57.cell? ⟨gb134, 1, none⟩ = some (.int .i64 0) := (blk_cell BK134.out 1).trans rfl
      have hfs59 := blk_frozen BK134.out 1
      have hns59_0 := NB133_134.out
      have hns59_2 := NB141_134.out
      have hns59_3 := NB153_134.out
      have hns59_4 := NB154_134.out
      have hms59_0 := NB134_133.out
      have hms59_2 := NB134_141.out
      have hms59_3 := NB134_153.out
      have hms59_4 := NB134_154.out
      have hs60 : w57.cell? ⟨gb134, 2, none⟩ = some (.int .i64 0) := (blk_cell BK134.out 2).trans rfl
      have hfs60 := blk_frozen BK134.out 2
      have hns60_0 := NB133_134.out
      have hns60_2 := NB141_134.out
      have hns60_3 := NB153_134.out
      have hns60_4 := NB154_134.out
      have hms60_0 := NB134_133.out
      have hms60_2 := NB134_141.out
      have hms60_3 := NB134_153.out
      have hms60_4 := NB134_154.out
      have hs61 : w57.cell? ⟨gb134, 3, none⟩ = some (.int .i64 0) := (blk_cell BK134.out 3).trans rfl
      have hfs61 := blk_frozen BK134.out 3
      have hns61_0 := NB133_134.out
      have hns61_2 := NB141_134.out
      have hns61_3 := NB153_134.out
      have hns61_4 := NB154_134.out
      have hms61_0 := NB134_133.out
      have hms61_2 := NB134_141.out
      have hms61_3 := NB134_153.out
      have hms61_4 := NB134_154.out
      have hs62 : w57.cell? ⟨gb134, 4, none⟩ = some (.int .i64 0) := (blk_cell BK134.out 4).trans rfl
      have hfs62 := blk_frozen BK134.out 4
      have hns62_0 := NB133_134.out
      have hns62_2 := NB141_134.out
      have hns62_3 := NB153_134.out
      have hns62_4 := NB154_134.out
      have hms62_0 := NB134_133.out
      have hms62_2 := NB134_141.out
      have hms62_3 := NB134_153.out
      have hms62_4 := NB134_154.out
      have hs63 : w57.cell? ⟨gb134, 5, none⟩ = some (.int .i64 0) := (blk_cell BK134.out 5).trans rfl
      have hfs63 := blk_frozen BK134.out 5
      have hns63_0 := NB133_134.out
      have hns63_2 := NB141_134.out
      have hns63_3 := NB153_134.out
      have hns63_4 := NB154_134.out
      have hms63_0 := NB134_133.out
      have hms63_2 := NB134_141.out
      have hms63_3 := NB134_153.out
      have hms63_4 := NB134_154.out
      refine skip_ (w1 := ?_) (by rfl) rfl ?_ ?_
      rotate_left
      ·go_simp
       rfl
      refine hK.out _ _ ⟨((cell_far (p := ⟨gb134, _, none⟩) NB153_134.out _).trans (((cell_far (p := ⟨gb134, _, none⟩) NB153_134.out _).trans (((cell_far (p := ⟨gb134, _, none⟩) NB153_134.out _).trans (((cell_far (p := ⟨gb134, _, none⟩) NB153_134.out _).trans (((cell_far (p := ⟨gb134, _, none⟩) NB153_134.out _).trans (((cell_far (p := ⟨gb134, _, none⟩) NB153_134.out _).trans (hHeld.1)))))))))))), ((cell_far (p := ⟨gb134, _, none⟩) NB153_134.out _).trans (((cell_far (p := ⟨gb134, _, none⟩) NB153_134.out _).trans (((cell_far (p := ⟨gb134, _, none⟩) NB153_134.out _).trans (((cell_far (p := ⟨gb134, _, none⟩) NB153_134.out _).trans (((cell_far (p := ⟨gb134, _, none⟩) NB153_134.out _).trans (((cell_far (p := ⟨gb134, _, none⟩) NB153_134.out _).trans (hHeld.2.1)))))))))))), ((cell_far (p := ⟨gb134, _, none⟩) NB154_134.out _).trans (((cell_far (p := ⟨gb134, _, none⟩) NB154_134.out _).trans (((cell_far (p := ⟨gb134, _, none⟩) NB154_134.out _).trans (((cell_far (p := ⟨gb134, _, none⟩) NB154_134.out _).trans (((cell_far (p := ⟨gb134, _, none⟩) NB154_134.out _).trans (((cell_far (p := ⟨gb134, _, none⟩) NB154_134.out _).trans (hHeld.2.2.1)))))))))))), ((cell_far (p := ⟨gb134, _, none⟩) NB154_134.out _).trans (((cell_far (p := ⟨gb134, _, none⟩) NB154_134.out _).trans (((cell_far (p := ⟨gb134, _, none⟩) NB154_134.out _).trans (((cell_far (p := ⟨gb134, _, none⟩) NB154_134.out _).trans (((cell_far (p := ⟨gb134, _, none⟩) NB154_134.out _).trans (((cell_far (p := ⟨gb134, _, none⟩) NB154_134.out _).trans (hHeld.2.2.2.1)))))))))))), ((cell_far (p := ⟨gb134, _, none⟩) (ob_ (Kd.R_ne HO137.out BK134.out di_)) _).trans (((cell_far (p := ⟨gb134, _, none⟩) (ob_ (Kd.R_ne HO137.out BK134.out di_)) _).trans (((cell_far (p := ⟨gb134, _, none⟩) (ob_ (Kd.R_ne HO137.out BK134.out di_)) _).trans (((cell_far (p := ⟨gb134, _, none⟩) (ob_ (Kd.R_ne HO137.out BK134.out di_)) _).trans (((cell_far (p := ⟨gb134, _, none⟩) (ob_ (Kd.R_ne HO137.out BK134.out di_)) _).trans (((cell_far (p := ⟨gb134, _, none⟩) (ob_ (Kd.R_ne HO137.out BK134.out di_)) _).trans (hHeld.2.2.2.2.1)))))))))))), ((cell_far (p := ⟨gb134, _, none⟩) (ob_ (Kd.R_ne HO137.out BK134.out di_)) _).trans (((cell_far (p := ⟨gb134, _, none⟩) (ob_ (Kd.R_ne HO137.out BK134.out di_)) _).trans (((cell_far (p := ⟨gb134, _, none⟩) (ob_ (Kd.R_ne HO137.out BK134.out di_)) _).trans (((cell_far (p := ⟨gb134, _, none⟩) (ob_ (Kd.R_ne HO137.out BK134.out di_)) _).trans (((cell_far (p := ⟨gb134, _, none⟩) (ob_ (Kd.R_ne HO137.out BK134.out di_)) _).trans (((cell_far (p := ⟨gb134, _, none⟩) (ob_ (Kd.R_ne HO137.out BK134.out di_)) _).trans (hHeld.2.2.2.2.2))))))))))))⟩ (fun hHeld => ?_)
      clear hK K
      refine done_ (done_of HT_.out (by kernel_rfl)) ?_
      try go_wp2
      refine bodyPost_ret (results_cell_row rfl _ _ gb134 50 #[.int .i64 t149, .int .i64 t150, .int .i64 t151, .int .i64 t152, .int .i64 (rd t135 (ji29)), .int .i64 (rd t135 (ji28))] (0, 0) _ rfl (by (with_reducible repeat (first | refine blk_drewN ?_ _ | refine blk_drew ?_ | refine blk_alloc ?_ _)); refine blk_put (cs := #[.int .i64 t149, .int .i64 t150, .int .i64 t151, .int .i64 t152, .int .i64 (rd t135 (ji29)), .int .i64 0]) ?_ 5 _ rfl; (with_reducible repeat (first | refine blk_drewN ?_ _ | refine blk_drew ?_ | refine blk_alloc ?_ _)); refine blk_put (cs := #[.int .i64 t149, .int .i64 t150, .int .i64 t151, .int .i64 t152, .int .i64 0, .int .i64 0]) ?_ 4 _ rfl; (with_reducible repeat (first | refine blk_drewN ?_ _ | refine blk_drew ?_ | refine blk_alloc ?_ _)); refine blk_put (cs := #[.int .i64 t149, .int .i64 t150, .int .i64 t151, .int .i64 0, .int .i64 0, .int .i64 0]) ?_ 3 _ rfl; (with_reducible repeat (first | refine blk_drewN ?_ _ | refine blk_drew ?_ | refine blk_alloc ?_ _)); refine blk_put (cs := #[.int .i64 t149, .int .i64 t150, .int .i64 0, .int .i64 0, .int .i64 0, .int .i64 0]) ?_ 2 _ rfl; (with_reducible repeat (first | refine blk_drewN ?_ _ | refine blk_drew ?_ | refine blk_alloc ?_ _)); refine blk_put (cs := #[.int .i64 t149, .int .i64 0, .int .i64 0, .int .i64 0, .int .i64 0, .int .i64 0]) ?_ 1 _ rfl; (with_reducible repeat (first | refine blk_drewN ?_ _ | refine blk_drew ?_ | refine blk_alloc ?_ _)); refine blk_put (cs := #[.int .i64 0, .int .i64 0, .int .i64 0, .int .i64 0, .int .i64 0, .int .i64 0]) ?_ 0 _ rfl; (with_reducible repeat (first | refine blk_drewN ?_ _ | refine blk_drew ?_ | refine blk_alloc ?_ _)); exact BK134.out) Try.underlying50 rfl (by kernel_rfl)) rfl ?_
      exact ⟨by first | rfl | (simp [errW_none, errW_some] <;> rfl) | (simp only [← hji28, ← hji29]; first | rfl | (simp [errW_none, errW_some] <;> rfl)) | (simp [*, errW_none, errW_some] <;> rfl), hb_ HB⟩
     ·rw [if_neg c33] at H
      exact absurd H (by simp)
    ·rw [if_neg c32] at H
     exact absurd H (by simp)
   ·rw [if_neg c31] at H
    exact absurd H (by simp)
  ·rw [if_neg c30] at H
   exact absurd H (by simp)
def figure_Least.l0 : Nat → Int → Int → List Int → Int → Int → List Int → List Int → List Int → Int → Int → Int → Int → Int → Int → Option (Int × Int × Int)
 | 0, _, _, _, _, _, _, _, _, _, _, _, _, _, _ => none
 | k + 1, x6, x7, x21, x22, x23, x148000, x148001, x148002, x157000, x157001, x157002, x157003, x157004, x157005 => if x23 < x22 then (if 0 ≤ x23 then (if x23 < (x21.length : Int) then ((figure_removal.f x148000 x148001 x148002 x157000 x157001 x157002 x157003 x157004 x157005 x23).bind fun bt158 => (figure_Least.l0 k (wrap64 (x6 + (wrap64 ((rd x21 x23) * bt158.1)))) bt158.2 x21 x22 (wrap64 (x23 + 1)) x148000 x148001 x148002 x157000 x157001 x157002 x157003 x157004 x157005)) else (none)) else (none)) else ((figure_lowest.f k x6 x7).bind fun bt160 => (some (bt160.1, bt160.2, 0)))
def figure_Least.f (k : Nat) (l0_0 : List Int) (l0_1 : List Int) (l0_2 : List Int) : Option (Int × Int × Int) := (figure_CheckMap.f k l0_0 l0_1 l0_2).bind fun t149 => (if t149 = 0 then ((figure_reference.f k l0_0 l0_1 l0_2).bind fun bt150 => (figure_Least.l0 k 0 1 l0_2 (l0_2.length : Int) 0 l0_0 l0_1 l0_2 bt150.1 bt150.2.1 bt150.2.2.1 bt150.2.2.2.1 bt150.2.2.2.2.1 bt150.2.2.2.2.2)) else (some (0, 0, t149)))
theorem figure_Least.mono_l : ∀ k, (∀ y0 y1 y2 y3 y4 y5 y6 y7 y8 y9 y10 y11 y12 y13, LeO (figure_Least.l0 k y0 y1 y2 y3 y4 y5 y6 y7 y8 y9 y10 y11 y12 y13) (figure_Least.l0 (k + 1) y0 y1 y2 y3 y4 y5 y6 y7 y8 y9 y10 y11 y12 y13))
 | 0 => fun _ _ _ _ _ _ _ _ _ _ _ _ _ _ r h => by simp [figure_Least.l0] at h
 | k + 1 => by
  have ih0 := figure_Least.mono_l k
  ·intro y0 y1 y2 y3 y4 y5 y6 y7 y8 y9 y10 y11 y12 y13
   unfold figure_Least.l0
   repeat' first
   | (with_reducible exact ih0 _ _ _ _ _ _ _ _ _ _ _ _ _ _)
   | (with_reducible exact figure_CheckMap.mono _ _ _ _)
   | (with_reducible exact figure_lowest.mono _ _ _)
   | (with_reducible exact figure_reference.mono _ _ _ _)
   | (with_reducible exact LeO.refl _)
   | (with_reducible exact LeO.none _)
   | (with_reducible refine LeO.ite ?_ ?_)
   | (with_reducible refine LeO.bind ?_ (fun _ => ?_))
   | exact ih0 _ _ _ _ _ _ _ _ _ _ _ _ _ _
   | exact figure_CheckMap.mono _ _ _ _
   | exact figure_lowest.mono _ _ _
   | exact figure_reference.mono _ _ _ _
   | exact LeO.none _
   | refine LeO.ite ?_ ?_
   | refine LeO.bind ?_ (fun _ => ?_)
theorem figure_Least.mono : ∀ a0 a1 a2 k, LeO (figure_Least.f k a0 a1 a2) (figure_Least.f (k + 1) a0 a1 a2) := by
 intro a0 a1 a2 k
 have ih0 := figure_Least.mono_l k
 unfold figure_Least.f
 repeat' first
   | (with_reducible exact ih0 _ _ _ _ _ _ _ _ _ _ _ _ _ _)
   | (with_reducible exact figure_CheckMap.mono _ _ _ _)
   | (with_reducible exact figure_lowest.mono _ _ _)
   | (with_reducible exact figure_reference.mono _ _ _ _)
   | (with_reducible exact LeO.refl _)
   | (with_reducible exact LeO.none _)
   | (with_reducible refine LeO.ite ?_ ?_)
   | (with_reducible refine LeO.bind ?_ (fun _ => ?_))
   | exact ih0 _ _ _ _ _ _ _ _ _ _ _ _ _ _
   | exact figure_CheckMap.mono _ _ _ _
   | exact figure_lowest.mono _ _ _
   | exact figure_reference.mono _ _ _ _
   | exact LeO.none _
   | refine LeO.ite ?_ ?_
   | refine LeO.bind ?_ (fun _ => ?_)
set_option maxHeartbeats 8000000 in
set_option maxRecDepth 100000 in
theorem figure_Least.calls (k : Nat) (A0_0 : Option Addr) (c0_0 : Nat) (l0_0 : List Int) (A0_1 : Option Addr) (c0_1 : Nat) (l0_1 : List Int) (A0_2 : Option Addr) (c0_2 : Nat) (l0_2 : List Int) (r1 : Int) (r2 : Int) (r3 : Int) (w : World) (hr0_0 : Kd.C (Kd.int .i64) w A0_0 l0_0.length l0_0) (hc0_0 : l0_0.length ≤ c0_0) (hr0_1 : Kd.C (Kd.int .i64) w A0_1 l0_1.length l0_1) (hc0_1 : l0_1.length ≤ c0_1) (hr0_2 : Kd.C (Kd.int .i64) w A0_2 l0_2.length l0_2) (hc0_2 : l0_2.length ≤ c0_2) (h : figure_Least.f k l0_0 l0_1 l0_2 = some (r1, r2, r3)) :
  Calls Try.prog 32 #[.agg #[.slice A0_0 l0_0.length c0_0, .slice A0_1 l0_1.length c0_1, .slice A0_2 l0_2.length c0_2]] w fun e w' => e = .returned (.tuple #[.agg #[.int .i64 r1, .int .i64 r2], .int .i64 r3]) ∧ Below w.heap.size w w' := by
 have hu24 := Try.underlying24
 have hu28 := Try.underlying28
 have hu50 := Try.underlying50
 have HR0_0 := Aside0.mk hr0_0
 have HC0_0 := Aside0.mk hc0_0
 clear hr0_0 hc0_0
 have HR0_1 := Aside0.mk hr0_1
 have HC0_1 := Aside0.mk hc0_1
 clear hr0_1 hc0_1
 have HR0_2 := Aside0.mk hr0_2
 have HC0_2 := Aside0.mk hc0_2
 clear hr0_2 hc0_2
 have HB := Aside0.mk (Below.refl w.heap.size w)
 have H : ((figure_CheckMap.f k l0_0 l0_1 l0_2).bind fun t149 => (if t149 = 0 then ((figure_reference.f k l0_0 l0_1 l0_2).bind fun bt150 => (figure_Least.l0 k 0 1 l0_2 (l0_2.length : Int) 0 l0_0 l0_1 l0_2 bt150.1 bt150.2.1 bt150.2.2.1 bt150.2.2.2.1 bt150.2.2.2.2.1 bt150.2.2.2.2.2)) else (some (0, 0, t149)))) = some (r1, r2, r3) := h
 clear h
 replace H := Option.bind_eq_some_iff.mp H
 obtain ⟨t149, A20, H⟩ := H
 replace H : (if t149 = 0 then ((figure_reference.f k l0_0 l0_1 l0_2).bind fun bt150 => (figure_Least.l0 k 0 1 l0_2 (l0_2.length : Int) 0 l0_0 l0_1 l0_2 bt150.1 bt150.2.1 bt150.2.2.1 bt150.2.2.2.1 bt150.2.2.2.2.1 bt150.2.2.2.2.2)) else (some (0, 0, t149))) = some (r1, r2, r3) := H
 have A2 := Aside0.mk A20
 clear A20
 by_cases c3 : t149 = 0
 ·rw [if_pos c3] at H
  have c3b0 : (t149 == 0) = true := beq_iff_eq.mpr c3
  have c3b1 : (t149 != 0) = false := bne_eq_false_iff_eq.mpr c3
  clear c3
  replace H := Option.bind_eq_some_iff.mp H
  obtain ⟨⟨t150, t151, t152, t153, t154, t155⟩, A40, H⟩ := H
  replace H : (figure_Least.l0 k 0 1 l0_2 (l0_2.length : Int) 0 l0_0 l0_1 l0_2 t150 t151 t152 t153 t154 t155) = some (r1, r2, r3) := H
  have A4 := Aside0.mk A40
  clear A40
  have H' := Aside0.mk H
  clear H
  go_enter Try.func32, Try.ntmps32
  go_wp2_with (first | ((with_reducible refine gate_dst (N := 1) rfl ?_); refine box_event ?hg (N := 1) ?hd (cs := #[.slice A0_0 l0_0.length c0_0, .slice A0_1 l0_1.length c0_1, .slice A0_2 l0_2.length c0_2]) (t := 24) ?hr ?_; (case hd => rfl); (case hg => rfl); (case hr => exact gr_); intro gb147 hg w5 hbox hb; have n0_ := Aside0.mk (below_step (hb_ HB) hb); have n1_ := Aside0.mk (hbox); have n2_ := Aside0.mk ((hz_ HB hg)); have n3_ := Aside0.mk ((hz_ HB hg)); clear HB; have HB := n0_; have BK147 := n1_; have GW147 := n2_; have GE147 := n3_; clear n0_ n1_ n2_ n3_; clear hb hbox hg) | ((with_reducible refine gate_dst (N := 2) rfl ?_); refine box_event ?hg (N := 2) ?hd (cs := #[.int .i64 0, .int .i64 0]) (t := 28) ?hr ?_; (case hd => rfl); (case hg => rfl); (case hr => exact gr_); intro gb148 hg w6 hbox hb; have n0_ := Aside0.mk (bb_ BK147 hb); have n1_ := Aside0.mk (below_step (hb_ HB) hb); have n2_ := Aside0.mk (hbox); have n3_ := Aside0.mk ((hz_ HB hg)); have n4_ := Aside0.mk ((hz_ HB hg)); have n5_ := Aside0.mk ((nl_ BK147 hg)); have n6_ := Aside0.mk ((ng_ BK147 hg)); clear BK147; clear HB; have BK147 := n0_; have HB := n1_; have BK148 := n2_; have GW148 := n3_; have GE148 := n4_; have NB147_148 := n5_; have NB148_147 := n6_; clear n0_ n1_ n2_ n3_ n4_ n5_ n6_; clear hb hbox hg; have hnb7 := NB147_148.out; have hnc7 := NB148_147.out; have hcz8_0 : w6.cell? ⟨gb147, 0, none⟩ = some (.slice A0_0 l0_0.length c0_0) := (blk_cell BK147.out 0).trans rfl; have hcz8_1 : w6.cell? ⟨gb147, 1, none⟩ = some (.slice A0_1 l0_1.length c0_1) := (blk_cell BK147.out 1).trans rfl; have hcz8_2 : w6.cell? ⟨gb147, 2, none⟩ = some (.slice A0_2 l0_2.length c0_2) := (blk_cell BK147.out 2).trans rfl; have hfz8_0 := blk_frozen BK147.out 0; have hfz8_1 := blk_frozen BK147.out 1; have hfz8_2 := blk_frozen BK147.out 2) | ((with_reducible refine gate_callee (f := 19) rfl ?_); refine goesL_ (some 13) rfl rfl Try.func19 (by kernel_rfl) rfl #[.agg #[.slice A0_0 l0_0.length c0_0, .slice A0_1 l0_1.length c0_1, .slice A0_2 l0_2.length c0_2]] rfl ma_ ?_; (with_reducible refine (figure_CheckMap.calls k _ _ l0_0 _ _ l0_1 _ _ l0_2 t149 _ ?side1 ?side2 ?side3 ?side4 ?side5 ?side6 A2.out).mono ?_); (case side1 => exact cb_ (Kd.C_below HR0_0.out HB.out)); (case side2 => exact HC0_0.out); (case side3 => exact cb_ (Kd.C_below HR0_1.out HB.out)); (case side4 => exact HC0_1.out); (case side5 => exact cb_ (Kd.C_below HR0_2.out HB.out)); (case side6 => exact HC0_2.out); rintro e w9 ⟨rfl, hb⟩; refine ⟨_, rfl, ?_⟩; have n0_ := Aside0.mk (bb_ BK147 hb); have n1_ := Aside0.mk (bb_ BK148 hb); have n2_ := Aside0.mk (below_step (hb_ HB) hb); clear BK147; clear BK148; clear HB; have BK147 := n0_; have BK148 := n1_; have HB := n2_; clear n0_ n1_ n2_; (try clear hb); (try clear hb2); (try clear hk); (try clear hi); have hcz10_0 : w9.cell? ⟨gb147, 0, none⟩ = some (.slice A0_0 l0_0.length c0_0) := (blk_cell BK147.out 0).trans rfl; have hcz10_1 : w9.cell? ⟨gb147, 1, none⟩ = some (.slice A0_1 l0_1.length c0_1) := (blk_cell BK147.out 1).trans rfl; have hcz10_2 : w9.cell? ⟨gb147, 2, none⟩ = some (.slice A0_2 l0_2.length c0_2) := (blk_cell BK147.out 2).trans rfl; have hfz10_0 := blk_frozen BK147.out 0; have hfz10_1 := blk_frozen BK147.out 1; have hfz10_2 := blk_frozen BK147.out 2) | ((with_reducible refine gate_callee (f := 74) rfl ?_); refine goesL_ (some 19) rfl rfl Try.func74 (by kernel_rfl) rfl #[.agg #[.slice A0_0 l0_0.length c0_0, .slice A0_1 l0_1.length c0_1, .slice A0_2 l0_2.length c0_2]] rfl ma_ ?_; (with_reducible refine (figure_reference.calls k _ _ l0_0 _ _ l0_1 _ _ l0_2 t150 t151 t152 t153 t154 t155 _ ?side1 ?side2 ?side3 ?side4 ?side5 ?side6 A4.out).mono ?_); (case side1 => exact cb_ (Kd.C_below HR0_0.out HB.out)); (case side2 => exact HC0_0.out); (case side3 => exact cb_ (Kd.C_below HR0_1.out HB.out)); (case side4 => exact HC0_1.out); (case side5 => exact cb_ (Kd.C_below HR0_2.out HB.out)); (case side6 => exact HC0_2.out); rintro e w11 ⟨rfl, hb⟩; refine ⟨_, rfl, ?_⟩; have n0_ := Aside0.mk (bb_ BK147 hb); have n1_ := Aside0.mk (bb_ BK148 hb); have n2_ := Aside0.mk (below_step (hb_ HB) hb); clear BK147; clear BK148; clear HB; have BK147 := n0_; have BK148 := n1_; have HB := n2_; clear n0_ n1_ n2_; (try clear hb); (try clear hb2); (try clear hk); (try clear hi)) | ((with_reducible refine gate_dst (N := 5) rfl ?_); refine box_event ?hg (N := 5) ?hd (cs := #[.int .i64 0, .int .i64 0, .int .i64 0, .int .i64 0, .int .i64 0, .int .i64 0]) (t := 50) ?hr ?_; (case hd => rfl); (case hg => rfl); (case hr => exact gr_); intro gb156 hg w12 hbox hb; have n0_ := Aside0.mk (bb_ BK147 hb); have n1_ := Aside0.mk (bb_ BK148 hb); have n2_ := Aside0.mk (below_step (hb_ HB) hb); have n3_ := Aside0.mk (hbox); have n4_ := Aside0.mk ((hz_ HB hg)); have n5_ := Aside0.mk ((hz_ HB hg)); have n6_ := Aside0.mk ((nl_ BK147 hg)); have n7_ := Aside0.mk ((ng_ BK147 hg)); have n8_ := Aside0.mk ((nl_ BK148 hg)); have n9_ := Aside0.mk ((ng_ BK148 hg)); clear BK147; clear BK148; clear HB; have BK147 := n0_; have BK148 := n1_; have HB := n2_; have BK156 := n3_; have GW156 := n4_; have GE156 := n5_; have NB147_156 := n6_; have NB156_147 := n7_; have NB148_156 := n8_; have NB156_148 := n9_; clear n0_ n1_ n2_ n3_ n4_ n5_ n6_ n7_ n8_ n9_; clear hb hbox hg; have hnb13 := NB156_147.out; have hnc13 := NB147_156.out; have hnb14 := NB156_148.out; have hnc14 := NB148_156.out; have hcz15_0 : w12.cell? ⟨gb156, 0, none⟩ = some (.int .i64 0) := (blk_cell BK156.out 0).trans rfl; have hcz15_1 : w12.cell? ⟨gb156, 1, none⟩ = some (.int .i64 0) := (blk_cell BK156.out 1).trans rfl; have hcz15_2 : w12.cell? ⟨gb156, 2, none⟩ = some (.int .i64 0) := (blk_cell BK156.out 2).trans rfl; have hcz15_3 : w12.cell? ⟨gb156, 3, none⟩ = some (.int .i64 0) := (blk_cell BK156.out 3).trans rfl; have hcz15_4 : w12.cell? ⟨gb156, 4, none⟩ = some (.int .i64 0) := (blk_cell BK156.out 4).trans rfl; have hcz15_5 : w12.cell? ⟨gb156, 5, none⟩ = some (.int .i64 0) := (blk_cell BK156.out 5).trans rfl; have hfz15_0 := blk_frozen BK156.out 0; have hfz15_1 := blk_frozen BK156.out 1; have hfz15_2 := blk_frozen BK156.out 2; have hfz15_3 := blk_frozen BK156.out 3; have hfz15_4 := blk_frozen BK156.out 4; have hfz15_5 := blk_frozen BK156.out 5; have hcz16_0 : w12.cell? ⟨gb147, 0, none⟩ = some (.slice A0_0 l0_0.length c0_0) := (blk_cell BK147.out 0).trans rfl; have hcz16_1 : w12.cell? ⟨gb147, 1, none⟩ = some (.slice A0_1 l0_1.length c0_1) := (blk_cell BK147.out 1).trans rfl; have hcz16_2 : w12.cell? ⟨gb147, 2, none⟩ = some (.slice A0_2 l0_2.length c0_2) := (blk_cell BK147.out 2).trans rfl; have hfz16_0 := blk_frozen BK147.out 0; have hfz16_1 := blk_frozen BK147.out 1; have hfz16_2 := blk_frozen BK147.out 2))
  go_loopg [6, 7, 23] k (fun kq v6 v7 v23 w' => ∃ (x6_1 : Int) (x7_1 : Int) (x23_1 : Int), v6 = .int .i64 x6_1 ∧ v7 = .int .i64 x7_1 ∧ v23 = .int .i64 x23_1 ∧ Aside0 (figure_Least.l0 kq x6_1 x7_1 l0_2 (l0_2.length : Int) x23_1 l0_0 l0_1 l0_2 t150 t151 t152 t153 t154 t155 = some (r1, r2, r3)) ∧ Aside0 (kq ≤ k) ∧ Aside0 (w'.heap[gb147]? = some (.cells #[(.slice A0_0 l0_0.length c0_0), (.slice A0_1 l0_1.length c0_1), (.slice A0_2 l0_2.length c0_2)] 24 (0, 0))) ∧ Aside0 (w'.heap[gb148]? = some (.cells #[.int .i64 0, .int .i64 0] 28 (0, 0))) ∧ Aside0 (w'.heap[gb156]? = some (.cells #[.int .i64 t150, .int .i64 t151, .int .i64 t152, .int .i64 t153, .int .i64 t154, .int .i64 t155] 50 (0, 0))) ∧ Aside0 (Below w.heap.size w w'))
  case atStart => exact ⟨(0), (1), (0), rs_, rs_, rs_, H', ⟨Nat.le_refl _⟩, ⟨by (with_reducible repeat (first | refine blk_drewN ?_ _ | refine blk_drew ?_ | refine blk_alloc ?_ _)); refine blk_far ?_ NB147_156.out _; (with_reducible repeat (first | refine blk_drewN ?_ _ | refine blk_drew ?_ | refine blk_alloc ?_ _)); refine blk_far ?_ NB147_156.out _; (with_reducible repeat (first | refine blk_drewN ?_ _ | refine blk_drew ?_ | refine blk_alloc ?_ _)); refine blk_far ?_ NB147_156.out _; (with_reducible repeat (first | refine blk_drewN ?_ _ | refine blk_drew ?_ | refine blk_alloc ?_ _)); refine blk_far ?_ NB147_156.out _; (with_reducible repeat (first | refine blk_drewN ?_ _ | refine blk_drew ?_ | refine blk_alloc ?_ _)); refine blk_far ?_ NB147_156.out _; (with_reducible repeat (first | refine blk_drewN ?_ _ | refine blk_drew ?_ | refine blk_alloc ?_ _)); refine blk_far ?_ NB147_156.out _; (with_reducible repeat (first | refine blk_drewN ?_ _ | refine blk_drew ?_ | refine blk_alloc ?_ _)); exact BK147.out⟩, ⟨by (with_reducible repeat (first | refine blk_drewN ?_ _ | refine blk_drew ?_ | refine blk_alloc ?_ _)); refine blk_far ?_ NB148_156.out _; (with_reducible repeat (first | refine blk_drewN ?_ _ | refine blk_drew ?_ | refine blk_alloc ?_ _)); refine blk_far ?_ NB148_156.out _; (with_reducible repeat (first | refine blk_drewN ?_ _ | refine blk_drew ?_ | refine blk_alloc ?_ _)); refine blk_far ?_ NB148_156.out _; (with_reducible repeat (first | refine blk_drewN ?_ _ | refine blk_drew ?_ | refine blk_alloc ?_ _)); refine blk_far ?_ NB148_156.out _; (with_reducible repeat (first | refine blk_drewN ?_ _ | refine blk_drew ?_ | refine blk_alloc ?_ _)); refine blk_far ?_ NB148_156.out _; (with_reducible repeat (first | refine blk_drewN ?_ _ | refine blk_drew ?_ | refine blk_alloc ?_ _)); refine blk_far ?_ NB148_156.out _; (with_reducible repeat (first | refine blk_drewN ?_ _ | refine blk_drew ?_ | refine blk_alloc ?_ _)); exact BK148.out⟩, ⟨by (with_reducible repeat (first | refine blk_drewN ?_ _ | refine blk_drew ?_ | refine blk_alloc ?_ _)); refine blk_put (cs := #[.int .i64 t150, .int .i64 t151, .int .i64 t152, .int .i64 t153, .int .i64 t154, .int .i64 0]) ?_ 5 _ rfl; (with_reducible repeat (first | refine blk_drewN ?_ _ | refine blk_drew ?_ | refine blk_alloc ?_ _)); refine blk_put (cs := #[.int .i64 t150, .int .i64 t151, .int .i64 t152, .int .i64 t153, .int .i64 0, .int .i64 0]) ?_ 4 _ rfl; (with_reducible repeat (first | refine blk_drewN ?_ _ | refine blk_drew ?_ | refine blk_alloc ?_ _)); refine blk_put (cs := #[.int .i64 t150, .int .i64 t151, .int .i64 t152, .int .i64 0, .int .i64 0, .int .i64 0]) ?_ 3 _ rfl; (with_reducible repeat (first | refine blk_drewN ?_ _ | refine blk_drew ?_ | refine blk_alloc ?_ _)); refine blk_put (cs := #[.int .i64 t150, .int .i64 t151, .int .i64 0, .int .i64 0, .int .i64 0, .int .i64 0]) ?_ 2 _ rfl; (with_reducible repeat (first | refine blk_drewN ?_ _ | refine blk_drew ?_ | refine blk_alloc ?_ _)); refine blk_put (cs := #[.int .i64 t150, .int .i64 0, .int .i64 0, .int .i64 0, .int .i64 0, .int .i64 0]) ?_ 1 _ rfl; (with_reducible repeat (first | refine blk_drewN ?_ _ | refine blk_drew ?_ | refine blk_alloc ?_ _)); refine blk_put (cs := #[.int .i64 0, .int .i64 0, .int .i64 0, .int .i64 0, .int .i64 0, .int .i64 0]) ?_ 0 _ rfl; (with_reducible repeat (first | refine blk_drewN ?_ _ | refine blk_drew ?_ | refine blk_alloc ?_ _)); exact BK156.out⟩, ⟨hb_ HB⟩⟩
  case round =>
   clear H'
   try clear c1
   try clear p2
   try clear c3
   try clear c3b0
   try clear c3b1
   try clear c7
   try clear c13
   try clear c14
   try clear hcz10_0
   try clear hcz10_1
   try clear hcz10_2
   try clear hcz15_0
   try clear hcz15_1
   try clear hcz15_2
   try clear hcz15_3
   try clear hcz15_4
   try clear hcz15_5
   try clear hcz16_0
   try clear hcz16_1
   try clear hcz16_2
   try clear hcz8_0
   try clear hcz8_1
   try clear hcz8_2
   try clear hfz10_0
   try clear hfz10_1
   try clear hfz10_2
   try clear hfz15_0
   try clear hfz15_1
   try clear hfz15_2
   try clear hfz15_3
   try clear hfz15_4
   try clear hfz15_5
   try clear hfz16_0
   try clear hfz16_1
   try clear hfz16_2
   try clear hfz8_0
   try clear hfz8_1
   try clear hfz8_2
   obtain ⟨x6_1, x7_1, x23_1, rfl, rfl, rfl, HA, HK1, BK147, BK148, BK156, HB⟩ := hrel
   cases gk with
   | zero => exact absurd HA.out (by simp [figure_Least.l0])
   | succ k1 =>
    have H := HA.out
    clear HA
    simp only [figure_Least.l0] at H
    by_cases c17 : x23_1 < (l0_2.length : Int)
    ·rw [if_pos c17] at H
     have c17b0 : decide (x23_1 < (l0_2.length : Int)) = true := decide_eq_true c17
     clear c17
     by_cases c18 : 0 ≤ x23_1
     ·rw [if_pos c18] at H
      have c18b0 : decide (0 ≤ x23_1) = true := decide_eq_true c18
      clear c18
      by_cases c19 : x23_1 < (l0_2.length : Int)
      ·rw [if_pos c19] at H
       have c19b0 : decide (x23_1 < (l0_2.length : Int)) = true := decide_eq_true c19
       clear c19
       replace H := Option.bind_eq_some_iff.mp H
       obtain ⟨⟨t158, t159⟩, A200, H⟩ := H
       replace H : (figure_Least.l0 k1 (wrap64 (x6_1 + (wrap64 ((rd l0_2 x23_1) * t158)))) t159 l0_2 (l0_2.length : Int) (wrap64 (x23_1 + 1)) l0_0 l0_1 l0_2 t150 t151 t152 t153 t154 t155) = some (r1, r2, r3) := H
       have A20 := Aside0.mk A200
       clear A200
       have H' := Aside0.mk H
       clear H
       have p157 : 0 ≤ (x23_1 : Int) := of_decide_eq_true as_
       have q157 : x23_1 < (l0_2.length : Int) := of_decide_eq_true as_
       obtain ⟨ad157, e157, hx157_0⟩ := Kd.at_int HR0_2.out x23_1 p157 q157
       cases e157
       replace hx157_0 := (HB.out.cell (World.block_lt_of_cell? w _ hx157_0)).trans hx157_0
       replace p157 := eq_true p157
       replace q157 := eq_true q157
       have hnb21 := NB147_148.out
       have hnc21 := NB148_147.out
       have hnb22 := NB147_156.out
       have hnc22 := NB156_147.out
       have hcz23_0 : wr.cell? ⟨gb147, 0, none⟩ = some (.slice A0_0 l0_0.length c0_0) := (blk_cell BK147.out 0).trans rfl
       have hcz23_1 : wr.cell? ⟨gb147, 1, none⟩ = some (.slice A0_1 l0_1.length c0_1) := (blk_cell BK147.out 1).trans rfl
       have hcz23_2 : wr.cell? ⟨gb147, 2, none⟩ = some (.slice (some ad157) l0_2.length c0_2) := (blk_cell BK147.out 2).trans rfl
       have hfz23_0 := blk_frozen BK147.out 0
       have hfz23_1 := blk_frozen BK147.out 1
       have hfz23_2 := blk_frozen BK147.out 2
       have hnb24 := NB156_148.out
       have hnc24 := NB148_156.out
       have hcz25_0 : wr.cell? ⟨gb156, 0, none⟩ = some (.int .i64 t150) := (blk_cell BK156.out 0).trans rfl
       have hcz25_1 : wr.cell? ⟨gb156, 1, none⟩ = some (.int .i64 t151) := (blk_cell BK156.out 1).trans rfl
       have hcz25_2 : wr.cell? ⟨gb156, 2, none⟩ = some (.int .i64 t152) := (blk_cell BK156.out 2).trans rfl
       have hcz25_3 : wr.cell? ⟨gb156, 3, none⟩ = some (.int .i64 t153) := (blk_cell BK156.out 3).trans rfl
       have hcz25_4 : wr.cell? ⟨gb156, 4, none⟩ = some (.int .i64 t154) := (blk_cell BK156.out 4).trans rfl
       have hcz25_5 : wr.cell? ⟨gb156, 5, none⟩ = some (.int .i64 t155) := (blk_cell BK156.out 5).trans rfl
       have hfz25_0 := blk_frozen BK156.out 0
       have hfz25_1 := blk_frozen BK156.out 1
       have hfz25_2 := blk_frozen BK156.out 2
       have hfz25_3 := blk_frozen BK156.out 3
       have hfz25_4 := blk_frozen BK156.out 4
       have hfz25_5 := blk_frozen BK156.out 5
       go_wp2_with (first | ((with_reducible refine gate_callee (f := 73) rfl ?_); refine goesL_ (some 32) rfl rfl Try.func73 (by kernel_rfl) rfl #[.agg #[.slice A0_0 l0_0.length c0_0, .slice A0_1 l0_1.length c0_1, .slice (some ad157) l0_2.length c0_2], .agg #[.int .i64 t150, .int .i64 t151, .int .i64 t152, .int .i64 t153, .int .i64 t154, .int .i64 t155], .int .i64 x23_1] rfl ma_ ?_; (with_reducible refine (figure_removal.calls _ _ l0_0 _ _ l0_1 _ _ l0_2 t150 t151 t152 t153 t154 t155 x23_1 t158 t159 _ ?side1 ?side2 ?side3 ?side4 ?side5 ?side6 A20.out).mono ?_); (case side1 => exact cb_ (Kd.C_below HR0_0.out HB.out)); (case side2 => exact HC0_0.out); (case side3 => exact cb_ (Kd.C_below HR0_1.out HB.out)); (case side4 => exact HC0_1.out); (case side5 => exact cb_ (Kd.C_below HR0_2.out HB.out)); (case side6 => exact HC0_2.out); rintro e w26 ⟨rfl, hb⟩; refine ⟨_, rfl, ?_⟩; have n0_ := Aside0.mk (bb_ BK147 hb); have n1_ := Aside0.mk (bb_ BK148 hb); have n2_ := Aside0.mk (bb_ BK156 hb); have n3_ := Aside0.mk (below_step (hb_ HB) hb); clear BK147; clear BK148; clear BK156; clear HB; have BK147 := n0_; have BK148 := n1_; have BK156 := n2_; have HB := n3_; clear n0_ n1_ n2_ n3_; (try clear hb); (try clear hb2); (try clear hk); (try clear hi)))
       go_roundg k1
       case measure => have := HK1.out; omega
       case rel => exact ⟨(wrap64 (x6_1 + (wrap64 ((rd l0_2 x23_1) * t158)))), (t159), (wrap64 (x23_1 + 1)), rs_, rs_, rs_, H', ⟨by have := HK1.out; omega⟩, ⟨by (with_reducible repeat (first | refine blk_drewN ?_ _ | refine blk_drew ?_ | refine blk_alloc ?_ _)); exact BK147.out⟩, ⟨by (with_reducible repeat (first | refine blk_drewN ?_ _ | refine blk_drew ?_ | refine blk_alloc ?_ _)); exact BK148.out⟩, ⟨by (with_reducible repeat (first | refine blk_drewN ?_ _ | refine blk_drew ?_ | refine blk_alloc ?_ _)); exact BK156.out⟩, ⟨hb_ HB⟩⟩
      ·rw [if_neg c19] at H
       exact absurd H (by simp)
     ·rw [if_neg c18] at H
      exact absurd H (by simp)
    ·rw [if_neg c17] at H
     have c17b0 : decide (x23_1 < (l0_2.length : Int)) = false := decide_eq_false c17
     clear c17
     replace H := Option.bind_eq_some_iff.mp H
     obtain ⟨⟨t160, t161⟩, A270, H⟩ := H
     replace H : (some (t160, t161, 0)) = some (r1, r2, r3) := H
     have A27 := Aside0.mk A270
     clear A270
     simp only [Option.some.injEq, Prod.mk.injEq] at H
     obtain ⟨rfl, rfl, rfl⟩ := H
     go_wp2_with (first | ((with_reducible refine gate_callee (f := 63) rfl ?_); refine goesL_ (some 44) rfl rfl Try.func63 (by kernel_rfl) rfl #[.int .i64 x6_1, .int .i64 x7_1] rfl ma_ ?_; (with_reducible refine (figure_lowest.calls k1 x6_1 x7_1 t160 t161 _ A27.out).mono ?_); rintro e w28 ⟨rfl, hb⟩; refine ⟨_, rfl, ?_⟩; have n0_ := Aside0.mk (bb_ BK147 hb); have n1_ := Aside0.mk (bb_ BK148 hb); have n2_ := Aside0.mk (bb_ BK156 hb); have n3_ := Aside0.mk (below_step (hb_ HB) hb); clear BK147; clear BK148; clear BK156; clear HB; have BK147 := n0_; have BK148 := n1_; have BK156 := n2_; have HB := n3_; clear n0_ n1_ n2_ n3_; (try clear hb); (try clear hb2); (try clear hk); (try clear hi); have hnb29 := NB148_147.out; have hnc29 := NB147_148.out; have hnb30 := NB148_156.out; have hnc30 := NB156_148.out; have hcz31_0 : w28.cell? ⟨gb148, 0, none⟩ = some (.int .i64 0) := (blk_cell BK148.out 0).trans rfl; have hcz31_1 : w28.cell? ⟨gb148, 1, none⟩ = some (.int .i64 0) := (blk_cell BK148.out 1).trans rfl; have hfz31_0 := blk_frozen BK148.out 0; have hfz31_1 := blk_frozen BK148.out 1))
     refine bodyPost_ret (results_ct rfl _ _ gb148 28 #[.int .i64 t160, .int .i64 t161] (0, 0) _ rfl (by (with_reducible repeat (first | refine blk_drewN ?_ _ | refine blk_drew ?_ | refine blk_alloc ?_ _)); refine blk_put (cs := #[.int .i64 t160, .int .i64 0]) ?_ 1 _ rfl; (with_reducible repeat (first | refine blk_drewN ?_ _ | refine blk_drew ?_ | refine blk_alloc ?_ _)); refine blk_put (cs := #[.int .i64 0, .int .i64 0]) ?_ 0 _ rfl; (with_reducible repeat (first | refine blk_drewN ?_ _ | refine blk_drew ?_ | refine blk_alloc ?_ _)); exact BK148.out) Try.underlying28 rfl (by kernel_rfl)) rfl ?_
     exact ⟨ew_, hb_ HB⟩
 ·rw [if_neg c3] at H
  have c3b0 : (t149 == 0) = false := beq_eq_false_iff_ne.mpr c3
  have c3b1 : (t149 != 0) = true := bne_iff_ne.mpr c3
  simp only [Option.some.injEq, Prod.mk.injEq] at H
  obtain ⟨rfl, rfl, rfl⟩ := H
  go_enter Try.func32, Try.ntmps32
  go_wp2_with (first | ((with_reducible refine gate_dst (N := 1) rfl ?_); refine box_event ?hg (N := 1) ?hd (cs := #[.slice A0_0 l0_0.length c0_0, .slice A0_1 l0_1.length c0_1, .slice A0_2 l0_2.length c0_2]) (t := 24) ?hr ?_; (case hd => rfl); (case hg => rfl); (case hr => exact gr_); intro gb147 hg w32 hbox hb; have n0_ := Aside0.mk (below_step (hb_ HB) hb); have n1_ := Aside0.mk (hbox); have n2_ := Aside0.mk ((hz_ HB hg)); have n3_ := Aside0.mk ((hz_ HB hg)); clear HB; have HB := n0_; have BK147 := n1_; have GW147 := n2_; have GE147 := n3_; clear n0_ n1_ n2_ n3_; clear hb hbox hg) | ((with_reducible refine gate_dst (N := 2) rfl ?_); refine box_event ?hg (N := 2) ?hd (cs := #[.int .i64 0, .int .i64 0]) (t := 28) ?hr ?_; (case hd => rfl); (case hg => rfl); (case hr => exact gr_); intro gb148 hg w33 hbox hb; have n0_ := Aside0.mk (bb_ BK147 hb); have n1_ := Aside0.mk (below_step (hb_ HB) hb); have n2_ := Aside0.mk (hbox); have n3_ := Aside0.mk ((hz_ HB hg)); have n4_ := Aside0.mk ((hz_ HB hg)); have n5_ := Aside0.mk ((nl_ BK147 hg)); have n6_ := Aside0.mk ((ng_ BK147 hg)); clear BK147; clear HB; have BK147 := n0_; have HB := n1_; have BK148 := n2_; have GW148 := n3_; have GE148 := n4_; have NB147_148 := n5_; have NB148_147 := n6_; clear n0_ n1_ n2_ n3_ n4_ n5_ n6_; clear hb hbox hg; have hnb34 := NB147_148.out; have hnc34 := NB148_147.out; have hcz35_0 : w33.cell? ⟨gb147, 0, none⟩ = some (.slice A0_0 l0_0.length c0_0) := (blk_cell BK147.out 0).trans rfl; have hcz35_1 : w33.cell? ⟨gb147, 1, none⟩ = some (.slice A0_1 l0_1.length c0_1) := (blk_cell BK147.out 1).trans rfl; have hcz35_2 : w33.cell? ⟨gb147, 2, none⟩ = some (.slice A0_2 l0_2.length c0_2) := (blk_cell BK147.out 2).trans rfl; have hfz35_0 := blk_frozen BK147.out 0; have hfz35_1 := blk_frozen BK147.out 1; have hfz35_2 := blk_frozen BK147.out 2) | ((with_reducible refine gate_callee (f := 19) rfl ?_); refine goesL_ (some 13) rfl rfl Try.func19 (by kernel_rfl) rfl #[.agg #[.slice A0_0 l0_0.length c0_0, .slice A0_1 l0_1.length c0_1, .slice A0_2 l0_2.length c0_2]] rfl ma_ ?_; (with_reducible refine (figure_CheckMap.calls k _ _ l0_0 _ _ l0_1 _ _ l0_2 t149 _ ?side1 ?side2 ?side3 ?side4 ?side5 ?side6 A2.out).mono ?_); (case side1 => exact cb_ (Kd.C_below HR0_0.out HB.out)); (case side2 => exact HC0_0.out); (case side3 => exact cb_ (Kd.C_below HR0_1.out HB.out)); (case side4 => exact HC0_1.out); (case side5 => exact cb_ (Kd.C_below HR0_2.out HB.out)); (case side6 => exact HC0_2.out); rintro e w36 ⟨rfl, hb⟩; refine ⟨_, rfl, ?_⟩; have n0_ := Aside0.mk (bb_ BK147 hb); have n1_ := Aside0.mk (bb_ BK148 hb); have n2_ := Aside0.mk (below_step (hb_ HB) hb); clear BK147; clear BK148; clear HB; have BK147 := n0_; have BK148 := n1_; have HB := n2_; clear n0_ n1_ n2_; (try clear hb); (try clear hb2); (try clear hk); (try clear hi); have hcz37_0 : w36.cell? ⟨gb148, 0, none⟩ = some (.int .i64 0) := (blk_cell BK148.out 0).trans rfl; have hcz37_1 : w36.cell? ⟨gb148, 1, none⟩ = some (.int .i64 0) := (blk_cell BK148.out 1).trans rfl; have hfz37_0 := blk_frozen BK148.out 0; have hfz37_1 := blk_frozen BK148.out 1))
  refine bodyPost_ret (results_ct rfl _ _ gb148 28 #[.int .i64 0, .int .i64 0] (0, 0) _ rfl (by (with_reducible repeat (first | refine blk_drewN ?_ _ | refine blk_drew ?_ | refine blk_alloc ?_ _)); refine blk_put (cs := #[.int .i64 0, .int .i64 0]) ?_ 1 _ rfl; (with_reducible repeat (first | refine blk_drewN ?_ _ | refine blk_drew ?_ | refine blk_alloc ?_ _)); refine blk_put (cs := #[.int .i64 0, .int .i64 0]) ?_ 0 _ rfl; (with_reducible repeat (first | refine blk_drewN ?_ _ | refine blk_drew ?_ | refine blk_alloc ?_ _)); exact BK148.out) Try.underlying28 rfl (by kernel_rfl)) rfl ?_
  exact ⟨ew_, hb_ HB⟩
theorem eqA48 (d : Nat) (w : World) (x0 y0 : Int) (x1 y1 : Int) :
  (Op.equalIn (d + 2) 48 (.agg #[.int .i64 x0, .int .i64 x1]) (.agg #[.int .i64 y0, .int .i64 y1])).run Try.prog w = .ok (x0 == y0 && (x1 == y1)) w := by
 refine eqB_of (n := 2) (e := 3) (sz := 1) Try.underlying48 (by kernel_rfl) (by kernel_rfl) ?_
 refine eqi_cons (by go_simp; rfl) (by go_simp; rfl) (by go_simp) ?_
 exact eqi_last (by go_simp; rfl) (by go_simp; rfl) (by go_simp)
def speculumbase_Ints.l0 : Nat → List Int → List Int → Int → Option (Bool)
 | 0, _, _, _ => none
 | k + 1, x0, x1, x5 => if x5 < (x0.length : Int) then (if 0 ≤ x5 then (if x5 < (x1.length : Int) then (if (rd x0 x5) = (rd x1 x5) then (speculumbase_Ints.l0 k x0 x1 (wrap64 (x5 + 1))) else (some false)) else (none)) else (none)) else (some true)
def speculumbase_Ints.f (k : Nat) (l0 : List Int) (l1 : List Int) : Option (Bool) := if (l0.length : Int) = (l1.length : Int) then (speculumbase_Ints.l0 k l0 l1 0) else (some false)
theorem speculumbase_Ints.mono_l : ∀ k, (∀ y0 y1 y2, LeO (speculumbase_Ints.l0 k y0 y1 y2) (speculumbase_Ints.l0 (k + 1) y0 y1 y2))
 | 0 => fun _ _ _ r h => by simp [speculumbase_Ints.l0] at h
 | k + 1 => by
  have ih0 := speculumbase_Ints.mono_l k
  ·intro y0 y1 y2
   unfold speculumbase_Ints.l0
   repeat' first
   | (with_reducible exact ih0 _ _ _)
   | (with_reducible exact LeO.refl _)
   | (with_reducible exact LeO.none _)
   | (with_reducible refine LeO.ite ?_ ?_)
   | (with_reducible refine LeO.bind ?_ (fun _ => ?_))
   | exact ih0 _ _ _
   | exact LeO.none _
   | refine LeO.ite ?_ ?_
   | refine LeO.bind ?_ (fun _ => ?_)
theorem speculumbase_Ints.mono : ∀ a0 a1 k, LeO (speculumbase_Ints.f k a0 a1) (speculumbase_Ints.f (k + 1) a0 a1) := by
 intro a0 a1 k
 have ih0 := speculumbase_Ints.mono_l k
 unfold speculumbase_Ints.f
 repeat' first
   | (with_reducible exact ih0 _ _ _)
   | (with_reducible exact LeO.refl _)
   | (with_reducible exact LeO.none _)
   | (with_reducible refine LeO.ite ?_ ?_)
   | (with_reducible refine LeO.bind ?_ (fun _ => ?_))
   | exact ih0 _ _ _
   | exact LeO.none _
   | refine LeO.ite ?_ ?_
   | refine LeO.bind ?_ (fun _ => ?_)
set_option maxHeartbeats 8000000 in
set_option maxRecDepth 100000 in
theorem speculumbase_Ints.calls (k : Nat) (A0 : Option Addr) (c0 : Nat) (l0 : List Int) (A1 : Option Addr) (c1 : Nat) (l1 : List Int) (r : Bool) (w : World) (hr0 : Kd.C (Kd.int .i64) w A0 l0.length l0) (hc0 : l0.length ≤ c0) (hr1 : Kd.C (Kd.int .i64) w A1 l1.length l1) (hc1 : l1.length ≤ c1) (h : speculumbase_Ints.f k l0 l1 = some r) :
  Calls Try.prog 49 #[.slice A0 l0.length c0, .slice A1 l1.length c1] w fun e w' => e = .returned (.bool r) ∧ Drawn0 w w' := by
 have HR0 := Aside0.mk hr0
 have HC0 := Aside0.mk hc0
 clear hr0 hc0
 have HR1 := Aside0.mk hr1
 have HC1 := Aside0.mk hc1
 clear hr1 hc1
 have H : (if (l0.length : Int) = (l1.length : Int) then (speculumbase_Ints.l0 k l0 l1 0) else (some false)) = some r := h
 clear h
 by_cases c3 : (l0.length : Int) = (l1.length : Int)
 ·rw [if_pos c3] at H
  have c3b0 : ((l0.length : Int) == (l1.length : Int)) = true := beq_iff_eq.mpr c3
  have c3b1 : ((l0.length : Int) != (l1.length : Int)) = false := bne_eq_false_iff_eq.mpr c3
  have c3b2 : (l0.length == l1.length) = true := by first | simpa using c3 | (simp at c3 ⊢; omega)
  clear c3
  have H' := Aside0.mk H
  clear H
  go_enter Try.func49, Try.ntmps49
  go_wp2
  repeat (go_quiet (fail); try go_wp2)
  go_loopg [5] k (fun kq v5 w' => ∃ (x5_1 : Int), v5 = .int .i64 x5_1 ∧ Aside0 (speculumbase_Ints.l0 kq l0 l1 x5_1 = some r) ∧ Aside0 (kq ≤ k) ∧ Drawn0 w w')
  case atStart => exact ⟨(0), rs_, H', ⟨Nat.le_refl _⟩, dn_⟩
  case round =>
   clear H'
   try clear c1
   try clear p2
   try clear c3
   try clear c3b0
   try clear c3b1
   try clear c3b2
   obtain ⟨x5_1, rfl, HA, HK1, ⟨m1, rfl⟩⟩ := hrel
   cases gk with
   | zero => exact absurd HA.out (by simp [speculumbase_Ints.l0])
   | succ k1 =>
    have H := HA.out
    clear HA
    simp only [speculumbase_Ints.l0] at H
    by_cases c4 : x5_1 < (l0.length : Int)
    ·rw [if_pos c4] at H
     have c4b0 : decide (x5_1 < (l0.length : Int)) = true := decide_eq_true c4
     clear c4
     by_cases c5 : 0 ≤ x5_1
     ·rw [if_pos c5] at H
      have c5b0 : decide (0 ≤ x5_1) = true := decide_eq_true c5
      clear c5
      by_cases c6 : x5_1 < (l1.length : Int)
      ·rw [if_pos c6] at H
       have c6b0 : decide (x5_1 < (l1.length : Int)) = true := decide_eq_true c6
       clear c6
       by_cases c7 : (rd l0 x5_1) = (rd l1 x5_1)
       ·rw [if_pos c7] at H
        have c7b0 : ((rd l0 x5_1) == (rd l1 x5_1)) = true := beq_iff_eq.mpr c7
        have c7b1 : ((rd l0 x5_1) != (rd l1 x5_1)) = false := bne_eq_false_iff_eq.mpr c7
        clear c7
        have H' := Aside0.mk H
        clear H
        have p162 : 0 ≤ (x5_1 : Int) := of_decide_eq_true as_
        have q162 : x5_1 < (l0.length : Int) := of_decide_eq_true as_
        obtain ⟨ad162, e162, hx162_0⟩ := Kd.at_int HR0.out x5_1 p162 q162
        cases e162
        replace p162 := eq_true p162
        replace q162 := eq_true q162
        have p163 : 0 ≤ (x5_1 : Int) := of_decide_eq_true as_
        have q163 : x5_1 < (l1.length : Int) := of_decide_eq_true as_
        obtain ⟨ad163, e163, hx163_0⟩ := Kd.at_int HR1.out x5_1 p163 q163
        cases e163
        replace p163 := eq_true p163
        replace q163 := eq_true q163
        go_wp2
        repeat (go_quiet (fail); try go_wp2)
        go_roundg k1
        case measure => have := HK1.out; omega
        case rel => exact ⟨(wrap64 (x5_1 + 1)), rs_, H', ⟨by have := HK1.out; omega⟩, dn_⟩
       ·rw [if_neg c7] at H
        have c7b0 : ((rd l0 x5_1) == (rd l1 x5_1)) = false := beq_eq_false_iff_ne.mpr c7
        have c7b1 : ((rd l0 x5_1) != (rd l1 x5_1)) = true := bne_iff_ne.mpr c7
        obtain rfl := Option.some.inj H
        have p162 : 0 ≤ (x5_1 : Int) := of_decide_eq_true as_
        have q162 : x5_1 < (l0.length : Int) := of_decide_eq_true as_
        obtain ⟨ad162, e162, hx162_0⟩ := Kd.at_int HR0.out x5_1 p162 q162
        cases e162
        replace p162 := eq_true p162
        replace q162 := eq_true q162
        have p163 : 0 ≤ (x5_1 : Int) := of_decide_eq_true as_
        have q163 : x5_1 < (l1.length : Int) := of_decide_eq_true as_
        obtain ⟨ad163, e163, hx163_0⟩ := Kd.at_int HR1.out x5_1 p163 q163
        cases e163
        replace p163 := eq_true p163
        replace q163 := eq_true q163
        go_wp2
        repeat (go_quiet (fail); try go_wp2)
        go_ret
        exact ⟨rs_, dn_⟩
      ·rw [if_neg c6] at H
       exact absurd H (by simp)
     ·rw [if_neg c5] at H
      exact absurd H (by simp)
    ·rw [if_neg c4] at H
     have c4b0 : decide (x5_1 < (l0.length : Int)) = false := decide_eq_false c4
     clear c4
     obtain rfl := Option.some.inj H
     go_wp2
     repeat (go_quiet (fail); try go_wp2)
     go_ret
     exact ⟨rs_, dn_⟩
 ·rw [if_neg c3] at H
  have c3b0 : ((l0.length : Int) == (l1.length : Int)) = false := beq_eq_false_iff_ne.mpr c3
  have c3b1 : ((l0.length : Int) != (l1.length : Int)) = true := bne_iff_ne.mpr c3
  have c3b2 : (l0.length == l1.length) = false := by first | simpa using c3 | (simp at c3 ⊢; omega)
  obtain rfl := Option.some.inj H
  go_enter Try.func49, Try.ntmps49
  go_wp2
  repeat (go_quiet (fail); try go_wp2)
  go_ret
  exact ⟨rs_, dn_⟩
def speculumlaw06_Four.f  : Option (List Int × List Int × List Int) := some ((([10, 4, 6, 12] : List Int)), (([0, 1, 2, 3] : List Int)), (([1, 1, 1, 1] : List Int)))
set_option maxHeartbeats 8000000 in
set_option maxRecDepth 100000 in
theorem speculumlaw06_Four.calls  (r1 : List Int) (r2 : List Int) (r3 : List Int) (w : World) (h : speculumlaw06_Four.f  = some (r1, r2, r3)) :
  Calls Try.prog 58 #[] w fun e w' => ∃ v0_ v1_ v2_ : Value, e = .returned (.agg #[v0_, v1_, v2_]) ∧ Kd.R (Kd.int .i64) 3 w' w.heap.size (fun k_ => some k_ ≠ (v1_ : Value).ownBlock ∧ some k_ ≠ (v2_ : Value).ownBlock) v0_ r1 ∧ Kd.R (Kd.int .i64) 3 w' w.heap.size (fun k_ => some k_ ≠ (v0_ : Value).ownBlock ∧ some k_ ≠ (v2_ : Value).ownBlock) v1_ r2 ∧ Kd.R (Kd.int .i64) 3 w' w.heap.size (fun k_ => some k_ ≠ (v0_ : Value).ownBlock ∧ some k_ ≠ (v1_ : Value).ownBlock) v2_ r3 ∧ Below w.heap.size w w' := by
 have hu24 := Try.underlying24
 have HB := Aside0.mk (Below.refl w.heap.size w)
 have H : (some ((([10, 4, 6, 12] : List Int)), (([0, 1, 2, 3] : List Int)), (([1, 1, 1, 1] : List Int)))) = some (r1, r2, r3) := h
 clear h
 obtain ⟨y165, hy165⟩ : ∃ y_ : List Int, y_ = (([10, 4, 6, 12] : List Int)) := ⟨_, rfl⟩
 replace H : (some (y165, (([0, 1, 2, 3] : List Int)), (([1, 1, 1, 1] : List Int)))) = some (r1, r2, r3) := by first | (rw [hy165]; with_reducible exact H) | (have H2_ := (Option.bind_some _ _).symm.trans H; rw [hy165]; with_reducible exact H2_) | (have H2_ := (Option.bind_some _ _).symm.trans H; with_reducible exact H2_) | with_reducible exact H | (rw [hy165]; exact H) | exact H
 have Ny165 := Aside0.mk hy165
 clear hy165
 obtain ⟨y168, hy168⟩ : ∃ y_ : List Int, y_ = (([0, 1, 2, 3] : List Int)) := ⟨_, rfl⟩
 replace H : (some (y165, y168, (([1, 1, 1, 1] : List Int)))) = some (r1, r2, r3) := by first | (rw [hy168]; with_reducible exact H) | (have H2_ := (Option.bind_some _ _).symm.trans H; rw [hy168]; with_reducible exact H2_) | (have H2_ := (Option.bind_some _ _).symm.trans H; with_reducible exact H2_) | with_reducible exact H | (rw [hy168]; exact H) | exact H
 have Ny168 := Aside0.mk hy168
 clear hy168
 obtain ⟨y171, hy171⟩ : ∃ y_ : List Int, y_ = (([1, 1, 1, 1] : List Int)) := ⟨_, rfl⟩
 replace H : (some (y165, y168, y171)) = some (r1, r2, r3) := by first | (rw [hy171]; with_reducible exact H) | (have H2_ := (Option.bind_some _ _).symm.trans H; rw [hy171]; with_reducible exact H2_) | (have H2_ := (Option.bind_some _ _).symm.trans H; with_reducible exact H2_) | with_reducible exact H | (rw [hy171]; exact H) | exact H
 have Ny171 := Aside0.mk hy171
 clear hy171
 simp only [Option.some.injEq, Prod.mk.injEq] at H
 obtain ⟨rfl, rfl, rfl⟩ := H
 go_enter Try.func58, Try.ntmps58
 go_wp2_with (first | ((with_reducible refine gate_dst (N := 0) rfl ?_); refine box_event ?hg (N := 0) ?hd (cs := #[.slice none 0 0, .slice none 0 0, .slice none 0 0]) (t := 24) ?hr ?_; (case hd => rfl); (case hg => rfl); (case hr => exact gr_); intro gb164 hg w1 hbox hb; have n0_ := Aside0.mk (below_step (hb_ HB) hb); have n1_ := Aside0.mk (hbox); have n2_ := Aside0.mk ((hz_ HB hg)); have n3_ := Aside0.mk ((hz_ HB hg)); clear HB; have HB := n0_; have BK164 := n1_; have GW164 := n2_; have GE164 := n3_; clear n0_ n1_ n2_ n3_; clear hb hbox hg) | ((with_reducible refine gate_dst (N := 1) rfl ?_); refine Kd.R_lit (Kd.int .i64) _ 3 ?hg (N := 1) ?hd (xs := ([10, 4, 6, 12] : List Int)) (inner := [.int .i64 10, .int .i64 4, .int .i64 6, .int .i64 12]) (ok := fun _ => True) (okp := fun _ => True) ?hr ?hp (fun _ hk => hk) trivial (Below.refl _ _) (Nat.le_refl _) (by simp) ?_; (case hd => rfl); (case hg => rfl); (case hr => exact gr_); (case hp => exact (Reps.one (show Kd.M (Kd.int .i64) _ _ _ 10 [.int .i64 10] from rfl) (Reps.one (show Kd.M (Kd.int .i64) _ _ _ 4 [.int .i64 4] from rfl) (Reps.one (show Kd.M (Kd.int .i64) _ _ _ 6 [.int .i64 6] from rfl) (Reps.one (show Kd.M (Kd.int .i64) _ _ _ 12 [.int .i64 12] from rfl) (Reps.none _ _)))))); intro v166 w2 ho3 hb hg_ hnew_; clear hg_ hnew_; (first | rw [← Ny165.out] at ho3 | (simp only [Int.reduceToNat] at ho3; rw [← Ny165.out] at ho3)); have n0_ := Aside0.mk (Kd.R_lower ho3 (below_size (hb_ HB))); have n1_ := Aside0.mk (bb_ BK164 hb); have n2_ := Aside0.mk (below_step (hb_ HB) hb); clear BK164; clear HB; have HO167 := n0_; have BK164 := n1_; have HB := n2_; clear n0_ n1_ n2_; clear hb ho3) | ((with_reducible refine gate_dst (N := 2) rfl ?_); refine Kd.R_lit (Kd.int .i64) _ 3 ?hg (N := 2) ?hd (xs := ([0, 1, 2, 3] : List Int)) (inner := [.int .i64 0, .int .i64 1, .int .i64 2, .int .i64 3]) (ok := fun _ => True) (okp := fun _ => True) ?hr ?hp (fun _ hk => hk) trivial (Below.refl _ _) (Nat.le_refl _) (by simp) ?_; (case hd => rfl); (case hg => rfl); (case hr => exact gr_); (case hp => exact (Reps.one (show Kd.M (Kd.int .i64) _ _ _ 0 [.int .i64 0] from rfl) (Reps.one (show Kd.M (Kd.int .i64) _ _ _ 1 [.int .i64 1] from rfl) (Reps.one (show Kd.M (Kd.int .i64) _ _ _ 2 [.int .i64 2] from rfl) (Reps.one (show Kd.M (Kd.int .i64) _ _ _ 3 [.int .i64 3] from rfl) (Reps.none _ _)))))); intro v169 w4 ho5 hb hg_ hnew_; clear hg_ hnew_; (first | rw [← Ny168.out] at ho5 | (simp only [Int.reduceToNat] at ho5; rw [← Ny168.out] at ho5)); have n0_ := Aside0.mk (Kd.R_elder' (rk_ HO167) (Kd.R_base ho5) hb); have n1_ := Aside0.mk (Kd.R_lower (Kd.R_new' ho5 (Kd.R_lt (rk_ HO167))) (below_size (hb_ HB))); have n2_ := Aside0.mk (bb_ BK164 hb); have n3_ := Aside0.mk (below_step (hb_ HB) hb); clear HO167; clear BK164; clear HB; have HO167 := n0_; have HO170 := n1_; have BK164 := n2_; have HB := n3_; clear n0_ n1_ n2_ n3_; clear hb ho5) | ((with_reducible refine gate_dst (N := 3) rfl ?_); refine Kd.R_lit (Kd.int .i64) _ 3 ?hg (N := 3) ?hd (xs := ([1, 1, 1, 1] : List Int)) (inner := [.int .i64 1, .int .i64 1, .int .i64 1, .int .i64 1]) (ok := fun _ => True) (okp := fun _ => True) ?hr ?hp (fun _ hk => hk) trivial (Below.refl _ _) (Nat.le_refl _) (by simp) ?_; (case hd => rfl); (case hg => rfl); (case hr => exact gr_); (case hp => exact (Reps.one (show Kd.M (Kd.int .i64) _ _ _ 1 [.int .i64 1] from rfl) (Reps.one (show Kd.M (Kd.int .i64) _ _ _ 1 [.int .i64 1] from rfl) (Reps.one (show Kd.M (Kd.int .i64) _ _ _ 1 [.int .i64 1] from rfl) (Reps.one (show Kd.M (Kd.int .i64) _ _ _ 1 [.int .i64 1] from rfl) (Reps.none _ _)))))); intro v172 w6 ho7 hb hg_ hnew_; clear hg_ hnew_; (first | rw [← Ny171.out] at ho7 | (simp only [Int.reduceToNat] at ho7; rw [← Ny171.out] at ho7)); have n0_ := Aside0.mk (Kd.R_elder' (rk_ HO167) (Kd.R_base ho7) hb); have n1_ := Aside0.mk (Kd.R_elder' (rk_ HO170) (Kd.R_base ho7) hb); have n2_ := Aside0.mk (Kd.R_lower (Kd.R_new' (Kd.R_new' ho7 (Kd.R_lt (rk_ HO167))) (Kd.R_lt (rk_ HO170))) (below_size (hb_ HB))); have n3_ := Aside0.mk (bb_ BK164 hb); have n4_ := Aside0.mk (below_step (hb_ HB) hb); clear HO167; clear HO170; clear BK164; clear HB; have HO167 := n0_; have HO170 := n1_; have HO173 := n2_; have BK164 := n3_; have HB := n4_; clear n0_ n1_ n2_ n3_ n4_; clear hb ho7; obtain ⟨Ao8, co8, eo8⟩ := Kd.R_slice HO173.out; subst eo8; obtain ⟨Ao9, co9, eo9⟩ := Kd.R_slice HO170.out; subst eo9; obtain ⟨Ao10, co10, eo10⟩ := Kd.R_slice HO167.out; subst eo10; have hcz11_0 : w6.cell? ⟨gb164, 0, none⟩ = some (.slice none 0 0) := (blk_cell BK164.out 0).trans rfl; have hcz11_1 : w6.cell? ⟨gb164, 1, none⟩ = some (.slice none 0 0) := (blk_cell BK164.out 1).trans rfl; have hcz11_2 : w6.cell? ⟨gb164, 2, none⟩ = some (.slice none 0 0) := (blk_cell BK164.out 2).trans rfl; have hfz11_0 := blk_frozen BK164.out 0; have hfz11_1 := blk_frozen BK164.out 1; have hfz11_2 := blk_frozen BK164.out 2))
 refine bodyPost_ret (results_cell_row rfl _ _ gb164 24 #[.slice Ao10 y165.length co10, .slice Ao9 y168.length co9, .slice Ao8 y171.length co8] (0, 0) _ rfl (by (with_reducible repeat (first | refine blk_drewN ?_ _ | refine blk_drew ?_ | refine blk_alloc ?_ _)); refine blk_put (cs := #[.slice Ao10 y165.length co10, .slice Ao9 y168.length co9, .slice none 0 0]) ?_ 2 _ rfl; (with_reducible repeat (first | refine blk_drewN ?_ _ | refine blk_drew ?_ | refine blk_alloc ?_ _)); refine blk_put (cs := #[.slice Ao10 y165.length co10, .slice none 0 0, .slice none 0 0]) ?_ 1 _ rfl; (with_reducible repeat (first | refine blk_drewN ?_ _ | refine blk_drew ?_ | refine blk_alloc ?_ _)); refine blk_put (cs := #[.slice none 0 0, .slice none 0 0, .slice none 0 0]) ?_ 0 _ rfl; (with_reducible repeat (first | refine blk_drewN ?_ _ | refine blk_drew ?_ | refine blk_alloc ?_ _)); exact BK164.out) Try.underlying24 rfl (by kernel_rfl)) rfl ?_
 exact ⟨_, _, _, ew_, by (with_reducible repeat (first | apply Kd.R_alloc | apply Kd.R_drewN | apply Kd.R_drew)); exact Kd.R_mono (Kd.R_far (p := ⟨gb164, 2, none⟩) (Kd.R_far (p := ⟨gb164, 1, none⟩) (Kd.R_far (p := ⟨gb164, 0, none⟩) (Kd.R_types HO167.out BK164.out di_) (fun _ hk => hk.2) (.slice Ao10 y165.length co10)) (fun _ hk => hk.2) (.slice Ao9 y168.length co9)) (fun _ hk => hk.2) (.slice Ao8 y171.length co8)) (fun _ hk => ⟨hk.1.1.2, hk.1.2⟩), by (with_reducible repeat (first | apply Kd.R_alloc | apply Kd.R_drewN | apply Kd.R_drew)); exact Kd.R_mono (Kd.R_far (p := ⟨gb164, 2, none⟩) (Kd.R_far (p := ⟨gb164, 1, none⟩) (Kd.R_far (p := ⟨gb164, 0, none⟩) (Kd.R_types HO170.out BK164.out di_) (fun _ hk => hk.2) (.slice Ao10 y165.length co10)) (fun _ hk => hk.2) (.slice Ao9 y168.length co9)) (fun _ hk => hk.2) (.slice Ao8 y171.length co8)) (fun _ hk => ⟨hk.1.1.2, hk.1.2⟩), by (with_reducible repeat (first | apply Kd.R_alloc | apply Kd.R_drewN | apply Kd.R_drew)); exact Kd.R_mono (Kd.R_far (p := ⟨gb164, 2, none⟩) (Kd.R_far (p := ⟨gb164, 1, none⟩) (Kd.R_far (p := ⟨gb164, 0, none⟩) (Kd.R_types HO173.out BK164.out di_) (fun _ hk => hk.2) (.slice Ao10 y165.length co10)) (fun _ hk => hk.2) (.slice Ao9 y168.length co9)) (fun _ hk => hk.2) (.slice Ao8 y171.length co8)) (fun _ hk => ⟨hk.1.1.2, hk.1.2⟩), hb_ HB⟩
mutual
def figure_CheckEnclosure.l0 : Nat → List (S38) → Int → Int → Option (Int)
 | 0, _, _, _ => none
 | k + 1, x9, x10, x11 => if x11 < x10 then (if 0 ≤ x11 then (if x11 < (x9.length : Int) then ((figure_within.f ((rd_T38 x9 x11).f0) (-100000) 100000).bind fun t177 => (if t177 = true then ((figure_within.f ((rd_T38 x9 x11).f1) (-100000) 100000).bind fun t178 => (figure_CheckEnclosure.j1 k x9 x10 x11 (!t178) ((rd_T38 x9 x11).f0) ((rd_T38 x9 x11).f1))) else (figure_CheckEnclosure.j1 k x9 x10 x11 true ((rd_T38 x9 x11).f0) ((rd_T38 x9 x11).f1)))) else (none)) else (none)) else (some 0)
def figure_CheckEnclosure.j1 : Nat → List (S38) → Int → Int → Bool → Int → Int → Option (Int)
 | 0, _, _, _, _, _, _ => none
 | k + 1, x9, x10, x11, x15, x177000, x177001 => if x15 = true then (some 2) else (if x177000 > x177001 then (some 9) else (figure_CheckEnclosure.l0 k x9 x10 (wrap64 (x11 + 1))))
end
def figure_CheckEnclosure.f (k : Nat) (l0 : List (S38)) : Option (Int) := (figure_isZones.f (l0.length : Int)).bind fun t174 => (if t174 = true then (figure_CheckEnclosure.l0 k l0 (l0.length : Int) 0) else (some 10))
theorem figure_CheckEnclosure.mono_l : ∀ k, (∀ y0 y1 y2, LeO (figure_CheckEnclosure.l0 k y0 y1 y2) (figure_CheckEnclosure.l0 (k + 1) y0 y1 y2)) ∧ (∀ y0 y1 y2 y3 y4 y5, LeO (figure_CheckEnclosure.j1 k y0 y1 y2 y3 y4 y5) (figure_CheckEnclosure.j1 (k + 1) y0 y1 y2 y3 y4 y5))
 | 0 => ⟨fun _ _ _ r h => by simp [figure_CheckEnclosure.l0] at h, fun _ _ _ _ _ _ r h => by simp [figure_CheckEnclosure.j1] at h⟩
 | k + 1 => by
  obtain ⟨ih0, ih1⟩ := figure_CheckEnclosure.mono_l k
  refine ⟨?_, ?_⟩
  ·intro y0 y1 y2
   unfold figure_CheckEnclosure.l0
   repeat' first
   | (with_reducible exact ih0 _ _ _)
   | (with_reducible exact ih1 _ _ _ _ _ _)
   | (with_reducible exact LeO.refl _)
   | (with_reducible exact LeO.none _)
   | (with_reducible refine LeO.ite ?_ ?_)
   | (with_reducible refine LeO.bind ?_ (fun _ => ?_))
   | exact ih0 _ _ _
   | exact ih1 _ _ _ _ _ _
   | exact LeO.none _
   | refine LeO.ite ?_ ?_
   | refine LeO.bind ?_ (fun _ => ?_)
  ·intro y0 y1 y2 y3 y4 y5
   unfold figure_CheckEnclosure.j1
   repeat' first
   | (with_reducible exact ih0 _ _ _)
   | (with_reducible exact ih1 _ _ _ _ _ _)
   | (with_reducible exact LeO.refl _)
   | (with_reducible exact LeO.none _)
   | (with_reducible refine LeO.ite ?_ ?_)
   | (with_reducible refine LeO.bind ?_ (fun _ => ?_))
   | exact ih0 _ _ _
   | exact ih1 _ _ _ _ _ _
   | exact LeO.none _
   | refine LeO.ite ?_ ?_
   | refine LeO.bind ?_ (fun _ => ?_)
theorem figure_CheckEnclosure.mono : ∀ a0 k, LeO (figure_CheckEnclosure.f k a0) (figure_CheckEnclosure.f (k + 1) a0) := by
 intro a0 k
 obtain ⟨ih0, ih1⟩ := figure_CheckEnclosure.mono_l k
 unfold figure_CheckEnclosure.f
 repeat' first
   | (with_reducible exact ih0 _ _ _)
   | (with_reducible exact ih1 _ _ _ _ _ _)
   | (with_reducible exact LeO.refl _)
   | (with_reducible exact LeO.none _)
   | (with_reducible refine LeO.ite ?_ ?_)
   | (with_reducible refine LeO.bind ?_ (fun _ => ?_))
   | exact ih0 _ _ _
   | exact ih1 _ _ _ _ _ _
   | exact LeO.none _
   | refine LeO.ite ?_ ?_
   | refine LeO.bind ?_ (fun _ => ?_)
set_option maxHeartbeats 8000000 in
set_option maxRecDepth 100000 in
theorem figure_CheckEnclosure.calls (k : Nat) (A0 : Option Addr) (c0 : Nat) (l0 : List (S38)) (r : Int) (w : World) (hr0 : Kd.C k38 w A0 l0.length l0) (hc0 : l0.length ≤ c0) (h : figure_CheckEnclosure.f k l0 = some r) :
  Calls Try.prog 25 #[.slice A0 l0.length c0] w fun e w' => e = .returned (.int .i64 r) ∧ Below w.heap.size w w' := by
 have hu38 := Try.underlying38
 have HR0 := Aside0.mk hr0
 have HC0 := Aside0.mk hc0
 clear hr0 hc0
 have HB := Aside0.mk (Below.refl w.heap.size w)
 have H : ((figure_isZones.f (l0.length : Int)).bind fun t174 => (if t174 = true then (figure_CheckEnclosure.l0 k l0 (l0.length : Int) 0) else (some 10))) = some r := h
 clear h
 replace H := Option.bind_eq_some_iff.mp H
 obtain ⟨t174, A20, H⟩ := H
 replace H : (if t174 = true then (figure_CheckEnclosure.l0 k l0 (l0.length : Int) 0) else (some 10)) = some r := H
 have A2 := Aside0.mk A20
 clear A20
 by_cases c3 : t174 = true
 ·subst c3
  have H1 : (figure_CheckEnclosure.l0 k l0 (l0.length : Int) 0) = some r := by rw [if_pos rfl] at H; exact H
  clear H
  have H := H1
  clear H1
  have H' := Aside0.mk H
  clear H
  go_enter Try.func25, Try.ntmps25
  go_wp2_with (first | ((with_reducible refine gate_callee (f := 65) rfl ?_); refine goesL_ (some 7) rfl rfl Try.func65 (by kernel_rfl) rfl #[.int .i64 (l0.length : Int)] rfl ma_ ?_; (with_reducible refine (figure_isZones.calls (l0.length : Int) true _ A2.out).mono ?_); rintro e w' ⟨rfl, ⟨nd, rfl⟩⟩; refine ⟨_, rfl, ?_⟩))
  go_loopg [11] k (fun kq v11 w' => ∃ (x11_1 : Int), v11 = .int .i64 x11_1 ∧ Aside0 (figure_CheckEnclosure.l0 kq l0 (l0.length : Int) x11_1 = some r) ∧ Aside0 (kq ≤ k) ∧ Aside0 (Below w.heap.size w w'))
  case atStart => exact ⟨(0), rs_, H', ⟨Nat.le_refl _⟩, ⟨hb_ HB⟩⟩
  case round =>
   clear H'
   try clear c2
   try clear p2
   try clear c3
   obtain ⟨x11_1, rfl, HA, HK1, HB⟩ := hrel
   cases gk with
   | zero => exact absurd HA.out (by simp [figure_CheckEnclosure.l0])
   | succ k1 =>
    have H := HA.out
    clear HA
    simp only [figure_CheckEnclosure.l0] at H
    by_cases c4 : x11_1 < (l0.length : Int)
    ·rw [if_pos c4] at H
     have c4b0 : decide (x11_1 < (l0.length : Int)) = true := decide_eq_true c4
     clear c4
     by_cases c5 : 0 ≤ x11_1
     ·rw [if_pos c5] at H
      have c5b0 : decide (0 ≤ x11_1) = true := decide_eq_true c5
      clear c5
      by_cases c6 : x11_1 < (l0.length : Int)
      ·rw [if_pos c6] at H
       have c6b0 : decide (x11_1 < (l0.length : Int)) = true := decide_eq_true c6
       clear c6
       have HC7 := Aside0.mk H
       clear H
       have p175 : 0 ≤ (x11_1 : Int) := of_decide_eq_true as_
       have q175 : x11_1 < (l0.length : Int) := of_decide_eq_true as_
       obtain ⟨ad175, e175, hx175_0, hx175_1⟩ := at_T38 HR0.out x11_1 p175 q175
       cases e175
       replace hx175_0 := (HB.out.cell (World.block_lt_of_cell? w _ hx175_0)).trans hx175_0
       replace hx175_1 := (HB.out.cell (World.block_lt_of_cell? w _ hx175_1)).trans hx175_1
       replace p175 := eq_true p175
       replace q175 := eq_true q175
       go_upto_region 6 with (first | ((with_reducible refine gate_dst (N := 4) rfl ?_); refine box_event ?hg (N := 4) ?hd (cs := #[.int .i64 0, .int .i64 0]) (t := 38) ?hr ?_; (case hd => rfl); (case hg => rfl); (case hr => exact gr_); intro gb176 hg w8 hbox hb; have n0_ := Aside0.mk (below_step (hb_ HB) hb); have n1_ := Aside0.mk (hbox); have n2_ := Aside0.mk ((hz_ HB hg)); have n3_ := Aside0.mk ((hz_ HB hg)); clear HB; have HB := n0_; have BK176 := n1_; have GW176 := n2_; have GE176 := n3_; clear n0_ n1_ n2_ n3_; clear hb hbox hg; have hcz9_0 : w8.cell? ⟨gb176, 0, none⟩ = some (.int .i64 0) := (blk_cell BK176.out 0).trans rfl; have hcz9_1 : w8.cell? ⟨gb176, 1, none⟩ = some (.int .i64 0) := (blk_cell BK176.out 1).trans rfl; have hfz9_0 := blk_frozen BK176.out 0; have hfz9_1 := blk_frozen BK176.out 1))
       (try simp only [Act.put, List.setIfInBounds_toArray, List.set_cons_zero, List.set_cons_succ])
       go_cut [15] (fun v15 wc => ∃ (kq : Nat) (x15_6 : Bool), v15 = .bool x15_6 ∧ Aside0 (figure_CheckEnclosure.j1 kq l0 (l0.length : Int) x11_1 x15_6 ((rd_T38 l0 x11_1).f0) ((rd_T38 l0 x11_1).f1) = some r) ∧ Aside0 (kq ≤ k1) ∧ Aside0 (wc.heap[gb176]? = some (.cells #[.int .i64 ((rd_T38 l0 x11_1).f0), .int .i64 ((rd_T38 l0 x11_1).f1)] 38 (0, 0))) ∧ Aside0 (Below w.heap.size w wc))
       case first =>
        have H := HC7.out
        clear HC7
        replace H := Option.bind_eq_some_iff.mp H
        obtain ⟨t177, A100, H⟩ := H
        replace H : (if t177 = true then ((figure_within.f ((rd_T38 l0 x11_1).f1) (-100000) 100000).bind fun t178 => (figure_CheckEnclosure.j1 k1 l0 (l0.length : Int) x11_1 (!t178) ((rd_T38 l0 x11_1).f0) ((rd_T38 l0 x11_1).f1))) else (figure_CheckEnclosure.j1 k1 l0 (l0.length : Int) x11_1 true ((rd_T38 l0 x11_1).f0) ((rd_T38 l0 x11_1).f1))) = some r := H
        have A10 := Aside0.mk A100
        clear A100
        by_cases c11 : t177 = true
        ·subst c11
         have H1 : ((figure_within.f ((rd_T38 l0 x11_1).f1) (-100000) 100000).bind fun t178 => (figure_CheckEnclosure.j1 k1 l0 (l0.length : Int) x11_1 (!t178) ((rd_T38 l0 x11_1).f0) ((rd_T38 l0 x11_1).f1))) = some r := by rw [if_pos rfl] at H; exact H
         clear H
         have H := H1
         clear H1
         replace H := Option.bind_eq_some_iff.mp H
         obtain ⟨t178, A120, H⟩ := H
         replace H : (figure_CheckEnclosure.j1 k1 l0 (l0.length : Int) x11_1 (!t178) ((rd_T38 l0 x11_1).f0) ((rd_T38 l0 x11_1).f1)) = some r := H
         have A12 := Aside0.mk A120
         clear A120
         have H' := Aside0.mk H
         clear H
         have hcz13_0 : w8.cell? ⟨gb176, 0, none⟩ = some (.int .i64 0) := (blk_cell BK176.out 0).trans rfl
         have hcz13_1 : w8.cell? ⟨gb176, 1, none⟩ = some (.int .i64 0) := (blk_cell BK176.out 1).trans rfl
         have hfz13_0 := blk_frozen BK176.out 0
         have hfz13_1 := blk_frozen BK176.out 1
         go_wp2_with (first | ((with_reducible refine gate_callee (f := 66) rfl ?_); refine goesL_ (some 18) rfl rfl Try.func66 (by kernel_rfl) rfl #[.int .i64 ((rd_T38 l0 x11_1).f0), .int .i64 (-100000), .int .i64 100000] rfl ma_ ?_; (with_reducible refine (figure_within.calls ((rd_T38 l0 x11_1).f0) (-100000) 100000 true _ A10.out).mono ?_); rintro e w' ⟨rfl, ⟨nd, rfl⟩⟩; refine ⟨_, rfl, ?_⟩) | (go_at_call 66; (with_reducible refine (figure_within.calls ((rd_T38 l0 x11_1).f1) (-100000) 100000 t178 _ A12.out).mono ?_); rintro e w' ⟨rfl, ⟨nd, rfl⟩⟩))
         go_meet
         case rel => exact ⟨_, (!t178), rs_, H', ⟨by have := HK1.out; first | omega | exact Nat.le_refl _⟩, ⟨by (with_reducible repeat (first | refine blk_drewN ?_ _ | refine blk_drew ?_ | refine blk_alloc ?_ _)); refine blk_put (cs := #[.int .i64 ((rd_T38 l0 x11_1).f0), .int .i64 0]) ?_ 1 _ rfl; (with_reducible repeat (first | refine blk_drewN ?_ _ | refine blk_drew ?_ | refine blk_alloc ?_ _)); refine blk_put (cs := #[.int .i64 0, .int .i64 0]) ?_ 0 _ rfl; (with_reducible repeat (first | refine blk_drewN ?_ _ | refine blk_drew ?_ | refine blk_alloc ?_ _)); exact BK176.out⟩, ⟨hb_ HB⟩⟩
        ·replace c11 := Bool.eq_false_iff.mpr c11
         subst c11
         have H1 : (figure_CheckEnclosure.j1 k1 l0 (l0.length : Int) x11_1 true ((rd_T38 l0 x11_1).f0) ((rd_T38 l0 x11_1).f1)) = some r := by rw [if_neg (show ¬ (false = true) by decide)] at H; exact H
         clear H
         have H := H1
         clear H1
         have H' := Aside0.mk H
         clear H
         have hcz14_0 : w8.cell? ⟨gb176, 0, none⟩ = some (.int .i64 0) := (blk_cell BK176.out 0).trans rfl
         have hcz14_1 : w8.cell? ⟨gb176, 1, none⟩ = some (.int .i64 0) := (blk_cell BK176.out 1).trans rfl
         have hfz14_0 := blk_frozen BK176.out 0
         have hfz14_1 := blk_frozen BK176.out 1
         go_wp2_with (first | ((with_reducible refine gate_callee (f := 66) rfl ?_); refine goesL_ (some 18) rfl rfl Try.func66 (by kernel_rfl) rfl #[.int .i64 ((rd_T38 l0 x11_1).f0), .int .i64 (-100000), .int .i64 100000] rfl ma_ ?_; (with_reducible refine (figure_within.calls ((rd_T38 l0 x11_1).f0) (-100000) 100000 false _ A10.out).mono ?_); rintro e w' ⟨rfl, ⟨nd, rfl⟩⟩; refine ⟨_, rfl, ?_⟩))
         go_meet
         case rel => exact ⟨_, (true), rs_, H', ⟨by have := HK1.out; first | omega | exact Nat.le_refl _⟩, ⟨by (with_reducible repeat (first | refine blk_drewN ?_ _ | refine blk_drew ?_ | refine blk_alloc ?_ _)); refine blk_put (cs := #[.int .i64 ((rd_T38 l0 x11_1).f0), .int .i64 0]) ?_ 1 _ rfl; (with_reducible repeat (first | refine blk_drewN ?_ _ | refine blk_drew ?_ | refine blk_alloc ?_ _)); refine blk_put (cs := #[.int .i64 0, .int .i64 0]) ?_ 0 _ rfl; (with_reducible repeat (first | refine blk_drewN ?_ _ | refine blk_drew ?_ | refine blk_alloc ?_ _)); exact BK176.out⟩, ⟨hb_ HB⟩⟩
       case rest =>
        clear HC7
        try clear c1
        try clear p1
        try clear q1
        try clear hx1
        try clear c2
        try clear p2
        try clear c3
        try clear c4
        try clear c4b0
        try clear c5
        try clear c5b0
        try clear c6
        try clear c6b0
        try clear c11
        try clear hcz13_0
        try clear hcz13_1
        try clear hcz14_0
        try clear hcz14_1
        try clear hcz9_0
        try clear hcz9_1
        try clear hfz13_0
        try clear hfz13_1
        try clear hfz14_0
        try clear hfz14_1
        try clear hfz9_0
        try clear hfz9_1
        try clear hx175_0
        try clear hx175_1
        try clear p175
        try clear p2
        try clear q175
        obtain ⟨kq, x15_6, rfl, HA, HJ6, BK176, HB⟩ := hcut
        cases kq with
        | zero => exact absurd HA.out (by simp [figure_CheckEnclosure.j1])
        | succ kj6 =>
         have H := HA.out
         clear HA
         simp only [figure_CheckEnclosure.j1] at H
         by_cases c15 : x15_6 = true
         ·subst c15
          have H1 : (some 2) = some r := by rw [if_pos rfl] at H; exact H
          clear H
          have H := H1
          clear H1
          obtain rfl := Option.some.inj H
          go_wp2
          go_ret
          exact ⟨ew_, hb_ HB⟩
         ·replace c15 := Bool.eq_false_iff.mpr c15
          subst c15
          have H1 : (if ((rd_T38 l0 x11_1).f0) > ((rd_T38 l0 x11_1).f1) then (some 9) else (figure_CheckEnclosure.l0 kj6 l0 (l0.length : Int) (wrap64 (x11_1 + 1)))) = some r := by rw [if_neg (show ¬ (false = true) by decide)] at H; exact H
          clear H
          have H := H1
          clear H1
          by_cases c16 : ((rd_T38 l0 x11_1).f0) > ((rd_T38 l0 x11_1).f1)
          ·rw [if_pos c16] at H
           have c16b0 : decide (((rd_T38 l0 x11_1).f1) < ((rd_T38 l0 x11_1).f0)) = true := decide_eq_true c16
           clear c16
           obtain rfl := Option.some.inj H
           have hcz17_0 : wc.cell? ⟨gb176, 0, none⟩ = some (.int .i64 ((rd_T38 l0 x11_1).f0)) := (blk_cell BK176.out 0).trans rfl
           have hcz17_1 : wc.cell? ⟨gb176, 1, none⟩ = some (.int .i64 ((rd_T38 l0 x11_1).f1)) := (blk_cell BK176.out 1).trans rfl
           have hfz17_0 := blk_frozen BK176.out 0
           have hfz17_1 := blk_frozen BK176.out 1
           go_wp2
           go_ret
           exact ⟨ew_, hb_ HB⟩
          ·rw [if_neg c16] at H
           have c16b0 : decide (((rd_T38 l0 x11_1).f1) < ((rd_T38 l0 x11_1).f0)) = false := decide_eq_false c16
           clear c16
           have H' := Aside0.mk H
           clear H
           have hcz18_0 : wc.cell? ⟨gb176, 0, none⟩ = some (.int .i64 ((rd_T38 l0 x11_1).f0)) := (blk_cell BK176.out 0).trans rfl
           have hcz18_1 : wc.cell? ⟨gb176, 1, none⟩ = some (.int .i64 ((rd_T38 l0 x11_1).f1)) := (blk_cell BK176.out 1).trans rfl
           have hfz18_0 := blk_frozen BK176.out 0
           have hfz18_1 := blk_frozen BK176.out 1
           go_wp2
           go_roundg kj6
           case measure => have := HK1.out; have := HJ6.out; omega
           case rel => exact ⟨(wrap64 (x11_1 + 1)), rs_, H', ⟨by have := HK1.out; have := HJ6.out; omega⟩, ⟨hb_ HB⟩⟩
      ·rw [if_neg c6] at H
       exact absurd H (by simp)
     ·rw [if_neg c5] at H
      exact absurd H (by simp)
    ·rw [if_neg c4] at H
     have c4b0 : decide (x11_1 < (l0.length : Int)) = false := decide_eq_false c4
     clear c4
     obtain rfl := Option.some.inj H
     go_wp2
     go_ret
     exact ⟨ew_, hb_ HB⟩
 ·replace c3 := Bool.eq_false_iff.mpr c3
  subst c3
  have H1 : (some 10) = some r := by rw [if_neg (show ¬ (false = true) by decide)] at H; exact H
  clear H
  have H := H1
  clear H1
  obtain rfl := Option.some.inj H
  go_enter Try.func25, Try.ntmps25
  go_wp2_with (first | ((with_reducible refine gate_callee (f := 65) rfl ?_); refine goesL_ (some 7) rfl rfl Try.func65 (by kernel_rfl) rfl #[.int .i64 (l0.length : Int)] rfl ma_ ?_; (with_reducible refine (figure_isZones.calls (l0.length : Int) false _ A2.out).mono ?_); rintro e w' ⟨rfl, ⟨nd, rfl⟩⟩; refine ⟨_, rfl, ?_⟩))
  go_ret
  exact ⟨ew_, hb_ HB⟩
def figure_CheckTolerance.f (a0_0 : Int) (a0_1 : Int) : Option (Int) := (figure_within.f a0_0 0 200000).bind fun t180 => (if t180 = true then ((figure_within.f a0_1 0 200000).bind fun t181 => (if t181 = true then (some 0) else (some 2))) else (some 2))
set_option maxHeartbeats 8000000 in
set_option maxRecDepth 100000 in
theorem figure_CheckTolerance.calls (a0_0 : Int) (a0_1 : Int) (r : Int) (w : World) (h : figure_CheckTolerance.f a0_0 a0_1 = some r) :
  Calls Try.prog 120 #[.agg #[.int .i64 a0_0, .int .i64 a0_1]] w fun e w' => e = .returned (.int .i64 r) ∧ Below w.heap.size w w' := by
 have hu59 := Try.underlying59
 have HB := Aside0.mk (Below.refl w.heap.size w)
 have H : ((figure_within.f a0_0 0 200000).bind fun t180 => (if t180 = true then ((figure_within.f a0_1 0 200000).bind fun t181 => (if t181 = true then (some 0) else (some 2))) else (some 2))) = some r := h
 clear h
 replace H := Option.bind_eq_some_iff.mp H
 obtain ⟨t180, A20, H⟩ := H
 replace H : (if t180 = true then ((figure_within.f a0_1 0 200000).bind fun t181 => (if t181 = true then (some 0) else (some 2))) else (some 2)) = some r := H
 have A2 := Aside0.mk A20
 clear A20
 by_cases c3 : t180 = true
 ·subst c3
  have H1 : ((figure_within.f a0_1 0 200000).bind fun t181 => (if t181 = true then (some 0) else (some 2))) = some r := by rw [if_pos rfl] at H; exact H
  clear H
  have H := H1
  clear H1
  replace H := Option.bind_eq_some_iff.mp H
  obtain ⟨t181, A40, H⟩ := H
  replace H : (if t181 = true then (some 0) else (some 2)) = some r := H
  have A4 := Aside0.mk A40
  clear A40
  by_cases c5 : t181 = true
  ·subst c5
   have H1 : (some 0) = some r := by rw [if_pos rfl] at H; exact H
   clear H
   have H := H1
   clear H1
   obtain rfl := Option.some.inj H
   go_enter Try.func120, Try.ntmps120
   go_wp2_with (first | ((with_reducible refine gate_dst (N := 1) rfl ?_); refine box_event ?hg (N := 1) ?hd (cs := #[.int .i64 a0_0, .int .i64 a0_1]) (t := 59) ?hr ?_; (case hd => rfl); (case hg => rfl); (case hr => exact gr_); intro gb179 hg w6 hbox hb; have n0_ := Aside0.mk (below_step (hb_ HB) hb); have n1_ := Aside0.mk (hbox); have n2_ := Aside0.mk ((hz_ HB hg)); have n3_ := Aside0.mk ((hz_ HB hg)); clear HB; have HB := n0_; have BK179 := n1_; have GW179 := n2_; have GE179 := n3_; clear n0_ n1_ n2_ n3_; clear hb hbox hg; have hcz7_0 : w6.cell? ⟨gb179, 0, none⟩ = some (.int .i64 a0_0) := (blk_cell BK179.out 0).trans rfl; have hcz7_1 : w6.cell? ⟨gb179, 1, none⟩ = some (.int .i64 a0_1) := (blk_cell BK179.out 1).trans rfl; have hfz7_0 := blk_frozen BK179.out 0; have hfz7_1 := blk_frozen BK179.out 1) | ((with_reducible refine gate_callee (f := 66) rfl ?_); refine goesL_ (some 5) rfl rfl Try.func66 (by kernel_rfl) rfl #[.int .i64 a0_0, .int .i64 0, .int .i64 200000] rfl ma_ ?_; (with_reducible refine (figure_within.calls a0_0 0 200000 true _ A2.out).mono ?_); rintro e w' ⟨rfl, ⟨nd, rfl⟩⟩; refine ⟨_, rfl, ?_⟩) | (go_at_call 66; (with_reducible refine (figure_within.calls a0_1 0 200000 true _ A4.out).mono ?_); rintro e w' ⟨rfl, ⟨nd, rfl⟩⟩))
   go_ret
   exact ⟨ew_, hb_ HB⟩
  ·replace c5 := Bool.eq_false_iff.mpr c5
   subst c5
   have H1 : (some 2) = some r := by rw [if_neg (show ¬ (false = true) by decide)] at H; exact H
   clear H
   have H := H1
   clear H1
   obtain rfl := Option.some.inj H
   go_enter Try.func120, Try.ntmps120
   go_wp2_with (first | ((with_reducible refine gate_dst (N := 1) rfl ?_); refine box_event ?hg (N := 1) ?hd (cs := #[.int .i64 a0_0, .int .i64 a0_1]) (t := 59) ?hr ?_; (case hd => rfl); (case hg => rfl); (case hr => exact gr_); intro gb179 hg w8 hbox hb; have n0_ := Aside0.mk (below_step (hb_ HB) hb); have n1_ := Aside0.mk (hbox); have n2_ := Aside0.mk ((hz_ HB hg)); have n3_ := Aside0.mk ((hz_ HB hg)); clear HB; have HB := n0_; have BK179 := n1_; have GW179 := n2_; have GE179 := n3_; clear n0_ n1_ n2_ n3_; clear hb hbox hg; have hcz9_0 : w8.cell? ⟨gb179, 0, none⟩ = some (.int .i64 a0_0) := (blk_cell BK179.out 0).trans rfl; have hcz9_1 : w8.cell? ⟨gb179, 1, none⟩ = some (.int .i64 a0_1) := (blk_cell BK179.out 1).trans rfl; have hfz9_0 := blk_frozen BK179.out 0; have hfz9_1 := blk_frozen BK179.out 1) | ((with_reducible refine gate_callee (f := 66) rfl ?_); refine goesL_ (some 5) rfl rfl Try.func66 (by kernel_rfl) rfl #[.int .i64 a0_0, .int .i64 0, .int .i64 200000] rfl ma_ ?_; (with_reducible refine (figure_within.calls a0_0 0 200000 true _ A2.out).mono ?_); rintro e w' ⟨rfl, ⟨nd, rfl⟩⟩; refine ⟨_, rfl, ?_⟩) | (go_at_call 66; (with_reducible refine (figure_within.calls a0_1 0 200000 false _ A4.out).mono ?_); rintro e w' ⟨rfl, ⟨nd, rfl⟩⟩))
   go_ret
   exact ⟨ew_, hb_ HB⟩
 ·replace c3 := Bool.eq_false_iff.mpr c3
  subst c3
  have H1 : (some 2) = some r := by rw [if_neg (show ¬ (false = true) by decide)] at H; exact H
  clear H
  have H := H1
  clear H1
  obtain rfl := Option.some.inj H
  go_enter Try.func120, Try.ntmps120
  go_wp2_with (first | ((with_reducible refine gate_dst (N := 1) rfl ?_); refine box_event ?hg (N := 1) ?hd (cs := #[.int .i64 a0_0, .int .i64 a0_1]) (t := 59) ?hr ?_; (case hd => rfl); (case hg => rfl); (case hr => exact gr_); intro gb179 hg w10 hbox hb; have n0_ := Aside0.mk (below_step (hb_ HB) hb); have n1_ := Aside0.mk (hbox); have n2_ := Aside0.mk ((hz_ HB hg)); have n3_ := Aside0.mk ((hz_ HB hg)); clear HB; have HB := n0_; have BK179 := n1_; have GW179 := n2_; have GE179 := n3_; clear n0_ n1_ n2_ n3_; clear hb hbox hg; have hcz11_0 : w10.cell? ⟨gb179, 0, none⟩ = some (.int .i64 a0_0) := (blk_cell BK179.out 0).trans rfl; have hcz11_1 : w10.cell? ⟨gb179, 1, none⟩ = some (.int .i64 a0_1) := (blk_cell BK179.out 1).trans rfl; have hfz11_0 := blk_frozen BK179.out 0; have hfz11_1 := blk_frozen BK179.out 1) | ((with_reducible refine gate_callee (f := 66) rfl ?_); refine goesL_ (some 5) rfl rfl Try.func66 (by kernel_rfl) rfl #[.int .i64 a0_0, .int .i64 0, .int .i64 200000] rfl ma_ ?_; (with_reducible refine (figure_within.calls a0_0 0 200000 false _ A2.out).mono ?_); rintro e w' ⟨rfl, ⟨nd, rfl⟩⟩; refine ⟨_, rfl, ?_⟩))
  go_ret
  exact ⟨ew_, hb_ HB⟩
def figure_checkAll.f (k : Nat) (l0 : List (S38)) (a1_0 : Int) (a1_1 : Int) : Option (Int) := (figure_CheckEnclosure.f k l0).bind fun t183 => (if t183 = 0 then ((figure_CheckTolerance.f a1_0 a1_1).bind fun t184 => (some t184)) else (some t183))
theorem figure_checkAll.mono : ∀ a0 a1 a2 k, LeO (figure_checkAll.f k a0 a1 a2) (figure_checkAll.f (k + 1) a0 a1 a2) := by
 intro a0 a1 a2 k
 unfold figure_checkAll.f
 repeat' first
   | (with_reducible exact figure_CheckEnclosure.mono _ _)
   | (with_reducible exact LeO.refl _)
   | (with_reducible exact LeO.none _)
   | (with_reducible refine LeO.ite ?_ ?_)
   | (with_reducible refine LeO.bind ?_ (fun _ => ?_))
   | exact figure_CheckEnclosure.mono _ _
   | exact LeO.none _
   | refine LeO.ite ?_ ?_
   | refine LeO.bind ?_ (fun _ => ?_)
set_option maxHeartbeats 8000000 in
set_option maxRecDepth 100000 in
theorem figure_checkAll.calls (k : Nat) (A0 : Option Addr) (c0 : Nat) (l0 : List (S38)) (a1_0 : Int) (a1_1 : Int) (r : Int) (w : World) (hr0 : Kd.C k38 w A0 l0.length l0) (hc0 : l0.length ≤ c0) (h : figure_checkAll.f k l0 a1_0 a1_1 = some r) :
  Calls Try.prog 102 #[.slice A0 l0.length c0, .agg #[.int .i64 a1_0, .int .i64 a1_1]] w fun e w' => e = .returned (.int .i64 r) ∧ Below w.heap.size w w' := by
 have hu59 := Try.underlying59
 have HR0 := Aside0.mk hr0
 have HC0 := Aside0.mk hc0
 clear hr0 hc0
 have HB := Aside0.mk (Below.refl w.heap.size w)
 have H : ((figure_CheckEnclosure.f k l0).bind fun t183 => (if t183 = 0 then ((figure_CheckTolerance.f a1_0 a1_1).bind fun t184 => (some t184)) else (some t183))) = some r := h
 clear h
 replace H := Option.bind_eq_some_iff.mp H
 obtain ⟨t183, A30, H⟩ := H
 replace H : (if t183 = 0 then ((figure_CheckTolerance.f a1_0 a1_1).bind fun t184 => (some t184)) else (some t183)) = some r := H
 have A3 := Aside0.mk A30
 clear A30
 by_cases c4 : t183 = 0
 ·rw [if_pos c4] at H
  have c4b0 : (t183 == 0) = true := beq_iff_eq.mpr c4
  have c4b1 : (t183 != 0) = false := bne_eq_false_iff_eq.mpr c4
  clear c4
  replace H := Option.bind_eq_some_iff.mp H
  obtain ⟨t184, A50, H⟩ := H
  replace H : (some t184) = some r := H
  have A5 := Aside0.mk A50
  clear A50
  obtain rfl := Option.some.inj H
  go_enter Try.func102, Try.ntmps102
  go_wp2_with (first | ((with_reducible refine gate_dst (N := 3) rfl ?_); refine box_event ?hg (N := 3) ?hd (cs := #[.int .i64 a1_0, .int .i64 a1_1]) (t := 59) ?hr ?_; (case hd => rfl); (case hg => rfl); (case hr => exact gr_); intro gb182 hg w6 hbox hb; have n0_ := Aside0.mk (below_step (hb_ HB) hb); have n1_ := Aside0.mk (hbox); have n2_ := Aside0.mk ((hz_ HB hg)); have n3_ := Aside0.mk ((hz_ HB hg)); clear HB; have HB := n0_; have BK182 := n1_; have GW182 := n2_; have GE182 := n3_; clear n0_ n1_ n2_ n3_; clear hb hbox hg) | ((with_reducible refine gate_callee (f := 25) rfl ?_); refine goesL_ (some 7) rfl rfl Try.func25 (by kernel_rfl) rfl #[.slice A0 l0.length c0] rfl ma_ ?_; (with_reducible refine (figure_CheckEnclosure.calls k _ _ l0 t183 _ ?side1 ?side2 A3.out).mono ?_); (case side1 => exact cb_ (Kd.C_below HR0.out HB.out)); (case side2 => exact HC0.out); rintro e w7 ⟨rfl, hb⟩; refine ⟨_, rfl, ?_⟩; have n0_ := Aside0.mk (bb_ BK182 hb); have n1_ := Aside0.mk (below_step (hb_ HB) hb); clear BK182; clear HB; have BK182 := n0_; have HB := n1_; clear n0_ n1_; (try clear hb); (try clear hb2); (try clear hk); (try clear hi); have hcz8_0 : w7.cell? ⟨gb182, 0, none⟩ = some (.int .i64 a1_0) := (blk_cell BK182.out 0).trans rfl; have hcz8_1 : w7.cell? ⟨gb182, 1, none⟩ = some (.int .i64 a1_1) := (blk_cell BK182.out 1).trans rfl; have hfz8_0 := blk_frozen BK182.out 0; have hfz8_1 := blk_frozen BK182.out 1) | ((with_reducible refine gate_callee (f := 120) rfl ?_); refine goesL_ (some 12) rfl rfl Try.func120 (by kernel_rfl) rfl #[.agg #[.int .i64 a1_0, .int .i64 a1_1]] rfl ma_ ?_; (with_reducible refine (figure_CheckTolerance.calls a1_0 a1_1 t184 _ A5.out).mono ?_); rintro e w9 ⟨rfl, hb⟩; refine ⟨_, rfl, ?_⟩; have n0_ := Aside0.mk (bb_ BK182 hb); have n1_ := Aside0.mk (below_step (hb_ HB) hb); clear BK182; clear HB; have BK182 := n0_; have HB := n1_; clear n0_ n1_; (try clear hb); (try clear hb2); (try clear hk); (try clear hi)))
  go_ret
  exact ⟨ew_, hb_ HB⟩
 ·rw [if_neg c4] at H
  have c4b0 : (t183 == 0) = false := beq_eq_false_iff_ne.mpr c4
  have c4b1 : (t183 != 0) = true := bne_iff_ne.mpr c4
  obtain rfl := Option.some.inj H
  go_enter Try.func102, Try.ntmps102
  go_wp2_with (first | ((with_reducible refine gate_dst (N := 3) rfl ?_); refine box_event ?hg (N := 3) ?hd (cs := #[.int .i64 a1_0, .int .i64 a1_1]) (t := 59) ?hr ?_; (case hd => rfl); (case hg => rfl); (case hr => exact gr_); intro gb182 hg w10 hbox hb; have n0_ := Aside0.mk (below_step (hb_ HB) hb); have n1_ := Aside0.mk (hbox); have n2_ := Aside0.mk ((hz_ HB hg)); have n3_ := Aside0.mk ((hz_ HB hg)); clear HB; have HB := n0_; have BK182 := n1_; have GW182 := n2_; have GE182 := n3_; clear n0_ n1_ n2_ n3_; clear hb hbox hg) | ((with_reducible refine gate_callee (f := 25) rfl ?_); refine goesL_ (some 7) rfl rfl Try.func25 (by kernel_rfl) rfl #[.slice A0 l0.length c0] rfl ma_ ?_; (with_reducible refine (figure_CheckEnclosure.calls k _ _ l0 t183 _ ?side1 ?side2 A3.out).mono ?_); (case side1 => exact cb_ (Kd.C_below HR0.out HB.out)); (case side2 => exact HC0.out); rintro e w11 ⟨rfl, hb⟩; refine ⟨_, rfl, ?_⟩; have n0_ := Aside0.mk (bb_ BK182 hb); have n1_ := Aside0.mk (below_step (hb_ HB) hb); clear BK182; clear HB; have BK182 := n0_; have HB := n1_; clear n0_ n1_; (try clear hb); (try clear hb2); (try clear hk); (try clear hi)))
  go_ret
  exact ⟨ew_, hb_ HB⟩
def figure_tolerance_bound.f (a0_0 : Int) (a0_1 : Int) (a1 : Int) (a2 : Int) : Option (Int) := (figure_size.f (wrap64 (a1 - a2))).bind fun t186 => (some (mn a0_0 (wrap64 (a0_1 * t186))))
def figure_tolerance_bound.T1 : Bool × List (List Nat × List Nat) := (true, [([], []), ([0], [0]), ([1], [1]), ([], []), ([3], [3]), ([4], [4]), ([], []), ([], []), ([6, 7], [6, 7]), ([8], [8]), ([5, 9], [5, 9]), ([2, 10], [2, 10]), ([11, 9, 0, 1, 2, 3, 4, 5, 6, 7, 8, 9, 10, 11], [11])])
def figure_tolerance_bound.B1 : List Nat := [0, 1, 3, 0, 8, 24, 0, 0, 192, 448, 1016, 2047, 4095]
theorem figure_tolerance_bound.tab1 : rtab .any (opsOf Try.f104 1) = figure_tolerance_bound.T1 := by kernel_rfl
theorem figure_tolerance_bound.bits1 : waitsOk figure_tolerance_bound.T1.2 figure_tolerance_bound.B1 = true := by kernel_rfl
set_option maxHeartbeats 8000000 in
set_option maxRecDepth 100000 in
theorem figure_tolerance_bound.calls (a0_0 : Int) (a0_1 : Int) (a1 : Int) (a2 : Int) (r : Int) (w : World) (h : figure_tolerance_bound.f a0_0 a0_1 a1 a2 = some r) :
  Calls Try.prog 104 #[.agg #[.int .i64 a0_0, .int .i64 a0_1], .int .i64 a1, .int .i64 a2] w fun e w' => e = .returned (.int .i64 r) ∧ Below w.heap.size w w' := by
 have hu118 := Try.underlying118
 have HB := Aside0.mk (Below.refl w.heap.size w)
 have H : ((figure_size.f (wrap64 (a1 - a2))).bind fun t186 => (some (mn a0_0 (wrap64 (a0_1 * t186))))) = some r := h
 clear h
 replace H := Option.bind_eq_some_iff.mp H
 obtain ⟨t186, A40, H⟩ := H
 replace H : (some (mn a0_0 (wrap64 (a0_1 * t186)))) = some r := H
 have A4 := Aside0.mk A40
 clear A40
 obtain ⟨ji5, hji5⟩ : ∃ j_ : Int, (mn a0_0 (wrap64 (a0_1 * t186))) = j_ := ⟨_, rfl⟩
 replace H : (some ji5) = some r := by first | (rw [hji5] at H; exact H) | (simp only [hji5] at H ⊢; exact H)
 (try rw [hji5] at A4)
 have hji5_ : (if (wrap64 (a0_1 * t186)) < a0_0 then (wrap64 (a0_1 * t186)) else a0_0) = ji5 := hji5
 obtain rfl := Option.some.inj H
 go_enter Try.func104, Try.ntmps104
 try go_wp2_with (first | ((with_reducible refine gate_dst (N := 3) rfl ?_); refine box_event ?hg (N := 3) ?hd (cs := #[.int .i64 a0_0, .int .i64 a0_1]) (t := 118) ?hr ?_; (case hd => rfl); (case hg => rfl); (case hr => exact gr_); intro gb185 hg w6 hbox hb; have n0_ := Aside0.mk (below_step (hb_ HB) hb); have n1_ := Aside0.mk (hbox); have n2_ := Aside0.mk ((hz_ HB hg)); have n3_ := Aside0.mk ((hz_ HB hg)); clear HB; have HB := n0_; have BK185 := n1_; have GW185 := n2_; have GE185 := n3_; clear n0_ n1_ n2_ n3_; clear hb hbox hg))
 have n0_ := Aside0.mk (blk_drew BK185.out)
 have n1_ := Aside0.mk (below_drew1 HB.out)
 clear BK185
 clear HB
 have BK185 := n0_
 have HB := n1_
 clear n0_ n1_
 refine start_ (n := 13) (S := fun w' => w'.cell? ⟨gb185, 0, none⟩ = some (.int .i64 a0_0) ∧ w'.cell? ⟨gb185, 1, none⟩ = some (.int .i64 a0_1)) (ds := []) #[false, false, false, false, false, false, false, false, false, false, false, false, false] (by kernel_rfl) rfl rfl ⟨(blk_cell BK185.out 0).trans rfl, (blk_cell BK185.out 1).trans rfl⟩ (fun hHeld => ?_); refine with_tabW figure_tolerance_bound.tab1 figure_tolerance_bound.bits1 (fun HT_ HW_ => ?_)
 generalize w6.drew = w7 at BK185 HB hHeld ⊢
 refine pure_ (i := 0) (N := some 7) (v := ?_) (a' := ?_) #[true, false, false, false, false, false, false, false, false, false, false, false, false] rfl rfl (any_of HT_.out (by kernel_rfl)) (fun _ _ _ h => h) (Or.inl ⟨by rfl, ?_⟩) ?_ ?_
 rotate_left
 ·exact gs_
 rotate_left
 ·exact pt_
 refine pure_ (i := 1) (N := some 8) (v := ?_) (a' := ?_) #[true, true, false, false, false, false, false, false, false, false, false, false, false] rfl rfl (any_of HT_.out (by kernel_rfl)) (fun _ _ _ h => h) (Or.inl ⟨by rfl, ?_⟩) ?_ ?_
 rotate_left
 ·exact gs_
 rotate_left
 ·exact pt_
 refine pure_ (i := 3) (N := some 10) (v := ?_) (a' := ?_) #[true, true, false, true, false, false, false, false, false, false, false, false, false] rfl rfl (any_of HT_.out (by kernel_rfl)) (fun _ _ _ h => h) (Or.inl ⟨by rfl, ?_⟩) ?_ ?_
 rotate_left
 ·exact gs_
 rotate_left
 ·exact pt_
 refine pure_ (i := 4) (N := some 11) (v := ?_) (a' := ?_) #[true, true, false, true, true, false, false, false, false, false, false, false, false] rfl rfl (any_of HT_.out (by kernel_rfl)) (fun _ _ _ h => h) (Or.inl ⟨by rfl, ?_⟩) ?_ ?_
 rotate_left
 ·exact gs_
 rotate_left
 ·exact pt_
 refine pure_ (i := 6) (N := some 13) (v := ?_) (a' := ?_) #[true, true, false, true, true, false, true, false, false, false, false, false, false] rfl rfl (any_of HT_.out (by kernel_rfl)) (fun _ _ _ h => h) (Or.inl ⟨by rfl, ?_⟩) ?_ ?_
 rotate_left
 ·exact gs_
 rotate_left
 ·exact pt_
 refine pure_ (i := 7) (N := some 14) (v := ?_) (a' := ?_) #[true, true, false, true, true, false, true, true, false, false, false, false, false] rfl rfl (any_of HT_.out (by kernel_rfl)) (fun _ _ _ h => h) (Or.inl ⟨by rfl, ?_⟩) ?_ ?_
 rotate_left
 ·exact gs_
 rotate_left
 ·exact pt_
 refine pure_ (i := 8) (N := some 15) (v := ?_) (a' := ?_) #[true, true, false, true, true, false, true, true, true, false, false, false, false] rfl rfl (any_of HT_.out (by kernel_rfl)) (fun _ _ _ h => h) (Or.inl ⟨by rfl, ?_⟩) ?_ ?_
 rotate_left
 ·exact gs_
 rotate_left
 ·exact pt_
 refine take_ (i := 2) (N := some 9) (v := ?_) (a' := ?_) #[true, true, true, true, true, false, true, true, true, false, false, false, false] rfl rfl (take_ofW HT_.out HW_.out (by kernel_rfl)) (fun _ _ _ h => h) (Or.inl ⟨by rfl, ?_⟩) hHeld ?_ ?_
 rotate_left
 ·rintro w' ⟨s0, s1⟩; go_simp; with_reducible rfl
 rotate_left
 ·exact pt_
 refine take_ (i := 5) (N := some 12) (v := ?_) (a' := ?_) #[true, true, true, true, true, true, true, true, true, false, false, false, false] rfl rfl (take_ofW HT_.out HW_.out (by kernel_rfl)) (fun _ _ _ h => h) (Or.inl ⟨by rfl, ?_⟩) hHeld ?_ ?_
 rotate_left
 ·rintro w' ⟨s0, s1⟩; go_simp; with_reducible rfl
 rotate_left
 ·exact pt_
 refine one_ (i := 9) (N := some 16) #[true, true, true, true, true, true, true, true, true, true, false, false, false] rfl rfl (one_of HT_.out (by kernel_rfl)) di_ (fun K hK => ?_)
 refine goes_ Try.func69 (by kernel_rfl) rfl #[.int .i64 (wrap64 (a1 - a2))] (by rfl) rfl rfl ma_ ?_
 with_reducible refine (figure_size.calls (wrap64 (a1 - a2)) t186 _ A4.out).mono ?_
 rintro e w8 ⟨rfl, hb⟩
 refine ⟨_, rfl, ?_⟩
 have n0_ := Aside0.mk (bb_ BK185 hb)
 have n1_ := Aside0.mk (below_step (hb_ HB) hb)
 clear BK185
 clear HB
 have BK185 := n0_
 have HB := n1_
 clear n0_ n1_
 (try clear hb)
 (try clear hb2)
 (try clear hk)
 (try clear hi)
 refine hK.out _ _ ⟨(blk_cell BK185.out 0).trans rfl, (blk_cell BK185.out 1).trans rfl⟩ (fun hHeld => ?_)
 clear hK K
 refine norm_ (a' := ?_) ?_ ?_
 rotate_left
 ·show Act.put _ (some 16) _ = _
  simp only [Act.put, List.setIfInBounds_toArray, List.set_cons_zero, List.set_cons_succ, i64_w, i32_w]
  rfl
 refine pure_ (i := 10) (N := some 17) (v := ?_) (a' := ?_) #[true, true, true, true, true, true, true, true, true, true, true, false, false] rfl rfl (any_of HT_.out (by kernel_rfl)) (fun _ _ _ h => h) (Or.inl ⟨by rfl, ?_⟩) ?_ ?_
 rotate_left
 ·exact gs_
 rotate_left
 ·exact pt_
 refine pure_ (i := 11) (N := some 18) (v := ?_) (a' := ?_) #[true, true, true, true, true, true, true, true, true, true, true, true, false] rfl rfl (any_of HT_.out (by kernel_rfl)) (fun _ _ _ h => h) (Or.inl ⟨by rfl, ?_⟩) ?_ ?_
 rotate_left
 ·exact gs_
 rotate_left
 ·exact pt_
 refine pure_ (i := 12) (N := some 6) (v := ?_) (a' := ?_) #[true, true, true, true, true, true, true, true, true, true, true, true, true] rfl rfl (any_of HT_.out (by kernel_rfl)) (fun _ _ _ h => h) (Or.inl ⟨by rfl, ?_⟩) ?_ ?_
 rotate_left
 ·exact gs_
 rotate_left
 ·exact pt_
 refine done_ (done_of HT_.out (by kernel_rfl)) ?_
 try go_wp2
 go_ret
 exact ⟨by first | rfl | (simp [errW_none, errW_some] <;> rfl) | (simp only [← hji5]; first | rfl | (simp [errW_none, errW_some] <;> rfl)) | (simp [*, errW_none, errW_some] <;> rfl), hb_ HB⟩
def speculumlaw06_Known.f  : Option ((List (S38))) := some (([(⟨0, 2⟩ : S38), (⟨1, 4⟩ : S38), (⟨3, 5⟩ : S38)] : List (S38)))
set_option maxHeartbeats 8000000 in
set_option maxRecDepth 100000 in
theorem speculumlaw06_Known.calls  (r : List (S38)) (w : World) (h : speculumlaw06_Known.f  = some r) :
  Calls Try.prog 60 #[] w fun e w' => ∃ v0_ : Value, e = .returned (v0_) ∧ Kd.R k38 38 w' w.heap.size (fun _ => True) v0_ r ∧ Below w.heap.size w w' := by
 have hu38 := Try.underlying38
 have HB := Aside0.mk (Below.refl w.heap.size w)
 have H : (some (([(⟨0, 2⟩ : S38), (⟨1, 4⟩ : S38), (⟨3, 5⟩ : S38)] : List (S38)))) = some r := h
 clear h
 obtain ⟨y194, hy194⟩ : ∃ y_ : List (S38), y_ = (([(⟨0, 2⟩ : S38), (⟨1, 4⟩ : S38), (⟨3, 5⟩ : S38)] : List (S38))) := ⟨_, rfl⟩
 replace H : (some y194) = some r := by first | (rw [hy194]; with_reducible exact H) | (have H2_ := (Option.bind_some _ _).symm.trans H; rw [hy194]; with_reducible exact H2_) | (have H2_ := (Option.bind_some _ _).symm.trans H; with_reducible exact H2_) | with_reducible exact H | (rw [hy194]; exact H) | exact H
 have Ny194 := Aside0.mk hy194
 clear hy194
 obtain rfl := Option.some.inj H
 go_enter Try.func60, Try.ntmps60
 go_wp2_with (first | ((with_reducible refine gate_dst (N := 4) rfl ?_); refine Kd.R_lit k38 _ 38 ?hg (N := 4) ?hd (xs := ([(⟨0, 2⟩ : S38), (⟨1, 4⟩ : S38), (⟨3, 5⟩ : S38)] : List (S38))) (inner := [.int .i64 0, .int .i64 2, .int .i64 1, .int .i64 4, .int .i64 3, .int .i64 5]) (ok := fun _ => True) (okp := fun _ => True) ?hr ?hp (fun _ hk => hk) trivial (Below.refl _ _) (Nat.le_refl _) (by simp) ?_; (case hd => rfl); (case hg => rfl); (case hr => exact gr_); (case hp => exact (Reps.c2 (show Kd.M k38 _ _ _ (⟨0, 2⟩ : S38) [.int .i64 0, .int .i64 2] from (k38_mkM _ _ _ (⟨0, 2⟩ : S38) )) (Reps.c2 (show Kd.M k38 _ _ _ (⟨1, 4⟩ : S38) [.int .i64 1, .int .i64 4] from (k38_mkM _ _ _ (⟨1, 4⟩ : S38) )) (Reps.c2 (show Kd.M k38 _ _ _ (⟨3, 5⟩ : S38) [.int .i64 3, .int .i64 5] from (k38_mkM _ _ _ (⟨3, 5⟩ : S38) )) (Reps.none _ _))))); intro v195 w1 ho2 hb hg_ hnew_; clear hg_ hnew_; (first | rw [← Ny194.out] at ho2 | (simp only [Int.reduceToNat] at ho2; rw [← Ny194.out] at ho2)); have n0_ := Aside0.mk (Kd.R_lower ho2 (below_size (hb_ HB))); have n1_ := Aside0.mk (below_step (hb_ HB) hb); clear HB; have HO196 := n0_; have HB := n1_; clear n0_ n1_; clear hb ho2))
 go_ret
 exact ⟨_, ew_, by (with_reducible repeat (first | apply Kd.R_alloc | apply Kd.R_drewN | apply Kd.R_drew)); exact HO196.out, hb_ HB⟩
def speculumbase_CopyInts.f (l0 : List Int) : Option (List Int) := (some (([] : List Int) : List Int)).bind fun y252 => (if y252.length + l0.length < 17592186044416 then (some (y252 ++ l0)) else (none))
set_option maxHeartbeats 8000000 in
set_option maxRecDepth 100000 in
theorem speculumbase_CopyInts.calls (A0 : Option Addr) (c0 : Nat) (l0 : List Int) (r : List Int) (w : World) (hr0 : Kd.C (Kd.int .i64) w A0 l0.length l0) (hc0 : l0.length ≤ c0) (h : speculumbase_CopyInts.f l0 = some r) :
  Calls Try.prog 46 #[.slice A0 l0.length c0] w fun e w' => ∃ v0_ : Value, e = .returned (v0_) ∧ Kd.R (Kd.int .i64) 3 w' w.heap.size (fun _ => True) v0_ r ∧ Below w.heap.size w w' := by
 have HR0 := Aside0.mk hr0
 have HC0 := Aside0.mk hc0
 clear hr0 hc0
 have HB := Aside0.mk (Below.refl w.heap.size w)
 have H : ((some (([] : List Int) : List Int)).bind fun y252 => (if y252.length + l0.length < 17592186044416 then (some (y252 ++ l0)) else (none))) = some r := h
 clear h
 obtain ⟨y252, hy252⟩ : ∃ y_ : List Int, y_ = (([] : List Int)) := ⟨_, rfl⟩
 replace H : (if y252.length + l0.length < 17592186044416 then (some (y252 ++ l0)) else (none)) = some r := by first | (rw [hy252]; with_reducible exact H) | (have H2_ := (Option.bind_some _ _).symm.trans H; rw [hy252]; with_reducible exact H2_) | (have H2_ := (Option.bind_some _ _).symm.trans H; with_reducible exact H2_) | with_reducible exact H | (rw [hy252]; exact H) | exact H
 have Ny252 := Aside0.mk hy252
 clear hy252
 by_cases c2 : y252.length + l0.length < 17592186044416
 ·rw [if_pos c2] at H
  have LMc2 := Aside0.mk c2
  clear c2
  obtain ⟨y255, hy255⟩ : ∃ y_ : List Int, y_ = (y252 ++ l0) := ⟨_, rfl⟩
  replace H : (some y255) = some r := by first | (rw [hy255]; with_reducible exact H) | (have H2_ := (Option.bind_some _ _).symm.trans H; rw [hy255]; with_reducible exact H2_) | (have H2_ := (Option.bind_some _ _).symm.trans H; with_reducible exact H2_) | with_reducible exact H | (rw [hy255]; exact H) | exact H
  have Ny255 := Aside0.mk hy255
  clear hy255
  obtain rfl := Option.some.inj H
  go_enter Try.func46, Try.ntmps46
  go_wp2_with (first | ((with_reducible refine gate_dst (N := 3) rfl ?_); refine Kd.R_lit (Kd.int .i64) _ 3 ?hg (N := 3) ?hd (xs := ([] : List Int)) (inner := []) (ok := fun _ => True) (okp := fun _ => True) ?hr ?hp (fun _ hk => hk) trivial (Below.refl _ _) (Nat.le_refl _) (by simp) ?_; (case hd => rfl); (case hg => rfl); (case hr => exact gr_); (case hp => exact (Reps.none _ _)); intro v253 w3 ho4 hb hg_ hnew_; clear hg_ hnew_; (first | rw [← Ny252.out] at ho4 | (simp only [Int.reduceToNat] at ho4; rw [← Ny252.out] at ho4)); have n0_ := Aside0.mk (Kd.R_lower ho4 (below_size (hb_ HB))); have n1_ := Aside0.mk (below_step (hb_ HB) hb); clear HB; have HO254 := n0_; have HB := n1_; clear n0_ n1_; clear hb ho4) | ((with_reducible refine gate_builtin (b := .append) (xs := #[.tmp 3, .tmp 4]) rfl ?_); at_builtin; refine Kd.R_append_rows (Kd.int .i64) (w0 := w) w.heap.size rfl (.tmp 3) (.tmp 4) 22 3 (.int .i64 0) 8 rfl Try.underlying22 info3 rfl di_ (by omega) v253 y252 l0 _ _ _ (fun _ => True) (fun _ => False) rfl rfl ?aO ?aR (fun _ _ h => h) (fun _ h => h.elim) ?aF ?aB ?aS ?aL ?_; (case aR => exact cb_ (Kd.C_below HR0.out HB.out)); (case aB => exact (hb_ HB)); (case aF => exact (fun _ _ => trivial)); (case aO => exact (rk_ HO254)); (case aS => exact (below_size (hb_ HB))); (case aL => have := LMc2.out; omega); intro v256 w5 ho hb hg hat; rw [← Ny255.out] at ho; have n0_ := Aside0.mk (hb); have n1_ := Aside0.mk (ho); clear HB; clear HO254; have HB := n0_; have HO257 := n1_; clear n0_ n1_; clear ho hb hg hat))
  go_ret
  exact ⟨_, ew_, by (with_reducible repeat (first | apply Kd.R_alloc | apply Kd.R_drewN | apply Kd.R_drew)); exact HO257.out, hb_ HB⟩
 ·rw [if_neg c2] at H
  exact absurd H (by simp)
end Go.Proofs.Ytdkahcolfcmmpaa.Pr
