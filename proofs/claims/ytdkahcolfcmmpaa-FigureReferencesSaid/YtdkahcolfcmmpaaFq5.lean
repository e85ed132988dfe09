import Derived.Below
import Derived.ChangeArms
import Derived.ChangeOld
import Derived.ChangeSame
import Derived.Deep.Matrix
import Derived.Deep.SlicePairs
import Derived.Lib.SmallJoins
import Derived.OpenShut
import Derived.ProofKit
import Derived.ShutString
import Derived.SizedLaws
import Derived.StillTailTactics
import Derived.Test.YtdkahcolfcmmpaaFq1
import Derived.Test.YtdkahcolfcmmpaaFq2
import Derived.Test.YtdkahcolfcmmpaaFq3
import Derived.Test.YtdkahcolfcmmpaaFq4
import Derived.WalkKit
namespace Go.Proofs.Ytdkahcolfcmmpaa.Pr
open Go.RowKit Go.Proofs.YtdkahcolfcmmpaaW.PrintWords Go.Proofs.YtdkahcolfcmmpaaW.PrintLast Go.Proofs.YtdkahcolfcmmpaaW.PrintMore
attribute [local go_sem] max2_int min2_int max_two min_two max_three min_three max_four min_four
set_option linter.unusedVariables false
set_option linter.unusedSimpArgs false
def speculumlaw06_mapped.f (l0_0 : List Int) (l0_1 : List Int) (l0_2 : List Int) : Option (List Int × List Int × List Int) := (speculumbase_CopyInts.f l0_0).bind fun t260 => ((speculumbase_CopyInts.f l0_1).bind fun t263 => ((speculumbase_CopyInts.f l0_2).bind fun t266 => (some (t260, t263, t266))))
def speculumlaw06_mapped.T1 : Bool × List (List Nat × List Nat) := (true, [([], []), ([0], [0]), ([1], [1]), ([], []), ([3], [3]), ([4, 2], [4]), ([], []), ([6], [6]), ([7, 5], [7]), ([2, 5, 8], [2, 5, 8]), ([9, 8, 0, 1, 2, 3, 4, 5, 6, 7, 8, 9], [9])])
def speculumlaw06_mapped.B1 : List Nat := [0, 1, 3, 0, 8, 31, 0, 64, 255, 511, 1023]
theorem speculumlaw06_mapped.tab1 : rtab .any (opsOf Try.f17 1) = speculumlaw06_mapped.T1 := by kernel_rfl
theorem speculumlaw06_mapped.bits1 : waitsOk speculumlaw06_mapped.T1.2 speculumlaw06_mapped.B1 = true := by kernel_rfl
set_option maxHeartbeats 8000000 in
set_option maxRecDepth 100000 in
theorem speculumlaw06_mapped.calls (A0_0 : Option Addr) (c0_0 : Nat) (l0_0 : List Int) (A0_1 : Option Addr) (c0_1 : Nat) (l0_1 : List Int) (A0_2 : Option Addr) (c0_2 : Nat) (l0_2 : List Int) (r1 : List Int) (r2 : List Int) (r3 : List Int) (w : World) (hr0_0 : Kd.C (Kd.int .i64) w A0_0 l0_0.length l0_0) (hc0_0 : l0_0.length ≤ c0_0) (hr0_1 : Kd.C (Kd.int .i64) w A0_1 l0_1.length l0_1) (hc0_1 : l0_1.length ≤ c0_1) (hr0_2 : Kd.C (Kd.int .i64) w A0_2 l0_2.length l0_2) (hc0_2 : l0_2.length ≤ c0_2) (h : speculumlaw06_mapped.f l0_0 l0_1 l0_2 = some (r1, r2, r3)) :
  Calls Try.prog 17 #[.agg #[.slice A0_0 l0_0.length c0_0, .slice A0_1 l0_1.length c0_1, .slice A0_2 l0_2.length c0_2]] w fun e w' => ∃ v0_ v1_ v2_ : Value, e = .returned (.agg #[v0_, v1_, v2_]) ∧ Kd.R (Kd.int .i64) 3 w' w.heap.size (fun k_ => some k_ ≠ (v1_ : Value).ownBlock ∧ some k_ ≠ (v2_ : Value).ownBlock) v0_ r1 ∧ Kd.R (Kd.int .i64) 3 w' w.heap.size (fun k_ => some k_ ≠ (v0_ : Value).ownBlock ∧ some k_ ≠ (v2_ : Value).ownBlock) v1_ r2 ∧ Kd.R (Kd.int .i64) 3 w' w.heap.size (fun k_ => some k_ ≠ (v0_ : Value).ownBlock ∧ some k_ ≠ (v1_ : Value).ownBlock) v2_ r3 ∧ Below w.heap.size w w' := by
 have hu24 := Try.underlying24
 have HR0_0 := Aside0.mk hr0_0
 have HC0_0 := Aside0.mk hc0_0
 clear hr0_0 hc0_0
 have HR0_1 := Aside0.mk hr0_1
 have HC0_1 := Aside0.mk hc0_1
 clear hr0_1 hc0_1
 have HR0_2 := Aside0.mk hr0_2
 have HC0_2 := Aside0.mk hc0_2
 clear hr0_2 hc0_2
 have HB := Aside0.mk (Below.refl w.heap.size w)
 have H : ((speculumbase_CopyInts.f l0_0).bind fun t260 => ((speculumbase_CopyInts.f l0_1).bind fun t263 => ((speculumbase_CopyInts.f l0_2).bind fun t266 => (some (t260, t263, t266))))) = some (r1, r2, r3) := h
 clear h
 replace H := Option.bind_eq_some_iff.mp H
 obtain ⟨t260, A20, H⟩ := H
 replace H : ((speculumbase_CopyInts.f l0_1).bind fun t263 => ((speculumbase_CopyInts.f l0_2).bind fun t266 => (some (t260, t263, t266)))) = some (r1, r2, r3) := H
 have A2 := Aside0.mk A20
 clear A20
 replace H := Option.bind_eq_some_iff.mp H
 obtain ⟨t263, A30, H⟩ := H
 replace H : ((speculumbase_CopyInts.f l0_2).bind fun t266 => (some (t260, t263, t266))) = some (r1, r2, r3) := H
 have A3 := Aside0.mk A30
 clear A30
 replace H := Option.bind_eq_some_iff.mp H
 obtain ⟨t266, A40, H⟩ := H
 replace H : (some (t260, t263, t266)) = some (r1, r2, r3) := H
 have A4 := Aside0.mk A40
 clear A40
 simp only [Option.some.injEq, Prod.mk.injEq] at H
 obtain ⟨rfl, rfl, rfl⟩ := H
 go_enter Try.func17, Try.ntmps17
 try go_wp2_with (first | ((with_reducible refine gate_dst (N := 1) rfl ?_); refine box_event ?hg (N := 1) ?hd (cs := #[.slice A0_0 l0_0.length c0_0, .slice A0_1 l0_1.length c0_1, .slice A0_2 l0_2.length c0_2]) (t := 24) ?hr ?_; (case hd => rfl); (case hg => rfl); (case hr => exact gr_); intro gb258 hg w5 hbox hb; have n0_ := Aside0.mk (below_step (hb_ HB) hb); have n1_ := Aside0.mk (hbox); have n2_ := Aside0.mk ((hz_ HB hg)); have n3_ := Aside0.mk ((hz_ HB hg)); clear HB; have HB := n0_; have BK258 := n1_; have GW258 := n2_; have GE258 := n3_; clear n0_ n1_ n2_ n3_; clear hb hbox hg) | ((with_reducible refine gate_dst (N := 2) rfl ?_); refine box_event ?hg (N := 2) ?hd (cs := #[.slice none 0 0, .slice none 0 0, .slice none 0 0]) (t := 24) ?hr ?_; (case hd => rfl); (case hg => rfl); (case hr => exact gr_); intro gb259 hg w6 hbox hb; have n0_ := Aside0.mk (bb_ BK258 hb); have n1_ := Aside0.mk (below_step (hb_ HB) hb); have n2_ := Aside0.mk (hbox); have n3_ := Aside0.mk ((hz_ HB hg)); have n4_ := Aside0.mk ((hz_ HB hg)); have n5_ := Aside0.mk ((nl_ BK258 hg)); have n6_ := Aside0.mk ((ng_ BK258 hg)); clear BK258; clear HB; have BK258 := n0_; have HB := n1_; have BK259 := n2_; have GW259 := n3_; have GE259 := n4_; have NB258_259 := n5_; have NB259_258 := n6_; clear n0_ n1_ n2_ n3_ n4_ n5_ n6_; clear hb hbox hg))
 have n0_ := Aside0.mk (blk_drew BK258.out)
 have n1_ := Aside0.mk (blk_drew BK259.out)
 have n2_ := Aside0.mk (below_drew1 HB.out)
 clear BK258
 clear BK259
 clear HB
 have BK258 := n0_
 have BK259 := n1_
 have HB := n2_
 clear n0_ n1_ n2_
 refine start_ (n := 11) (S := fun w' => w'.cell? ⟨gb258, 0, none⟩ = some (.slice A0_0 l0_0.length c0_0) ∧ w'.cell? ⟨gb258, 1, none⟩ = some (.slice A0_1 l0_1.length c0_1) ∧ w'.cell? ⟨gb258, 2, none⟩ = some (.slice A0_2 l0_2.length c0_2)) (ds := []) #[false, false, false, false, false, false, false, false, false, false, false] (by kernel_rfl) rfl rfl ⟨(blk_cell BK258.out 0).trans rfl, (blk_cell BK258.out 1).trans rfl, (blk_cell BK258.out 2).trans rfl⟩ (fun hHeld => ?_); refine with_tabW speculumlaw06_mapped.tab1 speculumlaw06_mapped.bits1 (fun HT_ HW_ => ?_)
 generalize w6.drew = w7 at BK258 BK259 HB hHeld ⊢
 refine pure_ (i := 0) (N := some 3) (v := ?_) (a' := ?_) #[true, false, false, false, false, false, false, false, false, false, false] rfl rfl (any_of HT_.out (by kernel_rfl)) (fun _ _ _ h => h) (Or.inl ⟨by rfl, ?_⟩) ?_ ?_
 rotate_left
 ·exact gs_
 rotate_left
 ·exact pt_
 refine pure_ (i := 3) (N := some 6) (v := ?_) (a' := ?_) #[true, false, false, true, false, false, false, false, false, false, false] rfl rfl (any_of HT_.out (by kernel_rfl)) (fun _ _ _ h => h) (Or.inl ⟨by rfl, ?_⟩) ?_ ?_
 rotate_left
 ·exact gs_
 rotate_left
 ·exact pt_
 refine pure_ (i := 6) (N := some 9) (v := ?_) (a' := ?_) #[true, false, false, true, false, false, true, false, false, false, false] rfl rfl (any_of HT_.out (by kernel_rfl)) (fun _ _ _ h => h) (Or.inl ⟨by rfl, ?_⟩) ?_ ?_
 rotate_left
 ·exact gs_
 rotate_left
 ·exact pt_
 refine take_ (i := 1) (N := some 4) (v := ?_) (a' := ?_) #[true, true, false, true, false, false, true, false, false, false, false] rfl rfl (take_ofW HT_.out HW_.out (by kernel_rfl)) (fun _ _ _ h => h) (Or.inl ⟨by rfl, ?_⟩) hHeld ?_ ?_
 rotate_left
 ·rintro w' ⟨s0, s1, s2⟩; go_simp; with_reducible rfl
 rotate_left
 ·exact pt_
 refine take_ (i := 4) (N := some 7) (v := ?_) (a' := ?_) #[true, true, false, true, true, false, true, false, false, false, false] rfl rfl (take_ofW HT_.out HW_.out (by kernel_rfl)) (fun _ _ _ h => h) (Or.inl ⟨by rfl, ?_⟩) hHeld ?_ ?_
 rotate_left
 ·rintro w' ⟨s0, s1, s2⟩; go_simp; with_reducible rfl
 rotate_left
 ·exact pt_
 refine take_ (i := 7) (N := some 10) (v := ?_) (a' := ?_) #[true, true, false, true, true, false, true, true, false, false, false] rfl rfl (take_ofW HT_.out HW_.out (by kernel_rfl)) (fun _ _ _ h => h) (Or.inl ⟨by rfl, ?_⟩) hHeld ?_ ?_
 rotate_left
 ·rintro w' ⟨s0, s1, s2⟩; go_simp; with_reducible rfl
 rotate_left
 ·exact pt_
 refine one_ (i := 2) (N := some 5) #[true, true, true, true, true, false, true, true, false, false, false] rfl rfl (one_of HT_.out (by kernel_rfl)) di_ (fun K hK => ?_)
 refine goes_ Try.func46 (by kernel_rfl) rfl #[.slice A0_0 l0_0.length c0_0] (by rfl) rfl rfl ma_ ?_
 with_reducible refine (speculumbase_CopyInts.calls _ _ l0_0 t260 _ ?side1 ?side2 A2.out).mono ?_
 (case side1 => exact cb_ (Kd.C_below HR0_0.out HB.out))
 (case side2 => exact HC0_0.out)
 rintro e w8 ⟨v261, rfl, ho0, hb⟩
 refine ⟨_, rfl, ?_⟩
 have n0_ := Aside0.mk (Kd.R_lower ho0 (below_size (hb_ HB)))
 have n1_ := Aside0.mk (bb_ BK258 hb)
 have n2_ := Aside0.mk (bb_ BK259 hb)
 have n3_ := Aside0.mk (below_step (hb_ HB) hb)
 clear BK258
 clear BK259
 clear HB
 have HO262 := n0_
 have BK258 := n1_
 have BK259 := n2_
 have HB := n3_
 clear n0_ n1_ n2_ n3_
 (try clear hb)
 (try clear hb2)
 (try clear hk)
 (try clear hi)
 (try clear ho0)
 refine hK.out _ _ ⟨(blk_cell BK258.out 0).trans rfl, (blk_cell BK258.out 1).trans rfl, (blk_cell BK258.out 2).trans rfl⟩ (fun hHeld => ?_)
 clear hK K
 refine norm_ (a' := ?_) ?_ ?_
 rotate_left
 ·show Act.put _ (some 5) _ = _
  simp only [Act.put, List.setIfInBounds_toArray, List.set_cons_zero, List.set_cons_succ, i64_w, i32_w]
  rfl
 refine one_ (i := 5) (N := some 8) #[true, true, true, true, true, true, true, true, false, false, false] rfl rfl (one_of HT_.out (by kernel_rfl)) di_ (fun K hK => ?_)
 refine goes_ Try.func46 (by kernel_rfl) rfl #[.slice A0_1 l0_1.length c0_1] (by rfl) rfl rfl ma_ ?_
 with_reducible refine (speculumbase_CopyInts.calls _ _ l0_1 t263 _ ?side1 ?side2 A3.out).mono ?_
 (case side1 => exact cb_ (Kd.C_below HR0_1.out HB.out))
 (case side2 => exact HC0_1.out)
 rintro e w9 ⟨v264, rfl, ho0, hb⟩
 refine ⟨_, rfl, ?_⟩
 have n0_ := Aside0.mk (Kd.R_elder' (rk_ HO262) (Kd.R_base ho0) hb)
 have n1_ := Aside0.mk (Kd.R_lower (Kd.R_new' ho0 (Kd.R_lt (rk_ HO262))) (below_size (hb_ HB)))
 have n2_ := Aside0.mk (bb_ BK258 hb)
 have n3_ := Aside0.mk (bb_ BK259 hb)
 have n4_ := Aside0.mk (below_step (hb_ HB) hb)
 clear HO262
 clear BK258
 clear BK259
 clear HB
 have HO262 := n0_
 have HO265 := n1_
 have BK258 := n2_
 have BK259 := n3_
 have HB := n4_
 clear n0_ n1_ n2_ n3_ n4_
 (try clear hb)
 (try clear hb2)
 (try clear hk)
 (try clear hi)
 (try clear ho0)
 refine hK.out _ _ ⟨(blk_cell BK258.out 0).trans rfl, (blk_cell BK258.out 1).trans rfl, (blk_cell BK258.out 2).trans rfl⟩ (fun hHeld => ?_)
 clear hK K
 refine norm_ (a' := ?_) ?_ ?_
 rotate_left
 ·show Act.put _ (some 8) _ = _
  simp only [Act.put, List.setIfInBounds_toArray, List.set_cons_zero, List.set_cons_succ, i64_w, i32_w]
  rfl
 refine one_ (i := 8) (N := some 11) #[true, true, true, true, true, true, true, true, true, false, false] rfl rfl (one_of HT_.out (by kernel_rfl)) di_ (fun K hK => ?_)
 refine goes_ Try.func46 (by kernel_rfl) rfl #[.slice A0_2 l0_2.length c0_2] (by rfl) rfl rfl ma_ ?_
 with_reducible refine (speculumbase_CopyInts.calls _ _ l0_2 t266 _ ?side1 ?side2 A4.out).mono ?_
 (case side1 => exact cb_ (Kd.C_below HR0_2.out HB.out))
 (case side2 => exact HC0_2.out)
 rintro e w10 ⟨v267, rfl, ho0, hb⟩
 refine ⟨_, rfl, ?_⟩
 have n0_ := Aside0.mk (Kd.R_elder' (rk_ HO262) (Kd.R_base ho0) hb)
 have n1_ := Aside0.mk (Kd.R_elder' (rk_ HO265) (Kd.R_base ho0) hb)
 have n2_ := Aside0.mk (Kd.R_lower (Kd.R_new' (Kd.R_new' ho0 (Kd.R_lt (rk_ HO262))) (Kd.R_lt (rk_ HO265))) (below_size (hb_ HB)))
 have n3_ := Aside0.mk (bb_ BK258 hb)
 have n4_ := Aside0.mk (bb_ BK259 hb)
 have n5_ := Aside0.mk (below_step (hb_ HB) hb)
 clear HO262
 clear HO265
 clear BK258
 clear BK259
 clear HB
 have HO262 := n0_
 have HO265 := n1_
 have HO268 := n2_
 have BK258 := n3_
 have BK259 := n4_
 have HB := n5_
 clear n0_ n1_ n2_ n3_ n4_ n5_
 (try clear hb)
 (try clear hb2)
 (try clear hk)
 (try clear hi)
 (try clear ho0)
 obtain ⟨Ao11, co11, eo11⟩ := Kd.R_slice HO268.out
 (first | subst eo11 | (injection eo11 with f1_ f2_ f3_; have f4_ := f1_.symm; have f5_ := f3_.symm; clear f1_ f2_ f3_; subst f4_; subst f5_))
 obtain ⟨Ao12, co12, eo12⟩ := Kd.R_slice HO265.out
 (first | subst eo12 | (injection eo12 with f1_ f2_ f3_; have f4_ := f1_.symm; have f5_ := f3_.symm; clear f1_ f2_ f3_; subst f4_; subst f5_))
 obtain ⟨Ao13, co13, eo13⟩ := Kd.R_slice HO262.out
 (first | subst eo13 | (injection eo13 with f1_ f2_ f3_; have f4_ := f1_.symm; have f5_ := f3_.symm; clear f1_ f2_ f3_; subst f4_; subst f5_))
 refine hK.out _ _ ⟨(blk_cell BK258.out 0).trans rfl, (blk_cell BK258.out 1).trans rfl, (blk_cell BK258.out 2).trans rfl⟩ (fun hHeld => ?_)
 clear hK K
 refine norm_ (a' := ?_) ?_ ?_
 rotate_left
 ·show Act.put _ (some 11) _ = _
  simp only [Act.put, List.setIfInBounds_toArray, List.set_cons_zero, List.set_cons_succ, i64_w, i32_w]
  rfl
 refine pure_ (i := 9) (N := some 12) (v := ?_) (a' := ?_) #[true, true, true, true, true, true, true, true, true, true, false] rfl rfl (any_of HT_.out (by kernel_rfl)) (fun _ _ _ h => h) (Or.inl ⟨by rfl, ?_⟩) ?_ ?_
 rotate_left
 ·exact gs_
 rotate_left
 ·exact pt_
 refine one_ (i := 10) (N := none) #[true, true, true, true, true, true, true, true, true, true, true] rfl rfl (one_of HT_.out (by kernel_rfl)) di_ (fun K hK => ?_)
 have hs14 : w10.cell? ⟨gb259, 0, none⟩ = some (.slice none 0 0) := (blk_cell BK259.out 0).trans rfl
 have hfs14 := blk_frozen BK259.out 0
 have hns14_0 := NB258_259.out
 have hms14_0 := NB259_258.out
 have hs15 : w10.cell? ⟨gb259, 1, none⟩ = some (.slice none 0 0) := (blk_cell BK259.out 1).trans rfl
 have hfs15 := blk_frozen BK259.out 1
 have hns15_0 := NB258_259.out
 have hms15_0 := NB259_258.out
 have hs16 : w10.cell? ⟨gb259, 2, none⟩ = some (.slice none 0 0) := (blk_cell BK259.out 2).trans rfl
 have hfs16 := blk_frozen BK259.out 2
 have hns16_0 := NB258_259.out
 have hms16_0 := NB259_258.out
 refine skip_ (w1 := ?_) (by rfl) rfl ?_ ?_
 rotate_left
 ·go_simp
  rfl
 refine hK.out _ _ ⟨((cell_far (p := ⟨gb259, _, none⟩) NB258_259.out _).trans (((cell_far (p := ⟨gb259, _, none⟩) NB258_259.out _).trans (((cell_far (p := ⟨gb259, _, none⟩) NB258_259.out _).trans (hHeld.1)))))), ((cell_far (p := ⟨gb259, _, none⟩) NB258_259.out _).trans (((cell_far (p := ⟨gb259, _, none⟩) NB258_259.out _).trans (((cell_far (p := ⟨gb259, _, none⟩) NB258_259.out _).trans (hHeld.2.1)))))), ((cell_far (p := ⟨gb259, _, none⟩) NB258_259.out _).trans (((cell_far (p := ⟨gb259, _, none⟩) NB258_259.out _).trans (((cell_far (p := ⟨gb259, _, none⟩) NB258_259.out _).trans (hHeld.2.2))))))⟩ (fun hHeld => ?_)
 clear hK K
 refine done_ (done_of HT_.out (by kernel_rfl)) ?_
 try go_wp2
 refine bodyPost_ret (results_cell_row rfl _ _ gb259 24 #[.slice Ao13 t260.length co13, .slice Ao12 t263.length co12, .slice Ao11 t266.length co11] (0, 0) _ rfl (by (with_reducible repeat (first | refine blk_drewN ?_ _ | refine blk_drew ?_ | refine blk_alloc ?_ _)); refine blk_put (cs := #[.slice Ao13 t260.length co13, .slice Ao12 t263.length co12, .slice none 0 0]) ?_ 2 _ rfl; (with_reducible repeat (first | refine blk_drewN ?_ _ | refine blk_drew ?_ | refine blk_alloc ?_ _)); refine blk_put (cs := #[.slice Ao13 t260.length co13, .slice none 0 0, .slice none 0 0]) ?_ 1 _ rfl; (with_reducible repeat (first | refine blk_drewN ?_ _ | refine blk_drew ?_ | refine blk_alloc ?_ _)); refine blk_put (cs := #[.slice none 0 0, .slice none 0 0, .slice none 0 0]) ?_ 0 _ rfl; (with_reducible repeat (first | refine blk_drewN ?_ _ | refine blk_drew ?_ | refine blk_alloc ?_ _)); exact BK259.out) Try.underlying24 rfl (by kernel_rfl)) rfl ?_
 exact ⟨_, _, _, ew_, by (with_reducible repeat (first | apply Kd.R_alloc | apply Kd.R_drewN | apply Kd.R_drew)); exact Kd.R_mono (Kd.R_far (p := ⟨gb259, 2, none⟩) (Kd.R_far (p := ⟨gb259, 1, none⟩) (Kd.R_far (p := ⟨gb259, 0, none⟩) (Kd.R_types HO262.out BK259.out di_) (fun _ hk => hk.2) (.slice Ao13 t260.length co13)) (fun _ hk => hk.2) (.slice Ao12 t263.length co12)) (fun _ hk => hk.2) (.slice Ao11 t266.length co11)) (fun _ hk => ⟨hk.1.1.2, hk.1.2⟩), by (with_reducible repeat (first | apply Kd.R_alloc | apply Kd.R_drewN | apply Kd.R_drew)); exact Kd.R_mono (Kd.R_far (p := ⟨gb259, 2, none⟩) (Kd.R_far (p := ⟨gb259, 1, none⟩) (Kd.R_far (p := ⟨gb259, 0, none⟩) (Kd.R_types HO265.out BK259.out di_) (fun _ hk => hk.2) (.slice Ao13 t260.length co13)) (fun _ hk => hk.2) (.slice Ao12 t263.length co12)) (fun _ hk => hk.2) (.slice Ao11 t266.length co11)) (fun _ hk => ⟨hk.1.1.2, hk.1.2⟩), by (with_reducible repeat (first | apply Kd.R_alloc | apply Kd.R_drewN | apply Kd.R_drew)); exact Kd.R_mono (Kd.R_far (p := ⟨gb259, 2, none⟩) (Kd.R_far (p := ⟨gb259, 1, none⟩) (Kd.R_far (p := ⟨gb259, 0, none⟩) (Kd.R_types HO268.out BK259.out di_) (fun _ hk => hk.2) (.slice Ao13 t260.length co13)) (fun _ hk => hk.2) (.slice Ao12 t263.length co12)) (fun _ hk => hk.2) (.slice Ao11 t266.length co11)) (fun _ hk => ⟨hk.1.1.2, hk.1.2⟩), hb_ HB⟩
def speculumbase_Within.f (a0 : Int) (a1 : Int) (a2 : Int) : Option (Bool) := if a0 ≥ a1 then (some (decide (a0 ≤ a2))) else (some false)
set_option maxHeartbeats 8000000 in
set_option maxRecDepth 100000 in
theorem speculumbase_Within.calls (a0 : Int) (a1 : Int) (a2 : Int) (r : Bool) (w : World) (h : speculumbase_Within.f a0 a1 a2 = some r) :
  Calls Try.prog 28 #[.int .i64 a0, .int .i64 a1, .int .i64 a2] w fun e w' => e = .returned (.bool r) ∧ Drawn0 w w' := by
 have H : (if a0 ≥ a1 then (some (decide (a0 ≤ a2))) else (some false)) = some r := h
 clear h
 by_cases c4 : a0 ≥ a1
 ·rw [if_pos c4] at H
  have c4b0 : decide (a1 ≤ a0) = true := decide_eq_true c4
  clear c4
  obtain rfl := Option.some.inj H
  go_enter Try.func28, Try.ntmps28
  go_wp2
  go_ret
  exact ⟨rs_, dn_⟩
 ·rw [if_neg c4] at H
  have c4b0 : decide (a1 ≤ a0) = false := decide_eq_false c4
  clear c4
  obtain rfl := Option.some.inj H
  go_enter Try.func28, Try.ntmps28
  go_wp2
  go_ret
  exact ⟨rs_, dn_⟩
def speculumref06_isHeight.f (a0 : Int) : Option (Bool) := (speculumbase_Within.f a0 (-100000) 100000).bind fun t269 => (some t269)
set_option maxHeartbeats 8000000 in
set_option maxRecDepth 100000 in
theorem speculumref06_isHeight.calls (a0 : Int) (r : Bool) (w : World) (h : speculumref06_isHeight.f a0 = some r) :
  Calls Try.prog 64 #[.int .i64 a0] w fun e w' => e = .returned (.bool r) ∧ Drawn0 w w' := by
 have H : ((speculumbase_Within.f a0 (-100000) 100000).bind fun t269 => (some t269)) = some r := h
 clear h
 replace H := Option.bind_eq_some_iff.mp H
 obtain ⟨t269, A20, H⟩ := H
 replace H : (some t269) = some r := H
 have A2 := Aside0.mk A20
 clear A20
 obtain rfl := Option.some.inj H
 go_enter Try.func64, Try.ntmps64
 go_wp2_with (first | ((with_reducible refine gate_callee (f := 28) rfl ?_); refine goesL_ (some 4) rfl rfl Try.func28 (by kernel_rfl) rfl #[.int .i64 a0, .int .i64 (-100000), .int .i64 100000] rfl ma_ ?_; (with_reducible refine (speculumbase_Within.calls a0 (-100000) 100000 t269 _ A2.out).mono ?_); rintro e w' ⟨rfl, ⟨nd, rfl⟩⟩; refine ⟨_, rfl, ?_⟩))
 go_ret
 exact ⟨rs_, dn_⟩
mutual
def speculumref06_CheckMap.j0 : Nat → Int → Bool → List Int → List Int → List Int → Option (Int)
 | 0, _, _, _, _, _ => none
 | k + 1, x3, x25, x271000, x271001, x271002 => if x25 = true then (some 10) else (speculumref06_CheckMap.l0 k x3 0 0 x271000 x271001 x271002)
def speculumref06_CheckMap.l0 : Nat → Int → Int → Int → List Int → List Int → List Int → Option (Int)
 | 0, _, _, _, _, _, _ => none
 | k + 1, x3, x4, x5, x271000, x271001, x271002 => if x5 < x3 then (if 0 ≤ x5 then (if x5 < (x271000.length : Int) then ((speculumref06_isHeight.f (rd x271000 x5)).bind fun t273 => (if t273 = true then (if x5 < (x271001.length : Int) then ((speculumbase_Within.f (rd x271001 x5) 0 1000).bind fun t275 => (if t275 = true then (if x5 < (x271002.length : Int) then ((speculumbase_Within.f (rd x271002 x5) 0 1000).bind fun t277 => (if t277 = true then (speculumref06_CheckMap.l0 k x3 (wrap64 (x4 + (rd x271002 x5))) (wrap64 (x5 + 1)) x271000 x271001 x271002) else (some 2))) else (none)) else (some 2))) else (none)) else (some 2))) else (none)) else (none)) else (if x4 = 0 then (some 11) else (some 0))
end
def speculumref06_CheckMap.f (k : Nat) (l0_0 : List Int) (l0_1 : List Int) (l0_2 : List Int) : Option (Int) := (speculumbase_Within.f (l0_0.length : Int) 1 40).bind fun t271 => (if t271 = true then (if (l0_1.length : Int) = (l0_0.length : Int) then (speculumref06_CheckMap.j0 k (l0_0.length : Int) ((l0_2.length : Int) != (l0_0.length : Int)) l0_0 l0_1 l0_2) else (speculumref06_CheckMap.j0 k (l0_0.length : Int) true l0_0 l0_1 l0_2)) else (speculumref06_CheckMap.j0 k (l0_0.length : Int) true l0_0 l0_1 l0_2))
set_option maxHeartbeats 8000000 in
set_option maxRecDepth 100000 in
theorem speculumref06_CheckMap.calls (k : Nat) (A0_0 : Option Addr) (c0_0 : Nat) (l0_0 : List Int) (A0_1 : Option Addr) (c0_1 : Nat) (l0_1 : List Int) (A0_2 : Option Addr) (c0_2 : Nat) (l0_2 : List Int) (r : Int) (w : World) (hr0_0 : Kd.C (Kd.int .i64) w A0_0 l0_0.length l0_0) (hc0_0 : l0_0.length ≤ c0_0) (hr0_1 : Kd.C (Kd.int .i64) w A0_1 l0_1.length l0_1) (hc0_1 : l0_1.length ≤ c0_1) (hr0_2 : Kd.C (Kd.int .i64) w A0_2 l0_2.length l0_2) (hc0_2 : l0_2.length ≤ c0_2) (h : speculumref06_CheckMap.f k l0_0 l0_1 l0_2 = some r) :
  Calls Try.prog 18 #[.agg #[.slice A0_0 l0_0.length c0_0, .slice A0_1 l0_1.length c0_1, .slice A0_2 l0_2.length c0_2]] w fun e w' => e = .returned (.int .i64 r) ∧ Below w.heap.size w w' := by
 have hu24 := Try.underlying24
 have HR0_0 := Aside0.mk hr0_0
 have HC0_0 := Aside0.mk hc0_0
 clear hr0_0 hc0_0
 have HR0_1 := Aside0.mk hr0_1
 have HC0_1 := Aside0.mk hc0_1
 clear hr0_1 hc0_1
 have HR0_2 := Aside0.mk hr0_2
 have HC0_2 := Aside0.mk hc0_2
 clear hr0_2 hc0_2
 have HB := Aside0.mk (Below.refl w.heap.size w)
 have H : ((speculumbase_Within.f (l0_0.length : Int) 1 40).bind fun t271 => (if t271 = true then (if (l0_1.length : Int) = (l0_0.length : Int) then (speculumref06_CheckMap.j0 k (l0_0.length : Int) ((l0_2.length : Int) != (l0_0.length : Int)) l0_0 l0_1 l0_2) else (speculumref06_CheckMap.j0 k (l0_0.length : Int) true l0_0 l0_1 l0_2)) else (speculumref06_CheckMap.j0 k (l0_0.length : Int) true l0_0 l0_1 l0_2))) = some r := h
 clear h
 have HC2 := Aside0.mk H
 clear H
 go_enter Try.func18, Try.ntmps18
 go_upto_region 2 with (first | ((with_reducible refine gate_dst (N := 1) rfl ?_); (try (refine gate_guard (by rfl) ?_; dsimp only)); refine box_event ?hg (N := 1) ?hd (cs := #[.slice A0_0 l0_0.length c0_0, .slice A0_1 l0_1.length c0_1, .slice A0_2 l0_2.length c0_2]) (t := 24) ?hr ?_; (case hd => rfl); (case hg => rfl); (case hr => exact gr_); intro gb270 hg w3 hbox hb; have n0_ := Aside0.mk (below_step (hb_ HB) hb); have n1_ := Aside0.mk (hbox); have n2_ := Aside0.mk ((hz_ HB hg)); have n3_ := Aside0.mk ((hz_ HB hg)); clear HB; have HB := n0_; have BK270 := n1_; have GW270 := n2_; have GE270 := n3_; clear n0_ n1_ n2_ n3_; clear hb hbox hg; have hcz4_0 : w3.cell? ⟨gb270, 0, none⟩ = some (.slice A0_0 l0_0.length c0_0) := (blk_cell BK270.out 0).trans rfl; have hcz4_1 : w3.cell? ⟨gb270, 1, none⟩ = some (.slice A0_1 l0_1.length c0_1) := (blk_cell BK270.out 1).trans rfl; have hcz4_2 : w3.cell? ⟨gb270, 2, none⟩ = some (.slice A0_2 l0_2.length c0_2) := (blk_cell BK270.out 2).trans rfl; have hfz4_0 := blk_frozen BK270.out 0; have hfz4_1 := blk_frozen BK270.out 1; have hfz4_2 := blk_frozen BK270.out 2))
 (try simp only [Act.put, List.setIfInBounds_toArray, List.set_cons_zero, List.set_cons_succ])
 go_cut [25] (fun v25 wc => ∃ (kq : Nat) (x25_1 : Bool), v25 = .bool x25_1 ∧ Aside0 (speculumref06_CheckMap.j0 kq (l0_0.length : Int) x25_1 l0_0 l0_1 l0_2 = some r) ∧ Aside0 (kq ≤ k) ∧ Aside0 (wc.heap[gb270]? = some (.cells #[(.slice A0_0 l0_0.length c0_0), (.slice A0_1 l0_1.length c0_1), (.slice A0_2 l0_2.length c0_2)] 24 (0, 0))) ∧ Aside0 (Below w.heap.size w wc))
 case first =>
  have H := HC2.out
  clear HC2
  replace H := Option.bind_eq_some_iff.mp H
  obtain ⟨t271, A50, H⟩ := H
  replace H : (if t271 = true then (if (l0_1.length : Int) = (l0_0.length : Int) then (speculumref06_CheckMap.j0 k (l0_0.length : Int) ((l0_2.length : Int) != (l0_0.length : Int)) l0_0 l0_1 l0_2) else (speculumref06_CheckMap.j0 k (l0_0.length : Int) true l0_0 l0_1 l0_2)) else (speculumref06_CheckMap.j0 k (l0_0.length : Int) true l0_0 l0_1 l0_2)) = some r := H
  have A5 := Aside0.mk A50
  clear A50
  by_cases c6 : t271 = true
  ·subst c6
   have H1 : (if (l0_1.length : Int) = (l0_0.length : Int) then (speculumref06_CheckMap.j0 k (l0_0.length : Int) ((l0_2.length : Int) != (l0_0.length : Int)) l0_0 l0_1 l0_2) else (speculumref06_CheckMap.j0 k (l0_0.length : Int) true l0_0 l0_1 l0_2)) = some r := by rw [if_pos rfl] at H; exact H
   clear H
   have H := H1
   clear H1
   by_cases c7 : (l0_1.length : Int) = (l0_0.length : Int)
   ·rw [if_pos c7] at H
    have c7b0 : ((l0_1.length : Int) == (l0_0.length : Int)) = true := beq_iff_eq.mpr c7
    have c7b1 : ((l0_1.length : Int) != (l0_0.length : Int)) = false := bne_eq_false_iff_eq.mpr c7
    have c7b2 : (l0_1.length == l0_0.length) = true := by first | simpa using c7 | (simp at c7 ⊢; omega)
    clear c7
    (first | rw [c7b0] | (simp only [i64_w, i32_w]; rw [c7b0]) | skip)
    have H' := Aside0.mk H
    clear H
    go_wp2_with (first | ((with_reducible refine gate_callee (f := 28) rfl ?_); refine goesL_ (some 10) rfl rfl Try.func28 (by kernel_rfl) rfl #[.int .i64 (l0_0.length : Int), .int .i64 1, .int .i64 40] rfl ma_ ?_; (with_reducible refine (speculumbase_Within.calls (l0_0.length : Int) 1 40 true _ A5.out).mono ?_); rintro e w' ⟨rfl, ⟨nd, rfl⟩⟩; refine ⟨_, rfl, ?_⟩; have hcz8_0 : w3.cell? ⟨gb270, 0, none⟩ = some (.slice A0_0 l0_0.length c0_0) := (blk_cell BK270.out 0).trans rfl; have hcz8_1 : w3.cell? ⟨gb270, 1, none⟩ = some (.slice A0_1 l0_1.length c0_1) := (blk_cell BK270.out 1).trans rfl; have hcz8_2 : w3.cell? ⟨gb270, 2, none⟩ = some (.slice A0_2 l0_2.length c0_2) := (blk_cell BK270.out 2).trans rfl; have hfz8_0 := blk_frozen BK270.out 0; have hfz8_1 := blk_frozen BK270.out 1; have hfz8_2 := blk_frozen BK270.out 2))
    go_meet
    case rel => exact ⟨_, (((l0_2.length : Int) != (l0_0.length : Int))), rs_, H', ⟨by first | omega | exact Nat.le_refl _⟩, ⟨by (with_reducible repeat (first | refine blk_drewN ?_ _ | refine blk_drew ?_ | refine blk_alloc ?_ _)); exact BK270.out⟩, ⟨hb_ HB⟩⟩
   ·rw [if_neg c7] at H
    have c7b0 : ((l0_1.length : Int) == (l0_0.length : Int)) = false := beq_eq_false_iff_ne.mpr c7
    have c7b1 : ((l0_1.length : Int) != (l0_0.length : Int)) = true := bne_iff_ne.mpr c7
    have c7b2 : (l0_1.length == l0_0.length) = false := by first | simpa using c7 | (simp at c7 ⊢; omega)
    (first | rw [c7b0] | (simp only [i64_w, i32_w]; rw [c7b0]) | skip)
    have H' := Aside0.mk H
    clear H
    go_wp2_with (first | ((with_reducible refine gate_callee (f := 28) rfl ?_); refine goesL_ (some 10) rfl rfl Try.func28 (by kernel_rfl) rfl #[.int .i64 (l0_0.length : Int), .int .i64 1, .int .i64 40] rfl ma_ ?_; (with_reducible refine (speculumbase_Within.calls (l0_0.length : Int) 1 40 true _ A5.out).mono ?_); rintro e w' ⟨rfl, ⟨nd, rfl⟩⟩; refine ⟨_, rfl, ?_⟩; have hcz9_0 : w3.cell? ⟨gb270, 0, none⟩ = some (.slice A0_0 l0_0.length c0_0) := (blk_cell BK270.out 0).trans rfl; have hcz9_1 : w3.cell? ⟨gb270, 1, none⟩ = some (.slice A0_1 l0_1.length c0_1) := (blk_cell BK270.out 1).trans rfl; have hcz9_2 : w3.cell? ⟨gb270, 2, none⟩ = some (.slice A0_2 l0_2.length c0_2) := (blk_cell BK270.out 2).trans rfl; have hfz9_0 := blk_frozen BK270.out 0; have hfz9_1 := blk_frozen BK270.out 1; have hfz9_2 := blk_frozen BK270.out 2))
    go_meet
    case rel => exact ⟨_, (true), rs_, H', ⟨by first | omega | exact Nat.le_refl _⟩, ⟨by (with_reducible repeat (first | refine blk_drewN ?_ _ | refine blk_drew ?_ | refine blk_alloc ?_ _)); exact BK270.out⟩, ⟨hb_ HB⟩⟩
  ·replace c6 := Bool.eq_false_iff.mpr c6
   subst c6
   have H1 : (speculumref06_CheckMap.j0 k (l0_0.length : Int) true l0_0 l0_1 l0_2) = some r := by rw [if_neg (show ¬ (false = true) by decide)] at H; exact H
   clear H
   have H := H1
   clear H1
   have H' := Aside0.mk H
   clear H
   go_wp2_with (first | ((with_reducible refine gate_callee (f := 28) rfl ?_); refine goesL_ (some 10) rfl rfl Try.func28 (by kernel_rfl) rfl #[.int .i64 (l0_0.length : Int), .int .i64 1, .int .i64 40] rfl ma_ ?_; (with_reducible refine (speculumbase_Within.calls (l0_0.length : Int) 1 40 false _ A5.out).mono ?_); rintro e w' ⟨rfl, ⟨nd, rfl⟩⟩; refine ⟨_, rfl, ?_⟩))
   go_meet
   case rel => exact ⟨_, (true), rs_, H', ⟨by first | omega | exact Nat.le_refl _⟩, ⟨by (with_reducible repeat (first | refine blk_drewN ?_ _ | refine blk_drew ?_ | refine blk_alloc ?_ _)); exact BK270.out⟩, ⟨hb_ HB⟩⟩
 case rest =>
  clear HC2
  try clear c1
  try clear c2
  try clear p2
  try clear c6
  try clear c7
  try clear c7b0
  try clear c7b1
  try clear c7b2
  try clear hcz4_0
  try clear hcz4_1
  try clear hcz4_2
  try clear hcz8_0
  try clear hcz8_1
  try clear hcz8_2
  try clear hcz9_0
  try clear hcz9_1
  try clear hcz9_2
  try clear hfz4_0
  try clear hfz4_1
  try clear hfz4_2
  try clear hfz8_0
  try clear hfz8_1
  try clear hfz8_2
  try clear hfz9_0
  try clear hfz9_1
  try clear hfz9_2
  obtain ⟨kq, x25_1, rfl, HA, HJ1, BK270, HB⟩ := hcut
  cases kq with
  | zero => exact absurd HA.out (by simp [speculumref06_CheckMap.j0])
  | succ kj1 =>
   have H := HA.out
   clear HA
   simp only [speculumref06_CheckMap.j0] at H
   by_cases c10 : x25_1 = true
   ·subst c10
    have H1 : (some 10) = some r := by rw [if_pos rfl] at H; exact H
    clear H
    have H := H1
    clear H1
    obtain rfl := Option.some.inj H
    go_wp2
    go_ret
    exact ⟨ew_, hb_ HB⟩
   ·replace c10 := Bool.eq_false_iff.mpr c10
    subst c10
    have H1 : (speculumref06_CheckMap.l0 kj1 (l0_0.length : Int) 0 0 l0_0 l0_1 l0_2) = some r := by rw [if_neg (show ¬ (false = true) by decide)] at H; exact H
    clear H
    have H := H1
    clear H1
    have H' := Aside0.mk H
    clear H
    go_wp2
    go_loopg [4, 5] kj1 (fun kq v4 v5 w' => ∃ (x4_2 : Int) (x5_2 : Int), v4 = .int .i64 x4_2 ∧ v5 = .int .i64 x5_2 ∧ Aside0 (speculumref06_CheckMap.l0 kq (l0_0.length : Int) x4_2 x5_2 l0_0 l0_1 l0_2 = some r) ∧ Aside0 (kq ≤ kj1) ∧ Aside0 (w'.heap[gb270]? = some (.cells #[(.slice A0_0 l0_0.length c0_0), (.slice A0_1 l0_1.length c0_1), (.slice A0_2 l0_2.length c0_2)] 24 (0, 0))) ∧ Aside0 (Below w.heap.size w w'))
    case atStart => exact ⟨(0), (0), rs_, rs_, H', ⟨Nat.le_refl _⟩, ⟨by (with_reducible repeat (first | refine blk_drewN ?_ _ | refine blk_drew ?_ | refine blk_alloc ?_ _)); exact BK270.out⟩, ⟨hb_ HB⟩⟩
    case round =>
     clear H'
     try clear c1
     try clear c2
     try clear p2
     try clear c6
     try clear c7
     try clear c7b0
     try clear c7b1
     try clear c7b2
     try clear c10
     try clear hcz4_0
     try clear hcz4_1
     try clear hcz4_2
     try clear hcz8_0
     try clear hcz8_1
     try clear hcz8_2
     try clear hcz9_0
     try clear hcz9_1
     try clear hcz9_2
     try clear hfz4_0
     try clear hfz4_1
     try clear hfz4_2
     try clear hfz8_0
     try clear hfz8_1
     try clear hfz8_2
     try clear hfz9_0
     try clear hfz9_1
     try clear hfz9_2
     try clear p2
     obtain ⟨x4_2, x5_2, rfl, rfl, HA, HK2, BK270, HB⟩ := hrel
     cases gk with
     | zero => exact absurd HA.out (by simp [speculumref06_CheckMap.l0])
     | succ k2 =>
      have H := HA.out
      clear HA
      simp only [speculumref06_CheckMap.l0] at H
      by_cases c11 : x5_2 < (l0_0.length : Int)
      ·rw [if_pos c11] at H
       have c11b0 : decide (x5_2 < (l0_0.length : Int)) = true := decide_eq_true c11
       clear c11
       by_cases c12 : 0 ≤ x5_2
       ·rw [if_pos c12] at H
        have c12b0 : decide (0 ≤ x5_2) = true := decide_eq_true c12
        clear c12
        by_cases c13 : x5_2 < (l0_0.length : Int)
        ·rw [if_pos c13] at H
         have c13b0 : decide (x5_2 < (l0_0.length : Int)) = true := decide_eq_true c13
         clear c13
         replace H := Option.bind_eq_some_iff.mp H
         obtain ⟨t273, A140, H⟩ := H
         replace H : (if t273 = true then (if x5_2 < (l0_1.length : Int) then ((speculumbase_Within.f (rd l0_1 x5_2) 0 1000).bind fun t275 => (if t275 = true then (if x5_2 < (l0_2.length : Int) then ((speculumbase_Within.f (rd l0_2 x5_2) 0 1000).bind fun t277 => (if t277 = true then (speculumref06_CheckMap.l0 k2 (l0_0.length : Int) (wrap64 (x4_2 + (rd l0_2 x5_2))) (wrap64 (x5_2 + 1)) l0_0 l0_1 l0_2) else (some 2))) else (none)) else (some 2))) else (none)) else (some 2)) = some r := H
         have A14 := Aside0.mk A140
         clear A140
         by_cases c15 : t273 = true
         ·subst c15
          have H1 : (if x5_2 < (l0_1.length : Int) then ((speculumbase_Within.f (rd l0_1 x5_2) 0 1000).bind fun t275 => (if t275 = true then (if x5_2 < (l0_2.length : Int) then ((speculumbase_Within.f (rd l0_2 x5_2) 0 1000).bind fun t277 => (if t277 = true then (speculumref06_CheckMap.l0 k2 (l0_0.length : Int) (wrap64 (x4_2 + (rd l0_2 x5_2))) (wrap64 (x5_2 + 1)) l0_0 l0_1 l0_2) else (some 2))) else (none)) else (some 2))) else (none)) = some r := by rw [if_pos rfl] at H; exact H
          clear H
          have H := H1
          clear H1
          by_cases c16 : x5_2 < (l0_1.length : Int)
          ·rw [if_pos c16] at H
           have c16b0 : decide (x5_2 < (l0_1.length : Int)) = true := decide_eq_true c16
           clear c16
           replace H := Option.bind_eq_some_iff.mp H
           obtain ⟨t275, A170, H⟩ := H
           replace H : (if t275 = true then (if x5_2 < (l0_2.length : Int) then ((speculumbase_Within.f (rd l0_2 x5_2) 0 1000).bind fun t277 => (if t277 = true then (speculumref06_CheckMap.l0 k2 (l0_0.length : Int) (wrap64 (x4_2 + (rd l0_2 x5_2))) (wrap64 (x5_2 + 1)) l0_0 l0_1 l0_2) else (some 2))) else (none)) else (some 2)) = some r := H
           have A17 := Aside0.mk A170
           clear A170
           by_cases c18 : t275 = true
           ·subst c18
            have H1 : (if x5_2 < (l0_2.length : Int) then ((speculumbase_Within.f (rd l0_2 x5_2) 0 1000).bind fun t277 => (if t277 = true then (speculumref06_CheckMap.l0 k2 (l0_0.length : Int) (wrap64 (x4_2 + (rd l0_2 x5_2))) (wrap64 (x5_2 + 1)) l0_0 l0_1 l0_2) else (some 2))) else (none)) = some r := by rw [if_pos rfl] at H; exact H
            clear H
            have H := H1
            clear H1
            by_cases c19 : x5_2 < (l0_2.length : Int)
            ·rw [if_pos c19] at H
             have c19b0 : decide (x5_2 < (l0_2.length : Int)) = true := decide_eq_true c19
             clear c19
             replace H := Option.bind_eq_some_iff.mp H
             obtain ⟨t277, A200, H⟩ := H
             replace H : (if t277 = true then (speculumref06_CheckMap.l0 k2 (l0_0.length : Int) (wrap64 (x4_2 + (rd l0_2 x5_2))) (wrap64 (x5_2 + 1)) l0_0 l0_1 l0_2) else (some 2)) = some r := H
             have A20 := Aside0.mk A200
             clear A200
             by_cases c21 : t277 = true
             ·subst c21
              have H1 : (speculumref06_CheckMap.l0 k2 (l0_0.length : Int) (wrap64 (x4_2 + (rd l0_2 x5_2))) (wrap64 (x5_2 + 1)) l0_0 l0_1 l0_2) = some r := by rw [if_pos rfl] at H; exact H
              clear H
              have H := H1
              clear H1
              have H' := Aside0.mk H
              clear H
              have hcz22_0 : wr.cell? ⟨gb270, 0, none⟩ = some (.slice A0_0 l0_0.length c0_0) := (blk_cell BK270.out 0).trans rfl
              have hcz22_1 : wr.cell? ⟨gb270, 1, none⟩ = some (.slice A0_1 l0_1.length c0_1) := (blk_cell BK270.out 1).trans rfl
              have hcz22_2 : wr.cell? ⟨gb270, 2, none⟩ = some (.slice A0_2 l0_2.length c0_2) := (blk_cell BK270.out 2).trans rfl
              have hfz22_0 := blk_frozen BK270.out 0
              have hfz22_1 := blk_frozen BK270.out 1
              have hfz22_2 := blk_frozen BK270.out 2
              have p272 : 0 ≤ (x5_2 : Int) := of_decide_eq_true as_
              have q272 : x5_2 < (l0_0.length : Int) := of_decide_eq_true as_
              obtain ⟨ad272, e272, hx272_0⟩ := Kd.at_int HR0_0.out x5_2 p272 q272
              cases e272
              replace hx272_0 := (HB.out.cell (World.block_lt_of_cell? w _ hx272_0)).trans hx272_0
              replace p272 := eq_true p272
              replace q272 := eq_true q272
              go_wp2_with (first | ((with_reducible refine gate_callee (f := 64) rfl ?_); refine goesL_ (some 36) rfl rfl Try.func64 (by kernel_rfl) rfl #[.int .i64 (rd l0_0 x5_2)] rfl ma_ ?_; (with_reducible refine (speculumref06_isHeight.calls (rd l0_0 x5_2) true _ A14.out).mono ?_); rintro e w' ⟨rfl, ⟨nd, rfl⟩⟩; refine ⟨_, rfl, ?_⟩; have p274 : 0 ≤ (x5_2 : Int) := of_decide_eq_true as_; have q274 : x5_2 < (l0_1.length : Int) := of_decide_eq_true as_; obtain ⟨ad274, e274, hx274_0⟩ := Kd.at_int HR0_1.out x5_2 p274 q274; cases e274; replace hx274_0 := (HB.out.cell (World.block_lt_of_cell? w _ hx274_0)).trans hx274_0; replace p274 := eq_true p274; replace q274 := eq_true q274) | (go_at_call 28; (with_reducible refine (speculumbase_Within.calls (rd l0_1 x5_2) 0 1000 true _ A17.out).mono ?_); rintro e w' ⟨rfl, ⟨nd, rfl⟩⟩; have p276 : 0 ≤ (x5_2 : Int) := of_decide_eq_true as_; have q276 : x5_2 < (l0_2.length : Int) := of_decide_eq_true as_; obtain ⟨ad276, e276, hx276_0⟩ := Kd.at_int HR0_2.out x5_2 p276 q276; cases e276; replace hx276_0 := (HB.out.cell (World.block_lt_of_cell? w _ hx276_0)).trans hx276_0; replace p276 := eq_true p276; replace q276 := eq_true q276) | (go_at_call 28; (with_reducible refine (speculumbase_Within.calls (rd l0_2 x5_2) 0 1000 true _ A20.out).mono ?_); rintro e w' ⟨rfl, ⟨nd, rfl⟩⟩; have p278 : 0 ≤ (x5_2 : Int) := of_decide_eq_true as_; have q278 : x5_2 < (l0_2.length : Int) := of_decide_eq_true as_; obtain ⟨ad278, e278, hx278_0⟩ := Kd.at_int HR0_2.out x5_2 p278 q278; obtain rfl : ad276 = ad278 := (by injection e278); replace hx278_0 := (HB.out.cell (World.block_lt_of_cell? w _ hx278_0)).trans hx278_0; replace p278 := eq_true p278; replace q278 := eq_true q278))
              go_roundg k2
              case measure => have := HJ1.out; have := HK2.out; omega
              case rel => exact ⟨(wrap64 (x4_2 + (rd l0_2 x5_2))), (wrap64 (x5_2 + 1)), rs_, rs_, H', ⟨by have := HJ1.out; have := HK2.out; omega⟩, ⟨by (with_reducible repeat (first | refine blk_drewN ?_ _ | refine blk_drew ?_ | refine blk_alloc ?_ _)); exact BK270.out⟩, ⟨hb_ HB⟩⟩
             ·replace c21 := Bool.eq_false_iff.mpr c21
              subst c21
              have H1 : (some 2) = some r := by rw [if_neg (show ¬ (false = true) by decide)] at H; exact H
              clear H
              have H := H1
              clear H1
              obtain rfl := Option.some.inj H
              have hcz23_0 : wr.cell? ⟨gb270, 0, none⟩ = some (.slice A0_0 l0_0.length c0_0) := (blk_cell BK270.out 0).trans rfl
              have hcz23_1 : wr.cell? ⟨gb270, 1, none⟩ = some (.slice A0_1 l0_1.length c0_1) := (blk_cell BK270.out 1).trans rfl
              have hcz23_2 : wr.cell? ⟨gb270, 2, none⟩ = some (.slice A0_2 l0_2.length c0_2) := (blk_cell BK270.out 2).trans rfl
              have hfz23_0 := blk_frozen BK270.out 0
              have hfz23_1 := blk_frozen BK270.out 1
              have hfz23_2 := blk_frozen BK270.out 2
              have p272 : 0 ≤ (x5_2 : Int) := of_decide_eq_true as_
              have q272 : x5_2 < (l0_0.length : Int) := of_decide_eq_true as_
              obtain ⟨ad272, e272, hx272_0⟩ := Kd.at_int HR0_0.out x5_2 p272 q272
              cases e272
              replace hx272_0 := (HB.out.cell (World.block_lt_of_cell? w _ hx272_0)).trans hx272_0
              replace p272 := eq_true p272
              replace q272 := eq_true q272
              go_wp2_with (first | ((with_reducible refine gate_callee (f := 64) rfl ?_); refine goesL_ (some 36) rfl rfl Try.func64 (by kernel_rfl) rfl #[.int .i64 (rd l0_0 x5_2)] rfl ma_ ?_; (with_reducible refine (speculumref06_isHeight.calls (rd l0_0 x5_2) true _ A14.out).mono ?_); rintro e w' ⟨rfl, ⟨nd, rfl⟩⟩; refine ⟨_, rfl, ?_⟩; have p274 : 0 ≤ (x5_2 : Int) := of_decide_eq_true as_; have q274 : x5_2 < (l0_1.length : Int) := of_decide_eq_true as_; obtain ⟨ad274, e274, hx274_0⟩ := Kd.at_int HR0_1.out x5_2 p274 q274; cases e274; replace hx274_0 := (HB.out.cell (World.block_lt_of_cell? w _ hx274_0)).trans hx274_0; replace p274 := eq_true p274; replace q274 := eq_true q274) | (go_at_call 28; (with_reducible refine (speculumbase_Within.calls (rd l0_1 x5_2) 0 1000 true _ A17.out).mono ?_); rintro e w' ⟨rfl, ⟨nd, rfl⟩⟩; have p276 : 0 ≤ (x5_2 : Int) := of_decide_eq_true as_; have q276 : x5_2 < (l0_2.length : Int) := of_decide_eq_true as_; obtain ⟨ad276, e276, hx276_0⟩ := Kd.at_int HR0_2.out x5_2 p276 q276; cases e276; replace hx276_0 := (HB.out.cell (World.block_lt_of_cell? w _ hx276_0)).trans hx276_0; replace p276 := eq_true p276; replace q276 := eq_true q276) | (go_at_call 28; (with_reducible refine (speculumbase_Within.calls (rd l0_2 x5_2) 0 1000 false _ A20.out).mono ?_); rintro e w' ⟨rfl, ⟨nd, rfl⟩⟩))
              go_ret
              exact ⟨ew_, hb_ HB⟩
            ·rw [if_neg c19] at H
             exact absurd H (by simp)
           ·replace c18 := Bool.eq_false_iff.mpr c18
            subst c18
            have H1 : (some 2) = some r := by rw [if_neg (show ¬ (false = true) by decide)] at H; exact H
            clear H
            have H := H1
            clear H1
            obtain rfl := Option.some.inj H
            have hcz24_0 : wr.cell? ⟨gb270, 0, none⟩ = some (.slice A0_0 l0_0.length c0_0) := (blk_cell BK270.out 0).trans rfl
            have hcz24_1 : wr.cell? ⟨gb270, 1, none⟩ = some (.slice A0_1 l0_1.length c0_1) := (blk_cell BK270.out 1).trans rfl
            have hcz24_2 : wr.cell? ⟨gb270, 2, none⟩ = some (.slice A0_2 l0_2.length c0_2) := (blk_cell BK270.out 2).trans rfl
            have hfz24_0 := blk_frozen BK270.out 0
            have hfz24_1 := blk_frozen BK270.out 1
            have hfz24_2 := blk_frozen BK270.out 2
            have p272 : 0 ≤ (x5_2 : Int) := of_decide_eq_true as_
            have q272 : x5_2 < (l0_0.length : Int) := of_decide_eq_true as_
            obtain ⟨ad272, e272, hx272_0⟩ := Kd.at_int HR0_0.out x5_2 p272 q272
            cases e272
            replace hx272_0 := (HB.out.cell (World.block_lt_of_cell? w _ hx272_0)).trans hx272_0
            replace p272 := eq_true p272
            replace q272 := eq_true q272
            go_wp2_with (first | ((with_reducible refine gate_callee (f := 64) rfl ?_); refine goesL_ (some 36) rfl rfl Try.func64 (by kernel_rfl) rfl #[.int .i64 (rd l0_0 x5_2)] rfl ma_ ?_; (with_reducible refine (speculumref06_isHeight.calls (rd l0_0 x5_2) true _ A14.out).mono ?_); rintro e w' ⟨rfl, ⟨nd, rfl⟩⟩; refine ⟨_, rfl, ?_⟩; have p274 : 0 ≤ (x5_2 : Int) := of_decide_eq_true as_; have q274 : x5_2 < (l0_1.length : Int) := of_decide_eq_true as_; obtain ⟨ad274, e274, hx274_0⟩ := Kd.at_int HR0_1.out x5_2 p274 q274; cases e274; replace hx274_0 := (HB.out.cell (World.block_lt_of_cell? w _ hx274_0)).trans hx274_0; replace p274 := eq_true p274; replace q274 := eq_true q274) | (go_at_call 28; (with_reducible refine (speculumbase_Within.calls (rd l0_1 x5_2) 0 1000 false _ A17.out).mono ?_); rintro e w' ⟨rfl, ⟨nd, rfl⟩⟩))
            go_ret
            exact ⟨ew_, hb_ HB⟩
          ·rw [if_neg c16] at H
           exact absurd H (by simp)
         ·replace c15 := Bool.eq_false_iff.mpr c15
          subst c15
          have H1 : (some 2) = some r := by rw [if_neg (show ¬ (false = true) by decide)] at H; exact H
          clear H
          have H := H1
          clear H1
          obtain rfl := Option.some.inj H
          have hcz25_0 : wr.cell? ⟨gb270, 0, none⟩ = some (.slice A0_0 l0_0.length c0_0) := (blk_cell BK270.out 0).trans rfl
          have hcz25_1 : wr.cell? ⟨gb270, 1, none⟩ = some (.slice A0_1 l0_1.length c0_1) := (blk_cell BK270.out 1).trans rfl
          have hcz25_2 : wr.cell? ⟨gb270, 2, none⟩ = some (.slice A0_2 l0_2.length c0_2) := (blk_cell BK270.out 2).trans rfl
          have hfz25_0 := blk_frozen BK270.out 0
          have hfz25_1 := blk_frozen BK270.out 1
          have hfz25_2 := blk_frozen BK270.out 2
          have p272 : 0 ≤ (x5_2 : Int) := of_decide_eq_true as_
          have q272 : x5_2 < (l0_0.length : Int) := of_decide_eq_true as_
          obtain ⟨ad272, e272, hx272_0⟩ := Kd.at_int HR0_0.out x5_2 p272 q272
          cases e272
          replace hx272_0 := (HB.out.cell (World.block_lt_of_cell? w _ hx272_0)).trans hx272_0
          replace p272 := eq_true p272
          replace q272 := eq_true q272
          go_wp2_with (first | ((with_reducible refine gate_callee (f := 64) rfl ?_); refine goesL_ (some 36) rfl rfl Try.func64 (by kernel_rfl) rfl #[.int .i64 (rd l0_0 x5_2)] rfl ma_ ?_; (with_reducible refine (speculumref06_isHeight.calls (rd l0_0 x5_2) false _ A14.out).mono ?_); rintro e w' ⟨rfl, ⟨nd, rfl⟩⟩; refine ⟨_, rfl, ?_⟩))
          go_ret
          exact ⟨ew_, hb_ HB⟩
        ·rw [if_neg c13] at H
         exact absurd H (by simp)
       ·rw [if_neg c12] at H
        exact absurd H (by simp)
      ·rw [if_neg c11] at H
       have c11b0 : decide (x5_2 < (l0_0.length : Int)) = false := decide_eq_false c11
       clear c11
       by_cases c26 : x4_2 = 0
       ·rw [if_pos c26] at H
        have c26b0 : (x4_2 == 0) = true := beq_iff_eq.mpr c26
        have c26b1 : (x4_2 != 0) = false := bne_eq_false_iff_eq.mpr c26
        clear c26
        obtain rfl := Option.some.inj H
        go_wp2
        go_ret
        exact ⟨ew_, hb_ HB⟩
       ·rw [if_neg c26] at H
        have c26b0 : (x4_2 == 0) = false := beq_eq_false_iff_ne.mpr c26
        have c26b1 : (x4_2 != 0) = true := bne_iff_ne.mpr c26
        obtain rfl := Option.some.inj H
        go_wp2
        go_ret
        exact ⟨ew_, hb_ HB⟩
def speculumbase_Abs.f (a0 : Int) : Option (Int) := if a0 < 0 then (some (wrap64 (-a0))) else (some a0)
set_option maxHeartbeats 8000000 in
set_option maxRecDepth 100000 in
theorem speculumbase_Abs.calls (a0 : Int) (r : Int) (w : World) (h : speculumbase_Abs.f a0 = some r) :
  Calls Try.prog 29 #[.int .i64 a0] w fun e w' => e = .returned (.int .i64 r) ∧ Drawn0 w w' := by
 have H : (if a0 < 0 then (some (wrap64 (-a0))) else (some a0)) = some r := h
 clear h
 by_cases c2 : a0 < 0
 ·rw [if_pos c2] at H
  have c2b0 : decide (a0 < 0) = true := decide_eq_true c2
  clear c2
  obtain rfl := Option.some.inj H
  go_enter Try.func29, Try.ntmps29
  go_wp2
  go_ret
  exact ⟨rs_, dn_⟩
 ·rw [if_neg c2] at H
  have c2b0 : decide (a0 < 0) = false := decide_eq_false c2
  clear c2
  obtain rfl := Option.some.inj H
  go_enter Try.func29, Try.ntmps29
  go_wp2
  go_ret
  exact ⟨rs_, dn_⟩
def speculumbase_Gcd.l0 : Nat → Int → Int → Option (Int)
 | 0, _, _ => none
 | k + 1, x0, x1 => if x1 = 0 then ((speculumbase_Abs.f x0).bind fun t279 => (some t279)) else (speculumbase_Gcd.l0 k x1 (Int.tmod x0 x1))
def speculumbase_Gcd.f (k : Nat) (a0 : Int) (a1 : Int) : Option (Int) := speculumbase_Gcd.l0 k a0 a1
set_option maxHeartbeats 8000000 in
set_option maxRecDepth 100000 in
theorem speculumbase_Gcd.calls (k : Nat) (a0 : Int) (a1 : Int) (r : Int) (w : World) (h : speculumbase_Gcd.f k a0 a1 = some r) :
  Calls Try.prog 83 #[.int .i64 a0, .int .i64 a1] w fun e w' => e = .returned (.int .i64 r) ∧ Drawn0 w w' := by
 have H : (speculumbase_Gcd.l0 k a0 a1) = some r := h
 clear h
 have H' := Aside0.mk H
 clear H
 go_enter Try.func83, Try.ntmps83
 go_wp2
 repeat (go_quiet (fail); try go_wp2)
 go_loopg [0, 1] k (fun kq v0 v1 w' => ∃ (x0_1 : Int) (x1_1 : Int), v0 = .int .i64 x0_1 ∧ v1 = .int .i64 x1_1 ∧ Aside0 (speculumbase_Gcd.l0 kq x0_1 x1_1 = some r) ∧ Aside0 (kq ≤ k) ∧ Drawn0 w w')
 case atStart => exact ⟨(a0), (a1), rs_, rs_, H', ⟨Nat.le_refl _⟩, dn_⟩
 case round =>
  clear H'
  try clear p2
  obtain ⟨x0_1, x1_1, rfl, rfl, HA, HK1, ⟨m1, rfl⟩⟩ := hrel
  cases gk with
  | zero => exact absurd HA.out (by simp [speculumbase_Gcd.l0])
  | succ k1 =>
   have H := HA.out
   clear HA
   simp only [speculumbase_Gcd.l0] at H
   by_cases c3 : x1_1 = 0
   ·rw [if_pos c3] at H
    have c3b0 : (x1_1 == 0) = true := beq_iff_eq.mpr c3
    have c3b1 : (x1_1 != 0) = false := bne_eq_false_iff_eq.mpr c3
    clear c3
    replace H := Option.bind_eq_some_iff.mp H
    obtain ⟨t279, A40, H⟩ := H
    replace H : (some t279) = some r := H
    have A4 := Aside0.mk A40
    clear A40
    obtain rfl := Option.some.inj H
    go_wp2_with (first | (go_at_call 29; (with_reducible refine (speculumbase_Abs.calls x0_1 t279 _ A4.out).mono ?_); rintro e w' ⟨rfl, ⟨nd, rfl⟩⟩; (try first | exact ⟨rfl, _, World.drewN_drewN _ _ _⟩ | exact ⟨rfl, _, Eq.trans (World.drewN_drewN _ _ _) (congrArg (World.drewN _) (Nat.add_assoc _ _ _))⟩)))
    repeat (go_quiet (first | (go_at_call 29; (with_reducible refine (speculumbase_Abs.calls x0_1 t279 _ A4.out).mono ?_); rintro e w' ⟨rfl, ⟨nd, rfl⟩⟩; (try first | exact ⟨rfl, _, World.drewN_drewN _ _ _⟩ | exact ⟨rfl, _, Eq.trans (World.drewN_drewN _ _ _) (congrArg (World.drewN _) (Nat.add_assoc _ _ _))⟩))); try go_wp2_with (first | (go_at_call 29; (with_reducible refine (speculumbase_Abs.calls x0_1 t279 _ A4.out).mono ?_); rintro e w' ⟨rfl, ⟨nd, rfl⟩⟩; (try first | exact ⟨rfl, _, World.drewN_drewN _ _ _⟩ | exact ⟨rfl, _, Eq.trans (World.drewN_drewN _ _ _) (congrArg (World.drewN _) (Nat.add_assoc _ _ _))⟩))))
    go_ret
    exact ⟨rs_, dn_⟩
   ·rw [if_neg c3] at H
    have c3b0 : (x1_1 == 0) = false := beq_eq_false_iff_ne.mpr c3
    have c3b1 : (x1_1 != 0) = true := bne_iff_ne.mpr c3
    have H' := Aside0.mk H
    clear H
    go_wp2
    repeat (go_quiet (fail); try go_wp2)
    go_roundg k1
    case measure => have := HK1.out; omega
    case rel => exact ⟨(x1_1), (Int.tmod x0_1 x1_1), rs_, rs_, H', ⟨by have := HK1.out; omega⟩, dn_⟩
def speculumbase_Lowest.f (k : Nat) (a0 : Int) (a1 : Int) : Option (Int × Int) := (speculumbase_Gcd.f k a0 a1).bind fun t281 => (if a1 < 0 then (if (wrap64 (-t281)) = 0 then (none) else (some (wrap64 (Int.tdiv a0 (wrap64 (-t281))), wrap64 (Int.tdiv a1 (wrap64 (-t281)))))) else (if t281 = 0 then (none) else (some (wrap64 (Int.tdiv a0 t281), wrap64 (Int.tdiv a1 t281)))))
def speculumbase_Lowest.T4 : Bool × List (List Nat × List Nat) := (true, [([], []), ([], []), ([0, 1], [0, 1]), ([], []), ([], []), ([3, 4], [3, 4]), ([2, 5], [2, 5]), ([6, 0, 1, 2, 3, 4, 5, 6], [6])])
def speculumbase_Lowest.B4 : List Nat := [0, 0, 3, 0, 0, 24, 63, 127]
theorem speculumbase_Lowest.tab4 : rtab .any (opsOf Try.f43 4) = speculumbase_Lowest.T4 := by kernel_rfl
theorem speculumbase_Lowest.bits4 : waitsOk speculumbase_Lowest.T4.2 speculumbase_Lowest.B4 = true := by kernel_rfl
set_option maxHeartbeats 8000000 in
set_option maxRecDepth 100000 in
theorem speculumbase_Lowest.calls (k : Nat) (a0 : Int) (a1 : Int) (r1 : Int) (r2 : Int) (w : World) (h : speculumbase_Lowest.f k a0 a1 = some (r1, r2)) :
  Calls Try.prog 43 #[.int .i64 a0, .int .i64 a1] w fun e w' => e = .returned (.agg #[.int .i64 r1, .int .i64 r2]) ∧ Below w.heap.size w w' := by
 have hu28 := Try.underlying28
 have HB := Aside0.mk (Below.refl w.heap.size w)
 have H : ((speculumbase_Gcd.f k a0 a1).bind fun t281 => (if a1 < 0 then (if (wrap64 (-t281)) = 0 then (none) else (some (wrap64 (Int.tdiv a0 (wrap64 (-t281))), wrap64 (Int.tdiv a1 (wrap64 (-t281)))))) else (if t281 = 0 then (none) else (some (wrap64 (Int.tdiv a0 t281), wrap64 (Int.tdiv a1 t281)))))) = some (r1, r2) := h
 clear h
 replace H := Option.bind_eq_some_iff.mp H
 obtain ⟨t281, A30, H⟩ := H
 replace H : (if a1 < 0 then (if (wrap64 (-t281)) = 0 then (none) else (some (wrap64 (Int.tdiv a0 (wrap64 (-t281))), wrap64 (Int.tdiv a1 (wrap64 (-t281)))))) else (if t281 = 0 then (none) else (some (wrap64 (Int.tdiv a0 t281), wrap64 (Int.tdiv a1 t281))))) = some (r1, r2) := H
 have A3 := Aside0.mk A30
 clear A30
 by_cases c4 : a1 < 0
 ·rw [if_pos c4] at H
  have c4b0 : decide (a1 < 0) = true := decide_eq_true c4
  clear c4
  by_cases c5 : (wrap64 (-t281)) = 0
  ·rw [if_pos c5] at H
   exact absurd H (by simp)
  ·rw [if_neg c5] at H
   have c5b0 : ((wrap64 (-t281)) == 0) = false := beq_eq_false_iff_ne.mpr c5
   have c5b1 : ((wrap64 (-t281)) != 0) = true := bne_iff_ne.mpr c5
   simp only [Option.some.injEq, Prod.mk.injEq] at H
   obtain ⟨rfl, rfl⟩ := H
   go_enter Try.func43, Try.ntmps43
   try go_wp2_with (first | ((with_reducible refine gate_dst (N := 4) rfl ?_); refine box_event ?hg (N := 4) ?hd (cs := #[.int .i64 0, .int .i64 0]) (t := 28) ?hr ?_; (case hd => rfl); (case hg => rfl); (case hr => exact gr_); intro gb280 hg w6 hbox hb; have n0_ := Aside0.mk (below_step (hb_ HB) hb); have n1_ := Aside0.mk (hbox); have n2_ := Aside0.mk ((hz_ HB hg)); have n3_ := Aside0.mk ((hz_ HB hg)); clear HB; have HB := n0_; have BK280 := n1_; have GW280 := n2_; have GE280 := n3_; clear n0_ n1_ n2_ n3_; clear hb hbox hg) | ((with_reducible refine gate_callee (f := 83) rfl ?_); refine goesL_ (some 8) rfl rfl Try.func83 (by kernel_rfl) rfl #[.int .i64 a0, .int .i64 a1] rfl ma_ ?_; (with_reducible refine (speculumbase_Gcd.calls k a0 a1 t281 _ A3.out).mono ?_); rintro e w' ⟨rfl, ⟨nd, rfl⟩⟩; refine ⟨_, rfl, ?_⟩; (try (rw [drewN_self w6]; generalize hq_ : World.drewN w6 _ = w6; have n0_ : Aside0 (w6.heap[gb280]? = some (.cells #[.int .i64 0, .int .i64 0] 28 (0, 0))) := ⟨by rw [← hq_]; exact (bk_ BK280)⟩; have n1_ : Aside0 (Below w.heap.size w w6) := ⟨by rw [← hq_]; exact (hb_ HB)⟩; clear BK280 HB hq_; have BK280 := n0_; have HB := n1_; clear n0_ n1_))))
   have n0_ := Aside0.mk (blk_drew BK280.out)
   have n1_ := Aside0.mk (below_drew1 HB.out)
   clear BK280
   clear HB
   have BK280 := n0_
   have HB := n1_
   clear n0_ n1_
   refine start_ (n := 8) (S := fun w' => True) (ds := []) #[false, false, false, false, false, false, false, false] (by kernel_rfl) rfl rfl trivial (fun hHeld => ?_); refine with_tabW speculumbase_Lowest.tab4 speculumbase_Lowest.bits4 (fun HT_ HW_ => ?_)
   generalize w6.drew = w7 at BK280 HB hHeld ⊢
   refine pure_ (i := 0) (N := some 13) (v := ?_) (a' := ?_) #[true, false, false, false, false, false, false, false] rfl rfl (any_of HT_.out (by kernel_rfl)) (fun _ _ _ h => h) (Or.inl ⟨by rfl, ?_⟩) ?_ ?_
   rotate_left
   ·exact gs_
   rotate_left
   ·exact pt_
   refine pure_ (i := 1) (N := some 14) (v := ?_) (a' := ?_) #[true, true, false, false, false, false, false, false] rfl rfl (any_of HT_.out (by kernel_rfl)) (fun _ _ _ h => h) (Or.inl ⟨by rfl, ?_⟩) ?_ ?_
   rotate_left
   ·exact gs_
   rotate_left
   ·exact pt_
   refine pure_ (i := 2) (N := some 15) (v := ?_) (a' := ?_) #[true, true, true, false, false, false, false, false] rfl rfl (any_of HT_.out (by kernel_rfl)) (fun _ _ _ h => h) (Or.inl ⟨by rfl, ?_⟩) ?_ ?_
   rotate_left
   ·exact gs_
   rotate_left
   ·exact pt_
   refine pure_ (i := 3) (N := some 16) (v := ?_) (a' := ?_) #[true, true, true, true, false, false, false, false] rfl rfl (any_of HT_.out (by kernel_rfl)) (fun _ _ _ h => h) (Or.inl ⟨by rfl, ?_⟩) ?_ ?_
   rotate_left
   ·exact gs_
   rotate_left
   ·exact pt_
   refine pure_ (i := 4) (N := some 17) (v := ?_) (a' := ?_) #[true, true, true, true, true, false, false, false] rfl rfl (any_of HT_.out (by kernel_rfl)) (fun _ _ _ h => h) (Or.inl ⟨by rfl, ?_⟩) ?_ ?_
   rotate_left
   ·exact gs_
   rotate_left
   ·exact pt_
   refine pure_ (i := 5) (N := some 18) (v := ?_) (a' := ?_) #[true, true, true, true, true, true, false, false] rfl rfl (any_of HT_.out (by kernel_rfl)) (fun _ _ _ h => h) (Or.inl ⟨by rfl, ?_⟩) ?_ ?_
   rotate_left
   ·exact gs_
   rotate_left
   ·exact pt_
   refine pure_ (i := 6) (N := some 19) (v := ?_) (a' := ?_) #[true, true, true, true, true, true, true, false] rfl rfl (any_of HT_.out (by kernel_rfl)) (fun _ _ _ h => h) (Or.inl ⟨by rfl, ?_⟩) ?_ ?_
   rotate_left
   ·exact gs_
   rotate_left
   ·exact pt_
   refine one_ (i := 7) (N := none) #[true, true, true, true, true, true, true, true] rfl rfl (one_of HT_.out (by kernel_rfl)) di_ (fun K hK => ?_)
   have hs8 : w7.cell? ⟨gb280, 0, none⟩ = some (.int .i64 0) := (blk_cell BK280.out 0).trans rfl
   have hfs8 := blk_frozen BK280.out 0
   have hs9 : w7.cell? ⟨gb280, 1, none⟩ = some (.int .i64 0) := (blk_cell BK280.out 1).trans rfl
   have hfs9 := blk_frozen BK280.out 1
   refine skip_ (w1 := ?_) (by rfl) rfl ?_ ?_
   rotate_left
   ·go_simp
    rfl
   refine hK.out _ _ trivial (fun hHeld => ?_)
   clear hK K
   refine done_ (done_of HT_.out (by kernel_rfl)) ?_
   try go_wp2
   refine bodyPost_ret (results_cell_row rfl _ _ gb280 28 #[.int .i64 (wrap64 (Int.tdiv a0 (wrap64 (-t281)))), .int .i64 (wrap64 (Int.tdiv a1 (wrap64 (-t281))))] (0, 0) _ rfl (by (with_reducible repeat (first | refine blk_drewN ?_ _ | refine blk_drew ?_ | refine blk_alloc ?_ _)); refine blk_put (cs := #[.int .i64 (wrap64 (Int.tdiv a0 (wrap64 (-t281)))), .int .i64 0]) ?_ 1 _ rfl; (with_reducible repeat (first | refine blk_drewN ?_ _ | refine blk_drew ?_ | refine blk_alloc ?_ _)); refine blk_put (cs := #[.int .i64 0, .int .i64 0]) ?_ 0 _ rfl; (with_reducible repeat (first | refine blk_drewN ?_ _ | refine blk_drew ?_ | refine blk_alloc ?_ _)); exact BK280.out) Try.underlying28 rfl (by kernel_rfl)) rfl ?_
   exact ⟨ew_, hb_ HB⟩
 ·rw [if_neg c4] at H
  have c4b0 : decide (a1 < 0) = false := decide_eq_false c4
  clear c4
  by_cases c10 : t281 = 0
  ·rw [if_pos c10] at H
   exact absurd H (by simp)
  ·rw [if_neg c10] at H
   have c10b0 : (t281 == 0) = false := beq_eq_false_iff_ne.mpr c10
   have c10b1 : (t281 != 0) = true := bne_iff_ne.mpr c10
   simp only [Option.some.injEq, Prod.mk.injEq] at H
   obtain ⟨rfl, rfl⟩ := H
   go_enter Try.func43, Try.ntmps43
   try go_wp2_with (first | ((with_reducible refine gate_dst (N := 4) rfl ?_); refine box_event ?hg (N := 4) ?hd (cs := #[.int .i64 0, .int .i64 0]) (t := 28) ?hr ?_; (case hd => rfl); (case hg => rfl); (case hr => exact gr_); intro gb280 hg w11 hbox hb; have n0_ := Aside0.mk (below_step (hb_ HB) hb); have n1_ := Aside0.mk (hbox); have n2_ := Aside0.mk ((hz_ HB hg)); have n3_ := Aside0.mk ((hz_ HB hg)); clear HB; have HB := n0_; have BK280 := n1_; have GW280 := n2_; have GE280 := n3_; clear n0_ n1_ n2_ n3_; clear hb hbox hg) | ((with_reducible refine gate_callee (f := 83) rfl ?_); refine goesL_ (some 8) rfl rfl Try.func83 (by kernel_rfl) rfl #[.int .i64 a0, .int .i64 a1] rfl ma_ ?_; (with_reducible refine (speculumbase_Gcd.calls k a0 a1 t281 _ A3.out).mono ?_); rintro e w' ⟨rfl, ⟨nd, rfl⟩⟩; refine ⟨_, rfl, ?_⟩; (try (rw [drewN_self w11]; generalize hq_ : World.drewN w11 _ = w11; have n0_ : Aside0 (w11.heap[gb280]? = some (.cells #[.int .i64 0, .int .i64 0] 28 (0, 0))) := ⟨by rw [← hq_]; exact (bk_ BK280)⟩; have n1_ : Aside0 (Below w.heap.size w w11) := ⟨by rw [← hq_]; exact (hb_ HB)⟩; clear BK280 HB hq_; have BK280 := n0_; have HB := n1_; clear n0_ n1_))))
   have n0_ := Aside0.mk (blk_drew BK280.out)
   have n1_ := Aside0.mk (below_drew1 HB.out)
   clear BK280
   clear HB
   have BK280 := n0_
   have HB := n1_
   clear n0_ n1_
   refine start_ (n := 8) (S := fun w' => True) (ds := []) #[false, false, false, false, false, false, false, false] (by kernel_rfl) rfl rfl trivial (fun hHeld => ?_); refine with_tabW speculumbase_Lowest.tab4 speculumbase_Lowest.bits4 (fun HT_ HW_ => ?_)
   generalize w11.drew = w12 at BK280 HB hHeld ⊢
   refine pure_ (i := 0) (N := some 13) (v := ?_) (a' := ?_) #[true, false, false, false, false, false, false, false] rfl rfl (any_of HT_.out (by kernel_rfl)) (fun _ _ _ h => h) (Or.inl ⟨by rfl, ?_⟩) ?_ ?_
   rotate_left
   ·exact gs_
   rotate_left
   ·exact pt_
   refine pure_ (i := 1) (N := some 14) (v := ?_) (a' := ?_) #[true, true, false, false, false, false, false, false] rfl rfl (any_of HT_.out (by kernel_rfl)) (fun _ _ _ h => h) (Or.inl ⟨by rfl, ?_⟩) ?_ ?_
   rotate_left
   ·exact gs_
   rotate_left
   ·exact pt_
   refine pure_ (i := 2) (N := some 15) (v := ?_) (a' := ?_) #[true, true, true, false, false, false, false, false] rfl rfl (any_of HT_.out (by kernel_rfl)) (fun _ _ _ h => h) (Or.inl ⟨by rfl, ?_⟩) ?_ ?_
   rotate_left
   ·exact gs_
   rotate_left
   ·exact pt_
   refine pure_ (i := 3) (N := some 16) (v := ?_) (a' := ?_) #[true, true, true, true, false, false, false, false] rfl rfl (any_of HT_.out (by kernel_rfl)) (fun _ _ _ h => h) (Or.inl ⟨by rfl, ?_⟩) ?_ ?_
   rotate_left
   ·exact gs_
   rotate_left
   ·exact pt_
   refine pure_ (i := 4) (N := some 17) (v := ?_) (a' := ?_) #[true, true, true, true, true, false, false, false] rfl rfl (any_of HT_.out (by kernel_rfl)) (fun _ _ _ h => h) (Or.inl ⟨by rfl, ?_⟩) ?_ ?_
   rotate_left
   ·exact gs_
   rotate_left
   ·exact pt_
   refine pure_ (i := 5) (N := some 18) (v := ?_) (a' := ?_) #[true, true, true, true, true, true, false, false] rfl rfl (any_of HT_.out (by kernel_rfl)) (fun _ _ _ h => h) (Or.inl ⟨by rfl, ?_⟩) ?_ ?_
   rotate_left
   ·exact gs_
   rotate_left
   ·exact pt_
   refine pure_ (i := 6) (N := some 19) (v := ?_) (a' := ?_) #[true, true, true, true, true, true, true, false] rfl rfl (any_of HT_.out (by kernel_rfl)) (fun _ _ _ h => h) (Or.inl ⟨by rfl, ?_⟩) ?_ ?_
   rotate_left
   ·exact gs_
   rotate_left
   ·exact pt_
   refine one_ (i := 7) (N := none) #[true, true, true, true, true, true, true, true] rfl rfl (one_of HT_.out (by kernel_rfl)) di_ (fun K hK => ?_)
   have hs13 : w12.cell? ⟨gb280, 0, none⟩ = some (.int .i64 0) := (blk_cell BK280.out 0).trans rfl
   have hfs13 := blk_frozen BK280.out 0
   have hs14 : w12.cell? ⟨gb280, 1, none⟩ = some (.int .i64 0) := (blk_cell BK280.out 1).trans rfl
   have hfs14 := blk_frozen BK280.out 1
   refine skip_ (w1 := ?_) (by rfl) rfl ?_ ?_
   rotate_left
   ·go_simp
    rfl
   refine hK.out _ _ trivial (fun hHeld => ?_)
   clear hK K
   refine done_ (done_of HT_.out (by kernel_rfl)) ?_
   try go_wp2
   refine bodyPost_ret (results_cell_row rfl _ _ gb280 28 #[.int .i64 (wrap64 (Int.tdiv a0 t281)), .int .i64 (wrap64 (Int.tdiv a1 t281))] (0, 0) _ rfl (by (with_reducible repeat (first | refine blk_drewN ?_ _ | refine blk_drew ?_ | refine blk_alloc ?_ _)); refine blk_put (cs := #[.int .i64 (wrap64 (Int.tdiv a0 t281)), .int .i64 0]) ?_ 1 _ rfl; (with_reducible repeat (first | refine blk_drewN ?_ _ | refine blk_drew ?_ | refine blk_alloc ?_ _)); refine blk_put (cs := #[.int .i64 0, .int .i64 0]) ?_ 0 _ rfl; (with_reducible repeat (first | refine blk_drewN ?_ _ | refine blk_drew ?_ | refine blk_alloc ?_ _)); exact BK280.out) Try.underlying28 rfl (by kernel_rfl)) rfl ?_
   exact ⟨ew_, hb_ HB⟩
def speculumref06_Removal.f (k : Nat) (l0_0 : List Int) (l0_1 : List Int) (l0_2 : List Int) (a1_0 : Int) (a1_1 : Int) (a1_2 : Int) (a1_3 : Int) (a1_4 : Int) (a1_5 : Int) (a2 : Int) : Option (Int × Int) := if 0 ≤ a2 then (if a2 < (l0_0.length : Int) then (if a2 < (l0_1.length : Int) then ((speculumbase_Lowest.f k (wrap64 ((wrap64 ((wrap64 ((rd l0_0 a2) * (wrap64 (a1_1 * a1_3)))) - (wrap64 (a1_0 * a1_3)))) - (wrap64 ((wrap64 (a1_2 * (rd l0_1 a2))) * a1_1)))) (wrap64 (a1_1 * a1_3))).bind fun bt397 => (some (bt397.1, bt397.2))) else (none)) else (none)) else (none)
def speculumref06_Removal.T2 : Bool × List (List Nat × List Nat) := (true, [([], []), ([0], [0]), ([], []), ([1, 2], [1, 2]), ([3], [3]), ([], []), ([4, 5], [4, 5]), ([], []), ([7], [7]), ([8], [8]), ([], []), ([10], [10]), ([11], [11]), ([9, 12], [9, 12]), ([6, 13], [6, 13]), ([], []), ([15], [15]), ([16], [16]), ([], []), ([18], [18]), ([], []), ([19, 20], [19, 20]), ([21], [21]), ([17, 22], [17, 22]), ([], []), ([24], [24]), ([25], [25]), ([23, 26], [23, 26]), ([14, 27], [14, 27]), ([], []), ([28, 29], [28, 29]), ([30, 30, 0, 1, 2, 3, 4, 5, 6, 7, 8, 9, 10, 11, 12, 13, 14, 15, 16, 17, 18, 19, 20, 21, 22, 23, 24, 25, 26, 27, 28, 29, 30], [30])])
def speculumref06_Removal.B2 : List Nat := [0, 1, 0, 7, 15, 0, 63, 0, 128, 384, 0, 1024, 3072, 8064, 16383, 0, 32768, 98304, 0, 262144, 0, 1835008, 3932160, 8355840, 0, 16777216, 50331648, 134184960, 268435455, 0, 1073741823, 2147483647]
theorem speculumref06_Removal.tab2 : rtab .any (opsOf Try.f33 2) = speculumref06_Removal.T2 := by kernel_rfl
theorem speculumref06_Removal.bits2 : waitsOk speculumref06_Removal.T2.2 speculumref06_Removal.B2 = true := by kernel_rfl
set_option maxHeartbeats 8000000 in
set_option maxRecDepth 100000 in
theorem speculumref06_Removal.calls (k : Nat) (A0_0 : Option Addr) (c0_0 : Nat) (l0_0 : List Int) (A0_1 : Option Addr) (c0_1 : Nat) (l0_1 : List Int) (A0_2 : Option Addr) (c0_2 : Nat) (l0_2 : List Int) (a1_0 : Int) (a1_1 : Int) (a1_2 : Int) (a1_3 : Int) (a1_4 : Int) (a1_5 : Int) (a2 : Int) (r1 : Int) (r2 : Int) (w : World) (hr0_0 : Kd.C (Kd.int .i64) w A0_0 l0_0.length l0_0) (hc0_0 : l0_0.length ≤ c0_0) (hr0_1 : Kd.C (Kd.int .i64) w A0_1 l0_1.length l0_1) (hc0_1 : l0_1.length ≤ c0_1) (hr0_2 : Kd.C (Kd.int .i64) w A0_2 l0_2.length l0_2) (hc0_2 : l0_2.length ≤ c0_2) (h : speculumref06_Removal.f k l0_0 l0_1 l0_2 a1_0 a1_1 a1_2 a1_3 a1_4 a1_5 a2 = some (r1, r2)) :
  Calls Try.prog 33 #[.agg #[.slice A0_0 l0_0.length c0_0, .slice A0_1 l0_1.length c0_1, .slice A0_2 l0_2.length c0_2], .agg #[.int .i64 a1_0, .int .i64 a1_1, .int .i64 a1_2, .int .i64 a1_3, .int .i64 a1_4, .int .i64 a1_5], .int .i64 a2] w fun e w' => e = .returned (.agg #[.int .i64 r1, .int .i64 r2]) ∧ Below w.heap.size w w' := by
 have hu24 := Try.underlying24
 have hu50 := Try.underlying50
 have hu28 := Try.underlying28
 have HR0_0 := Aside0.mk hr0_0
 have HC0_0 := Aside0.mk hc0_0
 clear hr0_0 hc0_0
 have HR0_1 := Aside0.mk hr0_1
 have HC0_1 := Aside0.mk hc0_1
 clear hr0_1 hc0_1
 have HR0_2 := Aside0.mk hr0_2
 have HC0_2 := Aside0.mk hc0_2
 clear hr0_2 hc0_2
 have HB := Aside0.mk (Below.refl w.heap.size w)
 have H : (if 0 ≤ a2 then (if a2 < (l0_0.length : Int) then (if a2 < (l0_1.length : Int) then ((speculumbase_Lowest.f k (wrap64 ((wrap64 ((wrap64 ((rd l0_0 a2) * (wrap64 (a1_1 * a1_3)))) - (wrap64 (a1_0 * a1_3)))) - (wrap64 ((wrap64 (a1_2 * (rd l0_1 a2))) * a1_1)))) (wrap64 (a1_1 * a1_3))).bind fun bt397 => (some (bt397.1, bt397.2))) else (none)) else (none)) else (none)) = some (r1, r2) := h
 clear h
 by_cases c4 : 0 ≤ a2
 ·rw [if_pos c4] at H
  have c4b0 : decide (0 ≤ a2) = true := decide_eq_true c4
  clear c4
  by_cases c5 : a2 < (l0_0.length : Int)
  ·rw [if_pos c5] at H
   have c5b0 : decide (a2 < (l0_0.length : Int)) = true := decide_eq_true c5
   clear c5
   by_cases c6 : a2 < (l0_1.length : Int)
   ·rw [if_pos c6] at H
    have c6b0 : decide (a2 < (l0_1.length : Int)) = true := decide_eq_true c6
    clear c6
    replace H := Option.bind_eq_some_iff.mp H
    obtain ⟨⟨t397, t398⟩, A70, H⟩ := H
    replace H : (some (t397, t398)) = some (r1, r2) := H
    have A7 := Aside0.mk A70
    clear A70
    simp only [Option.some.injEq, Prod.mk.injEq] at H
    obtain ⟨rfl, rfl⟩ := H
    go_enter Try.func33, Try.ntmps33
    try go_wp2_with (first | ((with_reducible refine gate_dst (N := 3) rfl ?_); refine box_event ?hg (N := 3) ?hd (cs := #[.slice A0_0 l0_0.length c0_0, .slice A0_1 l0_1.length c0_1, .slice A0_2 l0_2.length c0_2]) (t := 24) ?hr ?_; (case hd => rfl); (case hg => rfl); (case hr => exact gr_); intro gb392 hg w8 hbox hb; have n0_ := Aside0.mk (below_step (hb_ HB) hb); have n1_ := Aside0.mk (hbox); have n2_ := Aside0.mk ((hz_ HB hg)); have n3_ := Aside0.mk ((hz_ HB hg)); clear HB; have HB := n0_; have BK392 := n1_; have GW392 := n2_; have GE392 := n3_; clear n0_ n1_ n2_ n3_; clear hb hbox hg) | ((with_reducible refine gate_dst (N := 4) rfl ?_); refine box_event ?hg (N := 4) ?hd (cs := #[.int .i64 a1_0, .int .i64 a1_1, .int .i64 a1_2, .int .i64 a1_3, .int .i64 a1_4, .int .i64 a1_5]) (t := 50) ?hr ?_; (case hd => rfl); (case hg => rfl); (case hr => exact gr_); intro gb393 hg w9 hbox hb; have n0_ := Aside0.mk (bb_ BK392 hb); have n1_ := Aside0.mk (below_step (hb_ HB) hb); have n2_ := Aside0.mk (hbox); have n3_ := Aside0.mk ((hz_ HB hg)); have n4_ := Aside0.mk ((hz_ HB hg)); have n5_ := Aside0.mk ((nl_ BK392 hg)); have n6_ := Aside0.mk ((ng_ BK392 hg)); clear BK392; clear HB; have BK392 := n0_; have HB := n1_; have BK393 := n2_; have GW393 := n3_; have GE393 := n4_; have NB392_393 := n5_; have NB393_392 := n6_; clear n0_ n1_ n2_ n3_ n4_ n5_ n6_; clear hb hbox hg) | ((with_reducible refine gate_dst (N := 6) rfl ?_); refine box_event ?hg (N := 6) ?hd (cs := #[.int .i64 0, .int .i64 0]) (t := 28) ?hr ?_; (case hd => rfl); (case hg => rfl); (case hr => exact gr_); intro gb394 hg w10 hbox hb; have n0_ := Aside0.mk (bb_ BK392 hb); have n1_ := Aside0.mk (bb_ BK393 hb); have n2_ := Aside0.mk (below_step (hb_ HB) hb); have n3_ := Aside0.mk (hbox); have n4_ := Aside0.mk ((hz_ HB hg)); have n5_ := Aside0.mk ((hz_ HB hg)); have n6_ := Aside0.mk ((nl_ BK392 hg)); have n7_ := Aside0.mk ((ng_ BK392 hg)); have n8_ := Aside0.mk ((nl_ BK393 hg)); have n9_ := Aside0.mk ((ng_ BK393 hg)); clear BK392; clear BK393; clear HB; have BK392 := n0_; have BK393 := n1_; have HB := n2_; have BK394 := n3_; have GW394 := n4_; have GE394 := n5_; have NB392_394 := n6_; have NB394_392 := n7_; have NB393_394 := n8_; have NB394_393 := n9_; clear n0_ n1_ n2_ n3_ n4_ n5_ n6_ n7_ n8_ n9_; clear hb hbox hg; have hnb11 := NB393_392.out; have hnc11 := NB392_393.out; have hnb12 := NB393_394.out; have hnc12 := NB394_393.out; have hcz13_0 : w10.cell? ⟨gb393, 0, none⟩ = some (.int .i64 a1_0) := (blk_cell BK393.out 0).trans rfl; have hcz13_1 : w10.cell? ⟨gb393, 1, none⟩ = some (.int .i64 a1_1) := (blk_cell BK393.out 1).trans rfl; have hcz13_2 : w10.cell? ⟨gb393, 2, none⟩ = some (.int .i64 a1_2) := (blk_cell BK393.out 2).trans rfl; have hcz13_3 : w10.cell? ⟨gb393, 3, none⟩ = some (.int .i64 a1_3) := (blk_cell BK393.out 3).trans rfl; have hcz13_4 : w10.cell? ⟨gb393, 4, none⟩ = some (.int .i64 a1_4) := (blk_cell BK393.out 4).trans rfl; have hcz13_5 : w10.cell? ⟨gb393, 5, none⟩ = some (.int .i64 a1_5) := (blk_cell BK393.out 5).trans rfl; have hfz13_0 := blk_frozen BK393.out 0; have hfz13_1 := blk_frozen BK393.out 1; have hfz13_2 := blk_frozen BK393.out 2; have hfz13_3 := blk_frozen BK393.out 3; have hfz13_4 := blk_frozen BK393.out 4; have hfz13_5 := blk_frozen BK393.out 5))
    have n0_ := Aside0.mk (blk_drew BK392.out)
    have n1_ := Aside0.mk (blk_drew BK393.out)
    have n2_ := Aside0.mk (blk_drew BK394.out)
    have n3_ := Aside0.mk (below_drew1 HB.out)
    clear BK392
    clear BK393
    clear BK394
    clear HB
    have BK392 := n0_
    have BK393 := n1_
    have BK394 := n2_
    have HB := n3_
    clear n0_ n1_ n2_ n3_
    have p395 : 0 ≤ (a2 : Int) := of_decide_eq_true as_
    have q395 : a2 < (l0_0.length : Int) := of_decide_eq_true as_
    obtain ⟨ad395, e395, hx395_0⟩ := Kd.at_int HR0_0.out a2 p395 q395
    have hw395_0 := hx395_0
    cases e395
    replace hx395_0 := (HB.out.cell (World.block_lt_of_cell? w _ hx395_0)).trans hx395_0
    replace p395 := eq_true p395
    replace q395 := eq_true q395
    have p396 : 0 ≤ (a2 : Int) := of_decide_eq_true as_
    have q396 : a2 < (l0_1.length : Int) := of_decide_eq_true as_
    obtain ⟨ad396, e396, hx396_0⟩ := Kd.at_int HR0_1.out a2 p396 q396
    have hw396_0 := hx396_0
    cases e396
    replace hx396_0 := (HB.out.cell (World.block_lt_of_cell? w _ hx396_0)).trans hx396_0
    replace p396 := eq_true p396
    replace q396 := eq_true q396
    refine start_ (n := 32) (S := fun w' => w'.cell? ⟨gb392, 0, none⟩ = some (.slice (some ad395) l0_0.length c0_0) ∧ w'.cell? ⟨gb392, 1, none⟩ = some (.slice (some ad396) l0_1.length c0_1) ∧ w'.cell? ⟨gb392, 2, none⟩ = some (.slice A0_2 l0_2.length c0_2) ∧ w'.cell? ⟨gb393, 0, none⟩ = some (.int .i64 a1_0) ∧ w'.cell? ⟨gb393, 1, none⟩ = some (.int .i64 a1_1) ∧ w'.cell? ⟨gb393, 2, none⟩ = some (.int .i64 a1_2) ∧ w'.cell? ⟨gb393, 3, none⟩ = some (.int .i64 a1_3) ∧ w'.cell? ⟨gb393, 4, none⟩ = some (.int .i64 a1_4) ∧ w'.cell? ⟨gb393, 5, none⟩ = some (.int .i64 a1_5) ∧ w'.cell? (ad395.add (a2).toNat) = some (.int .i64 (rd l0_0 a2)) ∧ w'.cell? (ad396.add (a2).toNat) = some (.int .i64 (rd l0_1 a2))) (ds := []) #[false, false, false, false, false, false, false, false, false, false, false, false, false, false, false, false, false, false, false, false, false, false, false, false, false, false, false, false, false, false, false, false] (by kernel_rfl) rfl rfl ⟨(blk_cell BK392.out 0).trans rfl, (blk_cell BK392.out 1).trans rfl, (blk_cell BK392.out 2).trans rfl, (blk_cell BK393.out 0).trans rfl, (blk_cell BK393.out 1).trans rfl, (blk_cell BK393.out 2).trans rfl, (blk_cell BK393.out 3).trans rfl, (blk_cell BK393.out 4).trans rfl, (blk_cell BK393.out 5).trans rfl, ((HB.out.cell (World.block_lt_of_cell? w _ hw395_0)).trans hw395_0), ((HB.out.cell (World.block_lt_of_cell? w _ hw396_0)).trans hw396_0)⟩ (fun hHeld => ?_); refine with_tabW speculumref06_Removal.tab2 speculumref06_Removal.bits2 (fun HT_ HW_ => ?_)
    generalize w10.drew = w14 at BK392 BK393 BK394 HB hx395_0 hx396_0 hHeld ⊢
    refine pure_ (i := 0) (N := some 15) (v := ?_) (a' := ?_) #[true, false, false, false, false, false, false, false, false, false, false, false, false, false, false, false, false, false, false, false, false, false, false, false, false, false, false, false, false, false, false, false] rfl rfl (any_of HT_.out (by kernel_rfl)) (fun _ _ _ h => h) (Or.inl ⟨by rfl, ?_⟩) ?_ ?_
    rotate_left
    ·exact gs_
    rotate_left
    ·exact pt_
    refine pure_ (i := 2) (N := some 17) (v := ?_) (a' := ?_) #[true, false, true, false, false, false, false, false, false, false, false, false, false, false, false, false, false, false, false, false, false, false, false, false, false, false, false, false, false, false, false, false] rfl rfl (any_of HT_.out (by kernel_rfl)) (fun _ _ _ h => h) (Or.inl ⟨by rfl, ?_⟩) ?_ ?_
    rotate_left
    ·exact gs_
    rotate_left
    ·exact pt_
    refine pure_ (i := 5) (N := some 20) (v := ?_) (a' := ?_) #[true, false, true, false, false, true, false, false, false, false, false, false, false, false, false, false, false, false, false, false, false, false, false, false, false, false, false, false, false, false, false, false] rfl rfl (any_of HT_.out (by kernel_rfl)) (fun _ _ _ h => h) (Or.inl ⟨by rfl, ?_⟩) ?_ ?_
    rotate_left
    ·exact gs_
    rotate_left
    ·exact pt_
    refine pure_ (i := 7) (N := some 22) (v := ?_) (a' := ?_) #[true, false, true, false, false, true, false, true, false, false, false, false, false, false, false, false, false, false, false, false, false, false, false, false, false, false, false, false, false, false, false, false] rfl rfl (any_of HT_.out (by kernel_rfl)) (fun _ _ _ h => h) (Or.inl ⟨by rfl, ?_⟩) ?_ ?_
    rotate_left
    ·exact gs_
    rotate_left
    ·exact pt_
    refine pure_ (i := 8) (N := some 23) (v := ?_) (a' := ?_) #[true, false, true, false, false, true, false, true, true, false, false, false, false, false, false, false, false, false, false, false, false, false, false, false, false, false, false, false, false, false, false, false] rfl rfl (any_of HT_.out (by kernel_rfl)) (fun _ _ _ h => h) (Or.inl ⟨by rfl, ?_⟩) ?_ ?_
    rotate_left
    ·exact gs_
    rotate_left
    ·exact pt_
    refine pure_ (i := 10) (N := some 25) (v := ?_) (a' := ?_) #[true, false, true, false, false, true, false, true, true, false, true, false, false, false, false, false, false, false, false, false, false, false, false, false, false, false, false, false, false, false, false, false] rfl rfl (any_of HT_.out (by kernel_rfl)) (fun _ _ _ h => h) (Or.inl ⟨by rfl, ?_⟩) ?_ ?_
    rotate_left
    ·exact gs_
    rotate_left
    ·exact pt_
    refine pure_ (i := 11) (N := some 26) (v := ?_) (a' := ?_) #[true, false, true, false, false, true, false, true, true, false, true, true, false, false, false, false, false, false, false, false, false, false, false, false, false, false, false, false, false, false, false, false] rfl rfl (any_of HT_.out (by kernel_rfl)) (fun _ _ _ h => h) (Or.inl ⟨by rfl, ?_⟩) ?_ ?_
    rotate_left
    ·exact gs_
    rotate_left
    ·exact pt_
    refine pure_ (i := 15) (N := some 30) (v := ?_) (a' := ?_) #[true, false, true, false, false, true, false, true, true, false, true, true, false, false, false, true, false, false, false, false, false, false, false, false, false, false, false, false, false, false, false, false] rfl rfl (any_of HT_.out (by kernel_rfl)) (fun _ _ _ h => h) (Or.inl ⟨by rfl, ?_⟩) ?_ ?_
    rotate_left
    ·exact gs_
    rotate_left
    ·exact pt_
    refine pure_ (i := 16) (N := some 31) (v := ?_) (a' := ?_) #[true, false, true, false, false, true, false, true, true, false, true, true, false, false, false, true, true, false, false, false, false, false, false, false, false, false, false, false, false, false, false, false] rfl rfl (any_of HT_.out (by kernel_rfl)) (fun _ _ _ h => h) (Or.inl ⟨by rfl, ?_⟩) ?_ ?_
    rotate_left
    ·exact gs_
    rotate_left
    ·exact pt_
    refine pure_ (i := 18) (N := some 33) (v := ?_) (a' := ?_) #[true, false, true, false, false, true, false, true, true, false, true, true, false, false, false, true, true, false, true, false, false, false, false, false, false, false, false, false, false, false, false, false] rfl rfl (any_of HT_.out (by kernel_rfl)) (fun _ _ _ h => h) (Or.inl ⟨by rfl, ?_⟩) ?_ ?_
    rotate_left
    ·exact gs_
    rotate_left
    ·exact pt_
    refine pure_ (i := 20) (N := some 35) (v := ?_) (a' := ?_) #[true, false, true, false, false, true, false, true, true, false, true, true, false, false, false, true, true, false, true, false, true, false, false, false, false, false, false, false, false, false, false, false] rfl rfl (any_of HT_.out (by kernel_rfl)) (fun _ _ _ h => h) (Or.inl ⟨by rfl, ?_⟩) ?_ ?_
    rotate_left
    ·exact gs_
    rotate_left
    ·exact pt_
    refine pure_ (i := 24) (N := some 39) (v := ?_) (a' := ?_) #[true, false, true, false, false, true, false, true, true, false, true, true, false, false, false, true, true, false, true, false, true, false, false, false, true, false, false, false, false, false, false, false] rfl rfl (any_of HT_.out (by kernel_rfl)) (fun _ _ _ h => h) (Or.inl ⟨by rfl, ?_⟩) ?_ ?_
    rotate_left
    ·exact gs_
    rotate_left
    ·exact pt_
    refine pure_ (i := 25) (N := some 40) (v := ?_) (a' := ?_) #[true, false, true, false, false, true, false, true, true, false, true, true, false, false, false, true, true, false, true, false, true, false, false, false, true, true, false, false, false, false, false, false] rfl rfl (any_of HT_.out (by kernel_rfl)) (fun _ _ _ h => h) (Or.inl ⟨by rfl, ?_⟩) ?_ ?_
    rotate_left
    ·exact gs_
    rotate_left
    ·exact pt_
    refine pure_ (i := 29) (N := some 44) (v := ?_) (a' := ?_) #[true, false, true, false, false, true, false, true, true, false, true, true, false, false, false, true, true, false, true, false, true, false, false, false, true, true, false, false, false, true, false, false] rfl rfl (any_of HT_.out (by kernel_rfl)) (fun _ _ _ h => h) (Or.inl ⟨by rfl, ?_⟩) ?_ ?_
    rotate_left
    ·exact gs_
    rotate_left
    ·exact pt_
    refine take_ (i := 1) (N := some 16) (v := ?_) (a' := ?_) #[true, true, true, false, false, true, false, true, true, false, true, true, false, false, false, true, true, false, true, false, true, false, false, false, true, true, false, false, false, true, false, false] rfl rfl (take_ofW HT_.out HW_.out (by kernel_rfl)) (fun _ _ _ h => h) (Or.inl ⟨by rfl, ?_⟩) hHeld ?_ ?_
    rotate_left
    ·rintro w' ⟨s0, s1, s2, s3, s4, s5, s6, s7, s8, s9, s10⟩; go_simp; with_reducible rfl
    rotate_left
    ·exact pt_
    refine pure_ (i := 3) (N := some 18) (v := ?_) (a' := ?_) #[true, true, true, true, false, true, false, true, true, false, true, true, false, false, false, true, true, false, true, false, true, false, false, false, true, true, false, false, false, true, false, false] rfl rfl (any_of HT_.out (by kernel_rfl)) (fun _ _ _ h => h) (Or.inl ⟨by rfl, ?_⟩) ?_ ?_
    rotate_left
    ·exact gs_
    rotate_left
    ·exact pt_
    refine take_ (i := 4) (N := some 19) (v := ?_) (a' := ?_) #[true, true, true, true, true, true, false, true, true, false, true, true, false, false, false, true, true, false, true, false, true, false, false, false, true, true, false, false, false, true, false, false] rfl rfl (take_ofW HT_.out HW_.out (by kernel_rfl)) (fun _ _ _ h => h) (Or.inl ⟨by rfl, ?_⟩) hHeld ?_ ?_
    rotate_left
    ·rintro w' ⟨s0, s1, s2, s3, s4, s5, s6, s7, s8, s9, s10⟩; go_simp; with_reducible rfl
    rotate_left
    ·exact pt_
    refine pure_ (i := 6) (N := some 21) (v := ?_) (a' := ?_) #[true, true, true, true, true, true, true, true, true, false, true, true, false, false, false, true, true, false, true, false, true, false, false, false, true, true, false, false, false, true, false, false] rfl rfl (any_of HT_.out (by kernel_rfl)) (fun _ _ _ h => h) (Or.inl ⟨by rfl, ?_⟩) ?_ ?_
    rotate_left
    ·exact gs_
    rotate_left
    ·exact pt_
    refine take_ (i := 9) (N := some 24) (v := ?_) (a' := ?_) #[true, true, true, true, true, true, true, true, true, true, true, true, false, false, false, true, true, false, true, false, true, false, false, false, true, true, false, false, false, true, false, false] rfl rfl (take_ofW HT_.out HW_.out (by kernel_rfl)) (fun _ _ _ h => h) (Or.inl ⟨by rfl, ?_⟩) hHeld ?_ ?_
    rotate_left
    ·rintro w' ⟨s0, s1, s2, s3, s4, s5, s6, s7, s8, s9, s10⟩; go_simp; with_reducible rfl
    rotate_left
    ·exact pt_
    refine take_ (i := 12) (N := some 27) (v := ?_) (a' := ?_) #[true, true, true, true, true, true, true, true, true, true, true, true, true, false, false, true, true, false, true, false, true, false, false, false, true, true, false, false, false, true, false, false] rfl rfl (take_ofW HT_.out HW_.out (by kernel_rfl)) (fun _ _ _ h => h) (Or.inl ⟨by rfl, ?_⟩) hHeld ?_ ?_
    rotate_left
    ·rintro w' ⟨s0, s1, s2, s3, s4, s5, s6, s7, s8, s9, s10⟩; go_simp; with_reducible rfl
    rotate_left
    ·exact pt_
    refine pure_ (i := 13) (N := some 28) (v := ?_) (a' := ?_) #[true, true, true, true, true, true, true, true, true, true, true, true, true, true, false, true, true, false, true, false, true, false, false, false, true, true, false, false, false, true, false, false] rfl rfl (any_of HT_.out (by kernel_rfl)) (fun _ _ _ h => h) (Or.inl ⟨by rfl, ?_⟩) ?_ ?_
    rotate_left
    ·exact gs_
    rotate_left
    ·exact pt_
    refine pure_ (i := 14) (N := some 29) (v := ?_) (a' := ?_) #[true, true, true, true, true, true, true, true, true, true, true, true, true, true, true, true, true, false, true, false, true, false, false, false, true, true, false, false, false, true, false, false] rfl rfl (any_of HT_.out (by kernel_rfl)) (fun _ _ _ h => h) (Or.inl ⟨by rfl, ?_⟩) ?_ ?_
    rotate_left
    ·exact gs_
    rotate_left
    ·exact pt_
    refine take_ (i := 17) (N := some 32) (v := ?_) (a' := ?_) #[true, true, true, true, true, true, true, true, true, true, true, true, true, true, true, true, true, true, true, false, true, false, false, false, true, true, false, false, false, true, false, false] rfl rfl (take_ofW HT_.out HW_.out (by kernel_rfl)) (fun _ _ _ h => h) (Or.inl ⟨by rfl, ?_⟩) hHeld ?_ ?_
    rotate_left
    ·rintro w' ⟨s0, s1, s2, s3, s4, s5, s6, s7, s8, s9, s10⟩; go_simp; with_reducible rfl
    rotate_left
    ·exact pt_
    refine take_ (i := 19) (N := some 34) (v := ?_) (a' := ?_) #[true, true, true, true, true, true, true, true, true, true, true, true, true, true, true, true, true, true, true, true, true, false, false, false, true, true, false, false, false, true, false, false] rfl rfl (take_ofW HT_.out HW_.out (by kernel_rfl)) (fun _ _ _ h => h) (Or.inl ⟨by rfl, ?_⟩) hHeld ?_ ?_
    rotate_left
    ·rintro w' ⟨s0, s1, s2, s3, s4, s5, s6, s7, s8, s9, s10⟩; go_simp; with_reducible rfl
    rotate_left
    ·exact pt_
    refine pure_ (i := 21) (N := some 36) (v := ?_) (a' := ?_) #[true, true, true, true, true, true, true, true, true, true, true, true, true, true, true, true, true, true, true, true, true, true, false, false, true, true, false, false, false, true, false, false] rfl rfl (any_of HT_.out (by kernel_rfl)) (fun _ _ _ h => h) (Or.inl ⟨by rfl, ?_⟩) ?_ ?_
    rotate_left
    ·exact gs_
    rotate_left
    ·exact pt_
    refine take_ (i := 22) (N := some 37) (v := ?_) (a' := ?_) #[true, true, true, true, true, true, true, true, true, true, true, true, true, true, true, true, true, true, true, true, true, true, true, false, true, true, false, false, false, true, false, false] rfl rfl (take_ofW HT_.out HW_.out (by kernel_rfl)) (fun _ _ _ h => h) (Or.inl ⟨by rfl, ?_⟩) hHeld ?_ ?_
    rotate_left
    ·rintro w' ⟨s0, s1, s2, s3, s4, s5, s6, s7, s8, s9, s10⟩; go_simp; with_reducible rfl
    rotate_left
    ·exact pt_
    refine pure_ (i := 23) (N := some 38) (v := ?_) (a' := ?_) #[true, true, true, true, true, true, true, true, true, true, true, true, true, true, true, true, true, true, true, true, true, true, true, true, true, true, false, false, false, true, false, false] rfl rfl (any_of HT_.out (by kernel_rfl)) (fun _ _ _ h => h) (Or.inl ⟨by rfl, ?_⟩) ?_ ?_
    rotate_left
    ·exact gs_
    rotate_left
    ·exact pt_
    refine take_ (i := 26) (N := some 41) (v := ?_) (a' := ?_) #[true, true, true, true, true, true, true, true, true, true, true, true, true, true, true, true, true, true, true, true, true, true, true, true, true, true, true, false, false, true, false, false] rfl rfl (take_ofW HT_.out HW_.out (by kernel_rfl)) (fun _ _ _ h => h) (Or.inl ⟨by rfl, ?_⟩) hHeld ?_ ?_
    rotate_left
    ·rintro w' ⟨s0, s1, s2, s3, s4, s5, s6, s7, s8, s9, s10⟩; go_simp; with_reducible rfl
    rotate_left
    ·exact pt_
    refine pure_ (i := 27) (N := some 42) (v := ?_) (a' := ?_) #[true, true, true, true, true, true, true, true, true, true, true, true, true, true, true, true, true, true, true, true, true, true, true, true, true, true, true, true, false, true, false, false] rfl rfl (any_of HT_.out (by kernel_rfl)) (fun _ _ _ h => h) (Or.inl ⟨by rfl, ?_⟩) ?_ ?_
    rotate_left
    ·exact gs_
    rotate_left
    ·exact pt_
    refine pure_ (i := 28) (N := some 43) (v := ?_) (a' := ?_) #[true, true, true, true, true, true, true, true, true, true, true, true, true, true, true, true, true, true, true, true, true, true, true, true, true, true, true, true, true, true, false, false] rfl rfl (any_of HT_.out (by kernel_rfl)) (fun _ _ _ h => h) (Or.inl ⟨by rfl, ?_⟩) ?_ ?_
    rotate_left
    ·exact gs_
    rotate_left
    ·exact pt_
    refine one_ (i := 30) (N := some 45) #[true, true, true, true, true, true, true, true, true, true, true, true, true, true, true, true, true, true, true, true, true, true, true, true, true, true, true, true, true, true, true, false] rfl rfl (one_of HT_.out (by kernel_rfl)) di_ (fun K hK => ?_)
    refine goes_ Try.func43 (by kernel_rfl) rfl #[.int .i64 (wrap64 ((wrap64 ((wrap64 ((rd l0_0 a2) * (wrap64 (a1_1 * a1_3)))) - (wrap64 (a1_0 * a1_3)))) - (wrap64 ((wrap64 (a1_2 * (rd l0_1 a2))) * a1_1)))), .int .i64 (wrap64 (a1_1 * a1_3))] (by rfl) rfl rfl ma_ ?_
    with_reducible refine (speculumbase_Lowest.calls k (wrap64 ((wrap64 ((wrap64 ((rd l0_0 a2) * (wrap64 (a1_1 * a1_3)))) - (wrap64 (a1_0 * a1_3)))) - (wrap64 ((wrap64 (a1_2 * (rd l0_1 a2))) * a1_1)))) (wrap64 (a1_1 * a1_3)) t397 t398 _ A7.out).mono ?_
    rintro e w15 ⟨rfl, hb⟩
    refine ⟨_, rfl, ?_⟩
    have n0_ := Aside0.mk (bb_ BK392 hb)
    have n1_ := Aside0.mk (bb_ BK393 hb)
    have n2_ := Aside0.mk (bb_ BK394 hb)
    have n3_ := Aside0.mk (below_step (hb_ HB) hb)
    clear BK392
    clear BK393
    clear BK394
    clear HB
    have BK392 := n0_
    have BK393 := n1_
    have BK394 := n2_
    have HB := n3_
    clear n0_ n1_ n2_ n3_
    (try clear hb)
    (try clear hb2)
    (try clear hk)
    (try clear hi)
    refine hK.out _ _ ⟨(blk_cell BK392.out 0).trans rfl, (blk_cell BK392.out 1).trans rfl, (blk_cell BK392.out 2).trans rfl, (blk_cell BK393.out 0).trans rfl, (blk_cell BK393.out 1).trans rfl, (blk_cell BK393.out 2).trans rfl, (blk_cell BK393.out 3).trans rfl, (blk_cell BK393.out 4).trans rfl, (blk_cell BK393.out 5).trans rfl, ((HB.out.cell (World.block_lt_of_cell? w _ hw395_0)).trans hw395_0), ((HB.out.cell (World.block_lt_of_cell? w _ hw396_0)).trans hw396_0)⟩ (fun hHeld => ?_)
    clear hK K
    refine norm_ (a' := ?_) ?_ ?_
    rotate_left
    ·show Act.put _ (some 45) _ = _
     simp only [Act.put, List.setIfInBounds_toArray, List.set_cons_zero, List.set_cons_succ, i64_w, i32_w]
     rfl
    refine one_ (i := 31) (N := none) #[true, true, true, true, true, true, true, true, true, true, true, true, true, true, true, true, true, true, true, true, true, true, true, true, true, true, true, true, true, true, true, true] rfl rfl (one_of HT_.out (by kernel_rfl)) di_ (fun K hK => ?_)
    have hs16 : w15.cell? ⟨gb394, 0, none⟩ = some (.int .i64 0) := (blk_cell BK394.out 0).trans rfl
    have hfs16 := blk_frozen BK394.out 0
    have hns16_0 := NB392_394.out
    have hns16_1 := NB393_394.out
    have hms16_0 := NB394_392.out
    have hms16_1 := NB394_393.out
    have hs17 : w15.cell? ⟨gb394, 1, none⟩ = some (.int .i64 0) := (blk_cell BK394.out 1).trans rfl
    have hfs17 := blk_frozen BK394.out 1
    have hns17_0 := NB392_394.out
    have hns17_1 := NB393_394.out
    have hms17_0 := NB394_392.out
    have hms17_1 := NB394_393.out
    refine skip_ (w1 := ?_) (by rfl) rfl ?_ ?_
    rotate_left
    ·go_simp
     rfl
    refine hK.out _ _ ⟨((cell_far (p := ⟨gb394, _, none⟩) NB392_394.out _).trans (((cell_far (p := ⟨gb394, _, none⟩) NB392_394.out _).trans (hHeld.1)))), ((cell_far (p := ⟨gb394, _, none⟩) NB392_394.out _).trans (((cell_far (p := ⟨gb394, _, none⟩) NB392_394.out _).trans (hHeld.2.1)))), ((cell_far (p := ⟨gb394, _, none⟩) NB392_394.out _).trans (((cell_far (p := ⟨gb394, _, none⟩) NB392_394.out _).trans (hHeld.2.2.1)))), ((cell_far (p := ⟨gb394, _, none⟩) NB393_394.out _).trans (((cell_far (p := ⟨gb394, _, none⟩) NB393_394.out _).trans (hHeld.2.2.2.1)))), ((cell_far (p := ⟨gb394, _, none⟩) NB393_394.out _).trans (((cell_far (p := ⟨gb394, _, none⟩) NB393_394.out _).trans (hHeld.2.2.2.2.1)))), ((cell_far (p := ⟨gb394, _, none⟩) NB393_394.out _).trans (((cell_far (p := ⟨gb394, _, none⟩) NB393_394.out _).trans (hHeld.2.2.2.2.2.1)))), ((cell_far (p := ⟨gb394, _, none⟩) NB393_394.out _).trans (((cell_far (p := ⟨gb394, _, none⟩) NB393_394.out _).trans (hHeld.2.2.2.2.2.2.1)))), ((cell_far (p := ⟨gb394, _, none⟩) NB393_394.out _).trans (((cell_far (p := ⟨gb394, _, none⟩) NB393_394.out _).trans (hHeld.2.2.2.2.2.2.2.1)))), ((cell_far (p := ⟨gb394, _, none⟩) NB393_394.out _).trans (((cell_far (p := ⟨gb394, _, none⟩) NB393_394.out _).trans (hHeld.2.2.2.2.2.2.2.2.1)))), ((cell_far (p := ⟨gb394, _, none⟩) (ab_ hw395_0 GW394) _).trans (((cell_far (p := ⟨gb394, _, none⟩) (ab_ hw395_0 GW394) _).trans (hHeld.2.2.2.2.2.2.2.2.2.1)))), ((cell_far (p := ⟨gb394, _, none⟩) (ab_ hw396_0 GW394) _).trans (((cell_far (p := ⟨gb394, _, none⟩) (ab_ hw396_0 GW394) _).trans (hHeld.2.2.2.2.2.2.2.2.2.2))))⟩ (fun hHeld => ?_)
    clear hK K
    refine done_ (done_of HT_.out (by kernel_rfl)) ?_
    try go_wp2
    refine bodyPost_ret (results_cell_row rfl _ _ gb394 28 #[.int .i64 t397, .int .i64 t398] (0, 0) _ rfl (by (with_reducible repeat (first | refine blk_drewN ?_ _ | refine blk_drew ?_ | refine blk_alloc ?_ _)); refine blk_put (cs := #[.int .i64 t397, .int .i64 0]) ?_ 1 _ rfl; (with_reducible repeat (first | refine blk_drewN ?_ _ | refine blk_drew ?_ | refine blk_alloc ?_ _)); refine blk_put (cs := #[.int .i64 0, .int .i64 0]) ?_ 0 _ rfl; (with_reducible repeat (first | refine blk_drewN ?_ _ | refine blk_drew ?_ | refine blk_alloc ?_ _)); exact BK394.out) Try.underlying28 rfl (by kernel_rfl)) rfl ?_
    exact ⟨ew_, hb_ HB⟩
   ·rw [if_neg c6] at H
    exact absurd H (by simp)
  ·rw [if_neg c5] at H
   exact absurd H (by simp)
 ·rw [if_neg c4] at H
  exact absurd H (by simp)
def figure_Reference.f (k : Nat) (l0_0 : List Int) (l0_1 : List Int) (l0_2 : List Int) : Option (Int × Int × Int × Int × Int × Int × Int) := (figure_CheckMap.f k l0_0 l0_1 l0_2).bind fun t523 => (if t523 = 0 then ((figure_reference.f k l0_0 l0_1 l0_2).bind fun bt524 => (some (bt524.1, bt524.2.1, bt524.2.2.1, bt524.2.2.2.1, bt524.2.2.2.2.1, bt524.2.2.2.2.2, 0))) else (some (0, 0, 0, 0, 0, 0, t523)))
set_option maxHeartbeats 8000000 in
set_option maxRecDepth 100000 in
theorem figure_Reference.calls (k : Nat) (A0_0 : Option Addr) (c0_0 : Nat) (l0_0 : List Int) (A0_1 : Option Addr) (c0_1 : Nat) (l0_1 : List Int) (A0_2 : Option Addr) (c0_2 : Nat) (l0_2 : List Int) (r1 : Int) (r2 : Int) (r3 : Int) (r4 : Int) (r5 : Int) (r6 : Int) (r7 : Int) (w : World) (hr0_0 : Kd.C (Kd.int .i64) w A0_0 l0_0.length l0_0) (hc0_0 : l0_0.length ≤ c0_0) (hr0_1 : Kd.C (Kd.int .i64) w A0_1 l0_1.length l0_1) (hc0_1 : l0_1.length ≤ c0_1) (hr0_2 : Kd.C (Kd.int .i64) w A0_2 l0_2.length l0_2) (hc0_2 : l0_2.length ≤ c0_2) (h : figure_Reference.f k l0_0 l0_1 l0_2 = some (r1, r2, r3, r4, r5, r6, r7)) :
  Calls Try.prog 38 #[.agg #[.slice A0_0 l0_0.length c0_0, .slice A0_1 l0_1.length c0_1, .slice A0_2 l0_2.length c0_2]] w fun e w' => e = .returned (.tuple #[.agg #[.int .i64 r1, .int .i64 r2, .int .i64 r3, .int .i64 r4, .int .i64 r5, .int .i64 r6], .int .i64 r7]) ∧ Below w.heap.size w w' := by
 have hu24 := Try.underlying24
 have hu50 := Try.underlying50
 have HR0_0 := Aside0.mk hr0_0
 have HC0_0 := Aside0.mk hc0_0
 clear hr0_0 hc0_0
 have HR0_1 := Aside0.mk hr0_1
 have HC0_1 := Aside0.mk hc0_1
 clear hr0_1 hc0_1
 have HR0_2 := Aside0.mk hr0_2
 have HC0_2 := Aside0.mk hc0_2
 clear hr0_2 hc0_2
 have HB := Aside0.mk (Below.refl w.heap.size w)
 have H : ((figure_CheckMap.f k l0_0 l0_1 l0_2).bind fun t523 => (if t523 = 0 then ((figure_reference.f k l0_0 l0_1 l0_2).bind fun bt524 => (some (bt524.1, bt524.2.1, bt524.2.2.1, bt524.2.2.2.1, bt524.2.2.2.2.1, bt524.2.2.2.2.2, 0))) else (some (0, 0, 0, 0, 0, 0, t523)))) = some (r1, r2, r3, r4, r5, r6, r7) := h
 clear h
 replace H := Option.bind_eq_some_iff.mp H
 obtain ⟨t523, A20, H⟩ := H
 replace H : (if t523 = 0 then ((figure_reference.f k l0_0 l0_1 l0_2).bind fun bt524 => (some (bt524.1, bt524.2.1, bt524.2.2.1, bt524.2.2.2.1, bt524.2.2.2.2.1, bt524.2.2.2.2.2, 0))) else (some (0, 0, 0, 0, 0, 0, t523))) = some (r1, r2, r3, r4, r5, r6, r7) := H
 have A2 := Aside0.mk A20
 clear A20
 by_cases c3 : t523 = 0
 ·rw [if_pos c3] at H
  have c3b0 : (t523 == 0) = true := beq_iff_eq.mpr c3
  have c3b1 : (t523 != 0) = false := bne_eq_false_iff_eq.mpr c3
  clear c3
  replace H := Option.bind_eq_some_iff.mp H
  obtain ⟨⟨t524, t525, t526, t527, t528, t529⟩, A40, H⟩ := H
  replace H : (some (t524, t525, t526, t527, t528, t529, 0)) = some (r1, r2, r3, r4, r5, r6, r7) := H
  have A4 := Aside0.mk A40
  clear A40
  simp only [Option.some.injEq, Prod.mk.injEq] at H
  obtain ⟨rfl, rfl, rfl, rfl, rfl, rfl, rfl⟩ := H
  go_enter Try.func38, Try.ntmps38
  go_wp2_with (first | ((with_reducible refine gate_dst (N := 1) rfl ?_); refine box_event ?hg (N := 1) ?hd (cs := #[.slice A0_0 l0_0.length c0_0, .slice A0_1 l0_1.length c0_1, .slice A0_2 l0_2.length c0_2]) (t := 24) ?hr ?_; (case hd => rfl); (case hg => rfl); (case hr => exact gr_); intro gb521 hg w5 hbox hb; have n0_ := Aside0.mk (below_step (hb_ HB) hb); have n1_ := Aside0.mk (hbox); have n2_ := Aside0.mk ((hz_ HB hg)); have n3_ := Aside0.mk ((hz_ HB hg)); clear HB; have HB := n0_; have BK521 := n1_; have GW521 := n2_; have GE521 := n3_; clear n0_ n1_ n2_ n3_; clear hb hbox hg) | ((with_reducible refine gate_dst (N := 2) rfl ?_); refine box_event ?hg (N := 2) ?hd (cs := #[.int .i64 0, .int .i64 0, .int .i64 0, .int .i64 0, .int .i64 0, .int .i64 0]) (t := 50) ?hr ?_; (case hd => rfl); (case hg => rfl); (case hr => exact gr_); intro gb522 hg w6 hbox hb; have n0_ := Aside0.mk (bb_ BK521 hb); have n1_ := Aside0.mk (below_step (hb_ HB) hb); have n2_ := Aside0.mk (hbox); have n3_ := Aside0.mk ((hz_ HB hg)); have n4_ := Aside0.mk ((hz_ HB hg)); have n5_ := Aside0.mk ((nl_ BK521 hg)); have n6_ := Aside0.mk ((ng_ BK521 hg)); clear BK521; clear HB; have BK521 := n0_; have HB := n1_; have BK522 := n2_; have GW522 := n3_; have GE522 := n4_; have NB521_522 := n5_; have NB522_521 := n6_; clear n0_ n1_ n2_ n3_ n4_ n5_ n6_; clear hb hbox hg; have hnb7 := NB521_522.out; have hnc7 := NB522_521.out; have hcz8_0 : w6.cell? ⟨gb521, 0, none⟩ = some (.slice A0_0 l0_0.length c0_0) := (blk_cell BK521.out 0).trans rfl; have hcz8_1 : w6.cell? ⟨gb521, 1, none⟩ = some (.slice A0_1 l0_1.length c0_1) := (blk_cell BK521.out 1).trans rfl; have hcz8_2 : w6.cell? ⟨gb521, 2, none⟩ = some (.slice A0_2 l0_2.length c0_2) := (blk_cell BK521.out 2).trans rfl; have hfz8_0 := blk_frozen BK521.out 0; have hfz8_1 := blk_frozen BK521.out 1; have hfz8_2 := blk_frozen BK521.out 2) | ((with_reducible refine gate_callee (f := 19) rfl ?_); refine goesL_ (some 6) rfl rfl Try.func19 (by kernel_rfl) rfl #[.agg #[.slice A0_0 l0_0.length c0_0, .slice A0_1 l0_1.length c0_1, .slice A0_2 l0_2.length c0_2]] rfl ma_ ?_; (with_reducible refine (figure_CheckMap.calls k _ _ l0_0 _ _ l0_1 _ _ l0_2 t523 _ ?side1 ?side2 ?side3 ?side4 ?side5 ?side6 A2.out).mono ?_); (case side1 => exact cb_ (Kd.C_below HR0_0.out HB.out)); (case side2 => exact HC0_0.out); (case side3 => exact cb_ (Kd.C_below HR0_1.out HB.out)); (case side4 => exact HC0_1.out); (case side5 => exact cb_ (Kd.C_below HR0_2.out HB.out)); (case side6 => exact HC0_2.out); rintro e w9 ⟨rfl, hb⟩; refine ⟨_, rfl, ?_⟩; have n0_ := Aside0.mk (bb_ BK521 hb); have n1_ := Aside0.mk (bb_ BK522 hb); have n2_ := Aside0.mk (below_step (hb_ HB) hb); clear BK521; clear BK522; clear HB; have BK521 := n0_; have BK522 := n1_; have HB := n2_; clear n0_ n1_ n2_; (try clear hb); (try clear hb2); (try clear hk); (try clear hi); have hcz10_0 : w9.cell? ⟨gb521, 0, none⟩ = some (.slice A0_0 l0_0.length c0_0) := (blk_cell BK521.out 0).trans rfl; have hcz10_1 : w9.cell? ⟨gb521, 1, none⟩ = some (.slice A0_1 l0_1.length c0_1) := (blk_cell BK521.out 1).trans rfl; have hcz10_2 : w9.cell? ⟨gb521, 2, none⟩ = some (.slice A0_2 l0_2.length c0_2) := (blk_cell BK521.out 2).trans rfl; have hfz10_0 := blk_frozen BK521.out 0; have hfz10_1 := blk_frozen BK521.out 1; have hfz10_2 := blk_frozen BK521.out 2) | ((with_reducible refine gate_callee (f := 74) rfl ?_); refine goesL_ (some 12) rfl rfl Try.func74 (by kernel_rfl) rfl #[.agg #[.slice A0_0 l0_0.length c0_0, .slice A0_1 l0_1.length c0_1, .slice A0_2 l0_2.length c0_2]] rfl ma_ ?_; (with_reducible refine (figure_reference.calls k _ _ l0_0 _ _ l0_1 _ _ l0_2 t524 t525 t526 t527 t528 t529 _ ?side1 ?side2 ?side3 ?side4 ?side5 ?side6 A4.out).mono ?_); (case side1 => exact cb_ (Kd.C_below HR0_0.out HB.out)); (case side2 => exact HC0_0.out); (case side3 => exact cb_ (Kd.C_below HR0_1.out HB.out)); (case side4 => exact HC0_1.out); (case side5 => exact cb_ (Kd.C_below HR0_2.out HB.out)); (case side6 => exact HC0_2.out); rintro e w11 ⟨rfl, hb⟩; refine ⟨_, rfl, ?_⟩; have n0_ := Aside0.mk (bb_ BK521 hb); have n1_ := Aside0.mk (bb_ BK522 hb); have n2_ := Aside0.mk (below_step (hb_ HB) hb); clear BK521; clear BK522; clear HB; have BK521 := n0_; have BK522 := n1_; have HB := n2_; clear n0_ n1_ n2_; (try clear hb); (try clear hb2); (try clear hk); (try clear hi); have hcz12_0 : w11.cell? ⟨gb522, 0, none⟩ = some (.int .i64 0) := (blk_cell BK522.out 0).trans rfl; have hcz12_1 : w11.cell? ⟨gb522, 1, none⟩ = some (.int .i64 0) := (blk_cell BK522.out 1).trans rfl; have hcz12_2 : w11.cell? ⟨gb522, 2, none⟩ = some (.int .i64 0) := (blk_cell BK522.out 2).trans rfl; have hcz12_3 : w11.cell? ⟨gb522, 3, none⟩ = some (.int .i64 0) := (blk_cell BK522.out 3).trans rfl; have hcz12_4 : w11.cell? ⟨gb522, 4, none⟩ = some (.int .i64 0) := (blk_cell BK522.out 4).trans rfl; have hcz12_5 : w11.cell? ⟨gb522, 5, none⟩ = some (.int .i64 0) := (blk_cell BK522.out 5).trans rfl; have hfz12_0 := blk_frozen BK522.out 0; have hfz12_1 := blk_frozen BK522.out 1; have hfz12_2 := blk_frozen BK522.out 2; have hfz12_3 := blk_frozen BK522.out 3; have hfz12_4 := blk_frozen BK522.out 4; have hfz12_5 := blk_frozen BK522.out 5))
  refine bodyPost_ret (results_ct rfl _ _ gb522 50 #[.int .i64 t524, .int .i64 t525, .int .i64 t526, .int .i64 t527, .int .i64 t528, .int .i64 t529] (0, 0) _ rfl (by (with_reducible repeat (first | refine blk_drewN ?_ _ | refine blk_drew ?_ | refine blk_alloc ?_ _)); refine blk_put (cs := #[.int .i64 t524, .int .i64 t525, .int .i64 t526, .int .i64 t527, .int .i64 t528, .int .i64 0]) ?_ 5 _ rfl; (with_reducible repeat (first | refine blk_drewN ?_ _ | refine blk_drew ?_ | refine blk_alloc ?_ _)); refine blk_put (cs := #[.int .i64 t524, .int .i64 t525, .int .i64 t526, .int .i64 t527, .int .i64 0, .int .i64 0]) ?_ 4 _ rfl; (with_reducible repeat (first | refine blk_drewN ?_ _ | refine blk_drew ?_ | refine blk_alloc ?_ _)); refine blk_put (cs := #[.int .i64 t524, .int .i64 t525, .int .i64 t526, .int .i64 0, .int .i64 0, .int .i64 0]) ?_ 3 _ rfl; (with_reducible repeat (first | refine blk_drewN ?_ _ | refine blk_drew ?_ | refine blk_alloc ?_ _)); refine blk_put (cs := #[.int .i64 t524, .int .i64 t525, .int .i64 0, .int .i64 0, .int .i64 0, .int .i64 0]) ?_ 2 _ rfl; (with_reducible repeat (first | refine blk_drewN ?_ _ | refine blk_drew ?_ | refine blk_alloc ?_ _)); refine blk_put (cs := #[.int .i64 t524, .int .i64 0, .int .i64 0, .int .i64 0, .int .i64 0, .int .i64 0]) ?_ 1 _ rfl; (with_reducible repeat (first | refine blk_drewN ?_ _ | refine blk_drew ?_ | refine blk_alloc ?_ _)); refine blk_put (cs := #[.int .i64 0, .int .i64 0, .int .i64 0, .int .i64 0, .int .i64 0, .int .i64 0]) ?_ 0 _ rfl; (with_reducible repeat (first | refine blk_drewN ?_ _ | refine blk_drew ?_ | refine blk_alloc ?_ _)); exact BK522.out) Try.underlying50 rfl (by kernel_rfl)) rfl ?_
  exact ⟨ew_, hb_ HB⟩
 ·rw [if_neg c3] at H
  have c3b0 : (t523 == 0) = false := beq_eq_false_iff_ne.mpr c3
  have c3b1 : (t523 != 0) = true := bne_iff_ne.mpr c3
  simp only [Option.some.injEq, Prod.mk.injEq] at H
  obtain ⟨rfl, rfl, rfl, rfl, rfl, rfl, rfl⟩ := H
  go_enter Try.func38, Try.ntmps38
  go_wp2_with (first | ((with_reducible refine gate_dst (N := 1) rfl ?_); refine box_event ?hg (N := 1) ?hd (cs := #[.slice A0_0 l0_0.length c0_0, .slice A0_1 l0_1.length c0_1, .slice A0_2 l0_2.length c0_2]) (t := 24) ?hr ?_; (case hd => rfl); (case hg => rfl); (case hr => exact gr_); intro gb521 hg w13 hbox hb; have n0_ := Aside0.mk (below_step (hb_ HB) hb); have n1_ := Aside0.mk (hbox); have n2_ := Aside0.mk ((hz_ HB hg)); have n3_ := Aside0.mk ((hz_ HB hg)); clear HB; have HB := n0_; have BK521 := n1_; have GW521 := n2_; have GE521 := n3_; clear n0_ n1_ n2_ n3_; clear hb hbox hg) | ((with_reducible refine gate_dst (N := 2) rfl ?_); refine box_event ?hg (N := 2) ?hd (cs := #[.int .i64 0, .int .i64 0, .int .i64 0, .int .i64 0, .int .i64 0, .int .i64 0]) (t := 50) ?hr ?_; (case hd => rfl); (case hg => rfl); (case hr => exact gr_); intro gb522 hg w14 hbox hb; have n0_ := Aside0.mk (bb_ BK521 hb); have n1_ := Aside0.mk (below_step (hb_ HB) hb); have n2_ := Aside0.mk (hbox); have n3_ := Aside0.mk ((hz_ HB hg)); have n4_ := Aside0.mk ((hz_ HB hg)); have n5_ := Aside0.mk ((nl_ BK521 hg)); have n6_ := Aside0.mk ((ng_ BK521 hg)); clear BK521; clear HB; have BK521 := n0_; have HB := n1_; have BK522 := n2_; have GW522 := n3_; have GE522 := n4_; have NB521_522 := n5_; have NB522_521 := n6_; clear n0_ n1_ n2_ n3_ n4_ n5_ n6_; clear hb hbox hg; have hnb15 := NB521_522.out; have hnc15 := NB522_521.out; have hcz16_0 : w14.cell? ⟨gb521, 0, none⟩ = some (.slice A0_0 l0_0.length c0_0) := (blk_cell BK521.out 0).trans rfl; have hcz16_1 : w14.cell? ⟨gb521, 1, none⟩ = some (.slice A0_1 l0_1.length c0_1) := (blk_cell BK521.out 1).trans rfl; have hcz16_2 : w14.cell? ⟨gb521, 2, none⟩ = some (.slice A0_2 l0_2.length c0_2) := (blk_cell BK521.out 2).trans rfl; have hfz16_0 := blk_frozen BK521.out 0; have hfz16_1 := blk_frozen BK521.out 1; have hfz16_2 := blk_frozen BK521.out 2) | ((with_reducible refine gate_callee (f := 19) rfl ?_); refine goesL_ (some 6) rfl rfl Try.func19 (by kernel_rfl) rfl #[.agg #[.slice A0_0 l0_0.length c0_0, .slice A0_1 l0_1.length c0_1, .slice A0_2 l0_2.length c0_2]] rfl ma_ ?_; (with_reducible refine (figure_CheckMap.calls k _ _ l0_0 _ _ l0_1 _ _ l0_2 t523 _ ?side1 ?side2 ?side3 ?side4 ?side5 ?side6 A2.out).mono ?_); (case side1 => exact cb_ (Kd.C_below HR0_0.out HB.out)); (case side2 => exact HC0_0.out); (case side3 => exact cb_ (Kd.C_below HR0_1.out HB.out)); (case side4 => exact HC0_1.out); (case side5 => exact cb_ (Kd.C_below HR0_2.out HB.out)); (case side6 => exact HC0_2.out); rintro e w17 ⟨rfl, hb⟩; refine ⟨_, rfl, ?_⟩; have n0_ := Aside0.mk (bb_ BK521 hb); have n1_ := Aside0.mk (bb_ BK522 hb); have n2_ := Aside0.mk (below_step (hb_ HB) hb); clear BK521; clear BK522; clear HB; have BK521 := n0_; have BK522 := n1_; have HB := n2_; clear n0_ n1_ n2_; (try clear hb); (try clear hb2); (try clear hk); (try clear hi); have hcz18_0 : w17.cell? ⟨gb522, 0, none⟩ = some (.int .i64 0) := (blk_cell BK522.out 0).trans rfl; have hcz18_1 : w17.cell? ⟨gb522, 1, none⟩ = some (.int .i64 0) := (blk_cell BK522.out 1).trans rfl; have hcz18_2 : w17.cell? ⟨gb522, 2, none⟩ = some (.int .i64 0) := (blk_cell BK522.out 2).trans rfl; have hcz18_3 : w17.cell? ⟨gb522, 3, none⟩ = some (.int .i64 0) := (blk_cell BK522.out 3).trans rfl; have hcz18_4 : w17.cell? ⟨gb522, 4, none⟩ = some (.int .i64 0) := (blk_cell BK522.out 4).trans rfl; have hcz18_5 : w17.cell? ⟨gb522, 5, none⟩ = some (.int .i64 0) := (blk_cell BK522.out 5).trans rfl; have hfz18_0 := blk_frozen BK522.out 0; have hfz18_1 := blk_frozen BK522.out 1; have hfz18_2 := blk_frozen BK522.out 2; have hfz18_3 := blk_frozen BK522.out 3; have hfz18_4 := blk_frozen BK522.out 4; have hfz18_5 := blk_frozen BK522.out 5))
  refine bodyPost_ret (results_ct rfl _ _ gb522 50 #[.int .i64 0, .int .i64 0, .int .i64 0, .int .i64 0, .int .i64 0, .int .i64 0] (0, 0) _ rfl (by (with_reducible repeat (first | refine blk_drewN ?_ _ | refine blk_drew ?_ | refine blk_alloc ?_ _)); refine blk_put (cs := #[.int .i64 0, .int .i64 0, .int .i64 0, .int .i64 0, .int .i64 0, .int .i64 0]) ?_ 5 _ rfl; (with_reducible repeat (first | refine blk_drewN ?_ _ | refine blk_drew ?_ | refine blk_alloc ?_ _)); refine blk_put (cs := #[.int .i64 0, .int .i64 0, .int .i64 0, .int .i64 0, .int .i64 0, .int .i64 0]) ?_ 4 _ rfl; (with_reducible repeat (first | refine blk_drewN ?_ _ | refine blk_drew ?_ | refine blk_alloc ?_ _)); refine blk_put (cs := #[.int .i64 0, .int .i64 0, .int .i64 0, .int .i64 0, .int .i64 0, .int .i64 0]) ?_ 3 _ rfl; (with_reducible repeat (first | refine blk_drewN ?_ _ | refine blk_drew ?_ | refine blk_alloc ?_ _)); refine blk_put (cs := #[.int .i64 0, .int .i64 0, .int .i64 0, .int .i64 0, .int .i64 0, .int .i64 0]) ?_ 2 _ rfl; (with_reducible repeat (first | refine blk_drewN ?_ _ | refine blk_drew ?_ | refine blk_alloc ?_ _)); refine blk_put (cs := #[.int .i64 0, .int .i64 0, .int .i64 0, .int .i64 0, .int .i64 0, .int .i64 0]) ?_ 1 _ rfl; (with_reducible repeat (first | refine blk_drewN ?_ _ | refine blk_drew ?_ | refine blk_alloc ?_ _)); refine blk_put (cs := #[.int .i64 0, .int .i64 0, .int .i64 0, .int .i64 0, .int .i64 0, .int .i64 0]) ?_ 0 _ rfl; (with_reducible repeat (first | refine blk_drewN ?_ _ | refine blk_drew ?_ | refine blk_alloc ?_ _)); exact BK522.out) Try.underlying50 rfl (by kernel_rfl)) rfl ?_
  exact ⟨ew_, hb_ HB⟩
theorem eqA50 (d : Nat) (w : World) (x0 y0 : Int) (x1 y1 : Int) (x2 y2 : Int) (x3 y3 : Int) (x4 y4 : Int) (x5 y5 : Int) :
  (Op.equalIn (d + 3) 50 (.agg #[.int .i64 x0, .int .i64 x1, .int .i64 x2, .int .i64 x3, .int .i64 x4, .int .i64 x5]) (.agg #[.int .i64 y0, .int .i64 y1, .int .i64 y2, .int .i64 y3, .int .i64 y4, .int .i64 y5])).run Try.prog w = .ok ((x0 == y0 && (x1 == y1)) && ((x2 == y2 && (x3 == y3)) && ((x4 == y4 && (x5 == y5))))) w := by
 refine eqA_of Try.underlying50 (by kernel_rfl) ?_
 refine eqf_cons (by rfl) (by go_simp) (by go_simp) (eqA28 (d + 0) w _ _ _ _) ?_
 refine eqf_cons (by rfl) (by go_simp) (by go_simp) (eqA28 (d + 0) w _ _ _ _) ?_
 exact eqf_last (by rfl) (by go_simp) (by go_simp) (eqA48 (d + 0) w _ _ _ _)
end Go.Proofs.Ytdkahcolfcmmpaa.Pr
namespace Go.Proofs.Ytdkahcolfcmmpaa.Pr
open Go.RowKit Go.Proofs.YtdkahcolfcmmpaaW.PrintWords Go.Proofs.YtdkahcolfcmmpaaW.PrintLast Go.Proofs.YtdkahcolfcmmpaaW.PrintMore
attribute [local go_sem] max2_int min2_int max_two min_two max_three min_three max_four min_four
set_option linter.unusedVariables false
set_option linter.unusedSimpArgs false
attribute [local go_sem high] eqA50
def speculumlaw06_none.f (a0_0 : Int) (a0_1 : Int) (a0_2 : Int) (a0_3 : Int) (a0_4 : Int) (a0_5 : Int) : Option (Bool) := some ((a0_0 == 0 && (a0_1 == 0)) && ((a0_2 == 0 && (a0_3 == 0)) && ((a0_4 == 0 && (a0_5 == 0)))))
set_option maxHeartbeats 8000000 in
set_option maxRecDepth 100000 in
theorem speculumlaw06_none.calls (a0_0 : Int) (a0_1 : Int) (a0_2 : Int) (a0_3 : Int) (a0_4 : Int) (a0_5 : Int) (r : Bool) (w : World) (h : speculumlaw06_none.f a0_0 a0_1 a0_2 a0_3 a0_4 a0_5 = some r) :
  Calls Try.prog 39 #[.agg #[.int .i64 a0_0, .int .i64 a0_1, .int .i64 a0_2, .int .i64 a0_3, .int .i64 a0_4, .int .i64 a0_5]] w fun e w' => e = .returned (.bool r) ∧ Below w.heap.size w w' := by
 have hu50 := Try.underlying50
 have HB := Aside0.mk (Below.refl w.heap.size w)
 have H : (some ((a0_0 == 0 && (a0_1 == 0)) && ((a0_2 == 0 && (a0_3 == 0)) && ((a0_4 == 0 && (a0_5 == 0)))))) = some r := h
 clear h
 obtain rfl := Option.some.inj H
 go_enter Try.func39, Try.ntmps39
 go_wp2_with (first | ((with_reducible refine gate_dst (N := 1) rfl ?_); refine box_event ?hg (N := 1) ?hd (cs := #[.int .i64 a0_0, .int .i64 a0_1, .int .i64 a0_2, .int .i64 a0_3, .int .i64 a0_4, .int .i64 a0_5]) (t := 50) ?hr ?_; (case hd => rfl); (case hg => rfl); (case hr => exact gr_); intro gb530 hg w2 hbox hb; have n0_ := Aside0.mk (below_step (hb_ HB) hb); have n1_ := Aside0.mk (hbox); have n2_ := Aside0.mk ((hz_ HB hg)); have n3_ := Aside0.mk ((hz_ HB hg)); clear HB; have HB := n0_; have BK530 := n1_; have GW530 := n2_; have GE530 := n3_; clear n0_ n1_ n2_ n3_; clear hb hbox hg; have hcz3_0 : w2.cell? ⟨gb530, 0, none⟩ = some (.int .i64 a0_0) := (blk_cell BK530.out 0).trans rfl; have hcz3_1 : w2.cell? ⟨gb530, 1, none⟩ = some (.int .i64 a0_1) := (blk_cell BK530.out 1).trans rfl; have hcz3_2 : w2.cell? ⟨gb530, 2, none⟩ = some (.int .i64 a0_2) := (blk_cell BK530.out 2).trans rfl; have hcz3_3 : w2.cell? ⟨gb530, 3, none⟩ = some (.int .i64 a0_3) := (blk_cell BK530.out 3).trans rfl; have hcz3_4 : w2.cell? ⟨gb530, 4, none⟩ = some (.int .i64 a0_4) := (blk_cell BK530.out 4).trans rfl; have hcz3_5 : w2.cell? ⟨gb530, 5, none⟩ = some (.int .i64 a0_5) := (blk_cell BK530.out 5).trans rfl; have hfz3_0 := blk_frozen BK530.out 0; have hfz3_1 := blk_frozen BK530.out 1; have hfz3_2 := blk_frozen BK530.out 2; have hfz3_3 := blk_frozen BK530.out 3; have hfz3_4 := blk_frozen BK530.out 4; have hfz3_5 := blk_frozen BK530.out 5))
 go_ret
 exact ⟨ew_, hb_ HB⟩
end Go.Proofs.Ytdkahcolfcmmpaa.Pr
namespace Go.Proofs.Ytdkahcolfcmmpaa.Pr
open Go.RowKit Go.Proofs.YtdkahcolfcmmpaaW.PrintWords Go.Proofs.YtdkahcolfcmmpaaW.PrintLast Go.Proofs.YtdkahcolfcmmpaaW.PrintMore
attribute [local go_sem] max2_int min2_int max_two min_two max_three min_three max_four min_four
set_option linter.unusedVariables false
set_option linter.unusedSimpArgs false
def speculumbase_IsLowest.f (k : Nat) (a0_0 : Int) (a0_1 : Int) : Option (Bool) := if a0_1 > 0 then ((speculumbase_Gcd.f k a0_0 a0_1).bind fun t380 => (some (t380 == 1))) else (some false)
set_option maxHeartbeats 8000000 in
set_option maxRecDepth 100000 in
theorem speculumbase_IsLowest.calls (k : Nat) (a0_0 : Int) (a0_1 : Int) (r : Bool) (w : World) (h : speculumbase_IsLowest.f k a0_0 a0_1 = some r) :
  Calls Try.prog 71 #[.agg #[.int .i64 a0_0, .int .i64 a0_1]] w fun e w' => e = .returned (.bool r) ∧ Below w.heap.size w w' := by
 have hu28 := Try.underlying28
 have HB := Aside0.mk (Below.refl w.heap.size w)
 have H : (if a0_1 > 0 then ((speculumbase_Gcd.f k a0_0 a0_1).bind fun t380 => (some (t380 == 1))) else (some false)) = some r := h
 clear h
 by_cases c2 : a0_1 > 0
 ·rw [if_pos c2] at H
  have c2b0 : decide (0 < a0_1) = true := decide_eq_true c2
  clear c2
  replace H := Option.bind_eq_some_iff.mp H
  obtain ⟨t380, A30, H⟩ := H
  replace H : (some (t380 == 1)) = some r := H
  have A3 := Aside0.mk A30
  clear A30
  obtain rfl := Option.some.inj H
  go_enter Try.func71, Try.ntmps71
  go_wp2_with (first | ((with_reducible refine gate_dst (N := 1) rfl ?_); refine box_event ?hg (N := 1) ?hd (cs := #[.int .i64 a0_0, .int .i64 a0_1]) (t := 28) ?hr ?_; (case hd => rfl); (case hg => rfl); (case hr => exact gr_); intro gb379 hg w4 hbox hb; have n0_ := Aside0.mk (below_step (hb_ HB) hb); have n1_ := Aside0.mk (hbox); have n2_ := Aside0.mk ((hz_ HB hg)); have n3_ := Aside0.mk ((hz_ HB hg)); clear HB; have HB := n0_; have BK379 := n1_; have GW379 := n2_; have GE379 := n3_; clear n0_ n1_ n2_ n3_; clear hb hbox hg; have hcz5_0 : w4.cell? ⟨gb379, 0, none⟩ = some (.int .i64 a0_0) := (blk_cell BK379.out 0).trans rfl; have hcz5_1 : w4.cell? ⟨gb379, 1, none⟩ = some (.int .i64 a0_1) := (blk_cell BK379.out 1).trans rfl; have hfz5_0 := blk_frozen BK379.out 0; have hfz5_1 := blk_frozen BK379.out 1) | (go_at_call 83; (with_reducible refine (speculumbase_Gcd.calls k a0_0 a0_1 t380 _ A3.out).mono ?_); rintro e w' ⟨rfl, ⟨nd, rfl⟩⟩))
  go_ret
  exact ⟨ew_, hb_ HB⟩
 ·rw [if_neg c2] at H
  have c2b0 : decide (0 < a0_1) = false := decide_eq_false c2
  clear c2
  obtain rfl := Option.some.inj H
  go_enter Try.func71, Try.ntmps71
  go_wp2_with (first | ((with_reducible refine gate_dst (N := 1) rfl ?_); refine box_event ?hg (N := 1) ?hd (cs := #[.int .i64 a0_0, .int .i64 a0_1]) (t := 28) ?hr ?_; (case hd => rfl); (case hg => rfl); (case hr => exact gr_); intro gb379 hg w6 hbox hb; have n0_ := Aside0.mk (below_step (hb_ HB) hb); have n1_ := Aside0.mk (hbox); have n2_ := Aside0.mk ((hz_ HB hg)); have n3_ := Aside0.mk ((hz_ HB hg)); clear HB; have HB := n0_; have BK379 := n1_; have GW379 := n2_; have GE379 := n3_; clear n0_ n1_ n2_ n3_; clear hb hbox hg; have hcz7_0 : w6.cell? ⟨gb379, 0, none⟩ = some (.int .i64 a0_0) := (blk_cell BK379.out 0).trans rfl; have hcz7_1 : w6.cell? ⟨gb379, 1, none⟩ = some (.int .i64 a0_1) := (blk_cell BK379.out 1).trans rfl; have hfz7_0 := blk_frozen BK379.out 0; have hfz7_1 := blk_frozen BK379.out 1))
  go_ret
  exact ⟨ew_, hb_ HB⟩
def inR (n : Int) : Bool := if n ≥ -1000000000 then decide (n ≤ 1000000000) else false
def okR (n d : Int) : Bool := if d > 1000 then false else inR n
theorem inR_f (n : Int) : speculumbase_Within.f n (-1000000000) 1000000000 = some (inR n) := by
  unfold speculumbase_Within.f inR
  split <;> rfl
def speculumref06_CheckLine.f (k : Nat) (a0_0 : Int) (a0_1 : Int) (a0_2 : Int) (a0_3 : Int) (a0_4 : Int) (a0_5 : Int) : Option (Int) :=
  (speculumbase_IsLowest.f k a0_0 a0_1).bind fun t => (if t = true then ((speculumbase_IsLowest.f k a0_2 a0_3).bind fun u => (if u = true then (some (if okR a0_0 a0_1 = true then (if okR a0_2 a0_3 = true then 0 else 2) else 2)) else (some 3))) else (some 3))
structure CLw (w : World) (cs : Array Value) (W : World) : Prop where
  box : W.heap[w.heap.size]? = some (.cells cs 50 (0, 0))
  bel : Below w.heap.size w W
theorem CLw.below {w W W' : World} {cs : Array Value} (h : CLw w cs W) (hb : Below W.heap.size W W') : CLw w cs W' := ⟨blk_below h.box hb, below_step h.bel hb⟩
theorem CLw.alloc {w W : World} {cs : Array Value} (h : CLw w cs W) (o : Obj) : CLw w cs (W.alloc o) := ⟨blk_alloc h.box o, below_alloc h.bel o⟩
theorem CLw.drewN {w W : World} {cs : Array Value} (h : CLw w cs W) (n : Nat) : CLw w cs (W.drewN n) := ⟨blk_drewN h.box n, pw_below_drewN h.bel n⟩
set_option maxHeartbeats 8000000 in
set_option maxRecDepth 100000 in
theorem speculumref06_CheckLine.calls (k : Nat) (a0_0 : Int) (a0_1 : Int) (a0_2 : Int) (a0_3 : Int) (a0_4 : Int) (a0_5 : Int) (r : Int) (w : World) (h : speculumref06_CheckLine.f k a0_0 a0_1 a0_2 a0_3 a0_4 a0_5 = some r) :
    Calls Try.prog 30 #[.agg #[.int .i64 a0_0, .int .i64 a0_1, .int .i64 a0_2, .int .i64 a0_3, .int .i64 a0_4, .int .i64 a0_5]] w fun e w' => e = .returned (.int .i64 r) ∧ Below w.heap.size w w' := by
  have hu50 := Try.underlying50
  have hu28 := Try.underlying28
  have hu93 := Try.underlying93
  unfold speculumref06_CheckLine.f at h
  obtain ⟨t, ht, h⟩ := Option.bind_eq_some_iff.mp h
  have HT := Aside0.mk ht
  clear ht
  have H := Aside0.mk h
  clear h
  have i0 : ∀ w, (Instr.index 93 (.agg #[.int .i64 a0_0, .int .i64 a0_1, .int .i64 a0_2, .int .i64 a0_3]) (.int .i64 0)).run Try.prog w = .ok (.agg #[.int .i64 a0_0, .int .i64 a0_1]) w := fun _ => by kernel_rfl
  have i1 : ∀ w, (Instr.index 93 (.agg #[.int .i64 a0_0, .int .i64 a0_1, .int .i64 a0_2, .int .i64 a0_3]) (.int .i64 1)).run Try.prog w = .ok (.agg #[.int .i64 a0_2, .int .i64 a0_3]) w := fun _ => by kernel_rfl
  have W0 : CLw w #[.int .i64 a0_0, .int .i64 a0_1, .int .i64 a0_2, .int .i64 a0_3, .int .i64 a0_4, .int .i64 a0_5] (w.alloc (.cells #[.int .i64 a0_0, .int .i64 a0_1, .int .i64 a0_2, .int .i64 a0_3, .int .i64 a0_4, .int .i64 a0_5] 50)) := ⟨blk_new _ _, (Below.refl _ _).alloc (Nat.le_refl _) _⟩
  go_enter Try.func30, Try.ntmps30
  go_wp2
  go_loopw [12] (fun i wr => CLw w #[.int .i64 a0_0, .int .i64 a0_1, .int .i64 a0_2, .int .i64 a0_3, .int .i64 a0_4, .int .i64 a0_5] wr ∧ ((i = .int .i64 0) ∨ (i = .int .i64 1 ∧ t = true) ∨ (i = .int .i64 2 ∧ t = true ∧ Aside0 (speculumbase_IsLowest.f k a0_2 a0_3 = some true)))) (fun i _ => 2 - (intOf i).toNat)
  case atStart => exact ⟨W0, .inl rfl⟩
  case round =>
    clear W0
    obtain ⟨hW, hrel⟩ := hrel
    rcases hrel with rfl | ⟨rfl, h0⟩ | ⟨rfl, h0, h1⟩
    · cases t with
      | true =>
        clear H
        go_wp2_with (go_at_call 71; refine (speculumbase_IsLowest.calls k a0_0 a0_1 true _ HT.out).mono ?_; rintro e w' ⟨rfl, hb⟩)
        go_roundw
        case rel => exact ⟨(hW.alloc _).below hb, .inr (.inl ⟨rfl, by first | trivial | rfl⟩)⟩
        case measure => simp [intOf]
      | false =>
        obtain rfl : 3 = r := Option.some.inj H.out
        clear H
        go_wp2_with (go_at_call 71; refine (speculumbase_IsLowest.calls k a0_0 a0_1 false _ HT.out).mono ?_; rintro e w' ⟨rfl, hb⟩)
        go_ret
        exact ⟨rfl, ((hW.alloc _).below hb).bel⟩
    · subst h0
      obtain ⟨u, hu, h⟩ := Option.bind_eq_some_iff.mp (show ((speculumbase_IsLowest.f k a0_2 a0_3).bind fun u => (if u = true then (some (if okR a0_0 a0_1 = true then (if okR a0_2 a0_3 = true then 0 else 2) else 2)) else (some 3))) = some r from H.out)
      have HU := Aside0.mk hu
      clear hu
      cases u with
      | true =>
        clear H h
        go_wp2_with (go_at_call 71; refine (speculumbase_IsLowest.calls k a0_2 a0_3 true _ HU.out).mono ?_; rintro e w' ⟨rfl, hb⟩)
        go_roundw
        case rel => exact ⟨(hW.alloc _).below hb, .inr (.inr ⟨rfl, by first | trivial | rfl, HU⟩)⟩
        case measure => simp [intOf]
      | false =>
        obtain rfl : 3 = r := Option.some.inj h
        clear H
        go_wp2_with (go_at_call 71; refine (speculumbase_IsLowest.calls k a0_2 a0_3 false _ HU.out).mono ?_; rintro e w' ⟨rfl, hb⟩)
        go_ret
        exact ⟨rfl, ((hW.alloc _).below hb).bel⟩
    · subst h0
      have R : (if okR a0_0 a0_1 = true then (if okR a0_2 a0_3 = true then (0 : Int) else 2) else 2) = r := by
        have := H.out
        rw [if_pos rfl, h1.out] at this
        exact Option.some.inj this
      have HR := Aside0.mk R
      clear R H
      have c0 := (blk_cell hW.box 0).trans rfl
      have c1 := (blk_cell hW.box 1).trans rfl
      have c2 := (blk_cell hW.box 2).trans rfl
      have c3 := (blk_cell hW.box 3).trans rfl
      go_wp2
      clear c0 c1 c2 c3
      obtain ⟨wo, rfl⟩ : ∃ wo : World, wo = wr := ⟨_, rfl⟩
      go_loopw [24] (fun i wr => CLw w #[.int .i64 a0_0, .int .i64 a0_1, .int .i64 a0_2, .int .i64 a0_3, .int .i64 a0_4, .int .i64 a0_5] wr ∧ ((i = .int .i64 0) ∨ (i = .int .i64 1 ∧ okR a0_0 a0_1 = true) ∨ (i = .int .i64 2 ∧ okR a0_0 a0_1 = true ∧ okR a0_2 a0_3 = true))) (fun i _ => 2 - (intOf i).toNat)
      case atStart => exact ⟨hW, .inl rfl⟩
      case round =>
        clear hW
        obtain ⟨hW, hrel⟩ := hrel
        rcases hrel with rfl | ⟨rfl, g0⟩ | ⟨rfl, g0, g1⟩
        · by_cases hd : a0_1 > 1000
          · have hq : okR a0_0 a0_1 = false := by unfold okR; rw [if_pos hd]
            obtain rfl : 2 = r := by rw [← HR.out, hq]; rfl
            clear hq HR
            have hd' : decide (1000 < a0_1) = true := decide_eq_true hd
            clear hd
            go_wp2
            go_ret
            exact ⟨rfl, (hW.alloc _).bel⟩
          · have hq : okR a0_0 a0_1 = inR a0_0 := by unfold okR; rw [if_neg hd]
            have hd' : decide (1000 < a0_1) = false := decide_eq_false hd
            clear hd
            have HQ := Aside0.mk hq
            clear hq
            cases hi : inR a0_0 with
            | true =>
              have HI := Aside0.mk (show speculumbase_Within.f a0_0 (-1000000000) 1000000000 = some true by rw [inR_f, hi])
              have HI2 := Aside0.mk (HQ.out.trans hi)
              clear hi HQ HR
              go_wp2_with (go_at_call 28; refine (speculumbase_Within.calls _ _ _ true _ HI.out).mono ?_; rintro e w' ⟨rfl, ⟨nd, rfl⟩⟩)
              go_roundw
              case rel => exact ⟨(hW.alloc _).drewN nd, .inr (.inl ⟨rfl, HI2.out⟩)⟩
              case measure => simp [intOf]
            | false =>
              have HI := Aside0.mk (show speculumbase_Within.f a0_0 (-1000000000) 1000000000 = some false by rw [inR_f, hi])
              obtain rfl : 2 = r := by rw [← HR.out, HQ.out, hi]; rfl
              clear hi HQ HR
              go_wp2_with (go_at_call 28; refine (speculumbase_Within.calls _ _ _ false _ HI.out).mono ?_; rintro e w' ⟨rfl, ⟨nd, rfl⟩⟩)
              go_ret
              exact ⟨rfl, ((hW.alloc _).drewN nd).bel⟩
        · by_cases hd : a0_3 > 1000
          · have hq : okR a0_2 a0_3 = false := by unfold okR; rw [if_pos hd]
            obtain rfl : 2 = r := by rw [← HR.out, g0, hq]; rfl
            clear hq HR
            have hd' : decide (1000 < a0_3) = true := decide_eq_true hd
            clear hd g0
            go_wp2
            go_ret
            exact ⟨rfl, (hW.alloc _).bel⟩
          · have hq : okR a0_2 a0_3 = inR a0_2 := by unfold okR; rw [if_neg hd]
            have hd' : decide (1000 < a0_3) = false := decide_eq_false hd
            clear hd
            have HQ := Aside0.mk hq
            clear hq
            have G0 := Aside0.mk g0
            clear g0
            cases hi : inR a0_2 with
            | true =>
              have HI := Aside0.mk (show speculumbase_Within.f a0_2 (-1000000000) 1000000000 = some true by rw [inR_f, hi])
              have HI2 := Aside0.mk (HQ.out.trans hi)
              clear hi HQ HR
              go_wp2_with (go_at_call 28; refine (speculumbase_Within.calls _ _ _ true _ HI.out).mono ?_; rintro e w' ⟨rfl, ⟨nd, rfl⟩⟩)
              go_roundw
              case rel => exact ⟨(hW.alloc _).drewN nd, .inr (.inr ⟨rfl, G0.out, HI2.out⟩)⟩
              case measure => simp [intOf]
            | false =>
              have HI := Aside0.mk (show speculumbase_Within.f a0_2 (-1000000000) 1000000000 = some false by rw [inR_f, hi])
              obtain rfl : 2 = r := by rw [← HR.out, G0.out, HQ.out, hi]; rfl
              clear hi HQ HR
              go_wp2_with (go_at_call 28; refine (speculumbase_Within.calls _ _ _ false _ HI.out).mono ?_; rintro e w' ⟨rfl, ⟨nd, rfl⟩⟩)
              go_ret
              exact ⟨rfl, ((hW.alloc _).drewN nd).bel⟩
        · obtain rfl : 0 = r := by rw [← HR.out, g0, g1]; rfl
          clear HR g0 g1
          go_wp2
          go_ret
          exact ⟨rfl, hW.bel⟩
theorem inR_w (n : Int) : figure_within.f n (-1000000000) 1000000000 = some (inR n) := by
  unfold figure_within.f inR
  by_cases h : -1000000000 ≤ n
  · rw [if_pos h, if_pos h]
  · rw [if_neg h, if_neg h]
def lowF (k : Nat) (n d : Int) : Option Bool := if d ≤ 0 then some false else (figure_gcd.f k n d).bind fun g => some (g == 1)
theorem lowF_true {k : Nat} {n d : Int} (h : lowF k n d = some true) : ¬ d ≤ 0 ∧ figure_gcd.f k n d = some 1 := by
  unfold lowF at h
  split at h
  · cases h
  · rename_i hd
    obtain ⟨g, hg, h⟩ := Option.bind_eq_some_iff.mp h
    have := Option.some.inj h
    rw [beq_iff_eq] at this
    subst this
    exact ⟨hd, hg⟩
theorem lowF_false {k : Nat} {n d : Int} (h : lowF k n d = some false) : d ≤ 0 ∨ (¬ d ≤ 0 ∧ ∃ g, figure_gcd.f k n d = some g ∧ ¬ g = 1) := by
  unfold lowF at h
  split at h
  · rename_i hd; exact .inl hd
  · rename_i hd
    obtain ⟨g, hg, h⟩ := Option.bind_eq_some_iff.mp h
    have := Option.some.inj h
    rw [beq_eq_false_iff_ne] at this
    exact .inr ⟨hd, g, hg, this⟩
def figure_checkLine.f (k : Nat) (a0_0 : Int) (a0_1 : Int) (a0_2 : Int) (a0_3 : Int) (a0_4 : Int) (a0_5 : Int) : Option (Int) :=
  (lowF k a0_0 a0_1).bind fun t => (if t = true then ((lowF k a0_2 a0_3).bind fun u => (if u = true then (some (if okR a0_0 a0_1 = true then (if okR a0_2 a0_3 = true then 0 else 2) else 2)) else (some 3))) else (some 3))
structure CLb (w : World) (cs ds : Array Value) (W : World) : Prop where
  box : W.heap[w.heap.size + 1]? = some (.cells ds 93 (0, 0))
  bel : Below w.heap.size w W
theorem CLb.below {w W W' : World} {cs ds : Array Value} (h : CLb w cs ds W) (hb : Below W.heap.size W W') : CLb w cs ds W' := ⟨blk_below h.box hb, below_step h.bel hb⟩
theorem CLb.alloc {w W : World} {cs ds : Array Value} (h : CLb w cs ds W) (o : Obj) : CLb w cs ds (W.alloc o) := ⟨blk_alloc h.box o, below_alloc h.bel o⟩
theorem CLb.drewN {w W : World} {cs ds : Array Value} (h : CLb w cs ds W) (n : Nat) : CLb w cs ds (W.drewN n) := ⟨blk_drewN h.box n, pw_below_drewN h.bel n⟩
set_option maxHeartbeats 8000000 in
set_option maxRecDepth 100000 in
theorem figure_checkLine.calls (k : Nat) (a0_0 : Int) (a0_1 : Int) (a0_2 : Int) (a0_3 : Int) (a0_4 : Int) (a0_5 : Int) (r : Int) (w : World) (h : figure_checkLine.f k a0_0 a0_1 a0_2 a0_3 a0_4 a0_5 = some r) :
    Calls Try.prog 72 #[.agg #[.int .i64 a0_0, .int .i64 a0_1, .int .i64 a0_2, .int .i64 a0_3, .int .i64 a0_4, .int .i64 a0_5]] w fun e w' => e = .returned (.int .i64 r) ∧ Below w.heap.size w w' := by
  have hu50 := Try.underlying50
  have hu28 := Try.underlying28
  have hu93 := Try.underlying93
  unfold figure_checkLine.f at h
  obtain ⟨t, ht, h⟩ := Option.bind_eq_some_iff.mp h
  have HT := Aside0.mk ht
  clear ht
  have H := Aside0.mk h
  clear h
  have i0 : ∀ w, (Instr.index 93 (.agg #[.int .i64 a0_0, .int .i64 a0_1, .int .i64 a0_2, .int .i64 a0_3]) (.int .i64 0)).run Try.prog w = .ok (.agg #[.int .i64 a0_0, .int .i64 a0_1]) w := fun _ => by kernel_rfl
  have i1 : ∀ w, (Instr.index 93 (.agg #[.int .i64 a0_0, .int .i64 a0_1, .int .i64 a0_2, .int .i64 a0_3]) (.int .i64 1)).run Try.prog w = .ok (.agg #[.int .i64 a0_2, .int .i64 a0_3]) w := fun _ => by kernel_rfl
  have W0 : CLb w #[.int .i64 a0_0, .int .i64 a0_1, .int .i64 a0_2, .int .i64 a0_3, .int .i64 a0_4, .int .i64 a0_5] #[.int .i64 a0_0, .int .i64 a0_1, .int .i64 a0_2, .int .i64 a0_3] ((w.alloc (.cells #[.int .i64 a0_0, .int .i64 a0_1, .int .i64 a0_2, .int .i64 a0_3, .int .i64 a0_4, .int .i64 a0_5] 50)).alloc (.cells #[.int .i64 a0_0, .int .i64 a0_1, .int .i64 a0_2, .int .i64 a0_3] 93)) := ⟨by have := blk_new (w.alloc (.cells #[.int .i64 a0_0, .int .i64 a0_1, .int .i64 a0_2, .int .i64 a0_3, .int .i64 a0_4, .int .i64 a0_5] 50)) (.cells #[.int .i64 a0_0, .int .i64 a0_1, .int .i64 a0_2, .int .i64 a0_3] 93); simpa using this, ((Below.refl _ _).alloc (Nat.le_refl _) _).alloc (by simp) _⟩
  go_enter Try.func72, Try.ntmps72
  go_wp2
  go_loopw [14] (fun i wr => CLb w #[.int .i64 a0_0, .int .i64 a0_1, .int .i64 a0_2, .int .i64 a0_3, .int .i64 a0_4, .int .i64 a0_5] #[.int .i64 a0_0, .int .i64 a0_1, .int .i64 a0_2, .int .i64 a0_3] wr ∧ ((i = .int .i64 0) ∨ (i = .int .i64 1 ∧ t = true) ∨ (i = .int .i64 2 ∧ t = true ∧ Aside0 (lowF k a0_2 a0_3 = some true)))) (fun i _ => 2 - (intOf i).toNat)
  case atStart => exact ⟨W0, .inl rfl⟩
  case round =>
    clear W0
    obtain ⟨hW, hrel⟩ := hrel
    rcases hrel with rfl | ⟨rfl, h0⟩ | ⟨rfl, h0, h1⟩
    · cases t with
      | true =>
        clear H
        obtain ⟨hd, hg⟩ := lowF_true HT.out
        have hd' : decide (a0_1 ≤ 0) = false := decide_eq_false hd
        have HG := Aside0.mk hg
        clear hd hg
        go_wp2_with (go_at_call 105; refine (figure_gcd.calls k a0_0 a0_1 1 _ HG.out).mono ?_; rintro e w' ⟨rfl, hb⟩)
        go_roundw
        case rel => exact ⟨(hW.alloc _).below hb, .inr (.inl ⟨rfl, by first | trivial | rfl⟩)⟩
        case measure => simp [intOf]
      | false =>
        obtain rfl : 3 = r := Option.some.inj H.out
        clear H
        rcases lowF_false HT.out with hd | ⟨hd, g, hg, hne⟩
        · have hd' : decide (a0_1 ≤ 0) = true := decide_eq_true hd
          clear hd
          go_wp2
          go_ret
          exact ⟨rfl, (hW.alloc _).bel⟩
        · have hd' : decide (a0_1 ≤ 0) = false := decide_eq_false hd
          have HG := Aside0.mk hg
          have hb1 : (g != 1) = true := by simpa using hne
          clear hd hg hne
          go_wp2_with (go_at_call 105; refine (figure_gcd.calls k a0_0 a0_1 g _ HG.out).mono ?_; rintro e w' ⟨rfl, hb⟩)
          go_ret
          exact ⟨rfl, ((hW.alloc _).below hb).bel⟩
    · subst h0
      obtain ⟨u, hu, h⟩ := Option.bind_eq_some_iff.mp (show ((lowF k a0_2 a0_3).bind fun u => (if u = true then (some (if okR a0_0 a0_1 = true then (if okR a0_2 a0_3 = true then 0 else 2) else 2)) else (some 3))) = some r from H.out)
      have HU := Aside0.mk hu
      clear hu
      cases u with
      | true =>
        clear H h
        obtain ⟨hd, hg⟩ := lowF_true HU.out
        have hd' : decide (a0_3 ≤ 0) = false := decide_eq_false hd
        have HG := Aside0.mk hg
        clear hd hg
        go_wp2_with (go_at_call 105; refine (figure_gcd.calls k a0_2 a0_3 1 _ HG.out).mono ?_; rintro e w' ⟨rfl, hb⟩)
        go_roundw
        case rel => exact ⟨(hW.alloc _).below hb, .inr (.inr ⟨rfl, by first | trivial | rfl, HU⟩)⟩
        case measure => simp [intOf]
      | false =>
        obtain rfl : 3 = r := Option.some.inj h
        clear H
        rcases lowF_false HU.out with hd | ⟨hd, g, hg, hne⟩
        · have hd' : decide (a0_3 ≤ 0) = true := decide_eq_true hd
          clear hd
          go_wp2
          go_ret
          exact ⟨rfl, (hW.alloc _).bel⟩
        · have hd' : decide (a0_3 ≤ 0) = false := decide_eq_false hd
          have HG := Aside0.mk hg
          have hb1 : (g != 1) = true := by simpa using hne
          clear hd hg hne
          go_wp2_with (go_at_call 105; refine (figure_gcd.calls k a0_2 a0_3 g _ HG.out).mono ?_; rintro e w' ⟨rfl, hb⟩)
          go_ret
          exact ⟨rfl, ((hW.alloc _).below hb).bel⟩
    · subst h0
      have R : (if okR a0_0 a0_1 = true then (if okR a0_2 a0_3 = true then (0 : Int) else 2) else 2) = r := by
        have := H.out
        rw [if_pos rfl, h1.out] at this
        exact Option.some.inj this
      have HR := Aside0.mk R
      clear R H
      have c0 := (blk_cell hW.box 0).trans rfl
      have c1 := (blk_cell hW.box 1).trans rfl
      have c2 := (blk_cell hW.box 2).trans rfl
      have c3 := (blk_cell hW.box 3).trans rfl
      go_wp2
      clear c0 c1 c2 c3
      obtain ⟨wo, rfl⟩ : ∃ wo : World, wo = wr := ⟨_, rfl⟩
      go_loopw [30] (fun i wr => CLb w #[.int .i64 a0_0, .int .i64 a0_1, .int .i64 a0_2, .int .i64 a0_3, .int .i64 a0_4, .int .i64 a0_5] #[.int .i64 a0_0, .int .i64 a0_1, .int .i64 a0_2, .int .i64 a0_3] wr ∧ ((i = .int .i64 0) ∨ (i = .int .i64 1 ∧ okR a0_0 a0_1 = true) ∨ (i = .int .i64 2 ∧ okR a0_0 a0_1 = true ∧ okR a0_2 a0_3 = true))) (fun i _ => 2 - (intOf i).toNat)
      case atStart => exact ⟨hW, .inl rfl⟩
      case round =>
        clear hW
        obtain ⟨hW, hrel⟩ := hrel
        rcases hrel with rfl | ⟨rfl, g0⟩ | ⟨rfl, g0, g1⟩
        · by_cases hd : a0_1 > 1000
          · have hq : okR a0_0 a0_1 = false := by unfold okR; rw [if_pos hd]
            obtain rfl : 2 = r := by rw [← HR.out, hq]; rfl
            clear hq HR
            have hd' : decide (1000 < a0_1) = true := decide_eq_true hd
            clear hd
            go_wp2
            go_ret
            exact ⟨rfl, (hW.alloc _).bel⟩
          · have hq : okR a0_0 a0_1 = inR a0_0 := by unfold okR; rw [if_neg hd]
            have hd' : decide (1000 < a0_1) = false := decide_eq_false hd
            clear hd
            have HQ := Aside0.mk hq
            clear hq
            cases hi : inR a0_0 with
            | true =>
              have HI := Aside0.mk (show figure_within.f a0_0 (-1000000000) 1000000000 = some true by rw [inR_w, hi])
              have HI2 := Aside0.mk (HQ.out.trans hi)
              clear hi HQ HR
              go_wp2_with (go_at_call 66; refine (figure_within.calls _ _ _ true _ HI.out).mono ?_; rintro e w' ⟨rfl, ⟨nd, rfl⟩⟩)
              go_roundw
              case rel => exact ⟨(hW.alloc _).drewN nd, .inr (.inl ⟨rfl, HI2.out⟩)⟩
              case measure => simp [intOf]
            | false =>
              have HI := Aside0.mk (show figure_within.f a0_0 (-1000000000) 1000000000 = some false by rw [inR_w, hi])
              obtain rfl : 2 = r := by rw [← HR.out, HQ.out, hi]; rfl
              clear hi HQ HR
              go_wp2_with (go_at_call 66; refine (figure_within.calls _ _ _ false _ HI.out).mono ?_; rintro e w' ⟨rfl, ⟨nd, rfl⟩⟩)
              go_ret
              exact ⟨rfl, ((hW.alloc _).drewN nd).bel⟩
        · by_cases hd : a0_3 > 1000
          · have hq : okR a0_2 a0_3 = false := by unfold okR; rw [if_pos hd]
            obtain rfl : 2 = r := by rw [← HR.out, g0, hq]; rfl
            clear hq HR
            have hd' : decide (1000 < a0_3) = true := decide_eq_true hd
            clear hd g0
            go_wp2
            go_ret
            exact ⟨rfl, (hW.alloc _).bel⟩
          · have hq : okR a0_2 a0_3 = inR a0_2 := by unfold okR; rw [if_neg hd]
            have hd' : decide (1000 < a0_3) = false := decide_eq_false hd
            clear hd
            have HQ := Aside0.mk hq
            clear hq
            have G0 := Aside0.mk g0
            clear g0
            cases hi : inR a0_2 with
            | true =>
              have HI := Aside0.mk (show figure_within.f a0_2 (-1000000000) 1000000000 = some true by rw [inR_w, hi])
              have HI2 := Aside0.mk (HQ.out.trans hi)
              clear hi HQ HR
              go_wp2_with (go_at_call 66; refine (figure_within.calls _ _ _ true _ HI.out).mono ?_; rintro e w' ⟨rfl, ⟨nd, rfl⟩⟩)
              go_roundw
              case rel => exact ⟨(hW.alloc _).drewN nd, .inr (.inr ⟨rfl, G0.out, HI2.out⟩)⟩
              case measure => simp [intOf]
            | false =>
              have HI := Aside0.mk (show figure_within.f a0_2 (-1000000000) 1000000000 = some false by rw [inR_w, hi])
              obtain rfl : 2 = r := by rw [← HR.out, G0.out, HQ.out, hi]; rfl
              clear hi HQ HR
              go_wp2_with (go_at_call 66; refine (figure_within.calls _ _ _ false _ HI.out).mono ?_; rintro e w' ⟨rfl, ⟨nd, rfl⟩⟩)
              go_ret
              exact ⟨rfl, ((hW.alloc _).drewN nd).bel⟩
        · obtain rfl : 0 = r := by rw [← HR.out, g0, g1]; rfl
          clear HR g0 g1
          go_wp2
          go_ret
          exact ⟨rfl, hW.bel⟩
def remVal (l0 l1 : List Int) (a0 a1 a2 a3 : Int) (i : Int) : Int := wrap64 ((wrap64 ((wrap64 ((rd l0 i) * (wrap64 (a1 * a3)))) - (wrap64 (a0 * a3)))) - (wrap64 ((wrap64 (a2 * (rd l1 i))) * a1)))
theorem rem_f (l0 l1 l2 : List Int) (a0 a1 a2 a3 a4 a5 : Int) (i : Int) (h0 : 0 ≤ i) (h1 : i < l0.length) (h2 : i < l1.length) : figure_removal.f l0 l1 l2 a0 a1 a2 a3 a4 a5 i = some (remVal l0 l1 a0 a1 a2 a3 i, wrap64 (a1 * a3)) := by
  unfold figure_removal.f remVal
  rw [if_pos h0, if_pos h1, if_pos h2]
def sdV (a b q : Int) : Int := if wrap64 (q * a) < b then -1 else if wrap64 (q * a) > b then 1 else 0
theorem side_f (a b c q : Int) : figure_sums_side.f a b c q = some (sdV a b q) := by
  unfold figure_sums_side.f cmp_Compare_int.f cmp_isNaN_int.f sdV
  simp only [bne_self_eq_false, Option.bind_some, Bool.false_eq_true, if_false]
  split
  · rfl
  · split <;> rfl
def tzB (n : Nat) (z : Int) : Bool := if 0 ≤ z then decide (z ≤ wrap64 ((n : Int) - 1)) else false
theorem tz_f {n : Nat} (h1 : 1 ≤ n) (h2 : n ≤ 9223372036854775807) (z : Int) : figure_within.f z 0 ((n : Int) - 1) = some (tzB n z) := by
  unfold figure_within.f tzB
  rw [show wrap64 ((n : Int) - 1) = (n : Int) - 1 by unfold wrap64; omega]
  split <;> rfl
theorem tz_true {n : Nat} {z : Int} (h : tzB n z = true) (h1 : 1 ≤ n) (h2 : n ≤ 9223372036854775807) : 0 ≤ z ∧ z < n := by
  unfold tzB at h
  rw [show wrap64 ((n : Int) - 1) = (n : Int) - 1 by unfold wrap64; omega] at h
  split at h
  · have := of_decide_eq_true h; omega
  · cases h
def tf0 (l0 l1 l2 : List Int) (a0 a1 a2 a3 z : Int) : Bool := if remVal l0 l1 a0 a1 a2 a3 z = 0 then decide (0 < sdV (sumsTo l0 l1 l2 l2.length).1 (sumsTo l0 l1 l2 l2.length).2.1 (rd l1 z)) else true
def tf1 (l0 l1 l2 : List Int) (a0 a1 a2 a3 z : Int) : Bool := if remVal l0 l1 a0 a1 a2 a3 z = 0 then decide (sdV (sumsTo l0 l1 l2 l2.length).1 (sumsTo l0 l1 l2 l2.length).2.1 (rd l1 z) < 0) else true
def crV (l0 l1 l2 : List Int) (a0 a1 a2 a3 a4 a5 : Int) : Int × Int :=
  match (List.range l0.length).find? (fun i : Nat => decide (remVal l0 l1 a0 a1 a2 a3 (i : Int) < 0)) with
  | some i => ((i : Int), 26)
  | none => if tzB l0.length a4 = true then (if tzB l0.length a5 = true then (if tf0 l0 l1 l2 a0 a1 a2 a3 a4 = true then (0, 22) else (if tf1 l0 l1 l2 a0 a1 a2 a3 a5 = true then (0, 22) else (0, 0))) else (0, 6)) else (0, 6)
def figure_CheckReference.f (k : Nat) (l0_0 : List Int) (l0_1 : List Int) (l0_2 : List Int) (a1_0 : Int) (a1_1 : Int) (a1_2 : Int) (a1_3 : Int) (a1_4 : Int) (a1_5 : Int) : Option (Int × Int) :=
  (figure_CheckMap.f k l0_0 l0_1 l0_2).bind fun e => (if e = 0 then ((figure_checkLine.f k a1_0 a1_1 a1_2 a1_3 a1_4 a1_5).bind fun e2 => (if e2 = 0 then (if l0_1.length = l0_0.length ∧ l0_2.length = l0_0.length ∧ 1 ≤ l0_0.length then (some (crV l0_0 l0_1 l0_2 a1_0 a1_1 a1_2 a1_3 a1_4 a1_5)) else none) else (some (0, e2)))) else (some (0, e)))
theorem find_done {p : Nat → Bool} {n : Nat} (h : ∀ t, t < n → p t = false) : (List.range n).find? p = none := by
  rw [List.find?_eq_none]
  intro x hx
  rw [h x (List.mem_range.1 hx)]; decide
theorem find_at {p : Nat → Bool} : ∀ {n j : Nat}, j < n → (∀ t, t < j → p t = false) → p j = true → (List.range n).find? p = some j
  | 0, j, h, _, _ => by omega
  | n + 1, j, h, h1, h2 => by
    rw [List.range_succ, List.find?_append]
    rcases Nat.lt_or_ge j n with hj | hj
    · rw [find_at hj h1 h2]; rfl
    · obtain rfl : j = n := by omega
      rw [find_done h1]
      simp [h2]
structure CRw (w : World) (cs ds : Array Value) (W : World) : Prop where
  b0 : W.heap[w.heap.size]? = some (.cells cs 24 (0, 0))
  b1 : W.heap[w.heap.size + 1]? = some (.cells ds 50 (0, 0))
  bel : Below w.heap.size w W
theorem CRw.below {w W W' : World} {cs ds : Array Value} (h : CRw w cs ds W) (hb : Below W.heap.size W W') : CRw w cs ds W' := ⟨blk_below h.b0 hb, blk_below h.b1 hb, below_step h.bel hb⟩
theorem CRw.alloc {w W : World} {cs ds : Array Value} (h : CRw w cs ds W) (o : Obj) : CRw w cs ds (W.alloc o) := ⟨blk_alloc h.b0 o, blk_alloc h.b1 o, below_alloc h.bel o⟩
theorem CRw.drewN {w W : World} {cs ds : Array Value} (h : CRw w cs ds W) (n : Nat) : CRw w cs ds (W.drewN n) := ⟨blk_drewN h.b0 n, blk_drewN h.b1 n, pw_below_drewN h.bel n⟩
theorem CRw.drew {w W : World} {cs ds : Array Value} (h : CRw w cs ds W) : CRw w cs ds W.drew := ⟨h.b0, h.b1, below_drew1 h.bel⟩
set_option maxHeartbeats 8000000 in
set_option maxRecDepth 100000 in
theorem figure_CheckReference.calls (k : Nat) (A0_0 : Option Addr) (c0_0 : Nat) (l0_0 : List Int) (A0_1 : Option Addr) (c0_1 : Nat) (l0_1 : List Int) (A0_2 : Option Addr) (c0_2 : Nat) (l0_2 : List Int) (a1_0 : Int) (a1_1 : Int) (a1_2 : Int) (a1_3 : Int) (a1_4 : Int) (a1_5 : Int) (r1 : Int) (r2 : Int) (w : World) (hr0_0 : Kd.C (Kd.int .i64) w A0_0 l0_0.length l0_0) (hc0_0 : l0_0.length ≤ c0_0) (hr0_1 : Kd.C (Kd.int .i64) w A0_1 l0_1.length l0_1) (hc0_1 : l0_1.length ≤ c0_1) (hr0_2 : Kd.C (Kd.int .i64) w A0_2 l0_2.length l0_2) (hc0_2 : l0_2.length ≤ c0_2) (h : figure_CheckReference.f k l0_0 l0_1 l0_2 a1_0 a1_1 a1_2 a1_3 a1_4 a1_5 = some (r1, r2)) :
    Calls Try.prog 42 #[.agg #[.slice A0_0 l0_0.length c0_0, .slice A0_1 l0_1.length c0_1, .slice A0_2 l0_2.length c0_2], .agg #[.int .i64 a1_0, .int .i64 a1_1, .int .i64 a1_2, .int .i64 a1_3, .int .i64 a1_4, .int .i64 a1_5]] w fun e w' => e = .returned (.tuple #[.int .i64 r1, .int .i64 r2]) ∧ Below w.heap.size w w' := by
  have hu24 := Try.underlying24
  have hu50 := Try.underlying50
  have hu28 := Try.underlying28
  have hu48 := Try.underlying48
  have hu105 := Try.underlying105
  have HR0 := Aside0.mk hr0_0
  have HR1 := Aside0.mk hr0_1
  have HR2 := Aside0.mk hr0_2
  have HC0 := Aside0.mk hc0_0
  have HC1 := Aside0.mk hc0_1
  have HC2 := Aside0.mk hc0_2
  have hmax := Kd.C_max hr0_0
  clear hr0_0 hr0_1 hr0_2 hc0_0 hc0_1 hc0_2
  unfold figure_CheckReference.f at h
  obtain ⟨e1, he1, h⟩ := Option.bind_eq_some_iff.mp h
  have HE1 := Aside0.mk he1
  clear he1
  have W0 : CRw w #[.slice A0_0 l0_0.length c0_0, .slice A0_1 l0_1.length c0_1, .slice A0_2 l0_2.length c0_2] #[.int .i64 a1_0, .int .i64 a1_1, .int .i64 a1_2, .int .i64 a1_3, .int .i64 a1_4, .int .i64 a1_5] ((w.alloc (.cells #[.slice A0_0 l0_0.length c0_0, .slice A0_1 l0_1.length c0_1, .slice A0_2 l0_2.length c0_2] 24)).alloc (.cells #[.int .i64 a1_0, .int .i64 a1_1, .int .i64 a1_2, .int .i64 a1_3, .int .i64 a1_4, .int .i64 a1_5] 50)) :=
    ⟨blk_alloc (blk_new _ _) _, by have := blk_new (w.alloc (.cells #[.slice A0_0 l0_0.length c0_0, .slice A0_1 l0_1.length c0_1, .slice A0_2 l0_2.length c0_2] 24)) (.cells #[.int .i64 a1_0, .int .i64 a1_1, .int .i64 a1_2, .int .i64 a1_3, .int .i64 a1_4, .int .i64 a1_5] 50); rwa [World.size_alloc] at this, ((Below.refl _ _).alloc (Nat.le_refl _) _).alloc (by simp) _⟩
  have hz : (e1 != 0) = !decide (e1 = 0) := by by_cases h : e1 = 0 <;> simp [h]
  by_cases hz1 : e1 = 0
  · subst hz1
    clear hz
    obtain ⟨e2, he2, h⟩ := Option.bind_eq_some_iff.mp (show ((figure_checkLine.f k a1_0 a1_1 a1_2 a1_3 a1_4 a1_5).bind fun e2 => (if e2 = 0 then (if l0_1.length = l0_0.length ∧ l0_2.length = l0_0.length ∧ 1 ≤ l0_0.length then (some (crV l0_0 l0_1 l0_2 a1_0 a1_1 a1_2 a1_3 a1_4 a1_5)) else none) else (some (0, e2)))) = some (r1, r2) from h)
    have HE2 := Aside0.mk he2
    clear he2
    by_cases hz2 : e2 = 0
    · subst hz2
      have h' : (if l0_1.length = l0_0.length ∧ l0_2.length = l0_0.length ∧ 1 ≤ l0_0.length then (some (crV l0_0 l0_1 l0_2 a1_0 a1_1 a1_2 a1_3 a1_4 a1_5)) else none) = some (r1, r2) := h
      clear h
      by_cases hl : l0_1.length = l0_0.length ∧ l0_2.length = l0_0.length ∧ 1 ≤ l0_0.length
      · rw [if_pos hl] at h'
        have HV := Aside0.mk (Option.some.inj h')
        have HL := Aside0.mk hl
        clear h' hl
        go_enter Try.func42, Try.ntmps42
        go_wp2_with (first
          | (go_at_call 19; refine (figure_CheckMap.calls k _ _ l0_0 _ _ l0_1 _ _ l0_2 0 _ (Kd.C_below HR0.out W0.bel) HC0.out (Kd.C_below HR1.out W0.bel) HC1.out (Kd.C_below HR2.out W0.bel) HC2.out HE1.out).mono ?_; rintro e w1 ⟨rfl, hb1⟩; have W1 := W0.below hb1; clear W0; have c10 := (blk_cell W1.b1 0).trans rfl; have c11 := (blk_cell W1.b1 1).trans rfl; have c12 := (blk_cell W1.b1 2).trans rfl; have c13 := (blk_cell W1.b1 3).trans rfl; have c14 := (blk_cell W1.b1 4).trans rfl; have c15 := (blk_cell W1.b1 5).trans rfl; clear hb1)
          | (go_at_call 72; refine (figure_checkLine.calls k _ _ _ _ _ _ 0 _ HE2.out).mono ?_; rintro e w2 ⟨rfl, hb2⟩; have W2 := W1.below hb2; clear W1 c10 c11 c12 c13 c14 c15 hb2; have c00 := (blk_cell W2.b0 0).trans rfl))
        clear c00
        obtain ⟨w2', hw2⟩ : ∃ x : World, x = w2 := ⟨_, rfl⟩
        subst hw2
        go_loopw [32] (fun i wr => CRw w #[.slice A0_0 l0_0.length c0_0, .slice A0_1 l0_1.length c0_1, .slice A0_2 l0_2.length c0_2] #[.int .i64 a1_0, .int .i64 a1_1, .int .i64 a1_2, .int .i64 a1_3, .int .i64 a1_4, .int .i64 a1_5] wr ∧ ∃ j : Nat, j ≤ l0_0.length ∧ i = .int .i64 j ∧ Aside0 (∀ t : Nat, t < j → decide (remVal l0_0 l0_1 a1_0 a1_1 a1_2 a1_3 (t : Int) < 0) = false)) (fun i _ => l0_0.length - (intOf i).toNat)
        case atStart => exact ⟨W2, 0, Nat.zero_le _, rfl, ⟨fun t ht => absurd ht (Nat.not_lt_zero t)⟩⟩
        case round =>
          clear W2
          obtain ⟨hW, j, hj, rfl, HJ⟩ := hrel
          by_cases hlt : j < l0_0.length
          · have HREM := Aside0.mk (rem_f l0_0 l0_1 l0_2 a1_0 a1_1 a1_2 a1_3 a1_4 a1_5 (j : Int) (by omega) (by omega) (by have := HL.out; omega))
            have c00 := (blk_cell hW.b0 0).trans rfl
            have c01 := (blk_cell hW.b0 1).trans rfl
            have c02 := (blk_cell hW.b0 2).trans rfl
            have c10 := (blk_cell hW.b1 0).trans rfl
            have c11 := (blk_cell hW.b1 1).trans rfl
            have c12 := (blk_cell hW.b1 2).trans rfl
            have c13 := (blk_cell hW.b1 3).trans rfl
            have c14 := (blk_cell hW.b1 4).trans rfl
            have c15 := (blk_cell hW.b1 5).trans rfl
            by_cases hneg : remVal l0_0 l0_1 a1_0 a1_1 a1_2 a1_3 (j : Int) < 0
            · have HN := Aside0.mk hneg
              have hd : decide (remVal l0_0 l0_1 a1_0 a1_1 a1_2 a1_3 (j : Int) < 0) = true := decide_eq_true hneg
              clear hneg
              generalize hrv : remVal l0_0 l0_1 a1_0 a1_1 a1_2 a1_3 (j : Int) = rv at *
              have HRV := Aside0.mk hrv
              clear hrv
              go_wp2_with (go_at_call 73; refine (figure_removal.calls _ _ l0_0 _ _ l0_1 _ _ l0_2 a1_0 a1_1 a1_2 a1_3 a1_4 a1_5 (j : Int) rv _ _ (Kd.C_below HR0.out hW.bel) HC0.out (Kd.C_below HR1.out hW.bel) HC1.out (Kd.C_below HR2.out hW.bel) HC2.out HREM.out).mono ?_; rintro e w' ⟨rfl, hb⟩)
              go_ret2
              have hf := find_at (p := fun i : Nat => decide (remVal l0_0 l0_1 a1_0 a1_1 a1_2 a1_3 (i : Int) < 0)) hlt HJ.out (decide_eq_true (by rw [HRV.out]; exact HN.out))
              have hv : ((j : Int), (26 : Int)) = (r1, r2) := by rw [← HV.out]; unfold crV; rw [hf]
              simp only [Prod.mk.injEq] at hv
              obtain ⟨e1, e2⟩ := hv
              rw [← e1, ← e2]
              exact ⟨rfl, (hW.below hb).bel⟩
            · have hd : decide (remVal l0_0 l0_1 a1_0 a1_1 a1_2 a1_3 (j : Int) < 0) = false := decide_eq_false hneg
              have HD := Aside0.mk hd
              clear hneg
              generalize hrv : remVal l0_0 l0_1 a1_0 a1_1 a1_2 a1_3 (j : Int) = rv at hd HREM
              rw [hrv] at HD
              have HRV := Aside0.mk hrv
              clear hrv
              go_wp2_with (go_at_call 73; refine (figure_removal.calls _ _ l0_0 _ _ l0_1 _ _ l0_2 a1_0 a1_1 a1_2 a1_3 a1_4 a1_5 (j : Int) rv _ _ (Kd.C_below HR0.out hW.bel) HC0.out (Kd.C_below HR1.out hW.bel) HC1.out (Kd.C_below HR2.out hW.bel) HC2.out HREM.out).mono ?_; rintro e w' ⟨rfl, hb⟩)
              go_roundw
              case rel =>
                refine ⟨hW.below hb, j + 1, by omega, by go_num, ⟨fun t ht => ?_⟩⟩
                rcases Nat.lt_or_ge t j with h | h
                · exact HJ.out t h
                · obtain rfl : t = j := by omega
                  rw [HRV.out]; exact HD.out
              case measure => simp [intOf]; omega
          · obtain rfl : j = l0_0.length := by omega
            have HF := Aside0.mk (find_done (p := fun i : Nat => decide (remVal l0_0 l0_1 a1_0 a1_1 a1_2 a1_3 (i : Int) < 0)) HJ.out)
            clear HJ hlt
            have HV2 : Aside0 ((if tzB l0_0.length a1_4 = true then (if tzB l0_0.length a1_5 = true then (if tf0 l0_0 l0_1 l0_2 a1_0 a1_1 a1_2 a1_3 a1_4 = true then ((0 : Int), (22 : Int)) else (if tf1 l0_0 l0_1 l0_2 a1_0 a1_1 a1_2 a1_3 a1_5 = true then (0, 22) else (0, 0))) else (0, 6)) else (0, 6)) = (r1, r2)) := by
              refine ⟨?_⟩
              rw [← HV.out]; unfold crV; rw [HF.out]
            clear HF HV
            have hone := HL.out.2.2
            have c14 := (blk_cell hW.b1 4).trans rfl
            have c15 := (blk_cell hW.b1 5).trans rfl
            have i0 : ∀ w, (Instr.index 48 (.agg #[.int .i64 a1_4, .int .i64 a1_5]) (.int .i64 0)).run Try.prog w = .ok (.int .i64 a1_4) w := fun _ => by kernel_rfl
            have i1 : ∀ w, (Instr.index 48 (.agg #[.int .i64 a1_4, .int .i64 a1_5]) (.int .i64 1)).run Try.prog w = .ok (.int .i64 a1_5) w := fun _ => by kernel_rfl
            go_wp2
            clear c14 c15
            obtain ⟨wo, rfl⟩ : ∃ wo : World, wo = wr := ⟨_, rfl⟩
            go_loopw [48] (fun i wr => CRw w #[.slice A0_0 l0_0.length c0_0, .slice A0_1 l0_1.length c0_1, .slice A0_2 l0_2.length c0_2] #[.int .i64 a1_0, .int .i64 a1_1, .int .i64 a1_2, .int .i64 a1_3, .int .i64 a1_4, .int .i64 a1_5] wr ∧ ((i = .int .i64 0) ∨ (i = .int .i64 1 ∧ tzB l0_0.length a1_4 = true) ∨ (i = .int .i64 2 ∧ tzB l0_0.length a1_4 = true ∧ tzB l0_0.length a1_5 = true))) (fun i _ => 2 - (intOf i).toNat)
            case atStart => exact ⟨hW, .inl rfl⟩
            case round =>
              clear hW
              obtain ⟨hW, hrel⟩ := hrel
              rcases hrel with rfl | ⟨rfl, g0⟩ | ⟨rfl, g0, g1⟩
              · have c00 := (blk_cell hW.b0 0).trans rfl
                cases ht : tzB l0_0.length a1_4 with
                | true =>
                  have HT := Aside0.mk ((tz_f HL.out.2.2 hmax a1_4).trans (congrArg some ht))
                  have HT2 := Aside0.mk ht
                  clear ht
                  go_wp2_with (go_at_call 66; refine (figure_within.calls _ _ _ true _ HT.out).mono ?_; rintro e w' ⟨rfl, ⟨nd, rfl⟩⟩)
                  go_roundw
                  case rel => exact ⟨hW.drewN nd, .inr (.inl ⟨rfl, by first | trivial | exact HT2.out⟩)⟩
                  case measure => simp [intOf]
                | false =>
                  have HT := Aside0.mk ((tz_f HL.out.2.2 hmax a1_4).trans (congrArg some ht))
                  have hv : ((0 : Int), (6 : Int)) = (r1, r2) := by rw [← HV2.out, ht]; rfl
                  simp only [Prod.mk.injEq] at hv
                  obtain ⟨rfl, rfl⟩ := hv
                  clear ht HV2
                  go_wp2_with (go_at_call 66; refine (figure_within.calls _ _ _ false _ HT.out).mono ?_; rintro e w' ⟨rfl, ⟨nd, rfl⟩⟩)
                  go_ret2
                  exact ⟨rfl, (hW.drewN nd).bel⟩
              · have G0 := Aside0.mk g0
                clear g0
                have c00 := (blk_cell hW.b0 0).trans rfl
                cases ht : tzB l0_0.length a1_5 with
                | true =>
                  have HT := Aside0.mk ((tz_f HL.out.2.2 hmax a1_5).trans (congrArg some ht))
                  have HT2 := Aside0.mk ht
                  clear ht
                  go_wp2_with (go_at_call 66; refine (figure_within.calls _ _ _ true _ HT.out).mono ?_; rintro e w' ⟨rfl, ⟨nd, rfl⟩⟩)
                  go_roundw
                  case rel => exact ⟨hW.drewN nd, .inr (.inr ⟨rfl, by first | trivial | exact G0.out, by first | trivial | exact HT2.out⟩)⟩
                  case measure => simp [intOf]
                | false =>
                  have HT := Aside0.mk ((tz_f HL.out.2.2 hmax a1_5).trans (congrArg some ht))
                  have hv : ((0 : Int), (6 : Int)) = (r1, r2) := by rw [← HV2.out, G0.out, ht]; rfl
                  simp only [Prod.mk.injEq] at hv
                  obtain ⟨rfl, rfl⟩ := hv
                  clear ht HV2
                  go_wp2_with (go_at_call 66; refine (figure_within.calls _ _ _ false _ HT.out).mono ?_; rintro e w' ⟨rfl, ⟨nd, rfl⟩⟩)
                  go_ret2
                  exact ⟨rfl, (hW.drewN nd).bel⟩
              · have HV3 : Aside0 ((if tf0 l0_0 l0_1 l0_2 a1_0 a1_1 a1_2 a1_3 a1_4 = true then ((0 : Int), (22 : Int)) else (if tf1 l0_0 l0_1 l0_2 a1_0 a1_1 a1_2 a1_3 a1_5 = true then (0, 22) else (0, 0))) = (r1, r2)) := by
                  refine ⟨?_⟩
                  rw [← HV2.out, if_pos g0, if_pos g1]
                have HG0 := Aside0.mk g0
                have HG1 := Aside0.mk g1
                clear HV2 g0 g1
                have c00 := (blk_cell hW.b0 0).trans rfl
                have c01 := (blk_cell hW.b0 1).trans rfl
                have c02 := (blk_cell hW.b0 2).trans rfl
                have HS := Aside0.mk (show figure_sumsOf.f l0_0 l0_1 l0_2 = some (sumsTo l0_0 l0_1 l0_2 l0_2.length) by unfold figure_sumsOf.f; rw [if_pos (by have := HL.out; omega)])
                generalize hss : sumsTo l0_0 l0_1 l0_2 l0_2.length = ss at HS
                have HSS := Aside0.mk hss
                clear hss
                obtain ⟨s1, s2, s3⟩ := ss
                go_wp2_with (go_at_call 62; refine (figure_sumsOf.calls _ _ l0_0 _ _ l0_1 _ _ l0_2 s1 s2 s3 _ (Kd.C_below HR0.out hW.bel) HC0.out (Kd.C_below HR1.out hW.bel) HC1.out (Kd.C_below HR2.out hW.bel) HC2.out HS.out).mono ?_; rintro e w3 ⟨rfl, hb3⟩; have W3 := hW.below hb3; have W4 := W3.alloc (.cells #[.int .i64 s1, .int .i64 s2, .int .i64 s3] 105); have c14 := (blk_cell W4.b1 4).trans rfl; have c15 := (blk_cell W4.b1 5).trans rfl; have S4 := blk_new w3 (.cells #[.int .i64 s1, .int .i64 s2, .int .i64 s3] 105); clear hW hb3 c00 c01 c02)
                clear c14 c15
                have HSU := Aside0.mk (show (s1, s2, s3) = (s1, s2, s3) from rfl)
                obtain ⟨gs, hgs⟩ : ∃ gs, gs = w3.heap.size := ⟨_, rfl⟩
                rw [← hgs] at S4
                rw [← hgs]
                clear hgs W3
                generalize w3.alloc (.cells #[.int .i64 s1, .int .i64 s2, .int .i64 s3] 105) = w4 at *
                go_loopw [63] (fun i wr => CRw w #[.slice A0_0 l0_0.length c0_0, .slice A0_1 l0_1.length c0_1, .slice A0_2 l0_2.length c0_2] #[.int .i64 a1_0, .int .i64 a1_1, .int .i64 a1_2, .int .i64 a1_3, .int .i64 a1_4, .int .i64 a1_5] wr ∧ wr.heap[gs]? = some (.cells #[.int .i64 s1, .int .i64 s2, .int .i64 s3] 105 (0, 0)) ∧ ((i = .int .i64 0) ∨ (i = .int .i64 1 ∧ tf0 l0_0 l0_1 l0_2 a1_0 a1_1 a1_2 a1_3 a1_4 = false) ∨ (i = .int .i64 2 ∧ tf0 l0_0 l0_1 l0_2 a1_0 a1_1 a1_2 a1_3 a1_4 = false ∧ tf1 l0_0 l0_1 l0_2 a1_0 a1_1 a1_2 a1_3 a1_5 = false))) (fun i _ => 2 - (intOf i).toNat)
                case atStart => exact ⟨W4, S4, .inl rfl⟩
                case round =>
                  clear W4 S4
                  obtain ⟨hW, hS, hrel⟩ := hrel
                  rcases hrel with rfl | ⟨rfl, g0⟩ | ⟨rfl, g0, g1⟩
                  · have hz := tz_true HG0.out HL.out.2.2 hmax
                    have HREM := Aside0.mk (rem_f l0_0 l0_1 l0_2 a1_0 a1_1 a1_2 a1_3 a1_4 a1_5 a1_4 hz.1 hz.2 (by have := HL.out; omega))
                    have hz0 := hz.1
                    have hz1 : a1_4 < (l0_1.length : Int) := by have := HL.out; omega
                    clear hz
                    have HTF := Aside0.mk (show tf0 l0_0 l0_1 l0_2 a1_0 a1_1 a1_2 a1_3 a1_4 = (if remVal l0_0 l0_1 a1_0 a1_1 a1_2 a1_3 a1_4 = 0 then decide (0 < sdV s1 s2 (rd l0_1 a1_4)) else true) by unfold tf0; rw [HSS.out])
                    have HSD := Aside0.mk (side_f s1 s2 s3 (rd l0_1 a1_4))
                    generalize hsd : sdV s1 s2 (rd l0_1 a1_4) = sd at HSD HTF
                    clear hsd
                    have c00 := (blk_cell hW.b0 0).trans rfl
                    have c01 := (blk_cell hW.b0 1).trans rfl
                    have c02 := (blk_cell hW.b0 2).trans rfl
                    have c10 := (blk_cell hW.b1 0).trans rfl
                    have c11 := (blk_cell hW.b1 1).trans rfl
                    have c12 := (blk_cell hW.b1 2).trans rfl
                    have c13 := (blk_cell hW.b1 3).trans rfl
                    have c14 := (blk_cell hW.b1 4).trans rfl
                    have c15 := (blk_cell hW.b1 5).trans rfl
                    generalize hrv : remVal l0_0 l0_1 a1_0 a1_1 a1_2 a1_3 a1_4 = rv at HREM HTF
                    clear hrv
                    have hq0 : rv = 0 ∨ (rv != 0) = true := by by_cases h : rv = 0 <;> simp [h]
                    have HQ := Aside0.mk hq0
                    clear hq0
                    go_wp2_with (go_at_call 73; refine (figure_removal.calls _ _ l0_0 _ _ l0_1 _ _ l0_2 a1_0 a1_1 a1_2 a1_3 a1_4 a1_5 a1_4 rv _ _ (Kd.C_below HR0.out hW.bel) HC0.out (Kd.C_below HR1.out hW.bel) HC1.out (Kd.C_below HR2.out hW.bel) HC2.out HREM.out).mono ?_; rintro e w5 ⟨rfl, hb⟩; have W5 := hW.below hb; have S5 := blk_below hS hb; obtain ⟨ad, ea, hx⟩ := Kd.at_int (Kd.C_below HR1.out W5.bel) a1_4 hz0 hz1; subst ea; clear hW hS hb c00 c01 c02 c10 c11 c12 c13 c14 c15)
                    have c01 := (blk_cell W5.b0 1).trans rfl
                    have s0 := (blk_cell S5 0).trans rfl
                    have s1' := (blk_cell S5 1).trans rfl
                    have s2' := (blk_cell S5 2).trans rfl
                    rcases HQ.out with hrv | hrv
                    · subst hrv
                      have ht : tf0 l0_0 l0_1 l0_2 a1_0 a1_1 a1_2 a1_3 a1_4 = decide (0 < sd) := HTF.out
                      by_cases hs : 0 < sd
                      · have hv : ((0 : Int), (22 : Int)) = (r1, r2) := by rw [← HV3.out, ht, decide_eq_true hs]; rfl
                        simp only [Prod.mk.injEq] at hv
                        obtain ⟨rfl, rfl⟩ := hv
                        clear HV3 HTF ht HQ HREM
                        have hs' : decide (0 < sd) = true := decide_eq_true hs
                        clear hs
                        go_still_tail 6, (by kernel_rfl)
                        change wpList _ _ _ _ _ w5.drew
                        have W6 := W5.drew
                        have S6 := blk_drew S5
                        clear W5 S5 c01 s0 s1' s2' hx
                        generalize w5.drew = w6 at *
                        go_wp2_with (go_at_call 82; refine (figure_sums_side.calls s1 s2 s3 (rd l0_1 a1_4) sd _ HSD.out).mono ?_; rintro e w7 ⟨rfl, hb7⟩; have W7 := W6.below hb7; have S7 := blk_below S6 hb7; clear W6 S6 hb7)
                        go_ret2
                        exact ⟨rfl, W7.bel⟩
                      · have HT2 := Aside0.mk (ht.trans (decide_eq_false hs))
                        have hs' : decide (0 < sd) = false := decide_eq_false hs
                        clear hs ht HTF HQ HREM
                        go_still_tail 6, (by kernel_rfl)
                        change wpList _ _ _ _ _ w5.drew
                        have W6 := W5.drew
                        have S6 := blk_drew S5
                        clear W5 S5 c01 s0 s1' s2' hx
                        generalize w5.drew = w6 at *
                        go_wp2_with (go_at_call 82; refine (figure_sums_side.calls s1 s2 s3 (rd l0_1 a1_4) sd _ HSD.out).mono ?_; rintro e w7 ⟨rfl, hb7⟩; have W7 := W6.below hb7; have S7 := blk_below S6 hb7; clear W6 S6 hb7)
                        go_roundw
                        case rel => exact ⟨W7, S7, .inr (.inl ⟨rfl, by first | trivial | exact HT2.out⟩)⟩
                        case measure => simp [intOf]
                    · have ht : tf0 l0_0 l0_1 l0_2 a1_0 a1_1 a1_2 a1_3 a1_4 = true := by rw [HTF.out, if_neg (by simpa using hrv)]
                      have hv : ((0 : Int), (22 : Int)) = (r1, r2) := by rw [← HV3.out, ht]; rfl
                      simp only [Prod.mk.injEq] at hv
                      obtain ⟨rfl, rfl⟩ := hv
                      clear HV3 HTF ht HQ HREM
                      go_still_tail 6, (by kernel_rfl)
                      change wpList _ _ _ _ _ w5.drew
                      have W6 := W5.drew
                      have S6 := blk_drew S5
                      clear W5 S5 c01 s0 s1' s2' hx
                      generalize w5.drew = w6 at *
                      go_wp2_with (go_at_call 82; refine (figure_sums_side.calls s1 s2 s3 (rd l0_1 a1_4) sd _ HSD.out).mono ?_; rintro e w7 ⟨rfl, hb7⟩; have W7 := W6.below hb7; have S7 := blk_below S6 hb7; clear W6 S6 hb7)
                      go_ret2
                      exact ⟨rfl, W7.bel⟩
                  · have hz := tz_true HG1.out HL.out.2.2 hmax
                    have G0 := Aside0.mk g0
                    clear g0
                    have HREM := Aside0.mk (rem_f l0_0 l0_1 l0_2 a1_0 a1_1 a1_2 a1_3 a1_4 a1_5 a1_5 hz.1 hz.2 (by have := HL.out; omega))
                    have hz0 := hz.1
                    have hz1 : a1_5 < (l0_1.length : Int) := by have := HL.out; omega
                    clear hz
                    have HTF := Aside0.mk (show tf1 l0_0 l0_1 l0_2 a1_0 a1_1 a1_2 a1_3 a1_5 = (if remVal l0_0 l0_1 a1_0 a1_1 a1_2 a1_3 a1_5 = 0 then decide (sdV s1 s2 (rd l0_1 a1_5) < 0) else true) by unfold tf1; rw [HSS.out])
                    have HSD := Aside0.mk (side_f s1 s2 s3 (rd l0_1 a1_5))
                    generalize hsd : sdV s1 s2 (rd l0_1 a1_5) = sd at HSD HTF
                    clear hsd
                    have c00 := (blk_cell hW.b0 0).trans rfl
                    have c01 := (blk_cell hW.b0 1).trans rfl
                    have c02 := (blk_cell hW.b0 2).trans rfl
                    have c10 := (blk_cell hW.b1 0).trans rfl
                    have c11 := (blk_cell hW.b1 1).trans rfl
                    have c12 := (blk_cell hW.b1 2).trans rfl
                    have c13 := (blk_cell hW.b1 3).trans rfl
                    have c14 := (blk_cell hW.b1 4).trans rfl
                    have c15 := (blk_cell hW.b1 5).trans rfl
                    generalize hrv : remVal l0_0 l0_1 a1_0 a1_1 a1_2 a1_3 a1_5 = rv at HREM HTF
                    clear hrv
                    have hq0 : rv = 0 ∨ (rv != 0) = true := by by_cases h : rv = 0 <;> simp [h]
                    have HQ := Aside0.mk hq0
                    clear hq0
                    go_wp2_with (go_at_call 73; refine (figure_removal.calls _ _ l0_0 _ _ l0_1 _ _ l0_2 a1_0 a1_1 a1_2 a1_3 a1_4 a1_5 a1_5 rv _ _ (Kd.C_below HR0.out hW.bel) HC0.out (Kd.C_below HR1.out hW.bel) HC1.out (Kd.C_below HR2.out hW.bel) HC2.out HREM.out).mono ?_; rintro e w5 ⟨rfl, hb⟩; have W5 := hW.below hb; have S5 := blk_below hS hb; obtain ⟨ad, ea, hx⟩ := Kd.at_int (Kd.C_below HR1.out W5.bel) a1_5 hz0 hz1; subst ea; clear hW hS hb c00 c01 c02 c10 c11 c12 c13 c14 c15)
                    have c01 := (blk_cell W5.b0 1).trans rfl
                    have s0 := (blk_cell S5 0).trans rfl
                    have s1' := (blk_cell S5 1).trans rfl
                    have s2' := (blk_cell S5 2).trans rfl
                    rcases HQ.out with hrv | hrv
                    · subst hrv
                      have ht : tf1 l0_0 l0_1 l0_2 a1_0 a1_1 a1_2 a1_3 a1_5 = decide (sd < 0) := HTF.out
                      by_cases hs : sd < 0
                      · have hv : ((0 : Int), (22 : Int)) = (r1, r2) := by rw [← HV3.out, G0.out, ht, decide_eq_true hs]; rfl
                        simp only [Prod.mk.injEq] at hv
                        obtain ⟨rfl, rfl⟩ := hv
                        clear HV3 HTF ht HQ HREM
                        have hs' : decide (sd < 0) = true := decide_eq_true hs
                        clear hs
                        go_still_tail 6, (by kernel_rfl)
                        change wpList _ _ _ _ _ w5.drew
                        have W6 := W5.drew
                        have S6 := blk_drew S5
                        clear W5 S5 c01 s0 s1' s2' hx
                        generalize w5.drew = w6 at *
                        go_wp2_with (go_at_call 82; refine (figure_sums_side.calls s1 s2 s3 (rd l0_1 a1_5) sd _ HSD.out).mono ?_; rintro e w7 ⟨rfl, hb7⟩; have W7 := W6.below hb7; have S7 := blk_below S6 hb7; clear W6 S6 hb7)
                        go_ret2
                        exact ⟨rfl, W7.bel⟩
                      · have HT2 := Aside0.mk (ht.trans (decide_eq_false hs))
                        have hs' : decide (sd < 0) = false := decide_eq_false hs
                        clear hs ht HTF HQ HREM
                        go_still_tail 6, (by kernel_rfl)
                        change wpList _ _ _ _ _ w5.drew
                        have W6 := W5.drew
                        have S6 := blk_drew S5
                        clear W5 S5 c01 s0 s1' s2' hx
                        generalize w5.drew = w6 at *
                        go_wp2_with (go_at_call 82; refine (figure_sums_side.calls s1 s2 s3 (rd l0_1 a1_5) sd _ HSD.out).mono ?_; rintro e w7 ⟨rfl, hb7⟩; have W7 := W6.below hb7; have S7 := blk_below S6 hb7; clear W6 S6 hb7)
                        go_roundw
                        case rel => exact ⟨W7, S7, .inr (.inr ⟨rfl, by first | trivial | exact G0.out, by first | trivial | exact HT2.out⟩)⟩
                        case measure => simp [intOf]
                    · have ht : tf1 l0_0 l0_1 l0_2 a1_0 a1_1 a1_2 a1_3 a1_5 = true := by rw [HTF.out, if_neg (by simpa using hrv)]
                      have hv : ((0 : Int), (22 : Int)) = (r1, r2) := by rw [← HV3.out, G0.out, ht]; rfl
                      simp only [Prod.mk.injEq] at hv
                      obtain ⟨rfl, rfl⟩ := hv
                      clear HV3 HTF ht HQ HREM
                      go_still_tail 6, (by kernel_rfl)
                      change wpList _ _ _ _ _ w5.drew
                      have W6 := W5.drew
                      have S6 := blk_drew S5
                      clear W5 S5 c01 s0 s1' s2' hx
                      generalize w5.drew = w6 at *
                      go_wp2_with (go_at_call 82; refine (figure_sums_side.calls s1 s2 s3 (rd l0_1 a1_5) sd _ HSD.out).mono ?_; rintro e w7 ⟨rfl, hb7⟩; have W7 := W6.below hb7; have S7 := blk_below S6 hb7; clear W6 S6 hb7)
                      go_ret2
                      exact ⟨rfl, W7.bel⟩
                  · have hv : ((0 : Int), (0 : Int)) = (r1, r2) := by rw [← HV3.out, g0, g1]; rfl
                    simp only [Prod.mk.injEq] at hv
                    obtain ⟨rfl, rfl⟩ := hv
                    clear HV3 g0 g1
                    go_wp2
                    go_ret2
                    exact ⟨rfl, hW.bel⟩
      · rw [if_neg hl] at h'; cases h'
    · have h' : some (0, e2) = some (r1, r2) := by rw [if_neg hz2] at h; exact h
      simp only [Option.some.injEq, Prod.mk.injEq] at h'
      obtain ⟨rfl, rfl⟩ := h'
      have hne : (e2 != 0) = true := by simpa using hz2
      clear hz2 h
      go_enter Try.func42, Try.ntmps42
      go_wp2_with (first
          | (go_at_call 19; refine (figure_CheckMap.calls k _ _ l0_0 _ _ l0_1 _ _ l0_2 0 _ (Kd.C_below HR0.out W0.bel) HC0.out (Kd.C_below HR1.out W0.bel) HC1.out (Kd.C_below HR2.out W0.bel) HC2.out HE1.out).mono ?_; rintro e w1 ⟨rfl, hb1⟩; have W1 := W0.below hb1; clear W0; have c10 := (blk_cell W1.b1 0).trans rfl; have c11 := (blk_cell W1.b1 1).trans rfl; have c12 := (blk_cell W1.b1 2).trans rfl; have c13 := (blk_cell W1.b1 3).trans rfl; have c14 := (blk_cell W1.b1 4).trans rfl; have c15 := (blk_cell W1.b1 5).trans rfl; clear hb1)
          | (go_at_call 72; refine (figure_checkLine.calls k _ _ _ _ _ _ e2 _ HE2.out).mono ?_; rintro e w2 ⟨rfl, hb2⟩; have W2 := W1.below hb2; clear W1 c10 c11 c12 c13 c14 c15 hb2))
      go_ret2
      exact ⟨rfl, W2.bel⟩
  · rw [if_neg hz1] at h
    simp only [Option.some.injEq, Prod.mk.injEq] at h
    obtain ⟨rfl, rfl⟩ := h
    have hne : (e1 != 0) = true := by simpa using hz1
    clear hz1 hz
    go_enter Try.func42, Try.ntmps42
    go_wp2_with (go_at_call 19; refine (figure_CheckMap.calls k _ _ l0_0 _ _ l0_1 _ _ l0_2 e1 _ (Kd.C_below HR0.out W0.bel) HC0.out (Kd.C_below HR1.out W0.bel) HC1.out (Kd.C_below HR2.out W0.bel) HC2.out HE1.out).mono ?_; rintro e w1 ⟨rfl, hb1⟩; have W1 := W0.below hb1; clear W0)
    go_ret2
    exact ⟨rfl, W1.bel⟩
def speculumref06_Mean.l0 : Nat → Int → Int → Int → List Int → List Int → List Int → Option (Int × Int)
 | 0, _, _, _, _, _, _ => none
 | k + 1, x3, x4, x5, x283000, x283001, x283002 => if x5 < (x283001.length : Int) then (if 0 ≤ x5 then (if x5 < (x283002.length : Int) then (speculumref06_Mean.l0 k (wrap64 (x3 + (wrap64 ((rd x283002 x5) * (rd x283001 x5))))) (wrap64 (x4 + (rd x283002 x5))) (wrap64 (x5 + 1)) x283000 x283001 x283002) else (none)) else (none)) else ((speculumbase_Lowest.f k x3 x4).bind fun bt287 => (some (bt287.1, bt287.2)))
def speculumref06_Mean.f (k : Nat) (l0_0 : List Int) (l0_1 : List Int) (l0_2 : List Int) : Option (Int × Int) := speculumref06_Mean.l0 k 0 0 0 l0_0 l0_1 l0_2
set_option maxHeartbeats 8000000 in
set_option maxRecDepth 100000 in
theorem speculumref06_Mean.calls (k : Nat) (A0_0 : Option Addr) (c0_0 : Nat) (l0_0 : List Int) (A0_1 : Option Addr) (c0_1 : Nat) (l0_1 : List Int) (A0_2 : Option Addr) (c0_2 : Nat) (l0_2 : List Int) (r1 : Int) (r2 : Int) (w : World) (hr0_0 : Kd.C (Kd.int .i64) w A0_0 l0_0.length l0_0) (hc0_0 : l0_0.length ≤ c0_0) (hr0_1 : Kd.C (Kd.int .i64) w A0_1 l0_1.length l0_1) (hc0_1 : l0_1.length ≤ c0_1) (hr0_2 : Kd.C (Kd.int .i64) w A0_2 l0_2.length l0_2) (hc0_2 : l0_2.length ≤ c0_2) (h : speculumref06_Mean.f k l0_0 l0_1 l0_2 = some (r1, r2)) :
  Calls Try.prog 20 #[.agg #[.slice A0_0 l0_0.length c0_0, .slice A0_1 l0_1.length c0_1, .slice A0_2 l0_2.length c0_2]] w fun e w' => e = .returned (.agg #[.int .i64 r1, .int .i64 r2]) ∧ Below w.heap.size w w' := by
 have hu24 := Try.underlying24
 have hu28 := Try.underlying28
 have HR0_0 := Aside0.mk hr0_0
 have HC0_0 := Aside0.mk hc0_0
 clear hr0_0 hc0_0
 have HR0_1 := Aside0.mk hr0_1
 have HC0_1 := Aside0.mk hc0_1
 clear hr0_1 hc0_1
 have HR0_2 := Aside0.mk hr0_2
 have HC0_2 := Aside0.mk hc0_2
 clear hr0_2 hc0_2
 have HB := Aside0.mk (Below.refl w.heap.size w)
 have H : (speculumref06_Mean.l0 k 0 0 0 l0_0 l0_1 l0_2) = some (r1, r2) := h
 clear h
 have H' := Aside0.mk H
 clear H
 go_enter Try.func20, Try.ntmps20
 go_wp2_with (first | ((with_reducible refine gate_dst (N := 1) rfl ?_); refine box_event ?hg (N := 1) ?hd (cs := #[.slice A0_0 l0_0.length c0_0, .slice A0_1 l0_1.length c0_1, .slice A0_2 l0_2.length c0_2]) (t := 24) ?hr ?_; (case hd => rfl); (case hg => rfl); (case hr => exact gr_); intro gb282 hg w2 hbox hb; have n0_ := Aside0.mk (below_step (hb_ HB) hb); have n1_ := Aside0.mk (hbox); have n2_ := Aside0.mk ((hz_ HB hg)); have n3_ := Aside0.mk ((hz_ HB hg)); clear HB; have HB := n0_; have BK282 := n1_; have GW282 := n2_; have GE282 := n3_; clear n0_ n1_ n2_ n3_; clear hb hbox hg) | ((with_reducible refine gate_dst (N := 2) rfl ?_); refine box_event ?hg (N := 2) ?hd (cs := #[.int .i64 0, .int .i64 0]) (t := 28) ?hr ?_; (case hd => rfl); (case hg => rfl); (case hr => exact gr_); intro gb283 hg w3 hbox hb; have n0_ := Aside0.mk (bb_ BK282 hb); have n1_ := Aside0.mk (below_step (hb_ HB) hb); have n2_ := Aside0.mk (hbox); have n3_ := Aside0.mk ((hz_ HB hg)); have n4_ := Aside0.mk ((hz_ HB hg)); have n5_ := Aside0.mk ((nl_ BK282 hg)); have n6_ := Aside0.mk ((ng_ BK282 hg)); clear BK282; clear HB; have BK282 := n0_; have HB := n1_; have BK283 := n2_; have GW283 := n3_; have GE283 := n4_; have NB282_283 := n5_; have NB283_282 := n6_; clear n0_ n1_ n2_ n3_ n4_ n5_ n6_; clear hb hbox hg))
 repeat (go_quiet (first | ((with_reducible refine gate_dst (N := 1) rfl ?_); refine box_event ?hg (N := 1) ?hd (cs := #[.slice A0_0 l0_0.length c0_0, .slice A0_1 l0_1.length c0_1, .slice A0_2 l0_2.length c0_2]) (t := 24) ?hr ?_; (case hd => rfl); (case hg => rfl); (case hr => exact gr_); intro gb282 hg w2 hbox hb; have n0_ := Aside0.mk (below_step (hb_ HB) hb); have n1_ := Aside0.mk (hbox); have n2_ := Aside0.mk ((hz_ HB hg)); have n3_ := Aside0.mk ((hz_ HB hg)); clear HB; have HB := n0_; have BK282 := n1_; have GW282 := n2_; have GE282 := n3_; clear n0_ n1_ n2_ n3_; clear hb hbox hg) | ((with_reducible refine gate_dst (N := 2) rfl ?_); refine box_event ?hg (N := 2) ?hd (cs := #[.int .i64 0, .int .i64 0]) (t := 28) ?hr ?_; (case hd => rfl); (case hg => rfl); (case hr => exact gr_); intro gb283 hg w3 hbox hb; have n0_ := Aside0.mk (bb_ BK282 hb); have n1_ := Aside0.mk (below_step (hb_ HB) hb); have n2_ := Aside0.mk (hbox); have n3_ := Aside0.mk ((hz_ HB hg)); have n4_ := Aside0.mk ((hz_ HB hg)); have n5_ := Aside0.mk ((nl_ BK282 hg)); have n6_ := Aside0.mk ((ng_ BK282 hg)); clear BK282; clear HB; have BK282 := n0_; have HB := n1_; have BK283 := n2_; have GW283 := n3_; have GE283 := n4_; have NB282_283 := n5_; have NB283_282 := n6_; clear n0_ n1_ n2_ n3_ n4_ n5_ n6_; clear hb hbox hg)); try go_wp2_with (first | ((with_reducible refine gate_dst (N := 1) rfl ?_); refine box_event ?hg (N := 1) ?hd (cs := #[.slice A0_0 l0_0.length c0_0, .slice A0_1 l0_1.length c0_1, .slice A0_2 l0_2.length c0_2]) (t := 24) ?hr ?_; (case hd => rfl); (case hg => rfl); (case hr => exact gr_); intro gb282 hg w2 hbox hb; have n0_ := Aside0.mk (below_step (hb_ HB) hb); have n1_ := Aside0.mk (hbox); have n2_ := Aside0.mk ((hz_ HB hg)); have n3_ := Aside0.mk ((hz_ HB hg)); clear HB; have HB := n0_; have BK282 := n1_; have GW282 := n2_; have GE282 := n3_; clear n0_ n1_ n2_ n3_; clear hb hbox hg) | ((with_reducible refine gate_dst (N := 2) rfl ?_); refine box_event ?hg (N := 2) ?hd (cs := #[.int .i64 0, .int .i64 0]) (t := 28) ?hr ?_; (case hd => rfl); (case hg => rfl); (case hr => exact gr_); intro gb283 hg w3 hbox hb; have n0_ := Aside0.mk (bb_ BK282 hb); have n1_ := Aside0.mk (below_step (hb_ HB) hb); have n2_ := Aside0.mk (hbox); have n3_ := Aside0.mk ((hz_ HB hg)); have n4_ := Aside0.mk ((hz_ HB hg)); have n5_ := Aside0.mk ((nl_ BK282 hg)); have n6_ := Aside0.mk ((ng_ BK282 hg)); clear BK282; clear HB; have BK282 := n0_; have HB := n1_; have BK283 := n2_; have GW283 := n3_; have GE283 := n4_; have NB282_283 := n5_; have NB283_282 := n6_; clear n0_ n1_ n2_ n3_ n4_ n5_ n6_; clear hb hbox hg)))
 go_loopg [3, 4, 5] k (fun kq v3 v4 v5 w' => ∃ (x3_1 : Int) (x4_1 : Int) (x5_1 : Int), v3 = .int .i64 x3_1 ∧ v4 = .int .i64 x4_1 ∧ v5 = .int .i64 x5_1 ∧ Aside0 (speculumref06_Mean.l0 kq x3_1 x4_1 x5_1 l0_0 l0_1 l0_2 = some (r1, r2)) ∧ Aside0 (kq ≤ k) ∧ Aside0 (w'.heap[gb282]? = some (.cells #[(.slice A0_0 l0_0.length c0_0), (.slice A0_1 l0_1.length c0_1), (.slice A0_2 l0_2.length c0_2)] 24 (0, 0))) ∧ Aside0 (w'.heap[gb283]? = some (.cells #[.int .i64 0, .int .i64 0] 28 (0, 0))) ∧ Aside0 (Below w.heap.size w w'))
 case atStart => exact ⟨(0), (0), (0), rs_, rs_, rs_, H', ⟨Nat.le_refl _⟩, ⟨by (with_reducible repeat (first | refine blk_drewN ?_ _ | refine blk_drew ?_ | refine blk_alloc ?_ _)); exact BK282.out⟩, ⟨by (with_reducible repeat (first | refine blk_drewN ?_ _ | refine blk_drew ?_ | refine blk_alloc ?_ _)); exact BK283.out⟩, ⟨hb_ HB⟩⟩
 case round =>
  clear H'
  try clear c2
  try clear p2
  obtain ⟨x3_1, x4_1, x5_1, rfl, rfl, rfl, HA, HK1, BK282, BK283, HB⟩ := hrel
  cases gk with
  | zero => exact absurd HA.out (by simp [speculumref06_Mean.l0])
  | succ k1 =>
   have H := HA.out
   clear HA
   simp only [speculumref06_Mean.l0] at H
   by_cases c4 : x5_1 < (l0_1.length : Int)
   ·rw [if_pos c4] at H
    have c4b0 : decide (x5_1 < (l0_1.length : Int)) = true := decide_eq_true c4
    clear c4
    by_cases c5 : 0 ≤ x5_1
    ·rw [if_pos c5] at H
     have c5b0 : decide (0 ≤ x5_1) = true := decide_eq_true c5
     clear c5
     by_cases c6 : x5_1 < (l0_2.length : Int)
     ·rw [if_pos c6] at H
      have c6b0 : decide (x5_1 < (l0_2.length : Int)) = true := decide_eq_true c6
      clear c6
      have H' := Aside0.mk H
      clear H
      have hnb7 := NB282_283.out
      have hnc7 := NB283_282.out
      have hcz8_0 : wr.cell? ⟨gb282, 0, none⟩ = some (.slice A0_0 l0_0.length c0_0) := (blk_cell BK282.out 0).trans rfl
      have hcz8_1 : wr.cell? ⟨gb282, 1, none⟩ = some (.slice A0_1 l0_1.length c0_1) := (blk_cell BK282.out 1).trans rfl
      have hcz8_2 : wr.cell? ⟨gb282, 2, none⟩ = some (.slice A0_2 l0_2.length c0_2) := (blk_cell BK282.out 2).trans rfl
      have hfz8_0 := blk_frozen BK282.out 0
      have hfz8_1 := blk_frozen BK282.out 1
      have hfz8_2 := blk_frozen BK282.out 2
      have p284 : 0 ≤ (x5_1 : Int) := of_decide_eq_true as_
      have q284 : x5_1 < (l0_2.length : Int) := of_decide_eq_true as_
      obtain ⟨ad284, e284, hx284_0⟩ := Kd.at_int HR0_2.out x5_1 p284 q284
      cases e284
      replace hx284_0 := (HB.out.cell (World.block_lt_of_cell? w _ hx284_0)).trans hx284_0
      replace p284 := eq_true p284
      replace q284 := eq_true q284
      have p285 : 0 ≤ (x5_1 : Int) := of_decide_eq_true as_
      have q285 : x5_1 < (l0_1.length : Int) := of_decide_eq_true as_
      obtain ⟨ad285, e285, hx285_0⟩ := Kd.at_int HR0_1.out x5_1 p285 q285
      cases e285
      replace hx285_0 := (HB.out.cell (World.block_lt_of_cell? w _ hx285_0)).trans hx285_0
      replace p285 := eq_true p285
      replace q285 := eq_true q285
      have p286 : 0 ≤ (x5_1 : Int) := of_decide_eq_true as_
      have q286 : x5_1 < (l0_2.length : Int) := of_decide_eq_true as_
      obtain ⟨ad286, e286, hx286_0⟩ := Kd.at_int HR0_2.out x5_1 p286 q286
      obtain rfl : ad284 = ad286 := (by injection e286)
      replace hx286_0 := (HB.out.cell (World.block_lt_of_cell? w _ hx286_0)).trans hx286_0
      replace p286 := eq_true p286
      replace q286 := eq_true q286
      go_wp2
      repeat (go_quiet (fail); try go_wp2)
      go_roundg k1
      case measure => have := HK1.out; omega
      case rel => exact ⟨(wrap64 (x3_1 + (wrap64 ((rd l0_2 x5_1) * (rd l0_1 x5_1))))), (wrap64 (x4_1 + (rd l0_2 x5_1))), (wrap64 (x5_1 + 1)), rs_, rs_, rs_, H', ⟨by have := HK1.out; omega⟩, ⟨by (with_reducible repeat (first | refine blk_drewN ?_ _ | refine blk_drew ?_ | refine blk_alloc ?_ _)); exact BK282.out⟩, ⟨by (with_reducible repeat (first | refine blk_drewN ?_ _ | refine blk_drew ?_ | refine blk_alloc ?_ _)); exact BK283.out⟩, ⟨hb_ HB⟩⟩
     ·rw [if_neg c6] at H
      exact absurd H (by simp)
    ·rw [if_neg c5] at H
     exact absurd H (by simp)
   ·rw [if_neg c4] at H
    have c4b0 : decide (x5_1 < (l0_1.length : Int)) = false := decide_eq_false c4
    clear c4
    replace H := Option.bind_eq_some_iff.mp H
    obtain ⟨⟨t287, t288⟩, A90, H⟩ := H
    replace H : (some (t287, t288)) = some (r1, r2) := H
    have A9 := Aside0.mk A90
    clear A90
    simp only [Option.some.injEq, Prod.mk.injEq] at H
    obtain ⟨rfl, rfl⟩ := H
    have hnb10 := NB282_283.out
    have hnc10 := NB283_282.out
    have hcz11_0 : wr.cell? ⟨gb282, 0, none⟩ = some (.slice A0_0 l0_0.length c0_0) := (blk_cell BK282.out 0).trans rfl
    have hcz11_1 : wr.cell? ⟨gb282, 1, none⟩ = some (.slice A0_1 l0_1.length c0_1) := (blk_cell BK282.out 1).trans rfl
    have hcz11_2 : wr.cell? ⟨gb282, 2, none⟩ = some (.slice A0_2 l0_2.length c0_2) := (blk_cell BK282.out 2).trans rfl
    have hfz11_0 := blk_frozen BK282.out 0
    have hfz11_1 := blk_frozen BK282.out 1
    have hfz11_2 := blk_frozen BK282.out 2
    go_wp2_with (first | (go_at_call 43; (with_reducible refine (speculumbase_Lowest.calls k1 x3_1 x4_1 t287 t288 _ A9.out).mono ?_); rintro e w12 ⟨rfl, hb⟩; have n0_ := Aside0.mk (bb_ BK282 hb); have n1_ := Aside0.mk (bb_ BK283 hb); have n2_ := Aside0.mk (below_step (hb_ HB) hb); clear BK282; clear BK283; clear HB; have BK282 := n0_; have BK283 := n1_; have HB := n2_; clear n0_ n1_ n2_; (try clear hb); (try clear hb2); (try clear hk); (try clear hi); have hcz13_0 : w12.cell? ⟨gb283, 0, none⟩ = some (.int .i64 0) := (blk_cell BK283.out 0).trans rfl; have hcz13_1 : w12.cell? ⟨gb283, 1, none⟩ = some (.int .i64 0) := (blk_cell BK283.out 1).trans rfl; have hfz13_0 := blk_frozen BK283.out 0; have hfz13_1 := blk_frozen BK283.out 1))
    repeat (go_quiet (first | (go_at_call 43; (with_reducible refine (speculumbase_Lowest.calls k1 x3_1 x4_1 t287 t288 _ A9.out).mono ?_); rintro e w12 ⟨rfl, hb⟩; have n0_ := Aside0.mk (bb_ BK282 hb); have n1_ := Aside0.mk (bb_ BK283 hb); have n2_ := Aside0.mk (below_step (hb_ HB) hb); clear BK282; clear BK283; clear HB; have BK282 := n0_; have BK283 := n1_; have HB := n2_; clear n0_ n1_ n2_; (try clear hb); (try clear hb2); (try clear hk); (try clear hi); have hcz13_0 : w12.cell? ⟨gb283, 0, none⟩ = some (.int .i64 0) := (blk_cell BK283.out 0).trans rfl; have hcz13_1 : w12.cell? ⟨gb283, 1, none⟩ = some (.int .i64 0) := (blk_cell BK283.out 1).trans rfl; have hfz13_0 := blk_frozen BK283.out 0; have hfz13_1 := blk_frozen BK283.out 1)); try go_wp2_with (first | (go_at_call 43; (with_reducible refine (speculumbase_Lowest.calls k1 x3_1 x4_1 t287 t288 _ A9.out).mono ?_); rintro e w12 ⟨rfl, hb⟩; have n0_ := Aside0.mk (bb_ BK282 hb); have n1_ := Aside0.mk (bb_ BK283 hb); have n2_ := Aside0.mk (below_step (hb_ HB) hb); clear BK282; clear BK283; clear HB; have BK282 := n0_; have BK283 := n1_; have HB := n2_; clear n0_ n1_ n2_; (try clear hb); (try clear hb2); (try clear hk); (try clear hi); have hcz13_0 : w12.cell? ⟨gb283, 0, none⟩ = some (.int .i64 0) := (blk_cell BK283.out 0).trans rfl; have hcz13_1 : w12.cell? ⟨gb283, 1, none⟩ = some (.int .i64 0) := (blk_cell BK283.out 1).trans rfl; have hfz13_0 := blk_frozen BK283.out 0; have hfz13_1 := blk_frozen BK283.out 1)))
    refine bodyPost_ret (results_cell_row rfl _ _ gb283 28 #[.int .i64 t287, .int .i64 t288] (0, 0) _ rfl (by (with_reducible repeat (first | refine blk_drewN ?_ _ | refine blk_drew ?_ | refine blk_alloc ?_ _)); refine blk_put (cs := #[.int .i64 t287, .int .i64 0]) ?_ 1 _ rfl; (with_reducible repeat (first | refine blk_drewN ?_ _ | refine blk_drew ?_ | refine blk_alloc ?_ _)); refine blk_put (cs := #[.int .i64 0, .int .i64 0]) ?_ 0 _ rfl; (with_reducible repeat (first | refine blk_drewN ?_ _ | refine blk_drew ?_ | refine blk_alloc ?_ _)); exact BK283.out) Try.underlying28 rfl (by kernel_rfl)) rfl ?_
    exact ⟨ew_, hb_ HB⟩
theorem tz_W {n : Nat} (h1 : 1 ≤ n) (h2 : n ≤ 9223372036854775807) (z : Int) : speculumbase_Within.f z 0 ((n : Int) - 1) = some (tzB n z) := by
  unfold speculumbase_Within.f tzB
  rw [show wrap64 ((n : Int) - 1) = (n : Int) - 1 by unfold wrap64; omega]
  split <;> rfl
def negL (R : Int → Option (Int × Int)) : List Nat → Option (Option Nat)
  | [] => some none
  | i :: l => (R (i : Int)).bind fun x => if x.1 < 0 then some (some i) else negL R l
def rcV (l1 : List Int) (a4 a5 m1 m2 : Int) : Int × Int := if wrap64 ((rd l1 a4) * m2) > m1 then (0, 22) else if wrap64 ((rd l1 a5) * m2) < m1 then (0, 22) else (0, 0)
def rcT (R : Int → Option (Int × Int)) (M : Option (Int × Int)) (l1 : List Int) (a4 a5 : Int) : Option (Int × Int) :=
  M.bind fun m => (R a4).bind fun x => if x.1 = 0 then ((R a5).bind fun y => if y.1 = 0 then some (rcV l1 a4 a5 m.1 m.2) else some (0, 22)) else some (0, 22)
def rcA (R : Int → Option (Int × Int)) (M : Option (Int × Int)) (n : Nat) (l1 : List Int) (a4 a5 : Int) : Option (Int × Int) :=
  (negL R (List.range' 0 n)).bind fun o => match o with
    | some i => some ((i : Int), 26)
    | none => if tzB n a4 = true then (if tzB n a5 = true then rcT R M l1 a4 a5 else some (0, 6)) else some (0, 6)
def speculumref06_CheckReference.f (k : Nat) (l0_0 : List Int) (l0_1 : List Int) (l0_2 : List Int) (a1_0 : Int) (a1_1 : Int) (a1_2 : Int) (a1_3 : Int) (a1_4 : Int) (a1_5 : Int) : Option (Int × Int) :=
  if 1 ≤ l0_0.length then rcA (speculumref06_Removal.f k l0_0 l0_1 l0_2 a1_0 a1_1 a1_2 a1_3 a1_4 a1_5) (speculumref06_Mean.f k l0_0 l0_1 l0_2) l0_0.length l0_1 a1_4 a1_5 else none
theorem rem_bd {k : Nat} {l0 l1 l2 : List Int} {a0 a1 a2 a3 a4 a5 i : Int} {x : Int × Int} (h : speculumref06_Removal.f k l0 l1 l2 a0 a1 a2 a3 a4 a5 i = some x) : 0 ≤ i ∧ i < (l0.length : Int) ∧ i < (l1.length : Int) := by
  unfold speculumref06_Removal.f at h
  split at h
  · rename_i h0
    split at h
    · rename_i h1
      split at h
      · rename_i h2; exact ⟨h0, h1, h2⟩
      · cases h
    · cases h
  · cases h
set_option maxHeartbeats 8000000 in
set_option maxRecDepth 100000 in
theorem speculumref06_CheckReference.calls (k : Nat) (A0_0 : Option Addr) (c0_0 : Nat) (l0_0 : List Int) (A0_1 : Option Addr) (c0_1 : Nat) (l0_1 : List Int) (A0_2 : Option Addr) (c0_2 : Nat) (l0_2 : List Int) (a1_0 : Int) (a1_1 : Int) (a1_2 : Int) (a1_3 : Int) (a1_4 : Int) (a1_5 : Int) (r1 : Int) (r2 : Int) (w : World) (hr0_0 : Kd.C (Kd.int .i64) w A0_0 l0_0.length l0_0) (hc0_0 : l0_0.length ≤ c0_0) (hr0_1 : Kd.C (Kd.int .i64) w A0_1 l0_1.length l0_1) (hc0_1 : l0_1.length ≤ c0_1) (hr0_2 : Kd.C (Kd.int .i64) w A0_2 l0_2.length l0_2) (hc0_2 : l0_2.length ≤ c0_2) (h : speculumref06_CheckReference.f k l0_0 l0_1 l0_2 a1_0 a1_1 a1_2 a1_3 a1_4 a1_5 = some (r1, r2)) :
    Calls Try.prog 41 #[.agg #[.slice A0_0 l0_0.length c0_0, .slice A0_1 l0_1.length c0_1, .slice A0_2 l0_2.length c0_2], .agg #[.int .i64 a1_0, .int .i64 a1_1, .int .i64 a1_2, .int .i64 a1_3, .int .i64 a1_4, .int .i64 a1_5]] w fun e w' => e = .returned (.tuple #[.int .i64 r1, .int .i64 r2]) ∧ Below w.heap.size w w' := by
  have hu24 := Try.underlying24
  have hu50 := Try.underlying50
  have hu28 := Try.underlying28
  have hu48 := Try.underlying48
  have HR0 := Aside0.mk hr0_0
  have HR1 := Aside0.mk hr0_1
  have HR2 := Aside0.mk hr0_2
  have HC0 := Aside0.mk hc0_0
  have HC1 := Aside0.mk hc0_1
  have HC2 := Aside0.mk hc0_2
  have hmax := Kd.C_max hr0_0
  clear hr0_0 hr0_1 hr0_2 hc0_0 hc0_1 hc0_2
  unfold speculumref06_CheckReference.f at h
  by_cases hone : 1 ≤ l0_0.length
  case neg => rw [if_neg hone] at h; cases h
  rw [if_pos hone] at h
  unfold rcA at h
  obtain ⟨o, ho, h⟩ := Option.bind_eq_some_iff.mp h
  have HO := Aside0.mk ho
  have HV := Aside0.mk h
  clear ho h
  have W0 : CRw w #[.slice A0_0 l0_0.length c0_0, .slice A0_1 l0_1.length c0_1, .slice A0_2 l0_2.length c0_2] #[.int .i64 a1_0, .int .i64 a1_1, .int .i64 a1_2, .int .i64 a1_3, .int .i64 a1_4, .int .i64 a1_5] ((w.alloc (.cells #[.slice A0_0 l0_0.length c0_0, .slice A0_1 l0_1.length c0_1, .slice A0_2 l0_2.length c0_2] 24)).alloc (.cells #[.int .i64 a1_0, .int .i64 a1_1, .int .i64 a1_2, .int .i64 a1_3, .int .i64 a1_4, .int .i64 a1_5] 50)) :=
    ⟨blk_alloc (blk_new _ _) _, by have := blk_new (w.alloc (.cells #[.slice A0_0 l0_0.length c0_0, .slice A0_1 l0_1.length c0_1, .slice A0_2 l0_2.length c0_2] 24)) (.cells #[.int .i64 a1_0, .int .i64 a1_1, .int .i64 a1_2, .int .i64 a1_3, .int .i64 a1_4, .int .i64 a1_5] 50); rwa [World.size_alloc] at this, ((Below.refl _ _).alloc (Nat.le_refl _) _).alloc (by simp) _⟩
  have hfd : ∀ (a b : Int) (W : World), (Instr.field 28 (.agg #[.int .i64 a, .int .i64 b]) 0).run Try.prog W = .ok (.int .i64 a) W := fun _ _ _ => by kernel_rfl
  go_enter Try.func41, Try.ntmps41
  go_wp2
  go_loopw [7] (fun i wr => CRw w #[.slice A0_0 l0_0.length c0_0, .slice A0_1 l0_1.length c0_1, .slice A0_2 l0_2.length c0_2] #[.int .i64 a1_0, .int .i64 a1_1, .int .i64 a1_2, .int .i64 a1_3, .int .i64 a1_4, .int .i64 a1_5] wr ∧ ∃ j : Nat, j ≤ l0_0.length ∧ i = .int .i64 j ∧ Aside0 (negL (speculumref06_Removal.f k l0_0 l0_1 l0_2 a1_0 a1_1 a1_2 a1_3 a1_4 a1_5) (List.range' j (l0_0.length - j)) = some o)) (fun i _ => l0_0.length - (intOf i).toNat)
  case atStart => exact ⟨W0, 0, Nat.zero_le _, rfl, HO⟩
  case round =>
    clear W0 HO
    obtain ⟨hW, j, hj, rfl, HJ⟩ := hrel
    by_cases hlt : j < l0_0.length
    · have hneg := HJ.out
      rw [show l0_0.length - j = (l0_0.length - (j + 1)) + 1 by omega, List.range'_succ, negL] at hneg
      obtain ⟨⟨x1, x2⟩, hx, hneg⟩ := Option.bind_eq_some_iff.mp hneg
      have HX := Aside0.mk hx
      dsimp only at hneg
      have HNG := Aside0.mk hneg
      clear hx hneg HJ
      have c00 := (blk_cell hW.b0 0).trans rfl
      have c01 := (blk_cell hW.b0 1).trans rfl
      have c02 := (blk_cell hW.b0 2).trans rfl
      have c10 := (blk_cell hW.b1 0).trans rfl
      have c11 := (blk_cell hW.b1 1).trans rfl
      have c12 := (blk_cell hW.b1 2).trans rfl
      have c13 := (blk_cell hW.b1 3).trans rfl
      have c14 := (blk_cell hW.b1 4).trans rfl
      have c15 := (blk_cell hW.b1 5).trans rfl
      by_cases hn : x1 < 0
      · have ho : some (some j) = some o := by have := HNG.out; rwa [if_pos hn] at this
        obtain rfl := Option.some.inj ho
        have hv : ((j : Int), (26 : Int)) = (r1, r2) := Option.some.inj HV.out
        simp only [Prod.mk.injEq] at hv
        obtain ⟨e1, e2⟩ := hv
        have E1 := Aside0.mk e1
        have E2 := Aside0.mk e2
        have hd : decide (x1 < 0) = true := decide_eq_true hn
        clear hn ho e1 e2 HV HNG
        go_wp2_with (go_at_call 33; refine (speculumref06_Removal.calls k _ _ l0_0 _ _ l0_1 _ _ l0_2 a1_0 a1_1 a1_2 a1_3 a1_4 a1_5 (j : Int) x1 x2 _ (Kd.C_below HR0.out hW.bel) HC0.out (Kd.C_below HR1.out hW.bel) HC1.out (Kd.C_below HR2.out hW.bel) HC2.out HX.out).mono ?_; rintro e w' ⟨rfl, hb⟩)
        go_ret2
        rw [← E1.out, ← E2.out]
        exact ⟨rfl, (hW.below hb).bel⟩
      · have HJ2 : Aside0 (negL (speculumref06_Removal.f k l0_0 l0_1 l0_2 a1_0 a1_1 a1_2 a1_3 a1_4 a1_5) (List.range' (j + 1) (l0_0.length - (j + 1))) = some o) := ⟨by have := HNG.out; rwa [if_neg hn] at this⟩
        have hd : decide (x1 < 0) = false := decide_eq_false hn
        clear hn HNG
        go_wp2_with (go_at_call 33; refine (speculumref06_Removal.calls k _ _ l0_0 _ _ l0_1 _ _ l0_2 a1_0 a1_1 a1_2 a1_3 a1_4 a1_5 (j : Int) x1 x2 _ (Kd.C_below HR0.out hW.bel) HC0.out (Kd.C_below HR1.out hW.bel) HC1.out (Kd.C_below HR2.out hW.bel) HC2.out HX.out).mono ?_; rintro e w' ⟨rfl, hb⟩)
        go_roundw
        case rel => exact ⟨hW.below hb, j + 1, by omega, by go_num, HJ2⟩
        case measure => simp [intOf]; omega
    · obtain rfl : j = l0_0.length := by omega
      have ho : some none = some o := by have := HJ.out; rwa [Nat.sub_self] at this
      obtain rfl := Option.some.inj ho
      have HV2 : Aside0 ((if tzB l0_0.length a1_4 = true then (if tzB l0_0.length a1_5 = true then rcT (speculumref06_Removal.f k l0_0 l0_1 l0_2 a1_0 a1_1 a1_2 a1_3 a1_4 a1_5) (speculumref06_Mean.f k l0_0 l0_1 l0_2) l0_1 a1_4 a1_5 else some (0, 6)) else some (0, 6)) = some (r1, r2)) := ⟨HV.out⟩
      clear HJ hlt ho HV hj
      go_wp2
      obtain ⟨wo, rfl⟩ : ∃ wo : World, wo = wr := ⟨_, rfl⟩
      go_loopw [8] (fun i wr => CRw w #[.slice A0_0 l0_0.length c0_0, .slice A0_1 l0_1.length c0_1, .slice A0_2 l0_2.length c0_2] #[.int .i64 a1_0, .int .i64 a1_1, .int .i64 a1_2, .int .i64 a1_3, .int .i64 a1_4, .int .i64 a1_5] wr ∧ ((i = .int .i64 0) ∨ (i = .int .i64 1 ∧ tzB l0_0.length a1_4 = true) ∨ (i = .int .i64 2 ∧ tzB l0_0.length a1_4 = true ∧ tzB l0_0.length a1_5 = true))) (fun i _ => 2 - (intOf i).toNat)
      case atStart => exact ⟨hW, .inl rfl⟩
      case round =>
        clear hW
        obtain ⟨hW, hrel⟩ := hrel
        rcases hrel with rfl | ⟨rfl, g0⟩ | ⟨rfl, g0, g1⟩
        · have c14 := (blk_cell hW.b1 4).trans rfl
          have c15 := (blk_cell hW.b1 5).trans rfl
          cases ht : tzB l0_0.length a1_4 with
          | true =>
            have HT := Aside0.mk ((tz_W hone hmax a1_4).trans (congrArg some ht))
            have HT2 := Aside0.mk ht
            clear ht
            go_wp2_with (go_at_call 28; refine (speculumbase_Within.calls _ _ _ true _ HT.out).mono ?_; rintro e w' ⟨rfl, ⟨nd, rfl⟩⟩)
            go_roundw
            case rel => exact ⟨hW.drewN nd, .inr (.inl ⟨rfl, by first | trivial | exact HT2.out⟩)⟩
            case measure => simp [intOf]
          | false =>
            have HT := Aside0.mk ((tz_W hone hmax a1_4).trans (congrArg some ht))
            have hv : some ((0 : Int), (6 : Int)) = some (r1, r2) := by rw [← HV2.out, ht]; rfl
            simp only [Option.some.injEq, Prod.mk.injEq] at hv
            obtain ⟨rfl, rfl⟩ := hv
            clear ht HV2
            go_wp2_with (go_at_call 28; refine (speculumbase_Within.calls _ _ _ false _ HT.out).mono ?_; rintro e w' ⟨rfl, ⟨nd, rfl⟩⟩)
            go_ret2
            exact ⟨rfl, (hW.drewN nd).bel⟩
        · have G0 := Aside0.mk g0
          clear g0
          have c14 := (blk_cell hW.b1 4).trans rfl
          have c15 := (blk_cell hW.b1 5).trans rfl
          cases ht : tzB l0_0.length a1_5 with
          | true =>
            have HT := Aside0.mk ((tz_W hone hmax a1_5).trans (congrArg some ht))
            have HT2 := Aside0.mk ht
            clear ht
            go_wp2_with (go_at_call 28; refine (speculumbase_Within.calls _ _ _ true _ HT.out).mono ?_; rintro e w' ⟨rfl, ⟨nd, rfl⟩⟩)
            go_roundw
            case rel => exact ⟨hW.drewN nd, .inr (.inr ⟨rfl, by first | trivial | exact G0.out, by first | trivial | exact HT2.out⟩)⟩
            case measure => simp [intOf]
          | false =>
            have HT := Aside0.mk ((tz_W hone hmax a1_5).trans (congrArg some ht))
            have hv : some ((0 : Int), (6 : Int)) = some (r1, r2) := by rw [← HV2.out, G0.out, ht]; rfl
            simp only [Option.some.injEq, Prod.mk.injEq] at hv
            obtain ⟨rfl, rfl⟩ := hv
            clear ht HV2
            go_wp2_with (go_at_call 28; refine (speculumbase_Within.calls _ _ _ false _ HT.out).mono ?_; rintro e w' ⟨rfl, ⟨nd, rfl⟩⟩)
            go_ret2
            exact ⟨rfl, (hW.drewN nd).bel⟩
        · have hv3 : rcT (speculumref06_Removal.f k l0_0 l0_1 l0_2 a1_0 a1_1 a1_2 a1_3 a1_4 a1_5) (speculumref06_Mean.f k l0_0 l0_1 l0_2) l0_1 a1_4 a1_5 = some (r1, r2) := by rw [← HV2.out, if_pos g0, if_pos g1]
          clear HV2 g0 g1
          unfold rcT at hv3
          obtain ⟨⟨m1, m2⟩, hm, hv3⟩ := Option.bind_eq_some_iff.mp hv3
          obtain ⟨⟨x1, x2⟩, hx, hv3⟩ := Option.bind_eq_some_iff.mp hv3
          have HM := Aside0.mk hm
          have HX := Aside0.mk hx
          have hv3' : (if x1 = 0 then ((speculumref06_Removal.f k l0_0 l0_1 l0_2 a1_0 a1_1 a1_2 a1_3 a1_4 a1_5 a1_5).bind fun y => if y.1 = 0 then some (rcV l0_1 a1_4 a1_5 m1 m2) else some (0, 22)) else some (0, 22)) = some (r1, r2) := hv3
          have HV3 := Aside0.mk hv3'
          clear hm hx hv3 hv3'
          have c00 := (blk_cell hW.b0 0).trans rfl
          have c01 := (blk_cell hW.b0 1).trans rfl
          have c02 := (blk_cell hW.b0 2).trans rfl
          go_wp2_with (go_at_call 20; refine (speculumref06_Mean.calls k _ _ l0_0 _ _ l0_1 _ _ l0_2 m1 m2 _ (Kd.C_below HR0.out hW.bel) HC0.out (Kd.C_below HR1.out hW.bel) HC1.out (Kd.C_below HR2.out hW.bel) HC2.out HM.out).mono ?_; rintro e w3 ⟨rfl, hb3⟩; have W3 := hW.below hb3; have W4 := W3.alloc (.cells #[.int .i64 m1, .int .i64 m2] 28); have S4 := blk_new w3 (.cells #[.int .i64 m1, .int .i64 m2] 28); clear hW hb3 c00 c01 c02)
          obtain ⟨gs, hgs⟩ : ∃ gs, gs = w3.heap.size := ⟨_, rfl⟩
          rw [← hgs] at S4
          rw [← hgs]
          clear hgs W3
          generalize w3.alloc (.cells #[.int .i64 m1, .int .i64 m2] 28) = w4 at *
          go_loopw [10] (fun i wr => CRw w #[.slice A0_0 l0_0.length c0_0, .slice A0_1 l0_1.length c0_1, .slice A0_2 l0_2.length c0_2] #[.int .i64 a1_0, .int .i64 a1_1, .int .i64 a1_2, .int .i64 a1_3, .int .i64 a1_4, .int .i64 a1_5] wr ∧ wr.heap[gs]? = some (.cells #[.int .i64 m1, .int .i64 m2] 28 (0, 0)) ∧ ((i = .int .i64 0) ∨ (i = .int .i64 1 ∧ x1 = 0) ∨ (i = .int .i64 2 ∧ Aside0 (0 ≤ a1_5 ∧ a1_5 < (l0_1.length : Int)) ∧ Aside0 (rcV l0_1 a1_4 a1_5 m1 m2 = (r1, r2))))) (fun i _ => 2 - (intOf i).toNat)
          case atStart => exact ⟨W4, S4, .inl rfl⟩
          case round =>
            clear W4 S4
            obtain ⟨hW, hS, hrel⟩ := hrel
            rcases hrel with rfl | ⟨rfl, g0⟩ | ⟨rfl, ⟨g5⟩, ⟨gv⟩⟩
            · have hq : x1 = 0 ∨ (x1 != 0) = true := by by_cases h : x1 = 0 <;> simp [h]
              have c00 := (blk_cell hW.b0 0).trans rfl
              have c01 := (blk_cell hW.b0 1).trans rfl
              have c02 := (blk_cell hW.b0 2).trans rfl
              have c10 := (blk_cell hW.b1 0).trans rfl
              have c11 := (blk_cell hW.b1 1).trans rfl
              have c12 := (blk_cell hW.b1 2).trans rfl
              have c13 := (blk_cell hW.b1 3).trans rfl
              have c14 := (blk_cell hW.b1 4).trans rfl
              have c15 := (blk_cell hW.b1 5).trans rfl
              rcases hq with hq | hq
              · subst hq
                go_wp2
                go_still_tail 6, (by kernel_rfl)
                change wpList _ _ _ _ _ wr.drew
                have W6 := hW.drew
                have S6 := blk_drew hS
                clear hW hS c00 c01 c02 c10 c11 c12 c13 c14 c15
                generalize wr.drew = w6 at *
                go_wp2_with (go_at_call 33; refine (speculumref06_Removal.calls k _ _ l0_0 _ _ l0_1 _ _ l0_2 a1_0 a1_1 a1_2 a1_3 a1_4 a1_5 a1_4 0 x2 _ (Kd.C_below HR0.out W6.bel) HC0.out (Kd.C_below HR1.out W6.bel) HC1.out (Kd.C_below HR2.out W6.bel) HC2.out HX.out).mono ?_; rintro e w7 ⟨rfl, hb7⟩; have W7 := W6.below hb7; have S7 := blk_below S6 hb7; clear W6 S6 hb7)
                go_roundw
                case rel => exact ⟨W7, S7, .inr (.inl ⟨rfl, by first | trivial | rfl⟩)⟩
                case measure => simp [intOf]
              · have hv : some ((0 : Int), (22 : Int)) = some (r1, r2) := by rw [← HV3.out, if_neg (by simpa using hq)]
                simp only [Option.some.injEq, Prod.mk.injEq] at hv
                obtain ⟨rfl, rfl⟩ := hv
                clear HV3
                go_wp2
                go_still_tail 6, (by kernel_rfl)
                change wpList _ _ _ _ _ wr.drew
                have W6 := hW.drew
                have S6 := blk_drew hS
                clear hW hS c00 c01 c02 c10 c11 c12 c13 c14 c15
                generalize wr.drew = w6 at *
                go_wp2_with (go_at_call 33; refine (speculumref06_Removal.calls k _ _ l0_0 _ _ l0_1 _ _ l0_2 a1_0 a1_1 a1_2 a1_3 a1_4 a1_5 a1_4 x1 x2 _ (Kd.C_below HR0.out W6.bel) HC0.out (Kd.C_below HR1.out W6.bel) HC1.out (Kd.C_below HR2.out W6.bel) HC2.out HX.out).mono ?_; rintro e w7 ⟨rfl, hb7⟩; have W7 := W6.below hb7; have S7 := blk_below S6 hb7; clear W6 S6 hb7)
                go_ret2
                exact ⟨rfl, W7.bel⟩
            · subst g0
              obtain ⟨⟨y1, y2⟩, hy, hv4⟩ := Option.bind_eq_some_iff.mp (show ((speculumref06_Removal.f k l0_0 l0_1 l0_2 a1_0 a1_1 a1_2 a1_3 a1_4 a1_5 a1_5).bind fun y => if y.1 = 0 then some (rcV l0_1 a1_4 a1_5 m1 m2) else some (0, 22)) = some (r1, r2) from HV3.out)
              have HY := Aside0.mk hy
              have hv4' : (if y1 = 0 then some (rcV l0_1 a1_4 a1_5 m1 m2) else some (0, 22)) = some (r1, r2) := hv4
              have HV4 := Aside0.mk hv4'
              clear hy hv4 hv4' HV3
              have hq : y1 = 0 ∨ (y1 != 0) = true := by by_cases h : y1 = 0 <;> simp [h]
              have c00 := (blk_cell hW.b0 0).trans rfl
              have c01 := (blk_cell hW.b0 1).trans rfl
              have c02 := (blk_cell hW.b0 2).trans rfl
              have c10 := (blk_cell hW.b1 0).trans rfl
              have c11 := (blk_cell hW.b1 1).trans rfl
              have c12 := (blk_cell hW.b1 2).trans rfl
              have c13 := (blk_cell hW.b1 3).trans rfl
              have c14 := (blk_cell hW.b1 4).trans rfl
              have c15 := (blk_cell hW.b1 5).trans rfl
              rcases hq with hq | hq
              · subst hq
                have HV5 : Aside0 (rcV l0_1 a1_4 a1_5 m1 m2 = (r1, r2)) := ⟨Option.some.inj HV4.out⟩
                have B5 := (Aside0.mk ⟨(rem_bd HY.out).1, (rem_bd HY.out).2.2⟩ : Aside0 (0 ≤ a1_5 ∧ a1_5 < (l0_1.length : Int)))
                go_wp2
                go_still_tail 6, (by kernel_rfl)
                change wpList _ _ _ _ _ wr.drew
                have W6 := hW.drew
                have S6 := blk_drew hS
                clear hW hS c00 c01 c02 c10 c11 c12 c13 c14 c15
                generalize wr.drew = w6 at *
                go_wp2_with (go_at_call 33; refine (speculumref06_Removal.calls k _ _ l0_0 _ _ l0_1 _ _ l0_2 a1_0 a1_1 a1_2 a1_3 a1_4 a1_5 a1_5 0 y2 _ (Kd.C_below HR0.out W6.bel) HC0.out (Kd.C_below HR1.out W6.bel) HC1.out (Kd.C_below HR2.out W6.bel) HC2.out HY.out).mono ?_; rintro e w7 ⟨rfl, hb7⟩; have W7 := W6.below hb7; have S7 := blk_below S6 hb7; clear W6 S6 hb7)
                go_roundw
                case rel => exact ⟨W7, S7, .inr (.inr ⟨rfl, B5, HV5⟩)⟩
                case measure => simp [intOf]
              · have hv : some ((0 : Int), (22 : Int)) = some (r1, r2) := by rw [← HV4.out, if_neg (by simpa using hq)]
                simp only [Option.some.injEq, Prod.mk.injEq] at hv
                obtain ⟨rfl, rfl⟩ := hv
                clear HV4
                go_wp2
                go_still_tail 6, (by kernel_rfl)
                change wpList _ _ _ _ _ wr.drew
                have W6 := hW.drew
                have S6 := blk_drew hS
                clear hW hS c00 c01 c02 c10 c11 c12 c13 c14 c15
                generalize wr.drew = w6 at *
                go_wp2_with (go_at_call 33; refine (speculumref06_Removal.calls k _ _ l0_0 _ _ l0_1 _ _ l0_2 a1_0 a1_1 a1_2 a1_3 a1_4 a1_5 a1_5 y1 y2 _ (Kd.C_below HR0.out W6.bel) HC0.out (Kd.C_below HR1.out W6.bel) HC1.out (Kd.C_below HR2.out W6.bel) HC2.out HY.out).mono ?_; rintro e w7 ⟨rfl, hb7⟩; have W7 := W6.below hb7; have S7 := blk_below S6 hb7; clear W6 S6 hb7)
                go_ret2
                exact ⟨rfl, W7.bel⟩
            · have b4 := rem_bd HX.out
              have hz0 := b4.1
              have hz1 := b4.2.2
              clear b4 HV3
              have c01 := (blk_cell hW.b0 1).trans rfl
              have c14 := (blk_cell hW.b1 4).trans rfl
              have c15 := (blk_cell hW.b1 5).trans rfl
              have s0 := (blk_cell hS 0).trans rfl
              have s1 := (blk_cell hS 1).trans rfl
              obtain ⟨ad, ea, hx4⟩ := Kd.at_int (Kd.C_below HR1.out hW.bel) a1_4 hz0 hz1
              obtain ⟨ad', ea', hx5⟩ := Kd.at_int (Kd.C_below HR1.out hW.bel) a1_5 g5.1 g5.2
              obtain rfl : ad = ad' := by rw [ea] at ea'; exact Option.some.inj ea'
              subst ea
              clear ea'
              have g50 := g5.1
              have g51 := g5.2
              clear g5
              have GV := Aside0.mk gv
              clear gv
              by_cases h4 : wrap64 ((rd l0_1 a1_4) * m2) > m1
              · have hv : ((0 : Int), (22 : Int)) = (r1, r2) := by rw [← GV.out]; unfold rcV; rw [if_pos h4]
                simp only [Prod.mk.injEq] at hv
                obtain ⟨rfl, rfl⟩ := hv
                have h4' : decide (m1 < wrap64 ((rd l0_1 a1_4) * m2)) = true := decide_eq_true h4
                clear h4 GV
                go_wp2
                go_quiet (fail)
                go_wp2
                go_ret2
                exact ⟨rfl, (hW.drewN _).bel⟩
              · by_cases h5 : wrap64 ((rd l0_1 a1_5) * m2) < m1
                · have hv : ((0 : Int), (22 : Int)) = (r1, r2) := by rw [← GV.out]; unfold rcV; rw [if_neg h4, if_pos h5]
                  simp only [Prod.mk.injEq] at hv
                  obtain ⟨rfl, rfl⟩ := hv
                  have h4' : decide (m1 < wrap64 ((rd l0_1 a1_4) * m2)) = false := decide_eq_false h4
                  have h5' : decide (wrap64 ((rd l0_1 a1_5) * m2) < m1) = true := decide_eq_true h5
                  clear h4 h5 GV
                  go_wp2
                  go_quiet (fail)
                  go_wp2
                  go_ret2
                  exact ⟨rfl, (hW.drewN _).bel⟩
                · have hv : ((0 : Int), (0 : Int)) = (r1, r2) := by rw [← GV.out]; unfold rcV; rw [if_neg h4, if_neg h5]
                  simp only [Prod.mk.injEq] at hv
                  obtain ⟨rfl, rfl⟩ := hv
                  have h4' : decide (m1 < wrap64 ((rd l0_1 a1_4) * m2)) = false := decide_eq_false h4
                  have h5' : decide (wrap64 ((rd l0_1 a1_5) * m2) < m1) = false := decide_eq_false h5
                  clear h4 h5 GV
                  go_wp2
                  go_quiet (fail)
                  go_wp2
                  go_ret2
                  exact ⟨rfl, (hW.drewN _).bel⟩
def fewB (n : Nat) : Bool := !(decide (10 < n) && decide (n ≤ 40) || decide (42 < n))
def speculumlaw06_Few.f (l0_0 : List Int) (l0_1 : List Int) (l0_2 : List Int) : Option (Bool) := some (fewB l0_0.length && fewB l0_1.length && fewB l0_2.length)
theorem few_true {n : Nat} (h : fewB n = true) : (n : Int) ≤ 10 ∨ ((40 : Int) < n ∧ (n : Int) ≤ 42) := by simp [fewB] at h; omega
theorem few_false {n : Nat} (h : fewB n = false) : ((10 : Int) < n ∧ (n : Int) ≤ 40) ∨ (42 : Int) < n := by simp [fewB] at h; omega
set_option maxHeartbeats 8000000 in
set_option maxRecDepth 100000 in
theorem speculumlaw06_Few.calls (A0_0 : Option Addr) (c0_0 : Nat) (l0_0 : List Int) (A0_1 : Option Addr) (c0_1 : Nat) (l0_1 : List Int) (A0_2 : Option Addr) (c0_2 : Nat) (l0_2 : List Int) (r : Bool) (w : World) (hr0_0 : Kd.C (Kd.int .i64) w A0_0 l0_0.length l0_0) (hc0_0 : l0_0.length ≤ c0_0) (hr0_1 : Kd.C (Kd.int .i64) w A0_1 l0_1.length l0_1) (hc0_1 : l0_1.length ≤ c0_1) (hr0_2 : Kd.C (Kd.int .i64) w A0_2 l0_2.length l0_2) (hc0_2 : l0_2.length ≤ c0_2) (h : speculumlaw06_Few.f l0_0 l0_1 l0_2 = some r) :
  Calls Try.prog 15 #[.agg #[.slice A0_0 l0_0.length c0_0, .slice A0_1 l0_1.length c0_1, .slice A0_2 l0_2.length c0_2]] w fun e w' => e = .returned (.bool r) ∧ Below w.heap.size w w' := by
 have H := Option.some.inj h
 clear h hr0_0 hr0_1 hr0_2 hc0_0 hc0_1 hc0_2
 generalize l0_0.length = n0 at *
 generalize l0_1.length = n1 at *
 generalize l0_2.length = n2 at *
 go_enter Try.func15, Try.ntmps15
 go_wp2
 have i0 : ∀ w, (Instr.index 103 (.agg #[.int .i64 (n0 : Int), .int .i64 (n1 : Int), .int .i64 (n2 : Int)]) (.int .i64 0)).run Try.prog w = .ok (.int .i64 (n0 : Int)) w := fun _ => by kernel_rfl
 have i1 : ∀ w, (Instr.index 103 (.agg #[.int .i64 (n0 : Int), .int .i64 (n1 : Int), .int .i64 (n2 : Int)]) (.int .i64 1)).run Try.prog w = .ok (.int .i64 (n1 : Int)) w := fun _ => by kernel_rfl
 have i2 : ∀ w, (Instr.index 103 (.agg #[.int .i64 (n0 : Int), .int .i64 (n1 : Int), .int .i64 (n2 : Int)]) (.int .i64 2)).run Try.prog w = .ok (.int .i64 (n2 : Int)) w := fun _ => by kernel_rfl
 go_loop [15] (fun i => (i = .int .i64 0) ∨ (i = .int .i64 1 ∧ fewB n0 = true) ∨ (i = .int .i64 2 ∧ fewB n0 = true ∧ fewB n1 = true) ∨ (i = .int .i64 3 ∧ fewB n0 = true ∧ fewB n1 = true ∧ fewB n2 = true)) (fun i => 3 - (intOf i).toNat)
 case atStart => exact .inl rfl
 case round =>
  rcases hrel with rfl | ⟨rfl, h0⟩ | ⟨rfl, h0, h1⟩ | ⟨rfl, h0, h1, h2⟩
  ·cases hq : fewB n0 with
   | true =>
    rcases few_true hq with hd | ⟨hd, hd2⟩
    all_goals
     clear H
     go_wp2
     go_round
     case rel => exact .inr (.inl ⟨rfl, by first | trivial | exact hq⟩)
     case measure => simp [intOf]
   | false =>
    have R : r = false := by rw [← H, hq]; rfl
    subst R
    rcases few_false hq with ⟨hd, hd2⟩ | hd
    all_goals
     clear H
     go_wp2
     go_ret
     exact ⟨rfl, (Below.refl _ _).alloc (Nat.le_refl _) _⟩
  ·cases hq : fewB n1 with
   | true =>
    rcases few_true hq with hd | ⟨hd, hd2⟩
    all_goals
     clear H
     go_wp2
     go_round
     case rel => exact .inr (.inr (.inl ⟨rfl, by first | trivial | exact h0, by first | trivial | exact hq⟩))
     case measure => simp [intOf]
   | false =>
    have R : r = false := by rw [← H, hq]; simp
    subst R
    rcases few_false hq with ⟨hd, hd2⟩ | hd
    all_goals
     clear H
     go_wp2
     go_ret
     exact ⟨rfl, (Below.refl _ _).alloc (Nat.le_refl _) _⟩
  ·cases hq : fewB n2 with
   | true =>
    rcases few_true hq with hd | ⟨hd, hd2⟩
    all_goals
     clear H
     go_wp2
     go_round
     case rel => exact .inr (.inr (.inr ⟨rfl, by first | trivial | exact h0, by first | trivial | exact h1, by first | trivial | exact hq⟩))
     case measure => simp [intOf]
   | false =>
    have R : r = false := by rw [← H, hq]; simp
    subst R
    rcases few_false hq with ⟨hd, hd2⟩ | hd
    all_goals
     clear H
     go_wp2
     go_ret
     exact ⟨rfl, (Below.refl _ _).alloc (Nat.le_refl _) _⟩
  ·have R : r = true := by rw [← H, h0, h1, h2]; rfl
   subst R
   clear H
   go_wp2
   go_ret
   exact ⟨rfl, (Below.refl _ _).alloc (Nat.le_refl _) _⟩
def speculumbase_Floor.f (a0 : Int) (a1 : Int) : Option (Int) := if a1 = 0 then (none) else (if (Int.tmod a0 a1) < 0 then (some (wrap64 ((wrap64 (Int.tdiv a0 a1)) - 1))) else (some (wrap64 (Int.tdiv a0 a1))))
set_option maxHeartbeats 8000000 in
set_option maxRecDepth 100000 in
theorem speculumbase_Floor.calls (a0 : Int) (a1 : Int) (r : Int) (w : World) (h : speculumbase_Floor.f a0 a1 = some r) :
  Calls Try.prog 34 #[.int .i64 a0, .int .i64 a1] w fun e w' => e = .returned (.int .i64 r) ∧ Drawn0 w w' := by
 have H : (if a1 = 0 then (none) else (if (Int.tmod a0 a1) < 0 then (some (wrap64 ((wrap64 (Int.tdiv a0 a1)) - 1))) else (some (wrap64 (Int.tdiv a0 a1))))) = some r := h
 clear h
 by_cases c3 : a1 = 0
 ·rw [if_pos c3] at H
  exact absurd H (by simp)
 ·rw [if_neg c3] at H
  have c3b0 : (a1 == 0) = false := beq_eq_false_iff_ne.mpr c3
  have c3b1 : (a1 != 0) = true := bne_iff_ne.mpr c3
  by_cases c4 : (Int.tmod a0 a1) < 0
  ·rw [if_pos c4] at H
   have c4b0 : decide ((Int.tmod a0 a1) < 0) = true := decide_eq_true c4
   clear c4
   obtain rfl := Option.some.inj H
   go_enter Try.func34, Try.ntmps34
   go_wp2
   go_ret
   exact ⟨rs_, dn_⟩
  ·rw [if_neg c4] at H
   have c4b0 : decide ((Int.tmod a0 a1) < 0) = false := decide_eq_false c4
   clear c4
   obtain rfl := Option.some.inj H
   go_enter Try.func34, Try.ntmps34
   go_wp2
   go_ret
   exact ⟨rs_, dn_⟩
def speculumref06_less2.f (a0_0 : Int) (a0_1 : Int) (a1_0 : Int) (a1_1 : Int) : Option (Bool) := (speculumbase_Floor.f a0_0 a0_1).bind fun t533 => ((speculumbase_Floor.f a1_0 a1_1).bind fun t534 => (if t533 = t534 then (some (decide ((wrap64 ((wrap64 (a0_0 - (wrap64 (t533 * a0_1)))) * a1_1)) < (wrap64 ((wrap64 (a1_0 - (wrap64 (t534 * a1_1)))) * a0_1))))) else (some (decide (t533 < t534)))))
set_option maxHeartbeats 8000000 in
set_option maxRecDepth 100000 in
theorem speculumref06_less2.calls (a0_0 : Int) (a0_1 : Int) (a1_0 : Int) (a1_1 : Int) (r : Bool) (w : World) (h : speculumref06_less2.f a0_0 a0_1 a1_0 a1_1 = some r) :
  Calls Try.prog 81 #[.agg #[.int .i64 a0_0, .int .i64 a0_1], .agg #[.int .i64 a1_0, .int .i64 a1_1]] w fun e w' => e = .returned (.bool r) ∧ Below w.heap.size w w' := by
 have hu28 := Try.underlying28
 have HB := Aside0.mk (Below.refl w.heap.size w)
 have H : ((speculumbase_Floor.f a0_0 a0_1).bind fun t533 => ((speculumbase_Floor.f a1_0 a1_1).bind fun t534 => (if t533 = t534 then (some (decide ((wrap64 ((wrap64 (a0_0 - (wrap64 (t533 * a0_1)))) * a1_1)) < (wrap64 ((wrap64 (a1_0 - (wrap64 (t534 * a1_1)))) * a0_1))))) else (some (decide (t533 < t534)))))) = some r := h
 clear h
 replace H := Option.bind_eq_some_iff.mp H
 obtain ⟨t533, A30, H⟩ := H
 replace H : ((speculumbase_Floor.f a1_0 a1_1).bind fun t534 => (if t533 = t534 then (some (decide ((wrap64 ((wrap64 (a0_0 - (wrap64 (t533 * a0_1)))) * a1_1)) < (wrap64 ((wrap64 (a1_0 - (wrap64 (t534 * a1_1)))) * a0_1))))) else (some (decide (t533 < t534))))) = some r := H
 have A3 := Aside0.mk A30
 clear A30
 replace H := Option.bind_eq_some_iff.mp H
 obtain ⟨t534, A40, H⟩ := H
 replace H : (if t533 = t534 then (some (decide ((wrap64 ((wrap64 (a0_0 - (wrap64 (t533 * a0_1)))) * a1_1)) < (wrap64 ((wrap64 (a1_0 - (wrap64 (t534 * a1_1)))) * a0_1))))) else (some (decide (t533 < t534)))) = some r := H
 have A4 := Aside0.mk A40
 clear A40
 by_cases c5 : t533 = t534
 ·rw [if_pos c5] at H
  have c5b0 : (t533 == t534) = true := beq_iff_eq.mpr c5
  have c5b1 : (t533 != t534) = false := bne_eq_false_iff_eq.mpr c5
  clear c5
  obtain rfl := Option.some.inj H
  go_enter Try.func81, Try.ntmps81
  go_wp2_with (first | ((with_reducible refine gate_dst (N := 2) rfl ?_); refine box_event ?hg (N := 2) ?hd (cs := #[.int .i64 a0_0, .int .i64 a0_1]) (t := 28) ?hr ?_; (case hd => rfl); (case hg => rfl); (case hr => exact gr_); intro gb531 hg w6 hbox hb; have n0_ := Aside0.mk (below_step (hb_ HB) hb); have n1_ := Aside0.mk (hbox); have n2_ := Aside0.mk ((hz_ HB hg)); have n3_ := Aside0.mk ((hz_ HB hg)); clear HB; have HB := n0_; have BK531 := n1_; have GW531 := n2_; have GE531 := n3_; clear n0_ n1_ n2_ n3_; clear hb hbox hg) | ((with_reducible refine gate_dst (N := 3) rfl ?_); refine box_event ?hg (N := 3) ?hd (cs := #[.int .i64 a1_0, .int .i64 a1_1]) (t := 28) ?hr ?_; (case hd => rfl); (case hg => rfl); (case hr => exact gr_); intro gb532 hg w7 hbox hb; have n0_ := Aside0.mk (bb_ BK531 hb); have n1_ := Aside0.mk (below_step (hb_ HB) hb); have n2_ := Aside0.mk (hbox); have n3_ := Aside0.mk ((hz_ HB hg)); have n4_ := Aside0.mk ((hz_ HB hg)); have n5_ := Aside0.mk ((nl_ BK531 hg)); have n6_ := Aside0.mk ((ng_ BK531 hg)); clear BK531; clear HB; have BK531 := n0_; have HB := n1_; have BK532 := n2_; have GW532 := n3_; have GE532 := n4_; have NB531_532 := n5_; have NB532_531 := n6_; clear n0_ n1_ n2_ n3_ n4_ n5_ n6_; clear hb hbox hg; have hnb8 := NB531_532.out; have hnc8 := NB532_531.out; have hcz9_0 : w7.cell? ⟨gb531, 0, none⟩ = some (.int .i64 a0_0) := (blk_cell BK531.out 0).trans rfl; have hcz9_1 : w7.cell? ⟨gb531, 1, none⟩ = some (.int .i64 a0_1) := (blk_cell BK531.out 1).trans rfl; have hfz9_0 := blk_frozen BK531.out 0; have hfz9_1 := blk_frozen BK531.out 1) | (go_at_call 34; (with_reducible refine (speculumbase_Floor.calls a0_0 a0_1 t533 _ A3.out).mono ?_); rintro e w' ⟨rfl, ⟨nd, rfl⟩⟩; (try first | exact ⟨rfl, _, World.drewN_drewN _ _ _⟩ | exact ⟨rfl, _, Eq.trans (World.drewN_drewN _ _ _) (congrArg (World.drewN _) (Nat.add_assoc _ _ _))⟩); have hcz10_0 : w7.cell? ⟨gb532, 0, none⟩ = some (.int .i64 a1_0) := (blk_cell BK532.out 0).trans rfl; have hcz10_1 : w7.cell? ⟨gb532, 1, none⟩ = some (.int .i64 a1_1) := (blk_cell BK532.out 1).trans rfl; have hfz10_0 := blk_frozen BK532.out 0; have hfz10_1 := blk_frozen BK532.out 1) | (go_at_call 34; (with_reducible refine (speculumbase_Floor.calls a1_0 a1_1 t534 _ A4.out).mono ?_); rintro e w' ⟨rfl, ⟨nd, rfl⟩⟩; (try first | exact ⟨rfl, _, World.drewN_drewN _ _ _⟩ | exact ⟨rfl, _, Eq.trans (World.drewN_drewN _ _ _) (congrArg (World.drewN _) (Nat.add_assoc _ _ _))⟩)))
  repeat (go_quiet (first | ((with_reducible refine gate_dst (N := 2) rfl ?_); refine box_event ?hg (N := 2) ?hd (cs := #[.int .i64 a0_0, .int .i64 a0_1]) (t := 28) ?hr ?_; (case hd => rfl); (case hg => rfl); (case hr => exact gr_); intro gb531 hg w6 hbox hb; have n0_ := Aside0.mk (below_step (hb_ HB) hb); have n1_ := Aside0.mk (hbox); have n2_ := Aside0.mk ((hz_ HB hg)); have n3_ := Aside0.mk ((hz_ HB hg)); clear HB; have HB := n0_; have BK531 := n1_; have GW531 := n2_; have GE531 := n3_; clear n0_ n1_ n2_ n3_; clear hb hbox hg) | ((with_reducible refine gate_dst (N := 3) rfl ?_); refine box_event ?hg (N := 3) ?hd (cs := #[.int .i64 a1_0, .int .i64 a1_1]) (t := 28) ?hr ?_; (case hd => rfl); (case hg => rfl); (case hr => exact gr_); intro gb532 hg w7 hbox hb; have n0_ := Aside0.mk (bb_ BK531 hb); have n1_ := Aside0.mk (below_step (hb_ HB) hb); have n2_ := Aside0.mk (hbox); have n3_ := Aside0.mk ((hz_ HB hg)); have n4_ := Aside0.mk ((hz_ HB hg)); have n5_ := Aside0.mk ((nl_ BK531 hg)); have n6_ := Aside0.mk ((ng_ BK531 hg)); clear BK531; clear HB; have BK531 := n0_; have HB := n1_; have BK532 := n2_; have GW532 := n3_; have GE532 := n4_; have NB531_532 := n5_; have NB532_531 := n6_; clear n0_ n1_ n2_ n3_ n4_ n5_ n6_; clear hb hbox hg; have hnb8 := NB531_532.out; have hnc8 := NB532_531.out; have hcz9_0 : w7.cell? ⟨gb531, 0, none⟩ = some (.int .i64 a0_0) := (blk_cell BK531.out 0).trans rfl; have hcz9_1 : w7.cell? ⟨gb531, 1, none⟩ = some (.int .i64 a0_1) := (blk_cell BK531.out 1).trans rfl; have hfz9_0 := blk_frozen BK531.out 0; have hfz9_1 := blk_frozen BK531.out 1) | (go_at_call 34; (with_reducible refine (speculumbase_Floor.calls a0_0 a0_1 t533 _ A3.out).mono ?_); rintro e w' ⟨rfl, ⟨nd, rfl⟩⟩; (try first | exact ⟨rfl, _, World.drewN_drewN _ _ _⟩ | exact ⟨rfl, _, Eq.trans (World.drewN_drewN _ _ _) (congrArg (World.drewN _) (Nat.add_assoc _ _ _))⟩); have hcz10_0 : w7.cell? ⟨gb532, 0, none⟩ = some (.int .i64 a1_0) := (blk_cell BK532.out 0).trans rfl; have hcz10_1 : w7.cell? ⟨gb532, 1, none⟩ = some (.int .i64 a1_1) := (blk_cell BK532.out 1).trans rfl; have hfz10_0 := blk_frozen BK532.out 0; have hfz10_1 := blk_frozen BK532.out 1) | (go_at_call 34; (with_reducible refine (speculumbase_Floor.calls a1_0 a1_1 t534 _ A4.out).mono ?_); rintro e w' ⟨rfl, ⟨nd, rfl⟩⟩; (try first | exact ⟨rfl, _, World.drewN_drewN _ _ _⟩ | exact ⟨rfl, _, Eq.trans (World.drewN_drewN _ _ _) (congrArg (World.drewN _) (Nat.add_assoc _ _ _))⟩))); try go_wp2_with (first | ((with_reducible refine gate_dst (N := 2) rfl ?_); refine box_event ?hg (N := 2) ?hd (cs := #[.int .i64 a0_0, .int .i64 a0_1]) (t := 28) ?hr ?_; (case hd => rfl); (case hg => rfl); (case hr => exact gr_); intro gb531 hg w6 hbox hb; have n0_ := Aside0.mk (below_step (hb_ HB) hb); have n1_ := Aside0.mk (hbox); have n2_ := Aside0.mk ((hz_ HB hg)); have n3_ := Aside0.mk ((hz_ HB hg)); clear HB; have HB := n0_; have BK531 := n1_; have GW531 := n2_; have GE531 := n3_; clear n0_ n1_ n2_ n3_; clear hb hbox hg) | ((with_reducible refine gate_dst (N := 3) rfl ?_); refine box_event ?hg (N := 3) ?hd (cs := #[.int .i64 a1_0, .int .i64 a1_1]) (t := 28) ?hr ?_; (case hd => rfl); (case hg => rfl); (case hr => exact gr_); intro gb532 hg w7 hbox hb; have n0_ := Aside0.mk (bb_ BK531 hb); have n1_ := Aside0.mk (below_step (hb_ HB) hb); have n2_ := Aside0.mk (hbox); have n3_ := Aside0.mk ((hz_ HB hg)); have n4_ := Aside0.mk ((hz_ HB hg)); have n5_ := Aside0.mk ((nl_ BK531 hg)); have n6_ := Aside0.mk ((ng_ BK531 hg)); clear BK531; clear HB; have BK531 := n0_; have HB := n1_; have BK532 := n2_; have GW532 := n3_; have GE532 := n4_; have NB531_532 := n5_; have NB532_531 := n6_; clear n0_ n1_ n2_ n3_ n4_ n5_ n6_; clear hb hbox hg; have hnb8 := NB531_532.out; have hnc8 := NB532_531.out; have hcz9_0 : w7.cell? ⟨gb531, 0, none⟩ = some (.int .i64 a0_0) := (blk_cell BK531.out 0).trans rfl; have hcz9_1 : w7.cell? ⟨gb531, 1, none⟩ = some (.int .i64 a0_1) := (blk_cell BK531.out 1).trans rfl; have hfz9_0 := blk_frozen BK531.out 0; have hfz9_1 := blk_frozen BK531.out 1) | (go_at_call 34; (with_reducible refine (speculumbase_Floor.calls a0_0 a0_1 t533 _ A3.out).mono ?_); rintro e w' ⟨rfl, ⟨nd, rfl⟩⟩; (try first | exact ⟨rfl, _, World.drewN_drewN _ _ _⟩ | exact ⟨rfl, _, Eq.trans (World.drewN_drewN _ _ _) (congrArg (World.drewN _) (Nat.add_assoc _ _ _))⟩); have hcz10_0 : w7.cell? ⟨gb532, 0, none⟩ = some (.int .i64 a1_0) := (blk_cell BK532.out 0).trans rfl; have hcz10_1 : w7.cell? ⟨gb532, 1, none⟩ = some (.int .i64 a1_1) := (blk_cell BK532.out 1).trans rfl; have hfz10_0 := blk_frozen BK532.out 0; have hfz10_1 := blk_frozen BK532.out 1) | (go_at_call 34; (with_reducible refine (speculumbase_Floor.calls a1_0 a1_1 t534 _ A4.out).mono ?_); rintro e w' ⟨rfl, ⟨nd, rfl⟩⟩; (try first | exact ⟨rfl, _, World.drewN_drewN _ _ _⟩ | exact ⟨rfl, _, Eq.trans (World.drewN_drewN _ _ _) (congrArg (World.drewN _) (Nat.add_assoc _ _ _))⟩))))
  go_ret
  exact ⟨ew_, hb_ HB⟩
 ·rw [if_neg c5] at H
  have c5b0 : (t533 == t534) = false := beq_eq_false_iff_ne.mpr c5
  have c5b1 : (t533 != t534) = true := bne_iff_ne.mpr c5
  obtain rfl := Option.some.inj H
  go_enter Try.func81, Try.ntmps81
  go_wp2_with (first | ((with_reducible refine gate_dst (N := 2) rfl ?_); refine box_event ?hg (N := 2) ?hd (cs := #[.int .i64 a0_0, .int .i64 a0_1]) (t := 28) ?hr ?_; (case hd => rfl); (case hg => rfl); (case hr => exact gr_); intro gb531 hg w11 hbox hb; have n0_ := Aside0.mk (below_step (hb_ HB) hb); have n1_ := Aside0.mk (hbox); have n2_ := Aside0.mk ((hz_ HB hg)); have n3_ := Aside0.mk ((hz_ HB hg)); clear HB; have HB := n0_; have BK531 := n1_; have GW531 := n2_; have GE531 := n3_; clear n0_ n1_ n2_ n3_; clear hb hbox hg) | ((with_reducible refine gate_dst (N := 3) rfl ?_); refine box_event ?hg (N := 3) ?hd (cs := #[.int .i64 a1_0, .int .i64 a1_1]) (t := 28) ?hr ?_; (case hd => rfl); (case hg => rfl); (case hr => exact gr_); intro gb532 hg w12 hbox hb; have n0_ := Aside0.mk (bb_ BK531 hb); have n1_ := Aside0.mk (below_step (hb_ HB) hb); have n2_ := Aside0.mk (hbox); have n3_ := Aside0.mk ((hz_ HB hg)); have n4_ := Aside0.mk ((hz_ HB hg)); have n5_ := Aside0.mk ((nl_ BK531 hg)); have n6_ := Aside0.mk ((ng_ BK531 hg)); clear BK531; clear HB; have BK531 := n0_; have HB := n1_; have BK532 := n2_; have GW532 := n3_; have GE532 := n4_; have NB531_532 := n5_; have NB532_531 := n6_; clear n0_ n1_ n2_ n3_ n4_ n5_ n6_; clear hb hbox hg; have hnb13 := NB531_532.out; have hnc13 := NB532_531.out; have hcz14_0 : w12.cell? ⟨gb531, 0, none⟩ = some (.int .i64 a0_0) := (blk_cell BK531.out 0).trans rfl; have hcz14_1 : w12.cell? ⟨gb531, 1, none⟩ = some (.int .i64 a0_1) := (blk_cell BK531.out 1).trans rfl; have hfz14_0 := blk_frozen BK531.out 0; have hfz14_1 := blk_frozen BK531.out 1) | (go_at_call 34; (with_reducible refine (speculumbase_Floor.calls a0_0 a0_1 t533 _ A3.out).mono ?_); rintro e w' ⟨rfl, ⟨nd, rfl⟩⟩; (try first | exact ⟨rfl, _, World.drewN_drewN _ _ _⟩ | exact ⟨rfl, _, Eq.trans (World.drewN_drewN _ _ _) (congrArg (World.drewN _) (Nat.add_assoc _ _ _))⟩); have hcz15_0 : w12.cell? ⟨gb532, 0, none⟩ = some (.int .i64 a1_0) := (blk_cell BK532.out 0).trans rfl; have hcz15_1 : w12.cell? ⟨gb532, 1, none⟩ = some (.int .i64 a1_1) := (blk_cell BK532.out 1).trans rfl; have hfz15_0 := blk_frozen BK532.out 0; have hfz15_1 := blk_frozen BK532.out 1) | (go_at_call 34; (with_reducible refine (speculumbase_Floor.calls a1_0 a1_1 t534 _ A4.out).mono ?_); rintro e w' ⟨rfl, ⟨nd, rfl⟩⟩; (try first | exact ⟨rfl, _, World.drewN_drewN _ _ _⟩ | exact ⟨rfl, _, Eq.trans (World.drewN_drewN _ _ _) (congrArg (World.drewN _) (Nat.add_assoc _ _ _))⟩)))
  repeat (go_quiet (first | ((with_reducible refine gate_dst (N := 2) rfl ?_); refine box_event ?hg (N := 2) ?hd (cs := #[.int .i64 a0_0, .int .i64 a0_1]) (t := 28) ?hr ?_; (case hd => rfl); (case hg => rfl); (case hr => exact gr_); intro gb531 hg w11 hbox hb; have n0_ := Aside0.mk (below_step (hb_ HB) hb); have n1_ := Aside0.mk (hbox); have n2_ := Aside0.mk ((hz_ HB hg)); have n3_ := Aside0.mk ((hz_ HB hg)); clear HB; have HB := n0_; have BK531 := n1_; have GW531 := n2_; have GE531 := n3_; clear n0_ n1_ n2_ n3_; clear hb hbox hg) | ((with_reducible refine gate_dst (N := 3) rfl ?_); refine box_event ?hg (N := 3) ?hd (cs := #[.int .i64 a1_0, .int .i64 a1_1]) (t := 28) ?hr ?_; (case hd => rfl); (case hg => rfl); (case hr => exact gr_); intro gb532 hg w12 hbox hb; have n0_ := Aside0.mk (bb_ BK531 hb); have n1_ := Aside0.mk (below_step (hb_ HB) hb); have n2_ := Aside0.mk (hbox); have n3_ := Aside0.mk ((hz_ HB hg)); have n4_ := Aside0.mk ((hz_ HB hg)); have n5_ := Aside0.mk ((nl_ BK531 hg)); have n6_ := Aside0.mk ((ng_ BK531 hg)); clear BK531; clear HB; have BK531 := n0_; have HB := n1_; have BK532 := n2_; have GW532 := n3_; have GE532 := n4_; have NB531_532 := n5_; have NB532_531 := n6_; clear n0_ n1_ n2_ n3_ n4_ n5_ n6_; clear hb hbox hg; have hnb13 := NB531_532.out; have hnc13 := NB532_531.out; have hcz14_0 : w12.cell? ⟨gb531, 0, none⟩ = some (.int .i64 a0_0) := (blk_cell BK531.out 0).trans rfl; have hcz14_1 : w12.cell? ⟨gb531, 1, none⟩ = some (.int .i64 a0_1) := (blk_cell BK531.out 1).trans rfl; have hfz14_0 := blk_frozen BK531.out 0; have hfz14_1 := blk_frozen BK531.out 1) | (go_at_call 34; (with_reducible refine (speculumbase_Floor.calls a0_0 a0_1 t533 _ A3.out).mono ?_); rintro e w' ⟨rfl, ⟨nd, rfl⟩⟩; (try first | exact ⟨rfl, _, World.drewN_drewN _ _ _⟩ | exact ⟨rfl, _, Eq.trans (World.drewN_drewN _ _ _) (congrArg (World.drewN _) (Nat.add_assoc _ _ _))⟩); have hcz15_0 : w12.cell? ⟨gb532, 0, none⟩ = some (.int .i64 a1_0) := (blk_cell BK532.out 0).trans rfl; have hcz15_1 : w12.cell? ⟨gb532, 1, none⟩ = some (.int .i64 a1_1) := (blk_cell BK532.out 1).trans rfl; have hfz15_0 := blk_frozen BK532.out 0; have hfz15_1 := blk_frozen BK532.out 1) | (go_at_call 34; (with_reducible refine (speculumbase_Floor.calls a1_0 a1_1 t534 _ A4.out).mono ?_); rintro e w' ⟨rfl, ⟨nd, rfl⟩⟩; (try first | exact ⟨rfl, _, World.drewN_drewN _ _ _⟩ | exact ⟨rfl, _, Eq.trans (World.drewN_drewN _ _ _) (congrArg (World.drewN _) (Nat.add_assoc _ _ _))⟩))); try go_wp2_with (first | ((with_reducible refine gate_dst (N := 2) rfl ?_); refine box_event ?hg (N := 2) ?hd (cs := #[.int .i64 a0_0, .int .i64 a0_1]) (t := 28) ?hr ?_; (case hd => rfl); (case hg => rfl); (case hr => exact gr_); intro gb531 hg w11 hbox hb; have n0_ := Aside0.mk (below_step (hb_ HB) hb); have n1_ := Aside0.mk (hbox); have n2_ := Aside0.mk ((hz_ HB hg)); have n3_ := Aside0.mk ((hz_ HB hg)); clear HB; have HB := n0_; have BK531 := n1_; have GW531 := n2_; have GE531 := n3_; clear n0_ n1_ n2_ n3_; clear hb hbox hg) | ((with_reducible refine gate_dst (N := 3) rfl ?_); refine box_event ?hg (N := 3) ?hd (cs := #[.int .i64 a1_0, .int .i64 a1_1]) (t := 28) ?hr ?_; (case hd => rfl); (case hg => rfl); (case hr => exact gr_); intro gb532 hg w12 hbox hb; have n0_ := Aside0.mk (bb_ BK531 hb); have n1_ := Aside0.mk (below_step (hb_ HB) hb); have n2_ := Aside0.mk (hbox); have n3_ := Aside0.mk ((hz_ HB hg)); have n4_ := Aside0.mk ((hz_ HB hg)); have n5_ := Aside0.mk ((nl_ BK531 hg)); have n6_ := Aside0.mk ((ng_ BK531 hg)); clear BK531; clear HB; have BK531 := n0_; have HB := n1_; have BK532 := n2_; have GW532 := n3_; have GE532 := n4_; have NB531_532 := n5_; have NB532_531 := n6_; clear n0_ n1_ n2_ n3_ n4_ n5_ n6_; clear hb hbox hg; have hnb13 := NB531_532.out; have hnc13 := NB532_531.out; have hcz14_0 : w12.cell? ⟨gb531, 0, none⟩ = some (.int .i64 a0_0) := (blk_cell BK531.out 0).trans rfl; have hcz14_1 : w12.cell? ⟨gb531, 1, none⟩ = some (.int .i64 a0_1) := (blk_cell BK531.out 1).trans rfl; have hfz14_0 := blk_frozen BK531.out 0; have hfz14_1 := blk_frozen BK531.out 1) | (go_at_call 34; (with_reducible refine (speculumbase_Floor.calls a0_0 a0_1 t533 _ A3.out).mono ?_); rintro e w' ⟨rfl, ⟨nd, rfl⟩⟩; (try first | exact ⟨rfl, _, World.drewN_drewN _ _ _⟩ | exact ⟨rfl, _, Eq.trans (World.drewN_drewN _ _ _) (congrArg (World.drewN _) (Nat.add_assoc _ _ _))⟩); have hcz15_0 : w12.cell? ⟨gb532, 0, none⟩ = some (.int .i64 a1_0) := (blk_cell BK532.out 0).trans rfl; have hcz15_1 : w12.cell? ⟨gb532, 1, none⟩ = some (.int .i64 a1_1) := (blk_cell BK532.out 1).trans rfl; have hfz15_0 := blk_frozen BK532.out 0; have hfz15_1 := blk_frozen BK532.out 1) | (go_at_call 34; (with_reducible refine (speculumbase_Floor.calls a1_0 a1_1 t534 _ A4.out).mono ?_); rintro e w' ⟨rfl, ⟨nd, rfl⟩⟩; (try first | exact ⟨rfl, _, World.drewN_drewN _ _ _⟩ | exact ⟨rfl, _, Eq.trans (World.drewN_drewN _ _ _) (congrArg (World.drewN _) (Nat.add_assoc _ _ _))⟩))))
  go_ret
  exact ⟨ew_, hb_ HB⟩
end Go.Proofs.Ytdkahcolfcmmpaa.Pr
namespace Go.Proofs.Ytdkahcolfcmmpaa.Pr
open Go.RowKit Go.Proofs.YtdkahcolfcmmpaaW.PrintWords Go.Proofs.YtdkahcolfcmmpaaW.PrintLast Go.Proofs.YtdkahcolfcmmpaaW.PrintMore
attribute [local go_sem] max2_int min2_int max_two min_two max_three min_three max_four min_four
set_option linter.unusedVariables false
set_option linter.unusedSimpArgs false
def lsUpd (x b : Int × Int) : Option (Int × Int) := if b.2 = 0 then some x else (speculumref06_less2.f x.1 x.2 b.1 b.2).bind fun t => some (if t = true then x else b)
def lsNum (l0 l1 : List Int) (m1 m2 : Int) (i j : Nat) : Int := wrap64 (wrap64 (wrap64 (rd l0 (i : Int) * wrap64 (rd l1 (j : Int) - rd l1 (i : Int))) * m2) + wrap64 (wrap64 (rd l0 (j : Int) - rd l0 (i : Int)) * wrap64 (m1 - wrap64 (rd l1 (i : Int) * m2))))
def lsDen (l1 : List Int) (m2 : Int) (i j : Nat) : Int := wrap64 (wrap64 (rd l1 (j : Int) - rd l1 (i : Int)) * m2)
def lsStep (k : Nat) (l0 l1 : List Int) (m1 m2 : Int) (i j : Nat) (b : Int × Int) : Option (Int × Int) :=
 if wrap64 (rd l1 (i : Int) * m2) > m1 then some b else if wrap64 (rd l1 (j : Int) * m2) < m1 then some b else
 if rd l1 (i : Int) = rd l1 (j : Int) then (if rd l0 (j : Int) < rd l0 (i : Int) then some b else lsUpd (rd l0 (i : Int), 1) b)
 else (speculumbase_Lowest.f k (lsNum l0 l1 m1 m2 i j) (lsDen l1 m2 i j)).bind fun x => lsUpd x b
def lsAll (k : Nat) (l0 l1 : List Int) (m1 m2 : Int) : List (Nat × Nat) → Int × Int → Option (Int × Int)
 | [], b => some b
 | p :: ps, b => (lsStep k l0 l1 m1 m2 p.1 p.2 b).bind fun c => lsAll k l0 l1 m1 m2 ps c
def lsRow (i : Nat) : Nat → Nat → List (Nat × Nat)
 | _, 0 => []
 | j, m + 1 => (i, j) :: lsRow i (j + 1) m
def lsRows (n : Nat) : Nat → Nat → List (Nat × Nat)
 | _, 0 => []
 | i, m + 1 => lsRow i 0 n ++ lsRows n (i + 1) m
def speculumref06_Least.f (k : Nat) (l0_0 : List Int) (l0_1 : List Int) (l0_2 : List Int) : Option (Int × Int) :=
 if l0_1.length = l0_0.length ∧ l0_2.length = l0_0.length then
  (speculumref06_Mean.f k l0_0 l0_1 l0_2).bind fun m => (lsAll k l0_0 l0_1 m.1 m.2 (lsRows l0_0.length 0 l0_0.length) (0, 0)).bind fun b =>
   speculumbase_Lowest.f k (wrap64 (wrap64 ((sumsTo l0_0 l0_1 l0_2 l0_0.length).2.2 * b.2) - wrap64 ((sumsTo l0_0 l0_1 l0_2 l0_0.length).1 * b.1))) b.2
 else none
theorem el_ {W : World} {ad : Addr} {l : List Int} (h : Kd.C (Kd.int .i64) W (some ad) l.length l) (i : Nat) (hi : i < l.length) : W.cell? (ad.add i) = some (.int .i64 (rd l (i : Int))) := by
 obtain ⟨ad', e, hx⟩ := Kd.at_int h (i : Int) (by omega) (by omega)
 obtain rfl := Option.some.inj e
 simpa using hx
structure LS0 (w : World) (cs : Array Value) (gm : Nat) (m1 m2 : Int) (W : World) : Prop where
 b0 : W.heap[w.heap.size]? = some (.cells cs 24 (0, 0))
 rs : W.heap[w.heap.size + 1]? = some (.cells #[.int .i64 0, .int .i64 0] 28 (0, 0))
 mn : W.heap[gm]? = some (.cells #[.int .i64 m1, .int .i64 m2] 28 (0, 0))
 bel : Below w.heap.size w W
theorem LS0.drewN {w W : World} {cs : Array Value} {gm : Nat} {m1 m2 : Int} (h : LS0 w cs gm m1 m2 W) (n : Nat) : LS0 w cs gm m1 m2 (W.drewN n) := ⟨blk_drewN h.b0 n, blk_drewN h.rs n, blk_drewN h.mn n, pw_below_drewN h.bel n⟩
structure LSt (w : World) (cs : Array Value) (gm gb : Nat) (m1 m2 bn bd : Int) (W : World) : Prop where
 b0 : W.heap[w.heap.size]? = some (.cells cs 24 (0, 0))
 rs : W.heap[w.heap.size + 1]? = some (.cells #[.int .i64 0, .int .i64 0] 28 (0, 0))
 mn : W.heap[gm]? = some (.cells #[.int .i64 m1, .int .i64 m2] 28 (0, 0))
 bs : W.heap[gb]? = some (.cells #[.int .i64 bn, .int .i64 bd] 28 (0, 0))
 n0 : w.heap.size ≠ gb
 n1 : w.heap.size + 1 ≠ gb
 n2 : gm ≠ gb
 ge : w.heap.size ≤ gb
 bel : Below w.heap.size w W
section
variable {w W W' : World} {cs : Array Value} {gm gb : Nat} {m1 m2 bn bd : Int}
theorem LSt.below (h : LSt w cs gm gb m1 m2 bn bd W) (hb : Below W.heap.size W W') : LSt w cs gm gb m1 m2 bn bd W' := ⟨blk_below h.b0 hb, blk_below h.rs hb, blk_below h.mn hb, blk_below h.bs hb, h.n0, h.n1, h.n2, h.ge, below_step h.bel hb⟩
theorem LSt.alloc (h : LSt w cs gm gb m1 m2 bn bd W) (o : Obj) : LSt w cs gm gb m1 m2 bn bd (W.alloc o) := ⟨blk_alloc h.b0 o, blk_alloc h.rs o, blk_alloc h.mn o, blk_alloc h.bs o, h.n0, h.n1, h.n2, h.ge, below_alloc h.bel o⟩
theorem LSt.drewN (h : LSt w cs gm gb m1 m2 bn bd W) (n : Nat) : LSt w cs gm gb m1 m2 bn bd (W.drewN n) := ⟨blk_drewN h.b0 n, blk_drewN h.rs n, blk_drewN h.mn n, blk_drewN h.bs n, h.n0, h.n1, h.n2, h.ge, pw_below_drewN h.bel n⟩
theorem LSt.drew (h : LSt w cs gm gb m1 m2 bn bd W) : LSt w cs gm gb m1 m2 bn bd W.drew := ⟨h.b0, h.rs, h.mn, h.bs, h.n0, h.n1, h.n2, h.ge, below_drew1 h.bel⟩
theorem LSt.put (h : LSt w cs gm gb m1 m2 bn bd W) (x y : Int) : LSt w cs gm gb m1 m2 x y ((W.setCell ⟨gb, 0, none⟩ (.int .i64 x)).setCell ⟨gb, 1, none⟩ (.int .i64 y)) :=
 ⟨blk_far (blk_far h.b0 h.n0 _) h.n0 _, blk_far (blk_far h.rs h.n1 _) h.n1 _, blk_far (blk_far h.mn h.n2 _) h.n2 _, blk_put (blk_put h.bs 0 _ rfl) 1 _ rfl, h.n0, h.n1, h.n2, h.ge, below_set (below_set h.bel h.ge) h.ge⟩
theorem LSt.far (h : LSt w cs gm gb m1 m2 bn bd W) {g j : Nat} {v : Value} (hg : W.heap.size ≤ g ∨ (w.heap.size ≠ g ∧ w.heap.size + 1 ≠ g ∧ gm ≠ g ∧ gb ≠ g ∧ w.heap.size ≤ g)) : LSt w cs gm gb m1 m2 bn bd (W.setCell ⟨g, j, none⟩ v) := by
 have q : w.heap.size ≠ g ∧ w.heap.size + 1 ≠ g ∧ gm ≠ g ∧ gb ≠ g ∧ w.heap.size ≤ g := by
  rcases hg with hg | hg
  ·have := blk_lt h.b0; have := blk_lt h.rs; have := blk_lt h.mn; have := blk_lt h.bs
   exact ⟨by omega, by omega, by omega, by omega, by omega⟩
  ·exact hg
 exact ⟨blk_far h.b0 q.1 _, blk_far h.rs q.2.1 _, blk_far h.mn q.2.2.1 _, blk_far h.bs q.2.2.2.1 _, h.n0, h.n1, h.n2, h.ge, below_set h.bel q.2.2.2.2⟩
end
set_option maxHeartbeats 8000000 in
set_option maxRecDepth 100000 in
theorem speculumref06_Least.calls (k : Nat) (A0_0 : Option Addr) (c0_0 : Nat) (l0_0 : List Int) (A0_1 : Option Addr) (c0_1 : Nat) (l0_1 : List Int) (A0_2 : Option Addr) (c0_2 : Nat) (l0_2 : List Int) (r1 : Int) (r2 : Int) (w : World) (hr0_0 : Kd.C (Kd.int .i64) w A0_0 l0_0.length l0_0) (hc0_0 : l0_0.length ≤ c0_0) (hr0_1 : Kd.C (Kd.int .i64) w A0_1 l0_1.length l0_1) (hc0_1 : l0_1.length ≤ c0_1) (hr0_2 : Kd.C (Kd.int .i64) w A0_2 l0_2.length l0_2) (hc0_2 : l0_2.length ≤ c0_2) (h : speculumref06_Least.f k l0_0 l0_1 l0_2 = some (r1, r2)) :
  Calls Try.prog 40 #[.agg #[.slice A0_0 l0_0.length c0_0, .slice A0_1 l0_1.length c0_1, .slice A0_2 l0_2.length c0_2]] w fun e w' => e = .returned (.agg #[.int .i64 r1, .int .i64 r2]) ∧ Below w.heap.size w w' := by
 have hu24 := Try.underlying24
 have hu28 := Try.underlying28
 have HR0 := Aside0.mk hr0_0
 have HR1 := Aside0.mk hr0_1
 have HR2 := Aside0.mk hr0_2
 have HC0 := Aside0.mk hc0_0
 have HC1 := Aside0.mk hc0_1
 have HC2 := Aside0.mk hc0_2
 have hmax := Kd.C_max hr0_0
 clear hr0_0 hr0_1 hr0_2 hc0_0 hc0_1 hc0_2
 unfold speculumref06_Least.f at h
 by_cases hl : l0_1.length = l0_0.length ∧ l0_2.length = l0_0.length
 case neg => rw [if_neg hl] at h; cases h
 rw [if_pos hl] at h
 obtain ⟨⟨m1, m2⟩, hm, h⟩ := Option.bind_eq_some_iff.mp h
 obtain ⟨⟨bn, bd⟩, hb, h⟩ := Option.bind_eq_some_iff.mp h
 have HM := Aside0.mk hm
 have HBST : Aside0 (lsAll k l0_0 l0_1 m1 m2 (lsRows l0_0.length 0 l0_0.length) (0, 0) = some (bn, bd)) := ⟨hb⟩
 have HLOW : Aside0 (speculumbase_Lowest.f k (wrap64 (wrap64 ((sumsTo l0_0 l0_1 l0_2 l0_0.length).2.2 * bd) - wrap64 ((sumsTo l0_0 l0_1 l0_2 l0_0.length).1 * bn))) bd = some (r1, r2)) := ⟨h⟩
 have HL1 := Aside0.mk hl.1
 have HL2 := Aside0.mk hl.2
 clear hm hb h hl
 have B0 : Aside0 (Below w.heap.size w ((w.alloc (.cells #[.slice A0_0 l0_0.length c0_0, .slice A0_1 l0_1.length c0_1, .slice A0_2 l0_2.length c0_2] 24)).alloc (.cells #[.int .i64 0, .int .i64 0] 28))) := ⟨((Below.refl _ _).alloc (Nat.le_refl _) _).alloc (by simp) _⟩
 have K0 := Aside0.mk (blk_alloc (blk_new w (.cells #[.slice A0_0 l0_0.length c0_0, .slice A0_1 l0_1.length c0_1, .slice A0_2 l0_2.length c0_2] 24)) (.cells #[.int .i64 0, .int .i64 0] 28))
 have K1 : Aside0 (((w.alloc (.cells #[.slice A0_0 l0_0.length c0_0, .slice A0_1 l0_1.length c0_1, .slice A0_2 l0_2.length c0_2] 24)).alloc (.cells #[.int .i64 0, .int .i64 0] 28)).heap[w.heap.size + 1]? = some (.cells #[.int .i64 0, .int .i64 0] 28 (0, 0))) := ⟨by have := blk_new (w.alloc (.cells #[.slice A0_0 l0_0.length c0_0, .slice A0_1 l0_1.length c0_1, .slice A0_2 l0_2.length c0_2] 24)) (.cells #[.int .i64 0, .int .i64 0] 28); rwa [World.size_alloc] at this⟩
 go_enter Try.func40, Try.ntmps40
 go_wp2_with (go_at_call 20; refine (speculumref06_Mean.calls k _ _ l0_0 _ _ l0_1 _ _ l0_2 m1 m2 _ (Kd.C_below HR0.out B0.out) HC0.out (Kd.C_below HR1.out B0.out) HC1.out (Kd.C_below HR2.out B0.out) HC2.out HM.out).mono ?_; rintro e w3 ⟨rfl, hb3⟩)
 have Q0 : LS0 w #[.slice A0_0 l0_0.length c0_0, .slice A0_1 l0_1.length c0_1, .slice A0_2 l0_2.length c0_2] w3.heap.size m1 m2 (w3.alloc (.cells #[.int .i64 m1, .int .i64 m2] 28)) := ⟨blk_alloc (blk_below K0.out hb3) _, blk_alloc (blk_below K1.out hb3) _, blk_new w3 _, below_alloc (below_step B0.out hb3) _⟩
 clear B0 K0 K1 hb3
 generalize w3.alloc (.cells #[.int .i64 m1, .int .i64 m2] 28) = w4 at *
 generalize w3.heap.size = gm at *
 go_loopw [4, 5, 6] (fun a b i wr => LS0 w #[.slice A0_0 l0_0.length c0_0, .slice A0_1 l0_1.length c0_1, .slice A0_2 l0_2.length c0_2] gm m1 m2 wr ∧ ∃ j : Nat, j ≤ l0_0.length ∧ i = .int .i64 j ∧ a = .int .i64 (sumsTo l0_0 l0_1 l0_2 j).1 ∧ b = .int .i64 (sumsTo l0_0 l0_1 l0_2 j).2.2) (fun _ _ i _ => l0_0.length - (intOf i).toNat)
 case atStart => exact ⟨Q0, 0, Nat.zero_le _, rfl, rfl, rfl⟩
 case round =>
  clear Q0
  obtain ⟨hW, j, hj, rfl, rfl, rfl⟩ := hrel
  have c01 := (blk_cell hW.b0 1).trans rfl
  have hl1 : (l0_1.length : Int) = l0_0.length := by rw [HL1.out]
  by_cases hlt : j < l0_0.length
  ·have c00 := (blk_cell hW.b0 0).trans rfl
   have c02 := (blk_cell hW.b0 2).trans rfl
   obtain ⟨ad0, e0, hx0⟩ := Kd.at_int (Kd.C_below HR0.out hW.bel) (j : Int) (by omega) (by omega)
   obtain ⟨ad2, e2, hx2⟩ := Kd.at_int (Kd.C_below HR2.out hW.bel) (j : Int) (by omega) (by have := HL2.out; omega)
   subst e0
   subst e2
   simp only [Int.toNat_natCast] at hx0 hx2
   have l0b : (j : Int) < (l0_0.length : Int) := by omega
   have l1b : (j : Int) < (l0_1.length : Int) := by omega
   have l2b : (j : Int) < (l0_2.length : Int) := by have := HL2.out; omega
   clear hl1
   go_wp2
   go_quiet (fail)
   go_wp2
   go_roundw
   case rel => exact ⟨hW.drewN _, j + 1, by omega, by go_num, by simp only [sumsTo, i64_w, rd, Int.toNat_natCast], by simp only [sumsTo, i64_w, rd, Int.toNat_natCast]⟩
   case measure => simp [intOf]; omega
  ·obtain rfl : j = l0_0.length := by omega
   have hge : decide (l0_0.length < l0_1.length) = false := decide_eq_false (by omega)
   clear hlt hj hl1
   have T0 : LSt w #[.slice A0_0 l0_0.length c0_0, .slice A0_1 l0_1.length c0_1, .slice A0_2 l0_2.length c0_2] gm wr.heap.size m1 m2 0 0 (wr.alloc (.cells #[.int .i64 0, .int .i64 0] 28)) := ⟨blk_alloc hW.b0 _, blk_alloc hW.rs _, blk_alloc hW.mn _, blk_new wr _, Nat.ne_of_lt (blk_lt hW.b0), Nat.ne_of_lt (blk_lt hW.rs), Nat.ne_of_lt (blk_lt hW.mn), hW.bel.size, below_alloc hW.bel _⟩
   go_wp2
   clear hW c01 hge
   generalize wr.alloc (.cells #[.int .i64 0, .int .i64 0] 28) = w5 at *
   generalize wr.heap.size = gb at *
   obtain ⟨WS, hWS⟩ : ∃ x, x = (sumsTo l0_0 l0_1 l0_2 l0_0.length).1 := ⟨_, rfl⟩
   obtain ⟨HS, hHS⟩ : ∃ x, x = (sumsTo l0_0 l0_1 l0_2 l0_0.length).2.2 := ⟨_, rfl⟩
   rw [← hWS, ← hHS] at HLOW
   rw [← hWS, ← hHS]
   clear hWS hHS
   go_loopw [8] (fun i wr => ∃ (a : Nat) (xn xd : Int), a ≤ l0_0.length ∧ i = .int .i64 a ∧ LSt w #[.slice A0_0 l0_0.length c0_0, .slice A0_1 l0_1.length c0_1, .slice A0_2 l0_2.length c0_2] gm gb m1 m2 xn xd wr ∧ Aside0 (lsAll k l0_0 l0_1 m1 m2 (lsRows l0_0.length a (l0_0.length - a)) (xn, xd) = some (bn, bd))) (fun i _ => l0_0.length - (intOf i).toNat)
   case atStart => exact ⟨0, 0, 0, Nat.zero_le _, rfl, T0, HBST⟩
   case round =>
    clear T0 HBST
    obtain ⟨a, xn, xd, haN, rfl, hT, HA⟩ := hrel
    have c01 := (blk_cell hT.b0 1).trans rfl
    by_cases hla0 : a < l0_0.length
    ·have hla1 : a < l0_1.length := by rw [HL1.out]; exact hla0
     have la0 : (a : Int) < (l0_0.length : Int) := by omega
     have la1 : (a : Int) < (l0_1.length : Int) := by omega
     have HA2 : Aside0 (lsAll k l0_0 l0_1 m1 m2 (lsRow a 0 (l0_0.length - 0) ++ lsRows l0_0.length (a + 1) (l0_0.length - (a + 1))) (xn, xd) = some (bn, bd)) := ⟨by have := HA.out; rwa [show l0_0.length - a = (l0_0.length - (a + 1)) + 1 by omega, lsRows] at this⟩
     clear HA
     go_wp2
     clear c01
     obtain ⟨wo, rfl⟩ : ∃ wo : World, wo = wr := ⟨_, rfl⟩
     obtain ⟨ad0, e0, _⟩ := Kd.at_int (Kd.C_below HR0.out hT.bel) (a : Int) (by omega) (by omega)
     obtain ⟨ad1, e1, _⟩ := Kd.at_int (Kd.C_below HR1.out hT.bel) (a : Int) (by omega) (by omega)
     subst e0
     subst e1
     go_loopw [9] (fun i wr => ∃ (b : Nat) (xn xd : Int), b ≤ l0_0.length ∧ i = .int .i64 b ∧ LSt w #[.slice (some ad0) l0_0.length c0_0, .slice (some ad1) l0_1.length c0_1, .slice A0_2 l0_2.length c0_2] gm gb m1 m2 xn xd wr ∧ Aside0 (lsAll k l0_0 l0_1 m1 m2 (lsRow a b (l0_0.length - b) ++ lsRows l0_0.length (a + 1) (l0_0.length - (a + 1))) (xn, xd) = some (bn, bd))) (fun i _ => l0_0.length - (intOf i).toNat)
     case atStart => exact ⟨0, xn, xd, Nat.zero_le _, rfl, hT, HA2⟩
     case round =>
      clear hT HA2
      obtain ⟨b, xn, xd, hbN, rfl, hT, HA⟩ := hrel
      by_cases hlb0 : b < l0_0.length
      ·have hlb1 : b < l0_1.length := by rw [HL1.out]; exact hlb0
       have lb0 : (b : Int) < (l0_0.length : Int) := by omega
       have lb1 : (b : Int) < (l0_1.length : Int) := by omega
       have hst := HA.out
       rw [show l0_0.length - b = (l0_0.length - (b + 1)) + 1 by omega, lsRow, List.cons_append, lsAll] at hst
       obtain ⟨⟨yn, yd⟩, hst, hrest⟩ := Option.bind_eq_some_iff.mp hst
       have HST : Aside0 (lsStep k l0_0 l0_1 m1 m2 a b (xn, xd) = some (yn, yd)) := ⟨hst⟩
       have HRE : Aside0 (lsAll k l0_0 l0_1 m1 m2 (lsRow a (b + 1) (l0_0.length - (b + 1)) ++ lsRows l0_0.length (a + 1) (l0_0.length - (a + 1))) (yn, yd) = some (bn, bd)) := ⟨hrest⟩
       clear hst hrest HA
       have c00 := (blk_cell hT.b0 0).trans rfl
       have c01 := (blk_cell hT.b0 1).trans rfl
       have ha0 := el_ (Kd.C_below HR0.out hT.bel) a hla0
       have hb0 := el_ (Kd.C_below HR0.out hT.bel) b hlb0
       have ha1 := el_ (Kd.C_below HR1.out hT.bel) a hla1
       have hb1 := el_ (Kd.C_below HR1.out hT.bel) b hlb1
       have s0 := (blk_cell hT.mn 0).trans rfl
       have s1 := (blk_cell hT.mn 1).trans rfl
       have t0 := (blk_cell hT.bs 0).trans rfl
       have t1 := (blk_cell hT.bs 1).trans rfl
       by_cases g1 : wrap64 (rd l0_1 (a : Int) * m2) > m1
       ·have hy : some (xn, xd) = some (yn, yd) := by have := HST.out; unfold lsStep at this; rwa [if_pos g1] at this
        simp only [Option.some.injEq, Prod.mk.injEq] at hy
        obtain ⟨rfl, rfl⟩ := hy
        have g1' : decide (m1 < wrap64 (rd l0_1 (a : Int) * m2)) = true := decide_eq_true g1
        clear g1 HST
        go_wp2
        go_quiet (fail)
        go_wp2
        go_roundw
        case rel => exact ⟨b + 1, _, _, by omega, by go_num, hT.drewN _, HRE⟩
        case measure => simp [intOf]; omega
       ·have g1' : decide (m1 < wrap64 (rd l0_1 (a : Int) * m2)) = false := decide_eq_false g1
        by_cases g2 : wrap64 (rd l0_1 (b : Int) * m2) < m1
        ·have hy : some (xn, xd) = some (yn, yd) := by have := HST.out; unfold lsStep at this; rwa [if_neg g1, if_pos g2] at this
         simp only [Option.some.injEq, Prod.mk.injEq] at hy
         obtain ⟨rfl, rfl⟩ := hy
         have g2' : decide (wrap64 (rd l0_1 (b : Int) * m2) < m1) = true := decide_eq_true g2
         clear g1 g2 HST
         go_wp2
         go_quiet (fail)
         go_wp2
         go_roundw
         case rel => exact ⟨b + 1, _, _, by omega, by go_num, hT.drewN _, HRE⟩
         case measure => simp [intOf]; omega
        ·have g2' : decide (wrap64 (rd l0_1 (b : Int) * m2) < m1) = false := decide_eq_false g2
         have HST2 : Aside0 ((if rd l0_1 (a : Int) = rd l0_1 (b : Int) then (if rd l0_0 (b : Int) < rd l0_0 (a : Int) then some (xn, xd) else lsUpd (rd l0_0 (a : Int), 1) (xn, xd)) else (speculumbase_Lowest.f k (lsNum l0_0 l0_1 m1 m2 a b) (lsDen l0_1 m2 a b)).bind fun x => lsUpd x (xn, xd)) = some (yn, yd)) := ⟨by have := HST.out; unfold lsStep at this; rwa [if_neg g1, if_neg g2] at this⟩
         clear g1 g2 HST
         go_wp2
         go_quiet (fail)
         have T1 := hT.drewN nq
         clear hT
         clear c00 c01 ha0 hb0 ha1 hb1 s0 s1 t0 t1
         generalize wr.drewN nq = w1 at *
         have c00 := (blk_cell T1.b0 0).trans rfl
         have c01 := (blk_cell T1.b0 1).trans rfl
         have ha0 := el_ (Kd.C_below HR0.out T1.bel) a hla0
         go_wp2
         clear g1' g2' c00 c01 ha0
         have A2 := blk_new w1 (.cells #[.int .i64 (rd l0_0 (a : Int)), .int .i64 1] 28)
         have T2 := T1.alloc (.cells #[.int .i64 (rd l0_0 (a : Int)), .int .i64 1] 28)
         have N0 := Aside0.mk (Nat.ne_of_lt (blk_lt T1.b0))
         have N1 := Aside0.mk (Nat.ne_of_lt (blk_lt T1.rs))
         have N2 := Aside0.mk (Nat.ne_of_lt (blk_lt T1.mn))
         have N3 := Aside0.mk (Nat.ne_of_lt (blk_lt T1.bs))
         have N4 := Aside0.mk T1.bel.size
         clear T1
         generalize w1.alloc (.cells #[.int .i64 (rd l0_0 (a : Int)), .int .i64 1] 28) = w2 at *
         generalize w1.heap.size = gat at *
         have c00 := (blk_cell T2.b0 0).trans rfl
         have c01 := (blk_cell T2.b0 1).trans rfl
         have ha0 := el_ (Kd.C_below HR0.out T2.bel) a hla0
         have hb0 := el_ (Kd.C_below HR0.out T2.bel) b hlb0
         have ha1 := el_ (Kd.C_below HR1.out T2.bel) a hla1
         have hb1 := el_ (Kd.C_below HR1.out T2.bel) b hlb1
         have s0 := (blk_cell T2.mn 0).trans rfl
         have s1 := (blk_cell T2.mn 1).trans rfl
         have t0 := (blk_cell T2.bs 0).trans rfl
         have t1 := (blk_cell T2.bs 1).trans rfl
         by_cases q : rd l0_1 (a : Int) = rd l0_1 (b : Int)
         ·have q' : decide (rd l0_1 (a : Int) = rd l0_1 (b : Int)) = true := decide_eq_true q
          have HST3 := Aside0.mk (if_pos q ▸ HST2.out)
          clear HST2
          have HST4 : Aside0 ((if rd l0_0 (b : Int) < rd l0_0 (a : Int) then some (xn, xd) else lsUpd (rd l0_0 (a : Int), 1) (xn, xd)) = some (yn, yd)) := ⟨HST3.out⟩
          clear HST3
          go_wp2
          go_quiet (fail)
          have T3 := T2.drewN nq
          have A3 := blk_drewN A2 nq
          clear T2 A2
          clear c00 c01 ha0 hb0 ha1 hb1 s0 s1 t0 t1
          generalize w2.drewN nq = w3 at *
          have c00 := (blk_cell T3.b0 0).trans rfl
          have c01 := (blk_cell T3.b0 1).trans rfl
          have ha0 := el_ (Kd.C_below HR0.out T3.bel) a hla0
          have hb0 := el_ (Kd.C_below HR0.out T3.bel) b hlb0
          have ha1 := el_ (Kd.C_below HR1.out T3.bel) a hla1
          have hb1 := el_ (Kd.C_below HR1.out T3.bel) b hlb1
          have s0 := (blk_cell T3.mn 0).trans rfl
          have s1 := (blk_cell T3.mn 1).trans rfl
          have t0 := (blk_cell T3.bs 0).trans rfl
          have t1 := (blk_cell T3.bs 1).trans rfl
          go_wp2
          by_cases v : rd l0_0 (b : Int) < rd l0_0 (a : Int)
          ·have hy : some (xn, xd) = some (yn, yd) := by have := HST4.out; rwa [if_pos v] at this
           simp only [Option.some.injEq, Prod.mk.injEq] at hy
           obtain ⟨rfl, rfl⟩ := hy
           have v' : decide (rd l0_0 (b : Int) < rd l0_0 (a : Int)) = true := decide_eq_true v
           clear v q HST4
           go_wp2
           go_quiet (fail)
           go_wp2
           go_roundw
           case rel => exact ⟨b + 1, _, _, by omega, by go_num, (T3.drewN _), HRE⟩
           case measure => simp [intOf]; omega
          ·have HUP : Aside0 (lsUpd (rd l0_0 (a : Int), 1) (xn, xd) = some (yn, yd)) := ⟨by have := HST4.out; rwa [if_neg v] at this⟩
           have v' : decide (rd l0_0 (b : Int) < rd l0_0 (a : Int)) = false := decide_eq_false v
           clear v q HST4
           go_wp2
           go_quiet (fail)
           have T4 := T3.drewN nq
           have A4 := blk_drewN A3 nq
           clear T3 A3
           clear c00 c01 ha0 hb0 ha1 hb1 s0 s1 t0 t1
           generalize w3.drewN nq = w4 at *
           by_cases z : xd = 0
           ·have hy : some (rd l0_0 (a : Int), 1) = some (yn, yd) := by have := HUP.out; unfold lsUpd at this; rwa [if_pos z] at this
            simp only [Option.some.injEq, Prod.mk.injEq] at hy
            obtain ⟨rfl, rfl⟩ := hy
            have t0 := (blk_cell T4.bs 0).trans rfl
            have t1 := (blk_cell T4.bs 1).trans rfl
            have ft0 := blk_frozen T4.bs 0
            have ft1 := blk_frozen T4.bs 1
            have z' : (xd == 0) = true := by simpa using z
            have n3 := N3.out
            have g0 := (blk_cell A4 0).trans rfl
            have g1 := (blk_cell A4 1).trans rfl
            go_wp2
            go_roundw
            case rel => exact ⟨b + 1, _, _, by omega, by go_num, (T4.put _ _), HRE⟩
            case measure => simp [intOf]; omega
           ·obtain ⟨tt, ht, hy⟩ := Option.bind_eq_some_iff.mp (show (speculumref06_less2.f (rd l0_0 (a : Int)) (1) xn xd).bind (fun t => some (if t = true then ((rd l0_0 (a : Int)), (1)) else (xn, xd))) = some (yn, yd) by have := HUP.out; unfold lsUpd at this; rwa [if_neg z] at this)
            have HT := Aside0.mk ht
            have HY := Aside0.mk hy
            clear ht hy
            have t0 := (blk_cell T4.bs 0).trans rfl
            have t1 := (blk_cell T4.bs 1).trans rfl
            have z' : (xd == 0) = false := by simpa using z
            have g0 := (blk_cell A4 0).trans rfl
            have g1 := (blk_cell A4 1).trans rfl
            go_wp2_with (go_at_call 81; refine (speculumref06_less2.calls _ _ xn xd tt _ HT.out).mono ?_; rintro e w9 ⟨rfl, hb9⟩; have T9 := T4.below hb9; have A9 := blk_below A4 hb9; clear T4 A4 hb9 t0 t1 g0 g1; have t0 := (blk_cell T9.bs 0).trans rfl; have t1 := (blk_cell T9.bs 1).trans rfl; have ft0 := blk_frozen T9.bs 0; have ft1 := blk_frozen T9.bs 1; have g0 := (blk_cell A9 0).trans rfl; have g1 := (blk_cell A9 1).trans rfl; have n3 := N3.out)
            ·obtain rfl : tt = true := by assumption
             have hy : some (rd l0_0 (a : Int), 1) = some (yn, yd) := HY.out
             simp only [Option.some.injEq, Prod.mk.injEq] at hy
             obtain ⟨rfl, rfl⟩ := hy
             go_roundw
             case rel => exact ⟨b + 1, _, _, by omega, by go_num, (T9.put _ _), HRE⟩
             case measure => simp [intOf]; omega
            ·obtain rfl : tt = false := by assumption
             have hy : some (xn, xd) = some (yn, yd) := HY.out
             simp only [Option.some.injEq, Prod.mk.injEq] at hy
             obtain ⟨rfl, rfl⟩ := hy
             go_roundw
             case rel => exact ⟨b + 1, _, _, by omega, by go_num, T9, HRE⟩
             case measure => simp [intOf]; omega
         ·have q' : (rd l0_1 (a : Int) != rd l0_1 (b : Int)) = true := by simpa using q
          have hs3 : ((speculumbase_Lowest.f k (lsNum l0_0 l0_1 m1 m2 a b) (lsDen l0_1 m2 a b)).bind fun x => lsUpd x (xn, xd)) = some (yn, yd) := by have := HST2.out; rwa [if_neg q] at this
          obtain ⟨⟨x1, x2⟩, hx, hup⟩ := Option.bind_eq_some_iff.mp hs3
          simp only [lsNum, lsDen] at hx
          have HX := Aside0.mk hx
          have HUP : Aside0 (lsUpd (x1, x2) (xn, xd) = some (yn, yd)) := ⟨hup⟩
          clear HST2 hs3 hx hup q
          go_wp2
          go_quiet (fail)
          have T3 := T2.drewN nq
          have A3 := blk_drewN A2 nq
          clear T2 A2
          clear c00 c01 ha0 hb0 ha1 hb1 s0 s1 t0 t1
          generalize w2.drewN nq = w3 at *
          have c00 := (blk_cell T3.b0 0).trans rfl
          have c01 := (blk_cell T3.b0 1).trans rfl
          have ha0 := el_ (Kd.C_below HR0.out T3.bel) a hla0
          have hb0 := el_ (Kd.C_below HR0.out T3.bel) b hlb0
          have ha1 := el_ (Kd.C_below HR1.out T3.bel) a hla1
          have hb1 := el_ (Kd.C_below HR1.out T3.bel) b hlb1
          have s0 := (blk_cell T3.mn 0).trans rfl
          have s1 := (blk_cell T3.mn 1).trans rfl
          have t0 := (blk_cell T3.bs 0).trans rfl
          have t1 := (blk_cell T3.bs 1).trans rfl
          go_wp2
          go_quiet (fail)
          have T4 := T3.drewN nq
          have A4 := blk_drewN A3 nq
          clear T3 A3
          clear c00 c01 ha0 hb0 ha1 hb1 s0 s1 t0 t1
          generalize w3.drewN nq = w4 at *
          have c00 := (blk_cell T4.b0 0).trans rfl
          have c01 := (blk_cell T4.b0 1).trans rfl
          have ha0 := el_ (Kd.C_below HR0.out T4.bel) a hla0
          have hb0 := el_ (Kd.C_below HR0.out T4.bel) b hlb0
          have ha1 := el_ (Kd.C_below HR1.out T4.bel) a hla1
          have hb1 := el_ (Kd.C_below HR1.out T4.bel) b hlb1
          have s0 := (blk_cell T4.mn 0).trans rfl
          have s1 := (blk_cell T4.mn 1).trans rfl
          have t0 := (blk_cell T4.bs 0).trans rfl
          have t1 := (blk_cell T4.bs 1).trans rfl
          go_wp2
          go_still_tail 28, (by kernel_rfl)
          change wpList _ _ _ _ _ w4.drew
          have T5 := T4.drew
          have A5 := blk_drew A4
          clear T4 A4
          clear c00 c01 ha0 hb0 ha1 hb1 s0 s1 t0 t1
          generalize w4.drew = w5 at *
          by_cases z : xd = 0
          ·have hy : some (x1, x2) = some (yn, yd) := by have := HUP.out; unfold lsUpd at this; rwa [if_pos z] at this
           simp only [Option.some.injEq, Prod.mk.injEq] at hy
           obtain ⟨rfl, rfl⟩ := hy
           have z' : (xd == 0) = true := by simpa using z
           clear z HUP
           go_wp2_with (go_at_call 43; refine (speculumbase_Lowest.calls k _ _ x1 x2 _ HX.out).mono ?_; rintro e w6 ⟨rfl, hb6⟩; have T6 := T5.below hb6; have A6 := blk_below A5 hb6; clear T5 A5 hb6; have t0 := (blk_cell T6.bs 0).trans rfl; have t1 := (blk_cell T6.bs 1).trans rfl; have ft0 := blk_frozen T6.bs 0; have ft1 := blk_frozen T6.bs 1; have g0 := (blk_cell A6 0).trans rfl; have g1 := (blk_cell A6 1).trans rfl; have fg0 := blk_frozen A6 0; have fg1 := blk_frozen A6 1; have n3 := N3.out; have n4 := N3.out.symm)
           go_roundw
           case rel => exact ⟨b + 1, _, _, by omega, by go_num, (((T6.far (.inr ⟨N0.out, N1.out, N2.out, N3.out, N4.out⟩)).far (.inr ⟨N0.out, N1.out, N2.out, N3.out, N4.out⟩)).put _ _), HRE⟩
           case measure => simp [intOf]; omega
          ·obtain ⟨tt, ht, hy⟩ := Option.bind_eq_some_iff.mp (show (speculumref06_less2.f x1 x2 xn xd).bind (fun t => some (if t = true then (x1, x2) else (xn, xd))) = some (yn, yd) by have := HUP.out; unfold lsUpd at this; rwa [if_neg z] at this)
           have HT := Aside0.mk ht
           have HY := Aside0.mk hy
           have z' : (xd == 0) = false := by simpa using z
           clear ht hy z HUP
           go_wp2_with (first | (go_at_call 43; refine (speculumbase_Lowest.calls k _ _ x1 x2 _ HX.out).mono ?_; rintro e w6 ⟨rfl, hb6⟩; have T6 := T5.below hb6; have A6 := blk_below A5 hb6; clear T5 A5 hb6; have t0 := (blk_cell T6.bs 0).trans rfl; have t1 := (blk_cell T6.bs 1).trans rfl; have ft0 := blk_frozen T6.bs 0; have ft1 := blk_frozen T6.bs 1; have g0 := (blk_cell A6 0).trans rfl; have g1 := (blk_cell A6 1).trans rfl; have fg0 := blk_frozen A6 0; have fg1 := blk_frozen A6 1; have n3 := N3.out; have n4 := N3.out.symm) | (go_at_call 81; refine (speculumref06_less2.calls x1 x2 xn xd tt _ HT.out).mono ?_; rintro e w9 ⟨rfl, hb9⟩; have T9 := ((T6.far (.inr ⟨N0.out, N1.out, N2.out, N3.out, N4.out⟩)).far (.inr ⟨N0.out, N1.out, N2.out, N3.out, N4.out⟩)).below hb9; have A9 := blk_below (blk_put (cs := #[.int .i64 x1, .int .i64 1]) (blk_put (cs := #[.int .i64 (rd l0_0 (a : Int)), .int .i64 1]) A6 0 (.int .i64 x1) rfl) 1 (.int .i64 x2) rfl) hb9; clear T6 A6 hb9 t0 t1 ft0 ft1 g0 g1 fg0 fg1 n3 n4; have t0 := (blk_cell T9.bs 0).trans rfl; have t1 := (blk_cell T9.bs 1).trans rfl; have ft0 := blk_frozen T9.bs 0; have ft1 := blk_frozen T9.bs 1; have g0 := (blk_cell A9 0).trans rfl; have g1 := (blk_cell A9 1).trans rfl; have n3 := N3.out; have n4 := N3.out.symm))
           ·obtain rfl : tt = true := by assumption
            have hy : some (x1, x2) = some (yn, yd) := HY.out
            simp only [Option.some.injEq, Prod.mk.injEq] at hy
            obtain ⟨rfl, rfl⟩ := hy
            go_roundw
            case rel => exact ⟨b + 1, _, _, by omega, by go_num, (T9.put _ _), HRE⟩
            case measure => simp [intOf]; omega
           ·obtain rfl : tt = false := by assumption
            have hy : some (xn, xd) = some (yn, yd) := HY.out
            simp only [Option.some.injEq, Prod.mk.injEq] at hy
            obtain ⟨rfl, rfl⟩ := hy
            go_roundw
            case rel => exact ⟨b + 1, _, _, by omega, by go_num, T9, HRE⟩
            case measure => simp [intOf]; omega
      ·have hge : decide (l0_0.length < l0_1.length) = false := decide_eq_false (by rw [HL1.out]; exact Nat.lt_irrefl _)
       have c01 := (blk_cell hT.b0 1).trans rfl
       obtain rfl : b = l0_0.length := by omega
       have HA3 : Aside0 (lsAll k l0_0 l0_1 m1 m2 (lsRows l0_0.length (a + 1) (l0_0.length - (a + 1))) (xn, xd) = some (bn, bd)) := ⟨by have := HA.out; rwa [Nat.sub_self, lsRow, List.nil_append] at this⟩
       clear hlb0 hbN HA
       go_wp2
       go_roundw
       case rel => exact ⟨a + 1, _, _, by omega, by go_num, hT, HA3⟩
       case measure => simp [intOf]; omega
    ·have hge : decide (l0_0.length < l0_1.length) = false := decide_eq_false (by rw [HL1.out]; exact Nat.lt_irrefl _)
     obtain rfl : a = l0_0.length := by omega
     have hxb : some (xn, xd) = some (bn, bd) := by have := HA.out; rwa [Nat.sub_self, lsRows, lsAll] at this
     simp only [Option.some.injEq, Prod.mk.injEq] at hxb
     obtain ⟨rfl, rfl⟩ := hxb
     clear hla0 haN HA
     have t0 := (blk_cell hT.bs 0).trans rfl
     have t1 := (blk_cell hT.bs 1).trans rfl
     go_wp2_with (go_at_call 43; refine (speculumbase_Lowest.calls k _ _ r1 r2 _ HLOW.out).mono ?_; rintro e w6 ⟨rfl, hb6⟩; have T6 := hT.below hb6; clear hT hb6 t0 t1 c01; have r0 := (blk_cell T6.rs 0).trans rfl; have r1' := (blk_cell T6.rs 1).trans rfl; have f0 := blk_frozen T6.rs 0; have f1 := blk_frozen T6.rs 1)
     refine bodyPost_ret (results_cell_row rfl _ _ (w.heap.size + 1) 28 #[.int .i64 r1, .int .i64 r2] (0, 0) _ rfl (blk_put (cs := #[.int .i64 r1, .int .i64 0]) (blk_put (cs := #[.int .i64 0, .int .i64 0]) T6.rs 0 _ rfl) 1 _ rfl) Try.underlying28 rfl (by kernel_rfl)) rfl ?_
     exact ⟨rfl, below_set (below_set T6.bel (Nat.le_succ _)) (Nat.le_succ _)⟩
end Go.Proofs.Ytdkahcolfcmmpaa.Pr
namespace Go.Proofs.Ytdkahcolfcmmpaa.Pure
section
variable {q h : Nat → Int}
def cross (q h : Nat → Int) (a b z : Nat) : Int := (h z - h a) * (q b - q a) - (h b - h a) * (q z - q a)
theorem nn {x y : Int} (hx : 0 < x) (hh : 0 ≤ x * y) : 0 ≤ y := by
 rcases Int.lt_or_le y 0 with h1 | h1
 ·have := Int.mul_neg_of_pos_of_neg hx h1; omega
 ·exact h1
theorem cr_id1 (p b c k : Nat) : (q c - q b) * cross q h p b k = (q k - q b) * cross q h p b c + (q b - q p) * cross q h b c k := by unfold cross; grind
theorem cr_id2 (a' a k z : Nat) : (q a - q a') * cross q h a k z = (q k - q a) * cross q h a' a z + (q a - q z) * cross q h a' a k := by unfold cross; grind
theorem cr_id3 (p t k z : Nat) : (q k - q t) * cross q h p k z = (q k - q p) * cross q h t k z + (q k - q z) * (- cross q h p t k) := by unfold cross; grind
theorem cr_id4 (p t k z : Nat) : (q t - q p) * cross q h p k z = (q k - q p) * cross q h p t z + (q z - q p) * (- cross q h p t k) := by unfold cross; grind
theorem cr1 {p b c k : Nat} (h1 : q p < q b) (h2 : q b < q c) (h3 : q b ≤ q k) (h4 : 0 ≤ cross q h p b c) (h5 : 0 ≤ cross q h b c k) : 0 ≤ cross q h p b k := by
 refine nn (x := q c - q b) (by omega) ?_
 rw [cr_id1]
 have := Int.mul_nonneg (show 0 ≤ q k - q b by omega) h4
 have := Int.mul_nonneg (show 0 ≤ q b - q p by omega) h5
 omega
theorem cr2 {a' a k z : Nat} (h1 : q a' < q a) (h2 : q a ≤ q k) (h3 : q z ≤ q a) (h4 : 0 ≤ cross q h a' a z) (h5 : 0 ≤ cross q h a' a k) : 0 ≤ cross q h a k z := by
 refine nn (x := q a - q a') (by omega) ?_
 rw [cr_id2]
 have := Int.mul_nonneg (show 0 ≤ q k - q a by omega) h4
 have := Int.mul_nonneg (show 0 ≤ q a - q z by omega) h5
 omega
theorem cr3 {p t k z : Nat} (h1 : q p < q t) (h2 : q t < q k) (h3 : q z ≤ q k) (h4 : 0 ≤ cross q h t k z) (h5 : cross q h p t k ≤ 0) : 0 ≤ cross q h p k z := by
 refine nn (x := q k - q t) (by omega) ?_
 rw [cr_id3]
 have := Int.mul_nonneg (show 0 ≤ q k - q p by omega) h4
 have := Int.mul_nonneg (show 0 ≤ q k - q z by omega) (show 0 ≤ - cross q h p t k by omega)
 omega
theorem cr4 {p t k z : Nat} (h1 : q p < q t) (h2 : q t < q k) (h3 : q p ≤ q z) (h4 : 0 ≤ cross q h p t z) (h5 : cross q h p t k ≤ 0) : 0 ≤ cross q h p k z := by
 refine nn (x := q t - q p) (by omega) ?_
 rw [cr_id4]
 have := Int.mul_nonneg (show 0 ≤ q k - q p by omega) h4
 have := Int.mul_nonneg (show 0 ≤ q z - q p by omega) (show 0 ≤ - cross q h p t k by omega)
 omega
def Good (q h : Nat → Int) (P : Nat → Prop) : List Nat → Prop
 | [] => False
 | [a] => P a ∧ ∀ z, P z → q a ≤ q z ∧ (q z = q a → h a ≤ h z)
 | t :: p :: r => P t ∧ q p < q t ∧ (∀ z, P z → 0 ≤ cross q h p t z) ∧ Good q h P (p :: r)
theorem Good.top {P : Nat → Prop} : ∀ {t : Nat} {r : List Nat}, Good q h P (t :: r) → P t
 | _, [], h => h.1
 | _, _ :: _, h => h.1
theorem Good.eq {P : Nat → Prop} {t z : Nat} : ∀ {r : List Nat}, Good q h P (t :: r) → P z → q z = q t → h t ≤ h z
 | [], g, hz, e => (g.2 z hz).2 e
 | p :: r, g, hz, e => by
  obtain ⟨_, h1, h2, _⟩ := g
  have := h2 z hz
  unfold cross at this
  rw [e] at this
  have h3 : 0 ≤ (q t - q p) * (h z - h t) := by
   have : (q t - q p) * (h z - h t) = (h z - h p) * (q t - q p) - (h t - h p) * (q t - q p) := by grind
   omega
  have := nn (show 0 < q t - q p by omega) h3
  omega
theorem Good.ext {P : Nat → Prop} {k : Nat} : ∀ {c : Nat} {r : List Nat}, Good q h P (c :: r) → q c ≤ q k → (q k = q c → h c ≤ h k) → (∀ p r', r = p :: r' → 0 ≤ cross q h p c k) → Good q h (fun z => P z ∨ z = k) (c :: r)
 | c, [], g, h1, h2, _ => ⟨.inl g.1, fun z hz => by
   rcases hz with hz | rfl
   ·exact g.2 z hz
   ·exact ⟨h1, h2⟩⟩
 | c, p :: r, g, h1, h2, h3 => by
  obtain ⟨g1, g2, g3, g4⟩ := g
  refine ⟨.inl g1, g2, fun z hz => ?_, ?_⟩
  ·rcases hz with hz | rfl
   ·exact g3 z hz
   ·exact h3 p r rfl
  ·refine Good.ext g4 (by omega) (fun e => by omega) (fun p2 r2 e => ?_)
   subst e
   obtain ⟨_, e2, e3, _⟩ := g4
   exact cr1 e2 g2 (by omega) (e3 c g1) (h3 p _ rfl)
def Hyp (q h : Nat → Int) (P : Nat → Prop) (k a : Nat) : Prop := ∀ z, P z → q a ≤ q z → 0 ≤ cross q h a k z
theorem Good.hyp {P : Nat → Prop} {k t : Nat} {r : List Nat} (g : Good q h P (t :: r)) (hm : ∀ z, P z → q z ≤ q t) (hk : q t < q k) : Hyp q h P k t := by
 intro z hz h1
 have e : q z = q t := by have := hm z hz; omega
 have := g.eq hz e
 have := Int.mul_nonneg (show 0 ≤ h z - h t by omega) (show 0 ≤ q k - q t by omega)
 unfold cross
 rw [e]
 simp only [Int.sub_self, Int.mul_zero, Int.sub_zero]
 exact this
theorem Good.pop {P : Nat → Prop} {k a p : Nat} {r : List Nat} (g : Good q h P (a :: p :: r)) (hm : ∀ z, P z → q z ≤ q k) (hk : q a < q k) (hy : Hyp q h P k a) (hc : cross q h p a k ≤ 0) : Hyp q h P k p := by
 obtain ⟨g1, g2, g3, g4⟩ := g
 intro z hz h1
 rcases Int.lt_or_le (q z) (q a) with h2 | h2
 ·exact cr4 g2 hk h1 (g3 z hz) hc
 ·exact cr3 g2 hk (hm z hz) (hy z hz h2) hc
theorem cross_self (a k : Nat) : cross q h a k k = 0 := by unfold cross; grind
theorem Good.push {P : Nat → Prop} {k a : Nat} {r : List Nat} (g : Good q h P (a :: r)) (hk : q a < q k) (hy : Hyp q h P k a) (hc : ∀ p r', r = p :: r' → 0 ≤ cross q h p a k) : Good q h (fun z => P z ∨ z = k) (k :: a :: r) := by
 refine ⟨.inr rfl, hk, fun z hz => ?_, g.ext (by omega) (fun e => by omega) hc⟩
 rcases hz with hz | rfl
 ·rcases Int.lt_or_le (q z) (q a) with h2 | h2
  ·cases r with
   | nil => have := (g.2 z hz).1; omega
   | cons p r =>
    obtain ⟨_, g2, g3, _⟩ := g
    exact cr2 g2 (by omega) (by omega) (g3 z hz) (hc p r rfl)
  ·exact hy z hz h2
 ·rw [cross_self]; exact Int.le_refl _
theorem Good.skip {P : Nat → Prop} {k a : Nat} {r : List Nat} (g : Good q h P (a :: r)) (hk : q k = q a) (hh : h a ≤ h k) : Good q h (fun z => P z ∨ z = k) (a :: r) := by
 refine g.ext (by omega) (fun _ => hh) (fun p r' e => ?_)
 subst e
 obtain ⟨_, g2, _, _⟩ := g
 have := Int.mul_nonneg (show 0 ≤ h k - h a by omega) (show 0 ≤ q a - q p by omega)
 have e : cross q h p a k = (h k - h a) * (q a - q p) := by unfold cross; rw [hk]; grind
 rw [e]; exact this
end
end Go.Proofs.Ytdkahcolfcmmpaa.Pure
namespace Go.Proofs.Ytdkahcolfcmmpaa.RowB
open Go.ChangeShapes Go.WideShapes Go.ChangeAt Go.RowKit Go.Deep Go.Proofs.YtdkahcolfcmmpaaW.PrintWords Go.Proofs.Ytdkahcolfcmmpaa.Pr
set_option linter.unusedVariables false
theorem own : ownKnob Try.prog.godebug = none := by kernel_rfl
theorem laidOut : laidOutB Try.prog = true := by kernel_rfl
theorem isInts {H : Type} {enc : TypeId × Value → H} {W : World} {base n : Nat} {cs : List Value} {x : DataW H × List MemPlace} (h : DataW.trod enc Try.prog W base (fun _ => true) true n 22 cs = some x) :
    ∃ a c, ∃ l : List Int, cs = [.slice a l.length c] ∧ Kd.C (Kd.int .i64) W a l.length l ∧ l.length ≤ c ∧ ∀ x ∈ l, (Lit.int .i64 x).wf = true := by
  rcases open_ints Try.underlying22 Try.underlying3 (by kernel_rfl) h with ⟨rfl, _⟩ | ⟨x, len, c, zs, rfl, _, hl, hm, hz, _, hcell, hwz⟩
  · exact ⟨none, 0, [], rfl, Kd.C_nil _ _, Nat.le_refl _, by simp⟩
  · obtain ⟨l, rfl, hr, hm, hw, hc⟩ := ReadsInt.ofRowC (k := .i64) (w := W) (a := some x) (len := len) (cap := c) (zs := zs) (.inr ⟨_, rfl, hl, hm, by simpa using hz, hcell, hwz⟩)
    exact ⟨_, _, l, rfl, Kd.C_of_reads (d := (0 : Int)) (h1 := fun _ => rfl) hr, hc, hw⟩
end Go.Proofs.Ytdkahcolfcmmpaa.RowB
