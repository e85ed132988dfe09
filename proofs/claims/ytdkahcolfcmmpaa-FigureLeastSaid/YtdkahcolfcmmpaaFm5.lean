import Derived.Below
import Derived.ChangeArms
import Derived.ChangeOld
import Derived.ChangeSame
import Derived.Deep.Matrix
import Derived.Deep.SlicePairs
import Derived.Lib.SmallJoins
import Derived.OpenShut
import Derived.ProofKit
import Derived.ShutString
import Derived.SizedLaws
import Derived.StillTailTactics
import Derived.Test.YtdkahcolfcmmpaaFm1
import Derived.Test.YtdkahcolfcmmpaaFm2
import Derived.Test.YtdkahcolfcmmpaaFm3
import Derived.WalkKit
namespace Go.Proofs.Ytdkahcolfcmmpaa.Pr
open Go.RowKit Go.Proofs.YtdkahcolfcmmpaaW.PrintWords Go.Proofs.YtdkahcolfcmmpaaW.PrintLast Go.Proofs.YtdkahcolfcmmpaaW.PrintMore
attribute [local go_sem] max2_int min2_int max_two min_two max_three min_three max_four min_four
set_option linter.unusedVariables false
set_option linter.unusedSimpArgs false
def speculumlaw06_Known.f  : Option ((List (S38))) := some (([(⟨0, 2⟩ : S38), (⟨1, 4⟩ : S38), (⟨3, 5⟩ : S38)] : List (S38)))
set_option maxHeartbeats 8000000 in
set_option maxRecDepth 100000 in
theorem speculumlaw06_Known.calls  (r : List (S38)) (w : World) (h : speculumlaw06_Known.f  = some r) :
  Calls Try.prog 60 #[] w fun e w' => ∃ v0_ : Value, e = .returned (v0_) ∧ Kd.R k38 38 w' w.heap.size (fun _ => True) v0_ r ∧ Below w.heap.size w w' := by
 have hu38 := Try.underlying38
 have HB := Aside0.mk (Below.refl w.heap.size w)
 have H : (some (([(⟨0, 2⟩ : S38), (⟨1, 4⟩ : S38), (⟨3, 5⟩ : S38)] : List (S38)))) = some r := h
 clear h
 obtain ⟨y194, hy194⟩ : ∃ y_ : List (S38), y_ = (([(⟨0, 2⟩ : S38), (⟨1, 4⟩ : S38), (⟨3, 5⟩ : S38)] : List (S38))) := ⟨_, rfl⟩
 replace H : (some y194) = some r := by first | (rw [hy194]; with_reducible exact H) | (have H2_ := (Option.bind_some _ _).symm.trans H; rw [hy194]; with_reducible exact H2_) | (have H2_ := (Option.bind_some _ _).symm.trans H; with_reducible exact H2_) | with_reducible exact H | (rw [hy194]; exact H) | exact H
 have Ny194 := Aside0.mk hy194
 clear hy194
 obtain rfl := Option.some.inj H
 go_enter Try.func60, Try.ntmps60
 go_wp2_with (first | ((with_reducible refine gate_dst (N := 4) rfl ?_); refine Kd.R_lit k38 _ 38 ?hg (N := 4) ?hd (xs := ([(⟨0, 2⟩ : S38), (⟨1, 4⟩ : S38), (⟨3, 5⟩ : S38)] : List (S38))) (inner := [.int .i64 0, .int .i64 2, .int .i64 1, .int .i64 4, .int .i64 3, .int .i64 5]) (ok := fun _ => True) (okp := fun _ => True) ?hr ?hp (fun _ hk => hk) trivial (Below.refl _ _) (Nat.le_refl _) (by simp) ?_; (case hd => rfl); (case hg => rfl); (case hr => exact gr_); (case hp => exact (Reps.c2 (show Kd.M k38 _ _ _ (⟨0, 2⟩ : S38) [.int .i64 0, .int .i64 2] from (k38_mkM _ _ _ (⟨0, 2⟩ : S38) )) (Reps.c2 (show Kd.M k38 _ _ _ (⟨1, 4⟩ : S38) [.int .i64 1, .int .i64 4] from (k38_mkM _ _ _ (⟨1, 4⟩ : S38) )) (Reps.c2 (show Kd.M k38 _ _ _ (⟨3, 5⟩ : S38) [.int .i64 3, .int .i64 5] from (k38_mkM _ _ _ (⟨3, 5⟩ : S38) )) (Reps.none _ _))))); intro v195 w1 ho2 hb hg_ hnew_; clear hg_ hnew_; (first | rw [← Ny194.out] at ho2 | (simp only [Int.reduceToNat] at ho2; rw [← Ny194.out] at ho2)); have n0_ := Aside0.mk (Kd.R_lower ho2 (below_size (hb_ HB))); have n1_ := Aside0.mk (below_step (hb_ HB) hb); clear HB; have HO196 := n0_; have HB := n1_; clear n0_ n1_; clear hb ho2))
 go_ret
 exact ⟨_, by first | rfl | (simp [errW_none, errW_some] <;> rfl) | (simp [*, errW_none, errW_some] <;> rfl), by (with_reducible repeat (first | apply Kd.R_alloc | apply Kd.R_drewN | apply Kd.R_drew)); exact HO196.out, by repeat (first | (with_reducible first | exact HB.out | apply below_alloc | apply pw_below_drewN | apply below_drew1) | exact HB.out)⟩
def speculumbase_CopyInts.f (l0 : List Int) : Option (List Int) := (some (([] : List Int) : List Int)).bind fun y252 => (if y252.length + l0.length < 17592186044416 then (some (y252 ++ l0)) else (none))
set_option maxHeartbeats 8000000 in
set_option maxRecDepth 100000 in
theorem speculumbase_CopyInts.calls (A0 : Option Addr) (c0 : Nat) (l0 : List Int) (r : List Int) (w : World) (hr0 : Kd.C (Kd.int .i64) w A0 l0.length l0) (hc0 : l0.length ≤ c0) (h : speculumbase_CopyInts.f l0 = some r) :
  Calls Try.prog 46 #[.slice A0 l0.length c0] w fun e w' => ∃ v0_ : Value, e = .returned (v0_) ∧ Kd.R (Kd.int .i64) 3 w' w.heap.size (fun _ => True) v0_ r ∧ Below w.heap.size w w' := by
 have HR0 := Aside0.mk hr0
 have HC0 := Aside0.mk hc0
 clear hr0 hc0
 have HB := Aside0.mk (Below.refl w.heap.size w)
 have H : ((some (([] : List Int) : List Int)).bind fun y252 => (if y252.length + l0.length < 17592186044416 then (some (y252 ++ l0)) else (none))) = some r := h
 clear h
 obtain ⟨y252, hy252⟩ : ∃ y_ : List Int, y_ = (([] : List Int)) := ⟨_, rfl⟩
 replace H : (if y252.length + l0.length < 17592186044416 then (some (y252 ++ l0)) else (none)) = some r := by first | (rw [hy252]; with_reducible exact H) | (have H2_ := (Option.bind_some _ _).symm.trans H; rw [hy252]; with_reducible exact H2_) | (have H2_ := (Option.bind_some _ _).symm.trans H; with_reducible exact H2_) | with_reducible exact H | (rw [hy252]; exact H) | exact H
 have Ny252 := Aside0.mk hy252
 clear hy252
 by_cases c2 : y252.length + l0.length < 17592186044416
 ·rw [if_pos c2] at H
  have LMc2 := Aside0.mk c2
  clear c2
  obtain ⟨y255, hy255⟩ : ∃ y_ : List Int, y_ = (y252 ++ l0) := ⟨_, rfl⟩
  replace H : (some y255) = some r := by first | (rw [hy255]; with_reducible exact H) | (have H2_ := (Option.bind_some _ _).symm.trans H; rw [hy255]; with_reducible exact H2_) | (have H2_ := (Option.bind_some _ _).symm.trans H; with_reducible exact H2_) | with_reducible exact H | (rw [hy255]; exact H) | exact H
  have Ny255 := Aside0.mk hy255
  clear hy255
  obtain rfl := Option.some.inj H
  go_enter Try.func46, Try.ntmps46
  go_wp2_with (first | ((with_reducible refine gate_dst (N := 3) rfl ?_); refine Kd.R_lit (Kd.int .i64) _ 3 ?hg (N := 3) ?hd (xs := ([] : List Int)) (inner := []) (ok := fun _ => True) (okp := fun _ => True) ?hr ?hp (fun _ hk => hk) trivial (Below.refl _ _) (Nat.le_refl _) (by simp) ?_; (case hd => rfl); (case hg => rfl); (case hr => exact gr_); (case hp => exact (Reps.none _ _)); intro v253 w3 ho4 hb hg_ hnew_; clear hg_ hnew_; (first | rw [← Ny252.out] at ho4 | (simp only [Int.reduceToNat] at ho4; rw [← Ny252.out] at ho4)); have n0_ := Aside0.mk (Kd.R_lower ho4 (below_size (hb_ HB))); have n1_ := Aside0.mk (below_step (hb_ HB) hb); clear HB; have HO254 := n0_; have HB := n1_; clear n0_ n1_; clear hb ho4) | ((with_reducible refine gate_builtin (b := .append) (xs := #[.tmp 3, .tmp 4]) rfl ?_); at_builtin; refine Kd.R_append_rows (Kd.int .i64) (w0 := w) w.heap.size rfl (.tmp 3) (.tmp 4) 22 3 (.int .i64 0) 8 rfl Try.underlying22 info3 rfl di_ (by omega) v253 y252 l0 _ _ _ (fun _ => True) (fun _ => False) rfl rfl ?aO ?aR (fun _ _ h => h) (fun _ h => h.elim) ?aF ?aB ?aS ?aL ?_; (case aR => repeat (first | exact (Kd.C_below HR0.out HB.out) | (with_reducible refine Kd.C_alloc ?_ _) | (with_reducible refine Kd.C_drewN ?_ _) | (with_reducible refine Kd.C_drew ?_))); (case aB => exact (hb_ HB)); (case aF => exact (fun _ _ => trivial)); (case aO => exact (rk_ HO254)); (case aS => exact (below_size (hb_ HB))); (case aL => have := LMc2.out; omega); intro v256 w5 ho hb hg hat; rw [← Ny255.out] at ho; have n0_ := Aside0.mk (hb); have n1_ := Aside0.mk (ho); clear HB; clear HO254; have HB := n0_; have HO257 := n1_; clear n0_ n1_; clear ho hb hg hat))
  go_ret
  exact ⟨_, by first | rfl | (simp [errW_none, errW_some] <;> rfl) | (simp [*, errW_none, errW_some] <;> rfl), by (with_reducible repeat (first | apply Kd.R_alloc | apply Kd.R_drewN | apply Kd.R_drew)); exact HO257.out, by repeat (first | (with_reducible first | exact HB.out | apply below_alloc | apply pw_below_drewN | apply below_drew1) | exact HB.out)⟩
 ·rw [if_neg c2] at H
  exact absurd H (by simp)
def speculumlaw06_mapped.f (l0_0 : List Int) (l0_1 : List Int) (l0_2 : List Int) : Option (List Int × List Int × List Int) := (speculumbase_CopyInts.f l0_0).bind fun t260 => ((speculumbase_CopyInts.f l0_1).bind fun t263 => ((speculumbase_CopyInts.f l0_2).bind fun t266 => (some (t260, t263, t266))))
def speculumlaw06_mapped.T1 : Bool × List (List Nat × List Nat) := (true, [([], []), ([0], [0]), ([1], [1]), ([], []), ([3], [3]), ([4, 2], [4]), ([], []), ([6], [6]), ([7, 5], [7]), ([2, 5, 8], [2, 5, 8]), ([9, 8, 0, 1, 2, 3, 4, 5, 6, 7, 8, 9], [9])])
def speculumlaw06_mapped.B1 : List Nat := [0, 1, 3, 0, 8, 31, 0, 64, 255, 511, 1023]
theorem speculumlaw06_mapped.tab1 : rtab .any (opsOf Try.f17 1) = speculumlaw06_mapped.T1 := by kernel_rfl
theorem speculumlaw06_mapped.bits1 : waitsOk speculumlaw06_mapped.T1.2 speculumlaw06_mapped.B1 = true := by kernel_rfl
set_option maxHeartbeats 8000000 in
set_option maxRecDepth 100000 in
theorem speculumlaw06_mapped.calls (A0_0 : Option Addr) (c0_0 : Nat) (l0_0 : List Int) (A0_1 : Option Addr) (c0_1 : Nat) (l0_1 : List Int) (A0_2 : Option Addr) (c0_2 : Nat) (l0_2 : List Int) (r1 : List Int) (r2 : List Int) (r3 : List Int) (w : World) (hr0_0 : Kd.C (Kd.int .i64) w A0_0 l0_0.length l0_0) (hc0_0 : l0_0.length ≤ c0_0) (hr0_1 : Kd.C (Kd.int .i64) w A0_1 l0_1.length l0_1) (hc0_1 : l0_1.length ≤ c0_1) (hr0_2 : Kd.C (Kd.int .i64) w A0_2 l0_2.length l0_2) (hc0_2 : l0_2.length ≤ c0_2) (h : speculumlaw06_mapped.f l0_0 l0_1 l0_2 = some (r1, r2, r3)) :
  Calls Try.prog 17 #[.agg #[.slice A0_0 l0_0.length c0_0, .slice A0_1 l0_1.length c0_1, .slice A0_2 l0_2.length c0_2]] w fun e w' => ∃ v0_ v1_ v2_ : Value, e = .returned (.agg #[v0_, v1_, v2_]) ∧ Kd.R (Kd.int .i64) 3 w' w.heap.size (fun k_ => some k_ ≠ (v1_ : Value).ownBlock ∧ some k_ ≠ (v2_ : Value).ownBlock) v0_ r1 ∧ Kd.R (Kd.int .i64) 3 w' w.heap.size (fun k_ => some k_ ≠ (v0_ : Value).ownBlock ∧ some k_ ≠ (v2_ : Value).ownBlock) v1_ r2 ∧ Kd.R (Kd.int .i64) 3 w' w.heap.size (fun k_ => some k_ ≠ (v0_ : Value).ownBlock ∧ some k_ ≠ (v1_ : Value).ownBlock) v2_ r3 ∧ Below w.heap.size w w' := by
 have hu24 := Try.underlying24
 have HR0_0 := Aside0.mk hr0_0
 have HC0_0 := Aside0.mk hc0_0
 clear hr0_0 hc0_0
 have HR0_1 := Aside0.mk hr0_1
 have HC0_1 := Aside0.mk hc0_1
 clear hr0_1 hc0_1
 have HR0_2 := Aside0.mk hr0_2
 have HC0_2 := Aside0.mk hc0_2
 clear hr0_2 hc0_2
 have HB := Aside0.mk (Below.refl w.heap.size w)
 have H : ((speculumbase_CopyInts.f l0_0).bind fun t260 => ((speculumbase_CopyInts.f l0_1).bind fun t263 => ((speculumbase_CopyInts.f l0_2).bind fun t266 => (some (t260, t263, t266))))) = some (r1, r2, r3) := h
 clear h
 replace H := Option.bind_eq_some_iff.mp H
 obtain ⟨t260, A20, H⟩ := H
 replace H : ((speculumbase_CopyInts.f l0_1).bind fun t263 => ((speculumbase_CopyInts.f l0_2).bind fun t266 => (some (t260, t263, t266)))) = some (r1, r2, r3) := H
 have A2 := Aside0.mk A20
 clear A20
 replace H := Option.bind_eq_some_iff.mp H
 obtain ⟨t263, A30, H⟩ := H
 replace H : ((speculumbase_CopyInts.f l0_2).bind fun t266 => (some (t260, t263, t266))) = some (r1, r2, r3) := H
 have A3 := Aside0.mk A30
 clear A30
 replace H := Option.bind_eq_some_iff.mp H
 obtain ⟨t266, A40, H⟩ := H
 replace H : (some (t260, t263, t266)) = some (r1, r2, r3) := H
 have A4 := Aside0.mk A40
 clear A40
 simp only [Option.some.injEq, Prod.mk.injEq] at H
 obtain ⟨rfl, rfl, rfl⟩ := H
 go_enter Try.func17, Try.ntmps17
 try go_wp2_with (first | ((with_reducible refine gate_dst (N := 1) rfl ?_); refine box_event ?hg (N := 1) ?hd (cs := #[.slice A0_0 l0_0.length c0_0, .slice A0_1 l0_1.length c0_1, .slice A0_2 l0_2.length c0_2]) (t := 24) ?hr ?_; (case hd => rfl); (case hg => rfl); (case hr => exact gr_); intro gb258 hg w5 hbox hb; have n0_ := Aside0.mk (below_step (hb_ HB) hb); have n1_ := Aside0.mk (hbox); have n2_ := Aside0.mk ((hz_ HB hg)); have n3_ := Aside0.mk ((hz_ HB hg)); clear HB; have HB := n0_; have BK258 := n1_; have GW258 := n2_; have GE258 := n3_; clear n0_ n1_ n2_ n3_; clear hb hbox hg) | ((with_reducible refine gate_dst (N := 2) rfl ?_); refine box_event ?hg (N := 2) ?hd (cs := #[.slice none 0 0, .slice none 0 0, .slice none 0 0]) (t := 24) ?hr ?_; (case hd => rfl); (case hg => rfl); (case hr => exact gr_); intro gb259 hg w6 hbox hb; have n0_ := Aside0.mk (bb_ BK258 hb); have n1_ := Aside0.mk (below_step (hb_ HB) hb); have n2_ := Aside0.mk (hbox); have n3_ := Aside0.mk ((hz_ HB hg)); have n4_ := Aside0.mk ((hz_ HB hg)); have n5_ := Aside0.mk ((nl_ BK258 hg)); have n6_ := Aside0.mk ((ng_ BK258 hg)); clear BK258; clear HB; have BK258 := n0_; have HB := n1_; have BK259 := n2_; have GW259 := n3_; have GE259 := n4_; have NB258_259 := n5_; have NB259_258 := n6_; clear n0_ n1_ n2_ n3_ n4_ n5_ n6_; clear hb hbox hg))
 have n0_ := Aside0.mk (blk_drew BK258.out)
 have n1_ := Aside0.mk (blk_drew BK259.out)
 have n2_ := Aside0.mk (below_drew1 HB.out)
 clear BK258
 clear BK259
 clear HB
 have BK258 := n0_
 have BK259 := n1_
 have HB := n2_
 clear n0_ n1_ n2_
 refine start_ (n := 11) (S := fun w' => w'.cell? ⟨gb258, 0, none⟩ = some (.slice A0_0 l0_0.length c0_0) ∧ w'.cell? ⟨gb258, 1, none⟩ = some (.slice A0_1 l0_1.length c0_1) ∧ w'.cell? ⟨gb258, 2, none⟩ = some (.slice A0_2 l0_2.length c0_2)) (ds := []) #[false, false, false, false, false, false, false, false, false, false, false] (by kernel_rfl) rfl rfl ⟨(blk_cell BK258.out 0).trans rfl, (blk_cell BK258.out 1).trans rfl, (blk_cell BK258.out 2).trans rfl⟩ (fun hHeld => ?_); refine with_tabW speculumlaw06_mapped.tab1 speculumlaw06_mapped.bits1 (fun HT_ HW_ => ?_)
 generalize w6.drew = w7 at BK258 BK259 HB hHeld ⊢
 refine pure_ (i := 0) (N := some 3) (v := ?_) (a' := ?_) #[true, false, false, false, false, false, false, false, false, false, false] rfl rfl (any_of HT_.out (by kernel_rfl)) (fun _ _ _ h => h) (Or.inl ⟨by rfl, ?_⟩) ?_ ?_
 rotate_left
 ·exact gs_
 rotate_left
 ·exact pt_
 refine pure_ (i := 3) (N := some 6) (v := ?_) (a' := ?_) #[true, false, false, true, false, false, false, false, false, false, false] rfl rfl (any_of HT_.out (by kernel_rfl)) (fun _ _ _ h => h) (Or.inl ⟨by rfl, ?_⟩) ?_ ?_
 rotate_left
 ·exact gs_
 rotate_left
 ·exact pt_
 refine pure_ (i := 6) (N := some 9) (v := ?_) (a' := ?_) #[true, false, false, true, false, false, true, false, false, false, false] rfl rfl (any_of HT_.out (by kernel_rfl)) (fun _ _ _ h => h) (Or.inl ⟨by rfl, ?_⟩) ?_ ?_
 rotate_left
 ·exact gs_
 rotate_left
 ·exact pt_
 refine take_ (i := 1) (N := some 4) (v := ?_) (a' := ?_) #[true, true, false, true, false, false, true, false, false, false, false] rfl rfl (take_ofW HT_.out HW_.out (by kernel_rfl)) (fun _ _ _ h => h) (Or.inl ⟨by rfl, ?_⟩) hHeld ?_ ?_
 rotate_left
 ·rintro w' ⟨s0, s1, s2⟩; go_simp; with_reducible rfl
 rotate_left
 ·exact pt_
 refine take_ (i := 4) (N := some 7) (v := ?_) (a' := ?_) #[true, true, false, true, true, false, true, false, false, false, false] rfl rfl (take_ofW HT_.out HW_.out (by kernel_rfl)) (fun _ _ _ h => h) (Or.inl ⟨by rfl, ?_⟩) hHeld ?_ ?_
 rotate_left
 ·rintro w' ⟨s0, s1, s2⟩; go_simp; with_reducible rfl
 rotate_left
 ·exact pt_
 refine take_ (i := 7) (N := some 10) (v := ?_) (a' := ?_) #[true, true, false, true, true, false, true, true, false, false, false] rfl rfl (take_ofW HT_.out HW_.out (by kernel_rfl)) (fun _ _ _ h => h) (Or.inl ⟨by rfl, ?_⟩) hHeld ?_ ?_
 rotate_left
 ·rintro w' ⟨s0, s1, s2⟩; go_simp; with_reducible rfl
 rotate_left
 ·exact pt_
 refine one_ (i := 2) (N := some 5) #[true, true, true, true, true, false, true, true, false, false, false] rfl rfl (one_of HT_.out (by kernel_rfl)) di_ (fun K hK => ?_)
 refine goes_ Try.func46 (by kernel_rfl) rfl #[.slice A0_0 l0_0.length c0_0] (by rfl) rfl rfl ma_ ?_
 with_reducible refine (speculumbase_CopyInts.calls _ _ l0_0 t260 _ ?side1 ?side2 A2.out).mono ?_
 (case side1 => repeat (first | exact (Kd.C_below HR0_0.out HB.out) | (with_reducible refine Kd.C_alloc ?_ _) | (with_reducible refine Kd.C_drewN ?_ _) | (with_reducible refine Kd.C_drew ?_)))
 (case side2 => exact HC0_0.out)
 rintro e w8 ⟨v261, rfl, ho0, hb⟩
 refine ⟨_, rfl, ?_⟩
 have n0_ := Aside0.mk (Kd.R_lower ho0 (below_size (hb_ HB)))
 have n1_ := Aside0.mk (bb_ BK258 hb)
 have n2_ := Aside0.mk (bb_ BK259 hb)
 have n3_ := Aside0.mk (below_step (hb_ HB) hb)
 clear BK258
 clear BK259
 clear HB
 have HO262 := n0_
 have BK258 := n1_
 have BK259 := n2_
 have HB := n3_
 clear n0_ n1_ n2_ n3_
 (try clear hb)
 (try clear hb2)
 (try clear hk)
 (try clear hi)
 (try clear ho0)
 refine hK.out _ _ ⟨(blk_cell BK258.out 0).trans rfl, (blk_cell BK258.out 1).trans rfl, (blk_cell BK258.out 2).trans rfl⟩ (fun hHeld => ?_)
 clear hK K
 refine norm_ (a' := ?_) ?_ ?_
 rotate_left
 ·show Act.put _ (some 5) _ = _
  simp only [Act.put, List.setIfInBounds_toArray, List.set_cons_zero, List.set_cons_succ, i64_w, i32_w]
  rfl
 refine one_ (i := 5) (N := some 8) #[true, true, true, true, true, true, true, true, false, false, false] rfl rfl (one_of HT_.out (by kernel_rfl)) di_ (fun K hK => ?_)
 refine goes_ Try.func46 (by kernel_rfl) rfl #[.slice A0_1 l0_1.length c0_1] (by rfl) rfl rfl ma_ ?_
 with_reducible refine (speculumbase_CopyInts.calls _ _ l0_1 t263 _ ?side1 ?side2 A3.out).mono ?_
 (case side1 => repeat (first | exact (Kd.C_below HR0_1.out HB.out) | (with_reducible refine Kd.C_alloc ?_ _) | (with_reducible refine Kd.C_drewN ?_ _) | (with_reducible refine Kd.C_drew ?_)))
 (case side2 => exact HC0_1.out)
 rintro e w9 ⟨v264, rfl, ho0, hb⟩
 refine ⟨_, rfl, ?_⟩
 have n0_ := Aside0.mk (Kd.R_elder' (rk_ HO262) (Kd.R_base ho0) hb)
 have n1_ := Aside0.mk (Kd.R_lower (Kd.R_new' ho0 (Kd.R_lt (rk_ HO262))) (below_size (hb_ HB)))
 have n2_ := Aside0.mk (bb_ BK258 hb)
 have n3_ := Aside0.mk (bb_ BK259 hb)
 have n4_ := Aside0.mk (below_step (hb_ HB) hb)
 clear HO262
 clear BK258
 clear BK259
 clear HB
 have HO262 := n0_
 have HO265 := n1_
 have BK258 := n2_
 have BK259 := n3_
 have HB := n4_
 clear n0_ n1_ n2_ n3_ n4_
 (try clear hb)
 (try clear hb2)
 (try clear hk)
 (try clear hi)
 (try clear ho0)
 refine hK.out _ _ ⟨(blk_cell BK258.out 0).trans rfl, (blk_cell BK258.out 1).trans rfl, (blk_cell BK258.out 2).trans rfl⟩ (fun hHeld => ?_)
 clear hK K
 refine norm_ (a' := ?_) ?_ ?_
 rotate_left
 ·show Act.put _ (some 8) _ = _
  simp only [Act.put, List.setIfInBounds_toArray, List.set_cons_zero, List.set_cons_succ, i64_w, i32_w]
  rfl
 refine one_ (i := 8) (N := some 11) #[true, true, true, true, true, true, true, true, true, false, false] rfl rfl (one_of HT_.out (by kernel_rfl)) di_ (fun K hK => ?_)
 refine goes_ Try.func46 (by kernel_rfl) rfl #[.slice A0_2 l0_2.length c0_2] (by rfl) rfl rfl ma_ ?_
 with_reducible refine (speculumbase_CopyInts.calls _ _ l0_2 t266 _ ?side1 ?side2 A4.out).mono ?_
 (case side1 => repeat (first | exact (Kd.C_below HR0_2.out HB.out) | (with_reducible refine Kd.C_alloc ?_ _) | (with_reducible refine Kd.C_drewN ?_ _) | (with_reducible refine Kd.C_drew ?_)))
 (case side2 => exact HC0_2.out)
 rintro e w10 ⟨v267, rfl, ho0, hb⟩
 refine ⟨_, rfl, ?_⟩
 have n0_ := Aside0.mk (Kd.R_elder' (rk_ HO262) (Kd.R_base ho0) hb)
 have n1_ := Aside0.mk (Kd.R_elder' (rk_ HO265) (Kd.R_base ho0) hb)
 have n2_ := Aside0.mk (Kd.R_lower (Kd.R_new' (Kd.R_new' ho0 (Kd.R_lt (rk_ HO262))) (Kd.R_lt (rk_ HO265))) (below_size (hb_ HB)))
 have n3_ := Aside0.mk (bb_ BK258 hb)
 have n4_ := Aside0.mk (bb_ BK259 hb)
 have n5_ := Aside0.mk (below_step (hb_ HB) hb)
 clear HO262
 clear HO265
 clear BK258
 clear BK259
 clear HB
 have HO262 := n0_
 have HO265 := n1_
 have HO268 := n2_
 have BK258 := n3_
 have BK259 := n4_
 have HB := n5_
 clear n0_ n1_ n2_ n3_ n4_ n5_
 (try clear hb)
 (try clear hb2)
 (try clear hk)
 (try clear hi)
 (try clear ho0)
 obtain ⟨Ao11, co11, eo11⟩ := Kd.R_slice HO268.out
 (first | subst eo11 | (injection eo11 with f1_ f2_ f3_; have f4_ := f1_.symm; have f5_ := f3_.symm; clear f1_ f2_ f3_; subst f4_; subst f5_))
 obtain ⟨Ao12, co12, eo12⟩ := Kd.R_slice HO265.out
 (first | subst eo12 | (injection eo12 with f1_ f2_ f3_; have f4_ := f1_.symm; have f5_ := f3_.symm; clear f1_ f2_ f3_; subst f4_; subst f5_))
 obtain ⟨Ao13, co13, eo13⟩ := Kd.R_slice HO262.out
 (first | subst eo13 | (injection eo13 with f1_ f2_ f3_; have f4_ := f1_.symm; have f5_ := f3_.symm; clear f1_ f2_ f3_; subst f4_; subst f5_))
 refine hK.out _ _ ⟨(blk_cell BK258.out 0).trans rfl, (blk_cell BK258.out 1).trans rfl, (blk_cell BK258.out 2).trans rfl⟩ (fun hHeld => ?_)
 clear hK K
 refine norm_ (a' := ?_) ?_ ?_
 rotate_left
 ·show Act.put _ (some 11) _ = _
  simp only [Act.put, List.setIfInBounds_toArray, List.set_cons_zero, List.set_cons_succ, i64_w, i32_w]
  rfl
 refine pure_ (i := 9) (N := some 12) (v := ?_) (a' := ?_) #[true, true, true, true, true, true, true, true, true, true, false] rfl rfl (any_of HT_.out (by kernel_rfl)) (fun _ _ _ h => h) (Or.inl ⟨by rfl, ?_⟩) ?_ ?_
 rotate_left
 ·exact gs_
 rotate_left
 ·exact pt_
 refine one_ (i := 10) (N := none) #[true, true, true, true, true, true, true, true, true, true, true] rfl rfl (one_of HT_.out (by kernel_rfl)) di_ (fun K hK => ?_)
 have hs14 : w10.cell? ⟨gb259, 0, none⟩ = some (.slice none 0 0) := (blk_cell BK259.out 0).trans rfl
 have hfs14 := blk_frozen BK259.out 0
 have hns14_0 := NB258_259.out
 have hms14_0 := NB259_258.out
 have hs15 : w10.cell? ⟨gb259, 1, none⟩ = some (.slice none 0 0) := (blk_cell BK259.out 1).trans rfl
 have hfs15 := blk_frozen BK259.out 1
 have hns15_0 := NB258_259.out
 have hms15_0 := NB259_258.out
 have hs16 : w10.cell? ⟨gb259, 2, none⟩ = some (.slice none 0 0) := (blk_cell BK259.out 2).trans rfl
 have hfs16 := blk_frozen BK259.out 2
 have hns16_0 := NB258_259.out
 have hms16_0 := NB259_258.out
 refine skip_ (w1 := ?_) (by rfl) rfl ?_ ?_
 rotate_left
 ·go_simp
  rfl
 refine hK.out _ _ ⟨((cell_far (p := ⟨gb259, _, none⟩) NB258_259.out _).trans (((cell_far (p := ⟨gb259, _, none⟩) NB258_259.out _).trans (((cell_far (p := ⟨gb259, _, none⟩) NB258_259.out _).trans (hHeld.1)))))), ((cell_far (p := ⟨gb259, _, none⟩) NB258_259.out _).trans (((cell_far (p := ⟨gb259, _, none⟩) NB258_259.out _).trans (((cell_far (p := ⟨gb259, _, none⟩) NB258_259.out _).trans (hHeld.2.1)))))), ((cell_far (p := ⟨gb259, _, none⟩) NB258_259.out _).trans (((cell_far (p := ⟨gb259, _, none⟩) NB258_259.out _).trans (((cell_far (p := ⟨gb259, _, none⟩) NB258_259.out _).trans (hHeld.2.2))))))⟩ (fun hHeld => ?_)
 clear hK K
 refine done_ (done_of HT_.out (by kernel_rfl)) ?_
 try go_wp2
 refine bodyPost_ret (results_cell_row rfl _ _ gb259 24 #[.slice Ao13 t260.length co13, .slice Ao12 t263.length co12, .slice Ao11 t266.length co11] (0, 0) _ rfl (by (with_reducible repeat (first | refine blk_drewN ?_ _ | refine blk_drew ?_ | refine blk_alloc ?_ _)); refine blk_put (cs := #[.slice Ao13 t260.length co13, .slice Ao12 t263.length co12, .slice none 0 0]) ?_ 2 _ rfl; (with_reducible repeat (first | refine blk_drewN ?_ _ | refine blk_drew ?_ | refine blk_alloc ?_ _)); refine blk_put (cs := #[.slice Ao13 t260.length co13, .slice none 0 0, .slice none 0 0]) ?_ 1 _ rfl; (with_reducible repeat (first | refine blk_drewN ?_ _ | refine blk_drew ?_ | refine blk_alloc ?_ _)); refine blk_put (cs := #[.slice none 0 0, .slice none 0 0, .slice none 0 0]) ?_ 0 _ rfl; (with_reducible repeat (first | refine blk_drewN ?_ _ | refine blk_drew ?_ | refine blk_alloc ?_ _)); exact BK259.out) Try.underlying24 rfl (by kernel_rfl)) rfl ?_
 exact ⟨_, _, _, by first | rfl | (simp [errW_none, errW_some] <;> rfl) | (simp [*, errW_none, errW_some] <;> rfl), by (with_reducible repeat (first | apply Kd.R_alloc | apply Kd.R_drewN | apply Kd.R_drew)); exact Kd.R_mono (Kd.R_far (p := ⟨gb259, 2, none⟩) (Kd.R_far (p := ⟨gb259, 1, none⟩) (Kd.R_far (p := ⟨gb259, 0, none⟩) (Kd.R_types HO262.out BK259.out di_) (fun _ hk => hk.2) (.slice Ao13 t260.length co13)) (fun _ hk => hk.2) (.slice Ao12 t263.length co12)) (fun _ hk => hk.2) (.slice Ao11 t266.length co11)) (fun _ hk => ⟨hk.1.1.2, hk.1.2⟩), by (with_reducible repeat (first | apply Kd.R_alloc | apply Kd.R_drewN | apply Kd.R_drew)); exact Kd.R_mono (Kd.R_far (p := ⟨gb259, 2, none⟩) (Kd.R_far (p := ⟨gb259, 1, none⟩) (Kd.R_far (p := ⟨gb259, 0, none⟩) (Kd.R_types HO265.out BK259.out di_) (fun _ hk => hk.2) (.slice Ao13 t260.length co13)) (fun _ hk => hk.2) (.slice Ao12 t263.length co12)) (fun _ hk => hk.2) (.slice Ao11 t266.length co11)) (fun _ hk => ⟨hk.1.1.2, hk.1.2⟩), by (with_reducible repeat (first | apply Kd.R_alloc | apply Kd.R_drewN | apply Kd.R_drew)); exact Kd.R_mono (Kd.R_far (p := ⟨gb259, 2, none⟩) (Kd.R_far (p := ⟨gb259, 1, none⟩) (Kd.R_far (p := ⟨gb259, 0, none⟩) (Kd.R_types HO268.out BK259.out di_) (fun _ hk => hk.2) (.slice Ao13 t260.length co13)) (fun _ hk => hk.2) (.slice Ao12 t263.length co12)) (fun _ hk => hk.2) (.slice Ao11 t266.length co11)) (fun _ hk => ⟨hk.1.1.2, hk.1.2⟩), by repeat (first | (with_reducible first | exact HB.out | apply below_alloc | apply pw_below_drewN | apply below_drew1 | refine below_set ?_ GE258.out | refine below_set ?_ GE259.out) | exact HB.out)⟩
def speculumbase_Within.f (a0 : Int) (a1 : Int) (a2 : Int) : Option (Bool) := if a0 ≥ a1 then (some (decide (a0 ≤ a2))) else (some false)
set_option maxHeartbeats 8000000 in
set_option maxRecDepth 100000 in
theorem speculumbase_Within.calls (a0 : Int) (a1 : Int) (a2 : Int) (r : Bool) (w : World) (h : speculumbase_Within.f a0 a1 a2 = some r) :
  Calls Try.prog 28 #[.int .i64 a0, .int .i64 a1, .int .i64 a2] w fun e w' => e = .returned (.bool r) ∧ Drawn0 w w' := by
 have H : (if a0 ≥ a1 then (some (decide (a0 ≤ a2))) else (some false)) = some r := h
 clear h
 by_cases c4 : a0 ≥ a1
 ·rw [if_pos c4] at H
  have c4b0 : decide (a1 ≤ a0) = true := decide_eq_true c4
  clear c4
  obtain rfl := Option.some.inj H
  go_enter Try.func28, Try.ntmps28
  go_wp2
  go_ret
  exact ⟨by first | rfl | (simp; done) | (simp [*]; done), by repeat (first | exact Drawn0.refl _ | apply Drawn0.step)⟩
 ·rw [if_neg c4] at H
  have c4b0 : decide (a1 ≤ a0) = false := decide_eq_false c4
  clear c4
  obtain rfl := Option.some.inj H
  go_enter Try.func28, Try.ntmps28
  go_wp2
  go_ret
  exact ⟨by first | rfl | (simp; done) | (simp [*]; done), by repeat (first | exact Drawn0.refl _ | apply Drawn0.step)⟩
def speculumref06_isHeight.f (a0 : Int) : Option (Bool) := (speculumbase_Within.f a0 (-100000) 100000).bind fun t269 => (some t269)
set_option maxHeartbeats 8000000 in
set_option maxRecDepth 100000 in
theorem speculumref06_isHeight.calls (a0 : Int) (r : Bool) (w : World) (h : speculumref06_isHeight.f a0 = some r) :
  Calls Try.prog 64 #[.int .i64 a0] w fun e w' => e = .returned (.bool r) ∧ Drawn0 w w' := by
 have H : ((speculumbase_Within.f a0 (-100000) 100000).bind fun t269 => (some t269)) = some r := h
 clear h
 replace H := Option.bind_eq_some_iff.mp H
 obtain ⟨t269, A20, H⟩ := H
 replace H : (some t269) = some r := H
 have A2 := Aside0.mk A20
 clear A20
 obtain rfl := Option.some.inj H
 go_enter Try.func64, Try.ntmps64
 go_wp2_with (first | ((with_reducible refine gate_callee (f := 28) rfl ?_); refine goesL_ (some 4) rfl rfl Try.func28 (by kernel_rfl) rfl #[.int .i64 a0, .int .i64 (-100000), .int .i64 100000] rfl ma_ ?_; (with_reducible refine (speculumbase_Within.calls a0 (-100000) 100000 t269 _ A2.out).mono ?_); rintro e w' ⟨rfl, ⟨nd, rfl⟩⟩; refine ⟨_, rfl, ?_⟩))
 go_ret
 exact ⟨by first | rfl | (simp; done) | (simp [*]; done), by repeat (first | exact Drawn0.refl _ | apply Drawn0.step)⟩
mutual
def speculumref06_CheckMap.j0 : Nat → Int → Bool → List Int → List Int → List Int → Option (Int)
 | 0, _, _, _, _, _ => none
 | k + 1, x3, x25, x271000, x271001, x271002 => if x25 = true then (some 10) else (speculumref06_CheckMap.l0 k x3 0 0 x271000 x271001 x271002)
def speculumref06_CheckMap.l0 : Nat → Int → Int → Int → List Int → List Int → List Int → Option (Int)
 | 0, _, _, _, _, _, _ => none
 | k + 1, x3, x4, x5, x271000, x271001, x271002 => if x5 < x3 then (if 0 ≤ x5 then (if x5 < (x271000.length : Int) then ((speculumref06_isHeight.f (rd x271000 x5)).bind fun t273 => (if t273 = true then (if x5 < (x271001.length : Int) then ((speculumbase_Within.f (rd x271001 x5) 0 1000).bind fun t275 => (if t275 = true then (if x5 < (x271002.length : Int) then ((speculumbase_Within.f (rd x271002 x5) 0 1000).bind fun t277 => (if t277 = true then (speculumref06_CheckMap.l0 k x3 (wrap64 (x4 + (rd x271002 x5))) (wrap64 (x5 + 1)) x271000 x271001 x271002) else (some 2))) else (none)) else (some 2))) else (none)) else (some 2))) else (none)) else (none)) else (if x4 = 0 then (some 11) else (some 0))
end
def speculumref06_CheckMap.f (k : Nat) (l0_0 : List Int) (l0_1 : List Int) (l0_2 : List Int) : Option (Int) := (speculumbase_Within.f (l0_0.length : Int) 1 40).bind fun t271 => (if t271 = true then (if (l0_1.length : Int) = (l0_0.length : Int) then (speculumref06_CheckMap.j0 k (l0_0.length : Int) ((l0_2.length : Int) != (l0_0.length : Int)) l0_0 l0_1 l0_2) else (speculumref06_CheckMap.j0 k (l0_0.length : Int) true l0_0 l0_1 l0_2)) else (speculumref06_CheckMap.j0 k (l0_0.length : Int) true l0_0 l0_1 l0_2))
set_option maxHeartbeats 8000000 in
set_option maxRecDepth 100000 in
theorem speculumref06_CheckMap.calls (k : Nat) (A0_0 : Option Addr) (c0_0 : Nat) (l0_0 : List Int) (A0_1 : Option Addr) (c0_1 : Nat) (l0_1 : List Int) (A0_2 : Option Addr) (c0_2 : Nat) (l0_2 : List Int) (r : Int) (w : World) (hr0_0 : Kd.C (Kd.int .i64) w A0_0 l0_0.length l0_0) (hc0_0 : l0_0.length ≤ c0_0) (hr0_1 : Kd.C (Kd.int .i64) w A0_1 l0_1.length l0_1) (hc0_1 : l0_1.length ≤ c0_1) (hr0_2 : Kd.C (Kd.int .i64) w A0_2 l0_2.length l0_2) (hc0_2 : l0_2.length ≤ c0_2) (h : speculumref06_CheckMap.f k l0_0 l0_1 l0_2 = some r) :
  Calls Try.prog 18 #[.agg #[.slice A0_0 l0_0.length c0_0, .slice A0_1 l0_1.length c0_1, .slice A0_2 l0_2.length c0_2]] w fun e w' => e = .returned (.int .i64 r) ∧ Below w.heap.size w w' := by
 have hu24 := Try.underlying24
 have HR0_0 := Aside0.mk hr0_0
 have HC0_0 := Aside0.mk hc0_0
 clear hr0_0 hc0_0
 have HR0_1 := Aside0.mk hr0_1
 have HC0_1 := Aside0.mk hc0_1
 clear hr0_1 hc0_1
 have HR0_2 := Aside0.mk hr0_2
 have HC0_2 := Aside0.mk hc0_2
 clear hr0_2 hc0_2
 have HB := Aside0.mk (Below.refl w.heap.size w)
 have H : ((speculumbase_Within.f (l0_0.length : Int) 1 40).bind fun t271 => (if t271 = true then (if (l0_1.length : Int) = (l0_0.length : Int) then (speculumref06_CheckMap.j0 k (l0_0.length : Int) ((l0_2.length : Int) != (l0_0.length : Int)) l0_0 l0_1 l0_2) else (speculumref06_CheckMap.j0 k (l0_0.length : Int) true l0_0 l0_1 l0_2)) else (speculumref06_CheckMap.j0 k (l0_0.length : Int) true l0_0 l0_1 l0_2))) = some r := h
 clear h
 have HC2 := Aside0.mk H
 clear H
 go_enter Try.func18, Try.ntmps18
 go_upto_region 2 with (first | ((with_reducible refine gate_dst (N := 1) rfl ?_); (try (refine gate_guard (by rfl) ?_; dsimp only)); refine box_event ?hg (N := 1) ?hd (cs := #[.slice A0_0 l0_0.length c0_0, .slice A0_1 l0_1.length c0_1, .slice A0_2 l0_2.length c0_2]) (t := 24) ?hr ?_; (case hd => rfl); (case hg => rfl); (case hr => exact gr_); intro gb270 hg w3 hbox hb; have n0_ := Aside0.mk (below_step (hb_ HB) hb); have n1_ := Aside0.mk (hbox); have n2_ := Aside0.mk ((hz_ HB hg)); have n3_ := Aside0.mk ((hz_ HB hg)); clear HB; have HB := n0_; have BK270 := n1_; have GW270 := n2_; have GE270 := n3_; clear n0_ n1_ n2_ n3_; clear hb hbox hg; have hcz4_0 : w3.cell? ⟨gb270, 0, none⟩ = some (.slice A0_0 l0_0.length c0_0) := (blk_cell BK270.out 0).trans rfl; have hcz4_1 : w3.cell? ⟨gb270, 1, none⟩ = some (.slice A0_1 l0_1.length c0_1) := (blk_cell BK270.out 1).trans rfl; have hcz4_2 : w3.cell? ⟨gb270, 2, none⟩ = some (.slice A0_2 l0_2.length c0_2) := (blk_cell BK270.out 2).trans rfl; have hfz4_0 := blk_frozen BK270.out 0; have hfz4_1 := blk_frozen BK270.out 1; have hfz4_2 := blk_frozen BK270.out 2))
 (try simp only [Act.put, List.setIfInBounds_toArray, List.set_cons_zero, List.set_cons_succ])
 go_cut [25] (fun v25 wc => ∃ (kq : Nat) (x25_1 : Bool), v25 = .bool x25_1 ∧ Aside0 (speculumref06_CheckMap.j0 kq (l0_0.length : Int) x25_1 l0_0 l0_1 l0_2 = some r) ∧ Aside0 (kq ≤ k) ∧ Aside0 (wc.heap[gb270]? = some (.cells #[(.slice A0_0 l0_0.length c0_0), (.slice A0_1 l0_1.length c0_1), (.slice A0_2 l0_2.length c0_2)] 24 (0, 0))) ∧ Aside0 (Below w.heap.size w wc))
 case first =>
  have H := HC2.out
  clear HC2
  replace H := Option.bind_eq_some_iff.mp H
  obtain ⟨t271, A50, H⟩ := H
  replace H : (if t271 = true then (if (l0_1.length : Int) = (l0_0.length : Int) then (speculumref06_CheckMap.j0 k (l0_0.length : Int) ((l0_2.length : Int) != (l0_0.length : Int)) l0_0 l0_1 l0_2) else (speculumref06_CheckMap.j0 k (l0_0.length : Int) true l0_0 l0_1 l0_2)) else (speculumref06_CheckMap.j0 k (l0_0.length : Int) true l0_0 l0_1 l0_2)) = some r := H
  have A5 := Aside0.mk A50
  clear A50
  by_cases c6 : t271 = true
  ·subst c6
   have H1 : (if (l0_1.length : Int) = (l0_0.length : Int) then (speculumref06_CheckMap.j0 k (l0_0.length : Int) ((l0_2.length : Int) != (l0_0.length : Int)) l0_0 l0_1 l0_2) else (speculumref06_CheckMap.j0 k (l0_0.length : Int) true l0_0 l0_1 l0_2)) = some r := by rw [if_pos rfl] at H; exact H
   clear H
   have H := H1
   clear H1
   by_cases c7 : (l0_1.length : Int) = (l0_0.length : Int)
   ·rw [if_pos c7] at H
    have c7b0 : ((l0_1.length : Int) == (l0_0.length : Int)) = true := beq_iff_eq.mpr c7
    have c7b1 : ((l0_1.length : Int) != (l0_0.length : Int)) = false := bne_eq_false_iff_eq.mpr c7
    have c7b2 : (l0_1.length == l0_0.length) = true := by first | simpa using c7 | (simp at c7 ⊢; omega)
    clear c7
    (first | rw [c7b0] | (simp only [i64_w, i32_w]; rw [c7b0]) | skip)
    have H' := Aside0.mk H
    clear H
    go_wp2_with (first | ((with_reducible refine gate_callee (f := 28) rfl ?_); refine goesL_ (some 10) rfl rfl Try.func28 (by kernel_rfl) rfl #[.int .i64 (l0_0.length : Int), .int .i64 1, .int .i64 40] rfl ma_ ?_; (with_reducible refine (speculumbase_Within.calls (l0_0.length : Int) 1 40 true _ A5.out).mono ?_); rintro e w' ⟨rfl, ⟨nd, rfl⟩⟩; refine ⟨_, rfl, ?_⟩; have hcz8_0 : w3.cell? ⟨gb270, 0, none⟩ = some (.slice A0_0 l0_0.length c0_0) := (blk_cell BK270.out 0).trans rfl; have hcz8_1 : w3.cell? ⟨gb270, 1, none⟩ = some (.slice A0_1 l0_1.length c0_1) := (blk_cell BK270.out 1).trans rfl; have hcz8_2 : w3.cell? ⟨gb270, 2, none⟩ = some (.slice A0_2 l0_2.length c0_2) := (blk_cell BK270.out 2).trans rfl; have hfz8_0 := blk_frozen BK270.out 0; have hfz8_1 := blk_frozen BK270.out 1; have hfz8_2 := blk_frozen BK270.out 2))
    go_meet
    case rel => exact ⟨_, (((l0_2.length : Int) != (l0_0.length : Int))), rs_, H', ⟨by first | omega | exact Nat.le_refl _⟩, ⟨by (with_reducible repeat (first | refine blk_drewN ?_ _ | refine blk_drew ?_ | refine blk_alloc ?_ _)); exact BK270.out⟩, ⟨by repeat (first | (with_reducible first | exact HB.out | apply below_alloc | apply pw_below_drewN | apply below_drew1 | refine below_set ?_ GE270.out) | exact HB.out)⟩⟩
   ·rw [if_neg c7] at H
    have c7b0 : ((l0_1.length : Int) == (l0_0.length : Int)) = false := beq_eq_false_iff_ne.mpr c7
    have c7b1 : ((l0_1.length : Int) != (l0_0.length : Int)) = true := bne_iff_ne.mpr c7
    have c7b2 : (l0_1.length == l0_0.length) = false := by first | simpa using c7 | (simp at c7 ⊢; omega)
    (first | rw [c7b0] | (simp only [i64_w, i32_w]; rw [c7b0]) | skip)
    have H' := Aside0.mk H
    clear H
    go_wp2_with (first | ((with_reducible refine gate_callee (f := 28) rfl ?_); refine goesL_ (some 10) rfl rfl Try.func28 (by kernel_rfl) rfl #[.int .i64 (l0_0.length : Int), .int .i64 1, .int .i64 40] rfl ma_ ?_; (with_reducible refine (speculumbase_Within.calls (l0_0.length : Int) 1 40 true _ A5.out).mono ?_); rintro e w' ⟨rfl, ⟨nd, rfl⟩⟩; refine ⟨_, rfl, ?_⟩; have hcz9_0 : w3.cell? ⟨gb270, 0, none⟩ = some (.slice A0_0 l0_0.length c0_0) := (blk_cell BK270.out 0).trans rfl; have hcz9_1 : w3.cell? ⟨gb270, 1, none⟩ = some (.slice A0_1 l0_1.length c0_1) := (blk_cell BK270.out 1).trans rfl; have hcz9_2 : w3.cell? ⟨gb270, 2, none⟩ = some (.slice A0_2 l0_2.length c0_2) := (blk_cell BK270.out 2).trans rfl; have hfz9_0 := blk_frozen BK270.out 0; have hfz9_1 := blk_frozen BK270.out 1; have hfz9_2 := blk_frozen BK270.out 2))
    go_meet
    case rel => exact ⟨_, (true), rs_, H', ⟨by first | omega | exact Nat.le_refl _⟩, ⟨by (with_reducible repeat (first | refine blk_drewN ?_ _ | refine blk_drew ?_ | refine blk_alloc ?_ _)); exact BK270.out⟩, ⟨by repeat (first | (with_reducible first | exact HB.out | apply below_alloc | apply pw_below_drewN | apply below_drew1 | refine below_set ?_ GE270.out) | exact HB.out)⟩⟩
  ·replace c6 := Bool.eq_false_iff.mpr c6
   subst c6
   have H1 : (speculumref06_CheckMap.j0 k (l0_0.length : Int) true l0_0 l0_1 l0_2) = some r := by rw [if_neg (show ¬ (false = true) by decide)] at H; exact H
   clear H
   have H := H1
   clear H1
   have H' := Aside0.mk H
   clear H
   go_wp2_with (first | ((with_reducible refine gate_callee (f := 28) rfl ?_); refine goesL_ (some 10) rfl rfl Try.func28 (by kernel_rfl) rfl #[.int .i64 (l0_0.length : Int), .int .i64 1, .int .i64 40] rfl ma_ ?_; (with_reducible refine (speculumbase_Within.calls (l0_0.length : Int) 1 40 false _ A5.out).mono ?_); rintro e w' ⟨rfl, ⟨nd, rfl⟩⟩; refine ⟨_, rfl, ?_⟩))
   go_meet
   case rel => exact ⟨_, (true), rs_, H', ⟨by first | omega | exact Nat.le_refl _⟩, ⟨by (with_reducible repeat (first | refine blk_drewN ?_ _ | refine blk_drew ?_ | refine blk_alloc ?_ _)); exact BK270.out⟩, ⟨by repeat (first | (with_reducible first | exact HB.out | apply below_alloc | apply pw_below_drewN | apply below_drew1 | refine below_set ?_ GE270.out) | exact HB.out)⟩⟩
 case rest =>
  clear HC2
  try clear c1
  try clear c2
  try clear p2
  try clear c6
  try clear c7
  try clear c7b0
  try clear c7b1
  try clear c7b2
  try clear hcz4_0
  try clear hcz4_1
  try clear hcz4_2
  try clear hcz8_0
  try clear hcz8_1
  try clear hcz8_2
  try clear hcz9_0
  try clear hcz9_1
  try clear hcz9_2
  try clear hfz4_0
  try clear hfz4_1
  try clear hfz4_2
  try clear hfz8_0
  try clear hfz8_1
  try clear hfz8_2
  try clear hfz9_0
  try clear hfz9_1
  try clear hfz9_2
  obtain ⟨kq, x25_1, rfl, HA, HJ1, BK270, HB⟩ := hcut
  cases kq with
  | zero => exact absurd HA.out (by simp [speculumref06_CheckMap.j0])
  | succ kj1 =>
   have H := HA.out
   clear HA
   simp only [speculumref06_CheckMap.j0] at H
   by_cases c10 : x25_1 = true
   ·subst c10
    have H1 : (some 10) = some r := by rw [if_pos rfl] at H; exact H
    clear H
    have H := H1
    clear H1
    obtain rfl := Option.some.inj H
    go_wp2
    go_ret
    exact ⟨by first | rfl | (simp [errW_none, errW_some] <;> rfl) | (simp [*, errW_none, errW_some] <;> rfl), by repeat (first | (with_reducible first | exact HB.out | apply below_alloc | apply pw_below_drewN | apply below_drew1 | refine below_set ?_ GE270.out) | exact HB.out)⟩
   ·replace c10 := Bool.eq_false_iff.mpr c10
    subst c10
    have H1 : (speculumref06_CheckMap.l0 kj1 (l0_0.length : Int) 0 0 l0_0 l0_1 l0_2) = some r := by rw [if_neg (show ¬ (false = true) by decide)] at H; exact H
    clear H
    have H := H1
    clear H1
    have H' := Aside0.mk H
    clear H
    go_wp2
    go_loopg [4, 5] kj1 (fun kq v4 v5 w' => ∃ (x4_2 : Int) (x5_2 : Int), v4 = .int .i64 x4_2 ∧ v5 = .int .i64 x5_2 ∧ Aside0 (speculumref06_CheckMap.l0 kq (l0_0.length : Int) x4_2 x5_2 l0_0 l0_1 l0_2 = some r) ∧ Aside0 (kq ≤ kj1) ∧ Aside0 (w'.heap[gb270]? = some (.cells #[(.slice A0_0 l0_0.length c0_0), (.slice A0_1 l0_1.length c0_1), (.slice A0_2 l0_2.length c0_2)] 24 (0, 0))) ∧ Aside0 (Below w.heap.size w w'))
    case atStart => exact ⟨(0), (0), rs_, rs_, H', ⟨Nat.le_refl _⟩, ⟨by (with_reducible repeat (first | refine blk_drewN ?_ _ | refine blk_drew ?_ | refine blk_alloc ?_ _)); exact BK270.out⟩, ⟨by repeat (first | (with_reducible first | exact HB.out | apply below_alloc | apply pw_below_drewN | apply below_drew1 | refine below_set ?_ GE270.out) | exact HB.out)⟩⟩
    case round =>
     clear H'
     try clear c1
     try clear c2
     try clear p2
     try clear c6
     try clear c7
     try clear c7b0
     try clear c7b1
     try clear c7b2
     try clear c10
     try clear hcz4_0
     try clear hcz4_1
     try clear hcz4_2
     try clear hcz8_0
     try clear hcz8_1
     try clear hcz8_2
     try clear hcz9_0
     try clear hcz9_1
     try clear hcz9_2
     try clear hfz4_0
     try clear hfz4_1
     try clear hfz4_2
     try clear hfz8_0
     try clear hfz8_1
     try clear hfz8_2
     try clear hfz9_0
     try clear hfz9_1
     try clear hfz9_2
     try clear p2
     obtain ⟨x4_2, x5_2, rfl, rfl, HA, HK2, BK270, HB⟩ := hrel
     cases gk with
     | zero => exact absurd HA.out (by simp [speculumref06_CheckMap.l0])
     | succ k2 =>
      have H := HA.out
      clear HA
      simp only [speculumref06_CheckMap.l0] at H
      by_cases c11 : x5_2 < (l0_0.length : Int)
      ·rw [if_pos c11] at H
       have c11b0 : decide (x5_2 < (l0_0.length : Int)) = true := decide_eq_true c11
       clear c11
       by_cases c12 : 0 ≤ x5_2
       ·rw [if_pos c12] at H
        have c12b0 : decide (0 ≤ x5_2) = true := decide_eq_true c12
        clear c12
        by_cases c13 : x5_2 < (l0_0.length : Int)
        ·rw [if_pos c13] at H
         have c13b0 : decide (x5_2 < (l0_0.length : Int)) = true := decide_eq_true c13
         clear c13
         replace H := Option.bind_eq_some_iff.mp H
         obtain ⟨t273, A140, H⟩ := H
         replace H : (if t273 = true then (if x5_2 < (l0_1.length : Int) then ((speculumbase_Within.f (rd l0_1 x5_2) 0 1000).bind fun t275 => (if t275 = true then (if x5_2 < (l0_2.length : Int) then ((speculumbase_Within.f (rd l0_2 x5_2) 0 1000).bind fun t277 => (if t277 = true then (speculumref06_CheckMap.l0 k2 (l0_0.length : Int) (wrap64 (x4_2 + (rd l0_2 x5_2))) (wrap64 (x5_2 + 1)) l0_0 l0_1 l0_2) else (some 2))) else (none)) else (some 2))) else (none)) else (some 2)) = some r := H
         have A14 := Aside0.mk A140
         clear A140
         by_cases c15 : t273 = true
         ·subst c15
          have H1 : (if x5_2 < (l0_1.length : Int) then ((speculumbase_Within.f (rd l0_1 x5_2) 0 1000).bind fun t275 => (if t275 = true then (if x5_2 < (l0_2.length : Int) then ((speculumbase_Within.f (rd l0_2 x5_2) 0 1000).bind fun t277 => (if t277 = true then (speculumref06_CheckMap.l0 k2 (l0_0.length : Int) (wrap64 (x4_2 + (rd l0_2 x5_2))) (wrap64 (x5_2 + 1)) l0_0 l0_1 l0_2) else (some 2))) else (none)) else (some 2))) else (none)) = some r := by rw [if_pos rfl] at H; exact H
          clear H
          have H := H1
          clear H1
          by_cases c16 : x5_2 < (l0_1.length : Int)
          ·rw [if_pos c16] at H
           have c16b0 : decide (x5_2 < (l0_1.length : Int)) = true := decide_eq_true c16
           clear c16
           replace H := Option.bind_eq_some_iff.mp H
           obtain ⟨t275, A170, H⟩ := H
           replace H : (if t275 = true then (if x5_2 < (l0_2.length : Int) then ((speculumbase_Within.f (rd l0_2 x5_2) 0 1000).bind fun t277 => (if t277 = true then (speculumref06_CheckMap.l0 k2 (l0_0.length : Int) (wrap64 (x4_2 + (rd l0_2 x5_2))) (wrap64 (x5_2 + 1)) l0_0 l0_1 l0_2) else (some 2))) else (none)) else (some 2)) = some r := H
           have A17 := Aside0.mk A170
           clear A170
           by_cases c18 : t275 = true
           ·subst c18
            have H1 : (if x5_2 < (l0_2.length : Int) then ((speculumbase_Within.f (rd l0_2 x5_2) 0 1000).bind fun t277 => (if t277 = true then (speculumref06_CheckMap.l0 k2 (l0_0.length : Int) (wrap64 (x4_2 + (rd l0_2 x5_2))) (wrap64 (x5_2 + 1)) l0_0 l0_1 l0_2) else (some 2))) else (none)) = some r := by rw [if_pos rfl] at H; exact H
            clear H
            have H := H1
            clear H1
            by_cases c19 : x5_2 < (l0_2.length : Int)
            ·rw [if_pos c19] at H
             have c19b0 : decide (x5_2 < (l0_2.length : Int)) = true := decide_eq_true c19
             clear c19
             replace H := Option.bind_eq_some_iff.mp H
             obtain ⟨t277, A200, H⟩ := H
             replace H : (if t277 = true then (speculumref06_CheckMap.l0 k2 (l0_0.length : Int) (wrap64 (x4_2 + (rd l0_2 x5_2))) (wrap64 (x5_2 + 1)) l0_0 l0_1 l0_2) else (some 2)) = some r := H
             have A20 := Aside0.mk A200
             clear A200
             by_cases c21 : t277 = true
             ·subst c21
              have H1 : (speculumref06_CheckMap.l0 k2 (l0_0.length : Int) (wrap64 (x4_2 + (rd l0_2 x5_2))) (wrap64 (x5_2 + 1)) l0_0 l0_1 l0_2) = some r := by rw [if_pos rfl] at H; exact H
              clear H
              have H := H1
              clear H1
              have H' := Aside0.mk H
              clear H
              have hcz22_0 : wr.cell? ⟨gb270, 0, none⟩ = some (.slice A0_0 l0_0.length c0_0) := (blk_cell BK270.out 0).trans rfl
              have hcz22_1 : wr.cell? ⟨gb270, 1, none⟩ = some (.slice A0_1 l0_1.length c0_1) := (blk_cell BK270.out 1).trans rfl
              have hcz22_2 : wr.cell? ⟨gb270, 2, none⟩ = some (.slice A0_2 l0_2.length c0_2) := (blk_cell BK270.out 2).trans rfl
              have hfz22_0 := blk_frozen BK270.out 0
              have hfz22_1 := blk_frozen BK270.out 1
              have hfz22_2 := blk_frozen BK270.out 2
              have p272 : 0 ≤ (x5_2 : Int) := of_decide_eq_true as_
              have q272 : x5_2 < (l0_0.length : Int) := of_decide_eq_true as_
              obtain ⟨ad272, e272, hx272_0⟩ := Kd.at_int HR0_0.out x5_2 p272 q272
              cases e272
              replace hx272_0 := (HB.out.cell (World.block_lt_of_cell? w _ hx272_0)).trans hx272_0
              replace p272 := eq_true p272
              replace q272 := eq_true q272
              go_wp2_with (first | ((with_reducible refine gate_callee (f := 64) rfl ?_); refine goesL_ (some 36) rfl rfl Try.func64 (by kernel_rfl) rfl #[.int .i64 (rd l0_0 x5_2)] rfl ma_ ?_; (with_reducible refine (speculumref06_isHeight.calls (rd l0_0 x5_2) true _ A14.out).mono ?_); rintro e w' ⟨rfl, ⟨nd, rfl⟩⟩; refine ⟨_, rfl, ?_⟩; have p274 : 0 ≤ (x5_2 : Int) := of_decide_eq_true as_; have q274 : x5_2 < (l0_1.length : Int) := of_decide_eq_true as_; obtain ⟨ad274, e274, hx274_0⟩ := Kd.at_int HR0_1.out x5_2 p274 q274; cases e274; replace hx274_0 := (HB.out.cell (World.block_lt_of_cell? w _ hx274_0)).trans hx274_0; replace p274 := eq_true p274; replace q274 := eq_true q274) | (go_at_call 28; (with_reducible refine (speculumbase_Within.calls (rd l0_1 x5_2) 0 1000 true _ A17.out).mono ?_); rintro e w' ⟨rfl, ⟨nd, rfl⟩⟩; have p276 : 0 ≤ (x5_2 : Int) := of_decide_eq_true as_; have q276 : x5_2 < (l0_2.length : Int) := of_decide_eq_true as_; obtain ⟨ad276, e276, hx276_0⟩ := Kd.at_int HR0_2.out x5_2 p276 q276; cases e276; replace hx276_0 := (HB.out.cell (World.block_lt_of_cell? w _ hx276_0)).trans hx276_0; replace p276 := eq_true p276; replace q276 := eq_true q276) | (go_at_call 28; (with_reducible refine (speculumbase_Within.calls (rd l0_2 x5_2) 0 1000 true _ A20.out).mono ?_); rintro e w' ⟨rfl, ⟨nd, rfl⟩⟩; have p278 : 0 ≤ (x5_2 : Int) := of_decide_eq_true as_; have q278 : x5_2 < (l0_2.length : Int) := of_decide_eq_true as_; obtain ⟨ad278, e278, hx278_0⟩ := Kd.at_int HR0_2.out x5_2 p278 q278; obtain rfl : ad276 = ad278 := (by injection e278); replace hx278_0 := (HB.out.cell (World.block_lt_of_cell? w _ hx278_0)).trans hx278_0; replace p278 := eq_true p278; replace q278 := eq_true q278))
              go_roundg k2
              case measure => have := HJ1.out; have := HK2.out; omega
              case rel => exact ⟨(wrap64 (x4_2 + (rd l0_2 x5_2))), (wrap64 (x5_2 + 1)), rs_, rs_, H', ⟨by have := HJ1.out; have := HK2.out; omega⟩, ⟨by (with_reducible repeat (first | refine blk_drewN ?_ _ | refine blk_drew ?_ | refine blk_alloc ?_ _)); exact BK270.out⟩, ⟨by repeat (first | (with_reducible first | exact HB.out | apply below_alloc | apply pw_below_drewN | apply below_drew1 | refine below_set ?_ GE270.out) | exact HB.out)⟩⟩
             ·replace c21 := Bool.eq_false_iff.mpr c21
              subst c21
              have H1 : (some 2) = some r := by rw [if_neg (show ¬ (false = true) by decide)] at H; exact H
              clear H
              have H := H1
              clear H1
              obtain rfl := Option.some.inj H
              have hcz23_0 : wr.cell? ⟨gb270, 0, none⟩ = some (.slice A0_0 l0_0.length c0_0) := (blk_cell BK270.out 0).trans rfl
              have hcz23_1 : wr.cell? ⟨gb270, 1, none⟩ = some (.slice A0_1 l0_1.length c0_1) := (blk_cell BK270.out 1).trans rfl
              have hcz23_2 : wr.cell? ⟨gb270, 2, none⟩ = some (.slice A0_2 l0_2.length c0_2) := (blk_cell BK270.out 2).trans rfl
              have hfz23_0 := blk_frozen BK270.out 0
              have hfz23_1 := blk_frozen BK270.out 1
              have hfz23_2 := blk_frozen BK270.out 2
              have p272 : 0 ≤ (x5_2 : Int) := of_decide_eq_true as_
              have q272 : x5_2 < (l0_0.length : Int) := of_decide_eq_true as_
              obtain ⟨ad272, e272, hx272_0⟩ := Kd.at_int HR0_0.out x5_2 p272 q272
              cases e272
              replace hx272_0 := (HB.out.cell (World.block_lt_of_cell? w _ hx272_0)).trans hx272_0
              replace p272 := eq_true p272
              replace q272 := eq_true q272
              go_wp2_with (first | ((with_reducible refine gate_callee (f := 64) rfl ?_); refine goesL_ (some 36) rfl rfl Try.func64 (by kernel_rfl) rfl #[.int .i64 (rd l0_0 x5_2)] rfl ma_ ?_; (with_reducible refine (speculumref06_isHeight.calls (rd l0_0 x5_2) true _ A14.out).mono ?_); rintro e w' ⟨rfl, ⟨nd, rfl⟩⟩; refine ⟨_, rfl, ?_⟩; have p274 : 0 ≤ (x5_2 : Int) := of_decide_eq_true as_; have q274 : x5_2 < (l0_1.length : Int) := of_decide_eq_true as_; obtain ⟨ad274, e274, hx274_0⟩ := Kd.at_int HR0_1.out x5_2 p274 q274; cases e274; replace hx274_0 := (HB.out.cell (World.block_lt_of_cell? w _ hx274_0)).trans hx274_0; replace p274 := eq_true p274; replace q274 := eq_true q274) | (go_at_call 28; (with_reducible refine (speculumbase_Within.calls (rd l0_1 x5_2) 0 1000 true _ A17.out).mono ?_); rintro e w' ⟨rfl, ⟨nd, rfl⟩⟩; have p276 : 0 ≤ (x5_2 : Int) := of_decide_eq_true as_; have q276 : x5_2 < (l0_2.length : Int) := of_decide_eq_true as_; obtain ⟨ad276, e276, hx276_0⟩ := Kd.at_int HR0_2.out x5_2 p276 q276; cases e276; replace hx276_0 := (HB.out.cell (World.block_lt_of_cell? w _ hx276_0)).trans hx276_0; replace p276 := eq_true p276; replace q276 := eq_true q276) | (go_at_call 28; (with_reducible refine (speculumbase_Within.calls (rd l0_2 x5_2) 0 1000 false _ A20.out).mono ?_); rintro e w' ⟨rfl, ⟨nd, rfl⟩⟩))
              go_ret
              exact ⟨by first | rfl | (simp [errW_none, errW_some] <;> rfl) | (simp [*, errW_none, errW_some] <;> rfl), by repeat (first | (with_reducible first | exact HB.out | apply below_alloc | apply pw_below_drewN | apply below_drew1 | refine below_set ?_ GE270.out) | exact HB.out)⟩
            ·rw [if_neg c19] at H
             exact absurd H (by simp)
           ·replace c18 := Bool.eq_false_iff.mpr c18
            subst c18
            have H1 : (some 2) = some r := by rw [if_neg (show ¬ (false = true) by decide)] at H; exact H
            clear H
            have H := H1
            clear H1
            obtain rfl := Option.some.inj H
            have hcz24_0 : wr.cell? ⟨gb270, 0, none⟩ = some (.slice A0_0 l0_0.length c0_0) := (blk_cell BK270.out 0).trans rfl
            have hcz24_1 : wr.cell? ⟨gb270, 1, none⟩ = some (.slice A0_1 l0_1.length c0_1) := (blk_cell BK270.out 1).trans rfl
            have hcz24_2 : wr.cell? ⟨gb270, 2, none⟩ = some (.slice A0_2 l0_2.length c0_2) := (blk_cell BK270.out 2).trans rfl
            have hfz24_0 := blk_frozen BK270.out 0
            have hfz24_1 := blk_frozen BK270.out 1
            have hfz24_2 := blk_frozen BK270.out 2
            have p272 : 0 ≤ (x5_2 : Int) := of_decide_eq_true as_
            have q272 : x5_2 < (l0_0.length : Int) := of_decide_eq_true as_
            obtain ⟨ad272, e272, hx272_0⟩ := Kd.at_int HR0_0.out x5_2 p272 q272
            cases e272
            replace hx272_0 := (HB.out.cell (World.block_lt_of_cell? w _ hx272_0)).trans hx272_0
            replace p272 := eq_true p272
            replace q272 := eq_true q272
            go_wp2_with (first | ((with_reducible refine gate_callee (f := 64) rfl ?_); refine goesL_ (some 36) rfl rfl Try.func64 (by kernel_rfl) rfl #[.int .i64 (rd l0_0 x5_2)] rfl ma_ ?_; (with_reducible refine (speculumref06_isHeight.calls (rd l0_0 x5_2) true _ A14.out).mono ?_); rintro e w' ⟨rfl, ⟨nd, rfl⟩⟩; refine ⟨_, rfl, ?_⟩; have p274 : 0 ≤ (x5_2 : Int) := of_decide_eq_true as_; have q274 : x5_2 < (l0_1.length : Int) := of_decide_eq_true as_; obtain ⟨ad274, e274, hx274_0⟩ := Kd.at_int HR0_1.out x5_2 p274 q274; cases e274; replace hx274_0 := (HB.out.cell (World.block_lt_of_cell? w _ hx274_0)).trans hx274_0; replace p274 := eq_true p274; replace q274 := eq_true q274) | (go_at_call 28; (with_reducible refine (speculumbase_Within.calls (rd l0_1 x5_2) 0 1000 false _ A17.out).mono ?_); rintro e w' ⟨rfl, ⟨nd, rfl⟩⟩))
            go_ret
            exact ⟨by first | rfl | (simp [errW_none, errW_some] <;> rfl) | (simp [*, errW_none, errW_some] <;> rfl), by repeat (first | (with_reducible first | exact HB.out | apply below_alloc | apply pw_below_drewN | apply below_drew1 | refine below_set ?_ GE270.out) | exact HB.out)⟩
          ·rw [if_neg c16] at H
           exact absurd H (by simp)
         ·replace c15 := Bool.eq_false_iff.mpr c15
          subst c15
          have H1 : (some 2) = some r := by rw [if_neg (show ¬ (false = true) by decide)] at H; exact H
          clear H
          have H := H1
          clear H1
          obtain rfl := Option.some.inj H
          have hcz25_0 : wr.cell? ⟨gb270, 0, none⟩ = some (.slice A0_0 l0_0.length c0_0) := (blk_cell BK270.out 0).trans rfl
          have hcz25_1 : wr.cell? ⟨gb270, 1, none⟩ = some (.slice A0_1 l0_1.length c0_1) := (blk_cell BK270.out 1).trans rfl
          have hcz25_2 : wr.cell? ⟨gb270, 2, none⟩ = some (.slice A0_2 l0_2.length c0_2) := (blk_cell BK270.out 2).trans rfl
          have hfz25_0 := blk_frozen BK270.out 0
          have hfz25_1 := blk_frozen BK270.out 1
          have hfz25_2 := blk_frozen BK270.out 2
          have p272 : 0 ≤ (x5_2 : Int) := of_decide_eq_true as_
          have q272 : x5_2 < (l0_0.length : Int) := of_decide_eq_true as_
          obtain ⟨ad272, e272, hx272_0⟩ := Kd.at_int HR0_0.out x5_2 p272 q272
          cases e272
          replace hx272_0 := (HB.out.cell (World.block_lt_of_cell? w _ hx272_0)).trans hx272_0
          replace p272 := eq_true p272
          replace q272 := eq_true q272
          go_wp2_with (first | ((with_reducible refine gate_callee (f := 64) rfl ?_); refine goesL_ (some 36) rfl rfl Try.func64 (by kernel_rfl) rfl #[.int .i64 (rd l0_0 x5_2)] rfl ma_ ?_; (with_reducible refine (speculumref06_isHeight.calls (rd l0_0 x5_2) false _ A14.out).mono ?_); rintro e w' ⟨rfl, ⟨nd, rfl⟩⟩; refine ⟨_, rfl, ?_⟩))
          go_ret
          exact ⟨by first | rfl | (simp [errW_none, errW_some] <;> rfl) | (simp [*, errW_none, errW_some] <;> rfl), by repeat (first | (with_reducible first | exact HB.out | apply below_alloc | apply pw_below_drewN | apply below_drew1 | refine below_set ?_ GE270.out) | exact HB.out)⟩
        ·rw [if_neg c13] at H
         exact absurd H (by simp)
       ·rw [if_neg c12] at H
        exact absurd H (by simp)
      ·rw [if_neg c11] at H
       have c11b0 : decide (x5_2 < (l0_0.length : Int)) = false := decide_eq_false c11
       clear c11
       by_cases c26 : x4_2 = 0
       ·rw [if_pos c26] at H
        have c26b0 : (x4_2 == 0) = true := beq_iff_eq.mpr c26
        have c26b1 : (x4_2 != 0) = false := bne_eq_false_iff_eq.mpr c26
        clear c26
        obtain rfl := Option.some.inj H
        go_wp2
        go_ret
        exact ⟨by first | rfl | (simp [errW_none, errW_some] <;> rfl) | (simp [*, errW_none, errW_some] <;> rfl), by repeat (first | (with_reducible first | exact HB.out | apply below_alloc | apply pw_below_drewN | apply below_drew1 | refine below_set ?_ GE270.out) | exact HB.out)⟩
       ·rw [if_neg c26] at H
        have c26b0 : (x4_2 == 0) = false := beq_eq_false_iff_ne.mpr c26
        have c26b1 : (x4_2 != 0) = true := bne_iff_ne.mpr c26
        obtain rfl := Option.some.inj H
        go_wp2
        go_ret
        exact ⟨by first | rfl | (simp [errW_none, errW_some] <;> rfl) | (simp [*, errW_none, errW_some] <;> rfl), by repeat (first | (with_reducible first | exact HB.out | apply below_alloc | apply pw_below_drewN | apply below_drew1 | refine below_set ?_ GE270.out) | exact HB.out)⟩
def speculumbase_Floor.f (a0 : Int) (a1 : Int) : Option (Int) := if a1 = 0 then (none) else (if (Int.tmod a0 a1) < 0 then (some (wrap64 ((wrap64 (Int.tdiv a0 a1)) - 1))) else (some (wrap64 (Int.tdiv a0 a1))))
set_option maxHeartbeats 8000000 in
set_option maxRecDepth 100000 in
theorem speculumbase_Floor.calls (a0 : Int) (a1 : Int) (r : Int) (w : World) (h : speculumbase_Floor.f a0 a1 = some r) :
  Calls Try.prog 34 #[.int .i64 a0, .int .i64 a1] w fun e w' => e = .returned (.int .i64 r) ∧ Drawn0 w w' := by
 have H : (if a1 = 0 then (none) else (if (Int.tmod a0 a1) < 0 then (some (wrap64 ((wrap64 (Int.tdiv a0 a1)) - 1))) else (some (wrap64 (Int.tdiv a0 a1))))) = some r := h
 clear h
 by_cases c3 : a1 = 0
 ·rw [if_pos c3] at H
  exact absurd H (by simp)
 ·rw [if_neg c3] at H
  have c3b0 : (a1 == 0) = false := beq_eq_false_iff_ne.mpr c3
  have c3b1 : (a1 != 0) = true := bne_iff_ne.mpr c3
  by_cases c4 : (Int.tmod a0 a1) < 0
  ·rw [if_pos c4] at H
   have c4b0 : decide ((Int.tmod a0 a1) < 0) = true := decide_eq_true c4
   clear c4
   obtain rfl := Option.some.inj H
   go_enter Try.func34, Try.ntmps34
   go_wp2
   go_ret
   exact ⟨by first | rfl | (simp; done) | (simp [*]; done), by repeat (first | exact Drawn0.refl _ | apply Drawn0.step)⟩
  ·rw [if_neg c4] at H
   have c4b0 : decide ((Int.tmod a0 a1) < 0) = false := decide_eq_false c4
   clear c4
   obtain rfl := Option.some.inj H
   go_enter Try.func34, Try.ntmps34
   go_wp2
   go_ret
   exact ⟨by first | rfl | (simp; done) | (simp [*]; done), by repeat (first | exact Drawn0.refl _ | apply Drawn0.step)⟩
def speculumbase_Abs.f (a0 : Int) : Option (Int) := if a0 < 0 then (some (wrap64 (-a0))) else (some a0)
set_option maxHeartbeats 8000000 in
set_option maxRecDepth 100000 in
theorem speculumbase_Abs.calls (a0 : Int) (r : Int) (w : World) (h : speculumbase_Abs.f a0 = some r) :
  Calls Try.prog 29 #[.int .i64 a0] w fun e w' => e = .returned (.int .i64 r) ∧ Drawn0 w w' := by
 have H : (if a0 < 0 then (some (wrap64 (-a0))) else (some a0)) = some r := h
 clear h
 by_cases c2 : a0 < 0
 ·rw [if_pos c2] at H
  have c2b0 : decide (a0 < 0) = true := decide_eq_true c2
  clear c2
  obtain rfl := Option.some.inj H
  go_enter Try.func29, Try.ntmps29
  go_wp2
  go_ret
  exact ⟨by first | rfl | (simp; done) | (simp [*]; done), by repeat (first | exact Drawn0.refl _ | apply Drawn0.step)⟩
 ·rw [if_neg c2] at H
  have c2b0 : decide (a0 < 0) = false := decide_eq_false c2
  clear c2
  obtain rfl := Option.some.inj H
  go_enter Try.func29, Try.ntmps29
  go_wp2
  go_ret
  exact ⟨by first | rfl | (simp; done) | (simp [*]; done), by repeat (first | exact Drawn0.refl _ | apply Drawn0.step)⟩
def speculumbase_Gcd.l0 : Nat → Int → Int → Option (Int)
 | 0, _, _ => none
 | k + 1, x0, x1 => if x1 = 0 then ((speculumbase_Abs.f x0).bind fun t279 => (some t279)) else (speculumbase_Gcd.l0 k x1 (Int.tmod x0 x1))
def speculumbase_Gcd.f (k : Nat) (a0 : Int) (a1 : Int) : Option (Int) := speculumbase_Gcd.l0 k a0 a1
set_option maxHeartbeats 8000000 in
set_option maxRecDepth 100000 in
theorem speculumbase_Gcd.calls (k : Nat) (a0 : Int) (a1 : Int) (r : Int) (w : World) (h : speculumbase_Gcd.f k a0 a1 = some r) :
  Calls Try.prog 83 #[.int .i64 a0, .int .i64 a1] w fun e w' => e = .returned (.int .i64 r) ∧ Drawn0 w w' := by
 have H : (speculumbase_Gcd.l0 k a0 a1) = some r := h
 clear h
 have H' := Aside0.mk H
 clear H
 go_enter Try.func83, Try.ntmps83
 go_wp2
 repeat (go_quiet (fail); try go_wp2)
 go_loopg [0, 1] k (fun kq v0 v1 w' => ∃ (x0_1 : Int) (x1_1 : Int), v0 = .int .i64 x0_1 ∧ v1 = .int .i64 x1_1 ∧ Aside0 (speculumbase_Gcd.l0 kq x0_1 x1_1 = some r) ∧ Aside0 (kq ≤ k) ∧ Drawn0 w w')
 case atStart => exact ⟨(a0), (a1), rs_, rs_, H', ⟨Nat.le_refl _⟩, by repeat (first | exact Drawn0.refl _ | apply Drawn0.step)⟩
 case round =>
  clear H'
  try clear p2
  obtain ⟨x0_1, x1_1, rfl, rfl, HA, HK1, ⟨m1, rfl⟩⟩ := hrel
  cases gk with
  | zero => exact absurd HA.out (by simp [speculumbase_Gcd.l0])
  | succ k1 =>
   have H := HA.out
   clear HA
   simp only [speculumbase_Gcd.l0] at H
   by_cases c3 : x1_1 = 0
   ·rw [if_pos c3] at H
    have c3b0 : (x1_1 == 0) = true := beq_iff_eq.mpr c3
    have c3b1 : (x1_1 != 0) = false := bne_eq_false_iff_eq.mpr c3
    clear c3
    replace H := Option.bind_eq_some_iff.mp H
    obtain ⟨t279, A40, H⟩ := H
    replace H : (some t279) = some r := H
    have A4 := Aside0.mk A40
    clear A40
    obtain rfl := Option.some.inj H
    go_wp2_with (first | (go_at_call 29; (with_reducible refine (speculumbase_Abs.calls x0_1 t279 _ A4.out).mono ?_); rintro e w' ⟨rfl, ⟨nd, rfl⟩⟩; (try first | exact ⟨rfl, _, World.drewN_drewN _ _ _⟩ | exact ⟨rfl, _, Eq.trans (World.drewN_drewN _ _ _) (congrArg (World.drewN _) (Nat.add_assoc _ _ _))⟩)))
    repeat (go_quiet (first | (go_at_call 29; (with_reducible refine (speculumbase_Abs.calls x0_1 t279 _ A4.out).mono ?_); rintro e w' ⟨rfl, ⟨nd, rfl⟩⟩; (try first | exact ⟨rfl, _, World.drewN_drewN _ _ _⟩ | exact ⟨rfl, _, Eq.trans (World.drewN_drewN _ _ _) (congrArg (World.drewN _) (Nat.add_assoc _ _ _))⟩))); try go_wp2_with (first | (go_at_call 29; (with_reducible refine (speculumbase_Abs.calls x0_1 t279 _ A4.out).mono ?_); rintro e w' ⟨rfl, ⟨nd, rfl⟩⟩; (try first | exact ⟨rfl, _, World.drewN_drewN _ _ _⟩ | exact ⟨rfl, _, Eq.trans (World.drewN_drewN _ _ _) (congrArg (World.drewN _) (Nat.add_assoc _ _ _))⟩))))
    go_ret
    exact ⟨by first | rfl | (simp; done) | (simp [*]; done), by repeat (first | exact Drawn0.refl _ | apply Drawn0.step)⟩
   ·rw [if_neg c3] at H
    have c3b0 : (x1_1 == 0) = false := beq_eq_false_iff_ne.mpr c3
    have c3b1 : (x1_1 != 0) = true := bne_iff_ne.mpr c3
    have H' := Aside0.mk H
    clear H
    go_wp2
    repeat (go_quiet (fail); try go_wp2)
    go_roundg k1
    case measure => have := HK1.out; omega
    case rel => exact ⟨(x1_1), (Int.tmod x0_1 x1_1), rs_, rs_, H', ⟨by have := HK1.out; omega⟩, by repeat (first | exact Drawn0.refl _ | apply Drawn0.step)⟩
def speculumbase_IsLowest.f (k : Nat) (a0_0 : Int) (a0_1 : Int) : Option (Bool) := if a0_1 > 0 then ((speculumbase_Gcd.f k a0_0 a0_1).bind fun t380 => (some (t380 == 1))) else (some false)
set_option maxHeartbeats 8000000 in
set_option maxRecDepth 100000 in
theorem speculumbase_IsLowest.calls (k : Nat) (a0_0 : Int) (a0_1 : Int) (r : Bool) (w : World) (h : speculumbase_IsLowest.f k a0_0 a0_1 = some r) :
  Calls Try.prog 71 #[.agg #[.int .i64 a0_0, .int .i64 a0_1]] w fun e w' => e = .returned (.bool r) ∧ Below w.heap.size w w' := by
 have hu28 := Try.underlying28
 have HB := Aside0.mk (Below.refl w.heap.size w)
 have H : (if a0_1 > 0 then ((speculumbase_Gcd.f k a0_0 a0_1).bind fun t380 => (some (t380 == 1))) else (some false)) = some r := h
 clear h
 by_cases c2 : a0_1 > 0
 ·rw [if_pos c2] at H
  have c2b0 : decide (0 < a0_1) = true := decide_eq_true c2
  clear c2
  replace H := Option.bind_eq_some_iff.mp H
  obtain ⟨t380, A30, H⟩ := H
  replace H : (some (t380 == 1)) = some r := H
  have A3 := Aside0.mk A30
  clear A30
  obtain rfl := Option.some.inj H
  go_enter Try.func71, Try.ntmps71
  go_wp2_with (first | ((with_reducible refine gate_dst (N := 1) rfl ?_); refine box_event ?hg (N := 1) ?hd (cs := #[.int .i64 a0_0, .int .i64 a0_1]) (t := 28) ?hr ?_; (case hd => rfl); (case hg => rfl); (case hr => exact gr_); intro gb379 hg w4 hbox hb; have n0_ := Aside0.mk (below_step (hb_ HB) hb); have n1_ := Aside0.mk (hbox); have n2_ := Aside0.mk ((hz_ HB hg)); have n3_ := Aside0.mk ((hz_ HB hg)); clear HB; have HB := n0_; have BK379 := n1_; have GW379 := n2_; have GE379 := n3_; clear n0_ n1_ n2_ n3_; clear hb hbox hg; have hcz5_0 : w4.cell? ⟨gb379, 0, none⟩ = some (.int .i64 a0_0) := (blk_cell BK379.out 0).trans rfl; have hcz5_1 : w4.cell? ⟨gb379, 1, none⟩ = some (.int .i64 a0_1) := (blk_cell BK379.out 1).trans rfl; have hfz5_0 := blk_frozen BK379.out 0; have hfz5_1 := blk_frozen BK379.out 1) | (go_at_call 83; (with_reducible refine (speculumbase_Gcd.calls k a0_0 a0_1 t380 _ A3.out).mono ?_); rintro e w' ⟨rfl, ⟨nd, rfl⟩⟩))
  go_ret
  exact ⟨by first | rfl | (simp [errW_none, errW_some] <;> rfl) | (simp [*, errW_none, errW_some] <;> rfl), by repeat (first | (with_reducible first | exact HB.out | apply below_alloc | apply pw_below_drewN | apply below_drew1 | refine below_set ?_ GE379.out) | exact HB.out)⟩
 ·rw [if_neg c2] at H
  have c2b0 : decide (0 < a0_1) = false := decide_eq_false c2
  clear c2
  obtain rfl := Option.some.inj H
  go_enter Try.func71, Try.ntmps71
  go_wp2_with (first | ((with_reducible refine gate_dst (N := 1) rfl ?_); refine box_event ?hg (N := 1) ?hd (cs := #[.int .i64 a0_0, .int .i64 a0_1]) (t := 28) ?hr ?_; (case hd => rfl); (case hg => rfl); (case hr => exact gr_); intro gb379 hg w6 hbox hb; have n0_ := Aside0.mk (below_step (hb_ HB) hb); have n1_ := Aside0.mk (hbox); have n2_ := Aside0.mk ((hz_ HB hg)); have n3_ := Aside0.mk ((hz_ HB hg)); clear HB; have HB := n0_; have BK379 := n1_; have GW379 := n2_; have GE379 := n3_; clear n0_ n1_ n2_ n3_; clear hb hbox hg; have hcz7_0 : w6.cell? ⟨gb379, 0, none⟩ = some (.int .i64 a0_0) := (blk_cell BK379.out 0).trans rfl; have hcz7_1 : w6.cell? ⟨gb379, 1, none⟩ = some (.int .i64 a0_1) := (blk_cell BK379.out 1).trans rfl; have hfz7_0 := blk_frozen BK379.out 0; have hfz7_1 := blk_frozen BK379.out 1))
  go_ret
  exact ⟨by first | rfl | (simp [errW_none, errW_some] <;> rfl) | (simp [*, errW_none, errW_some] <;> rfl), by repeat (first | (with_reducible first | exact HB.out | apply below_alloc | apply pw_below_drewN | apply below_drew1 | refine below_set ?_ GE379.out) | exact HB.out)⟩
def inR (n : Int) : Bool := if n ≥ -1000000000 then decide (n ≤ 1000000000) else false
def okR (n d : Int) : Bool := if d > 1000 then false else inR n
theorem inR_f (n : Int) : speculumbase_Within.f n (-1000000000) 1000000000 = some (inR n) := by
  unfold speculumbase_Within.f inR
  split <;> rfl
def speculumref06_CheckLine.f (k : Nat) (a0_0 : Int) (a0_1 : Int) (a0_2 : Int) (a0_3 : Int) (a0_4 : Int) (a0_5 : Int) : Option (Int) :=
  (speculumbase_IsLowest.f k a0_0 a0_1).bind fun t => (if t = true then ((speculumbase_IsLowest.f k a0_2 a0_3).bind fun u => (if u = true then (some (if okR a0_0 a0_1 = true then (if okR a0_2 a0_3 = true then 0 else 2) else 2)) else (some 3))) else (some 3))
structure CLw (w : World) (cs : Array Value) (W : World) : Prop where
  box : W.heap[w.heap.size]? = some (.cells cs 50 (0, 0))
  bel : Below w.heap.size w W
theorem CLw.below {w W W' : World} {cs : Array Value} (h : CLw w cs W) (hb : Below W.heap.size W W') : CLw w cs W' := ⟨blk_below h.box hb, below_step h.bel hb⟩
theorem CLw.alloc {w W : World} {cs : Array Value} (h : CLw w cs W) (o : Obj) : CLw w cs (W.alloc o) := ⟨blk_alloc h.box o, below_alloc h.bel o⟩
theorem CLw.drewN {w W : World} {cs : Array Value} (h : CLw w cs W) (n : Nat) : CLw w cs (W.drewN n) := ⟨blk_drewN h.box n, pw_below_drewN h.bel n⟩
set_option maxHeartbeats 8000000 in
set_option maxRecDepth 100000 in
theorem speculumref06_CheckLine.calls (k : Nat) (a0_0 : Int) (a0_1 : Int) (a0_2 : Int) (a0_3 : Int) (a0_4 : Int) (a0_5 : Int) (r : Int) (w : World) (h : speculumref06_CheckLine.f k a0_0 a0_1 a0_2 a0_3 a0_4 a0_5 = some r) :
    Calls Try.prog 30 #[.agg #[.int .i64 a0_0, .int .i64 a0_1, .int .i64 a0_2, .int .i64 a0_3, .int .i64 a0_4, .int .i64 a0_5]] w fun e w' => e = .returned (.int .i64 r) ∧ Below w.heap.size w w' := by
  have hu50 := Try.underlying50
  have hu28 := Try.underlying28
  have hu93 := Try.underlying93
  unfold speculumref06_CheckLine.f at h
  obtain ⟨t, ht, h⟩ := Option.bind_eq_some_iff.mp h
  have HT := Aside0.mk ht
  clear ht
  have H := Aside0.mk h
  clear h
  have i0 : ∀ w, (Instr.index 93 (.agg #[.int .i64 a0_0, .int .i64 a0_1, .int .i64 a0_2, .int .i64 a0_3]) (.int .i64 0)).run Try.prog w = .ok (.agg #[.int .i64 a0_0, .int .i64 a0_1]) w := fun _ => by kernel_rfl
  have i1 : ∀ w, (Instr.index 93 (.agg #[.int .i64 a0_0, .int .i64 a0_1, .int .i64 a0_2, .int .i64 a0_3]) (.int .i64 1)).run Try.prog w = .ok (.agg #[.int .i64 a0_2, .int .i64 a0_3]) w := fun _ => by kernel_rfl
  have W0 : CLw w #[.int .i64 a0_0, .int .i64 a0_1, .int .i64 a0_2, .int .i64 a0_3, .int .i64 a0_4, .int .i64 a0_5] (w.alloc (.cells #[.int .i64 a0_0, .int .i64 a0_1, .int .i64 a0_2, .int .i64 a0_3, .int .i64 a0_4, .int .i64 a0_5] 50)) := ⟨blk_new _ _, (Below.refl _ _).alloc (Nat.le_refl _) _⟩
  go_enter Try.func30, Try.ntmps30
  go_wp2
  go_loopw [12] (fun i wr => CLw w #[.int .i64 a0_0, .int .i64 a0_1, .int .i64 a0_2, .int .i64 a0_3, .int .i64 a0_4, .int .i64 a0_5] wr ∧ ((i = .int .i64 0) ∨ (i = .int .i64 1 ∧ t = true) ∨ (i = .int .i64 2 ∧ t = true ∧ Aside0 (speculumbase_IsLowest.f k a0_2 a0_3 = some true)))) (fun i _ => 2 - (intOf i).toNat)
  case atStart => exact ⟨W0, .inl rfl⟩
  case round =>
    clear W0
    obtain ⟨hW, hrel⟩ := hrel
    rcases hrel with rfl | ⟨rfl, h0⟩ | ⟨rfl, h0, h1⟩
    · cases t with
      | true =>
        clear H
        go_wp2_with (go_at_call 71; refine (speculumbase_IsLowest.calls k a0_0 a0_1 true _ HT.out).mono ?_; rintro e w' ⟨rfl, hb⟩)
        go_roundw
        case rel => exact ⟨(hW.alloc _).below hb, .inr (.inl ⟨rfl, by first | trivial | rfl⟩)⟩
        case measure => simp [intOf]
      | false =>
        obtain rfl : 3 = r := Option.some.inj H.out
        clear H
        go_wp2_with (go_at_call 71; refine (speculumbase_IsLowest.calls k a0_0 a0_1 false _ HT.out).mono ?_; rintro e w' ⟨rfl, hb⟩)
        go_ret
        exact ⟨rfl, ((hW.alloc _).below hb).bel⟩
    · subst h0
      obtain ⟨u, hu, h⟩ := Option.bind_eq_some_iff.mp (show ((speculumbase_IsLowest.f k a0_2 a0_3).bind fun u => (if u = true then (some (if okR a0_0 a0_1 = true then (if okR a0_2 a0_3 = true then 0 else 2) else 2)) else (some 3))) = some r from H.out)
      have HU := Aside0.mk hu
      clear hu
      cases u with
      | true =>
        clear H h
        go_wp2_with (go_at_call 71; refine (speculumbase_IsLowest.calls k a0_2 a0_3 true _ HU.out).mono ?_; rintro e w' ⟨rfl, hb⟩)
        go_roundw
        case rel => exact ⟨(hW.alloc _).below hb, .inr (.inr ⟨rfl, by first | trivial | rfl, HU⟩)⟩
        case measure => simp [intOf]
      | false =>
        obtain rfl : 3 = r := Option.some.inj h
        clear H
        go_wp2_with (go_at_call 71; refine (speculumbase_IsLowest.calls k a0_2 a0_3 false _ HU.out).mono ?_; rintro e w' ⟨rfl, hb⟩)
        go_ret
        exact ⟨rfl, ((hW.alloc _).below hb).bel⟩
    · subst h0
      have R : (if okR a0_0 a0_1 = true then (if okR a0_2 a0_3 = true then (0 : Int) else 2) else 2) = r := by
        have := H.out
        rw [if_pos rfl, h1.out] at this
        exact Option.some.inj this
      have HR := Aside0.mk R
      clear R H
      have c0 := (blk_cell hW.box 0).trans rfl
      have c1 := (blk_cell hW.box 1).trans rfl
      have c2 := (blk_cell hW.box 2).trans rfl
      have c3 := (blk_cell hW.box 3).trans rfl
      go_wp2
      clear c0 c1 c2 c3
      obtain ⟨wo, rfl⟩ : ∃ wo : World, wo = wr := ⟨_, rfl⟩
      go_loopw [24] (fun i wr => CLw w #[.int .i64 a0_0, .int .i64 a0_1, .int .i64 a0_2, .int .i64 a0_3, .int .i64 a0_4, .int .i64 a0_5] wr ∧ ((i = .int .i64 0) ∨ (i = .int .i64 1 ∧ okR a0_0 a0_1 = true) ∨ (i = .int .i64 2 ∧ okR a0_0 a0_1 = true ∧ okR a0_2 a0_3 = true))) (fun i _ => 2 - (intOf i).toNat)
      case atStart => exact ⟨hW, .inl rfl⟩
      case round =>
        clear hW
        obtain ⟨hW, hrel⟩ := hrel
        rcases hrel with rfl | ⟨rfl, g0⟩ | ⟨rfl, g0, g1⟩
        · by_cases hd : a0_1 > 1000
          · have hq : okR a0_0 a0_1 = false := by unfold okR; rw [if_pos hd]
            obtain rfl : 2 = r := by rw [← HR.out, hq]; rfl
            clear hq HR
            have hd' : decide (1000 < a0_1) = true := decide_eq_true hd
            clear hd
            go_wp2
            go_ret
            exact ⟨rfl, (hW.alloc _).bel⟩
          · have hq : okR a0_0 a0_1 = inR a0_0 := by unfold okR; rw [if_neg hd]
            have hd' : decide (1000 < a0_1) = false := decide_eq_false hd
            clear hd
            have HQ := Aside0.mk hq
            clear hq
            cases hi : inR a0_0 with
            | true =>
              have HI := Aside0.mk (show speculumbase_Within.f a0_0 (-1000000000) 1000000000 = some true by rw [inR_f, hi])
              have HI2 := Aside0.mk (HQ.out.trans hi)
              clear hi HQ HR
              go_wp2_with (go_at_call 28; refine (speculumbase_Within.calls _ _ _ true _ HI.out).mono ?_; rintro e w' ⟨rfl, ⟨nd, rfl⟩⟩)
              go_roundw
              case rel => exact ⟨(hW.alloc _).drewN nd, .inr (.inl ⟨rfl, HI2.out⟩)⟩
              case measure => simp [intOf]
            | false =>
              have HI := Aside0.mk (show speculumbase_Within.f a0_0 (-1000000000) 1000000000 = some false by rw [inR_f, hi])
              obtain rfl : 2 = r := by rw [← HR.out, HQ.out, hi]; rfl
              clear hi HQ HR
              go_wp2_with (go_at_call 28; refine (speculumbase_Within.calls _ _ _ false _ HI.out).mono ?_; rintro e w' ⟨rfl, ⟨nd, rfl⟩⟩)
              go_ret
              exact ⟨rfl, ((hW.alloc _).drewN nd).bel⟩
        · by_cases hd : a0_3 > 1000
          · have hq : okR a0_2 a0_3 = false := by unfold okR; rw [if_pos hd]
            obtain rfl : 2 = r := by rw [← HR.out, g0, hq]; rfl
            clear hq HR
            have hd' : decide (1000 < a0_3) = true := decide_eq_true hd
            clear hd g0
            go_wp2
            go_ret
            exact ⟨rfl, (hW.alloc _).bel⟩
          · have hq : okR a0_2 a0_3 = inR a0_2 := by unfold okR; rw [if_neg hd]
            have hd' : decide (1000 < a0_3) = false := decide_eq_false hd
            clear hd
            have HQ := Aside0.mk hq
            clear hq
            have G0 := Aside0.mk g0
            clear g0
            cases hi : inR a0_2 with
            | true =>
              have HI := Aside0.mk (show speculumbase_Within.f a0_2 (-1000000000) 1000000000 = some true by rw [inR_f, hi])
              have HI2 := Aside0.mk (HQ.out.trans hi)
              clear hi HQ HR
              go_wp2_with (go_at_call 28; refine (speculumbase_Within.calls _ _ _ true _ HI.out).mono ?_; rintro e w' ⟨rfl, ⟨nd, rfl⟩⟩)
              go_roundw
              case rel => exact ⟨(hW.alloc _).drewN nd, .inr (.inr ⟨rfl, G0.out, HI2.out⟩)⟩
              case measure => simp [intOf]
            | false =>
              have HI := Aside0.mk (show speculumbase_Within.f a0_2 (-1000000000) 1000000000 = some false by rw [inR_f, hi])
              obtain rfl : 2 = r := by rw [← HR.out, G0.out, HQ.out, hi]; rfl
              clear hi HQ HR
              go_wp2_with (go_at_call 28; refine (speculumbase_Within.calls _ _ _ false _ HI.out).mono ?_; rintro e w' ⟨rfl, ⟨nd, rfl⟩⟩)
              go_ret
              exact ⟨rfl, ((hW.alloc _).drewN nd).bel⟩
        · obtain rfl : 0 = r := by rw [← HR.out, g0, g1]; rfl
          clear HR g0 g1
          go_wp2
          go_ret
          exact ⟨rfl, hW.bel⟩
theorem inR_w (n : Int) : figure_within.f n (-1000000000) 1000000000 = some (inR n) := by
  unfold figure_within.f inR
  by_cases h : -1000000000 ≤ n
  · rw [if_pos h, if_pos h]
  · rw [if_neg h, if_neg h]
def lowF (k : Nat) (n d : Int) : Option Bool := if d ≤ 0 then some false else (figure_gcd.f k n d).bind fun g => some (g == 1)
theorem lowF_true {k : Nat} {n d : Int} (h : lowF k n d = some true) : ¬ d ≤ 0 ∧ figure_gcd.f k n d = some 1 := by
  unfold lowF at h
  split at h
  · cases h
  · rename_i hd
    obtain ⟨g, hg, h⟩ := Option.bind_eq_some_iff.mp h
    have := Option.some.inj h
    rw [beq_iff_eq] at this
    subst this
    exact ⟨hd, hg⟩
theorem lowF_false {k : Nat} {n d : Int} (h : lowF k n d = some false) : d ≤ 0 ∨ (¬ d ≤ 0 ∧ ∃ g, figure_gcd.f k n d = some g ∧ ¬ g = 1) := by
  unfold lowF at h
  split at h
  · rename_i hd; exact .inl hd
  · rename_i hd
    obtain ⟨g, hg, h⟩ := Option.bind_eq_some_iff.mp h
    have := Option.some.inj h
    rw [beq_eq_false_iff_ne] at this
    exact .inr ⟨hd, g, hg, this⟩
def figure_checkLine.f (k : Nat) (a0_0 : Int) (a0_1 : Int) (a0_2 : Int) (a0_3 : Int) (a0_4 : Int) (a0_5 : Int) : Option (Int) :=
  (lowF k a0_0 a0_1).bind fun t => (if t = true then ((lowF k a0_2 a0_3).bind fun u => (if u = true then (some (if okR a0_0 a0_1 = true then (if okR a0_2 a0_3 = true then 0 else 2) else 2)) else (some 3))) else (some 3))
structure CLb (w : World) (cs ds : Array Value) (W : World) : Prop where
  box : W.heap[w.heap.size + 1]? = some (.cells ds 93 (0, 0))
  bel : Below w.heap.size w W
theorem CLb.below {w W W' : World} {cs ds : Array Value} (h : CLb w cs ds W) (hb : Below W.heap.size W W') : CLb w cs ds W' := ⟨blk_below h.box hb, below_step h.bel hb⟩
theorem CLb.alloc {w W : World} {cs ds : Array Value} (h : CLb w cs ds W) (o : Obj) : CLb w cs ds (W.alloc o) := ⟨blk_alloc h.box o, below_alloc h.bel o⟩
theorem CLb.drewN {w W : World} {cs ds : Array Value} (h : CLb w cs ds W) (n : Nat) : CLb w cs ds (W.drewN n) := ⟨blk_drewN h.box n, pw_below_drewN h.bel n⟩
set_option maxHeartbeats 8000000 in
set_option maxRecDepth 100000 in
theorem figure_checkLine.calls (k : Nat) (a0_0 : Int) (a0_1 : Int) (a0_2 : Int) (a0_3 : Int) (a0_4 : Int) (a0_5 : Int) (r : Int) (w : World) (h : figure_checkLine.f k a0_0 a0_1 a0_2 a0_3 a0_4 a0_5 = some r) :
    Calls Try.prog 72 #[.agg #[.int .i64 a0_0, .int .i64 a0_1, .int .i64 a0_2, .int .i64 a0_3, .int .i64 a0_4, .int .i64 a0_5]] w fun e w' => e = .returned (.int .i64 r) ∧ Below w.heap.size w w' := by
  have hu50 := Try.underlying50
  have hu28 := Try.underlying28
  have hu93 := Try.underlying93
  unfold figure_checkLine.f at h
  obtain ⟨t, ht, h⟩ := Option.bind_eq_some_iff.mp h
  have HT := Aside0.mk ht
  clear ht
  have H := Aside0.mk h
  clear h
  have i0 : ∀ w, (Instr.index 93 (.agg #[.int .i64 a0_0, .int .i64 a0_1, .int .i64 a0_2, .int .i64 a0_3]) (.int .i64 0)).run Try.prog w = .ok (.agg #[.int .i64 a0_0, .int .i64 a0_1]) w := fun _ => by kernel_rfl
  have i1 : ∀ w, (Instr.index 93 (.agg #[.int .i64 a0_0, .int .i64 a0_1, .int .i64 a0_2, .int .i64 a0_3]) (.int .i64 1)).run Try.prog w = .ok (.agg #[.int .i64 a0_2, .int .i64 a0_3]) w := fun _ => by kernel_rfl
  have W0 : CLb w #[.int .i64 a0_0, .int .i64 a0_1, .int .i64 a0_2, .int .i64 a0_3, .int .i64 a0_4, .int .i64 a0_5] #[.int .i64 a0_0, .int .i64 a0_1, .int .i64 a0_2, .int .i64 a0_3] ((w.alloc (.cells #[.int .i64 a0_0, .int .i64 a0_1, .int .i64 a0_2, .int .i64 a0_3, .int .i64 a0_4, .int .i64 a0_5] 50)).alloc (.cells #[.int .i64 a0_0, .int .i64 a0_1, .int .i64 a0_2, .int .i64 a0_3] 93)) := ⟨by have := blk_new (w.alloc (.cells #[.int .i64 a0_0, .int .i64 a0_1, .int .i64 a0_2, .int .i64 a0_3, .int .i64 a0_4, .int .i64 a0_5] 50)) (.cells #[.int .i64 a0_0, .int .i64 a0_1, .int .i64 a0_2, .int .i64 a0_3] 93); simpa using this, ((Below.refl _ _).alloc (Nat.le_refl _) _).alloc (by simp) _⟩
  go_enter Try.func72, Try.ntmps72
  go_wp2
  go_loopw [14] (fun i wr => CLb w #[.int .i64 a0_0, .int .i64 a0_1, .int .i64 a0_2, .int .i64 a0_3, .int .i64 a0_4, .int .i64 a0_5] #[.int .i64 a0_0, .int .i64 a0_1, .int .i64 a0_2, .int .i64 a0_3] wr ∧ ((i = .int .i64 0) ∨ (i = .int .i64 1 ∧ t = true) ∨ (i = .int .i64 2 ∧ t = true ∧ Aside0 (lowF k a0_2 a0_3 = some true)))) (fun i _ => 2 - (intOf i).toNat)
  case atStart => exact ⟨W0, .inl rfl⟩
  case round =>
    clear W0
    obtain ⟨hW, hrel⟩ := hrel
    rcases hrel with rfl | ⟨rfl, h0⟩ | ⟨rfl, h0, h1⟩
    · cases t with
      | true =>
        clear H
        obtain ⟨hd, hg⟩ := lowF_true HT.out
        have hd' : decide (a0_1 ≤ 0) = false := decide_eq_false hd
        have HG := Aside0.mk hg
        clear hd hg
        go_wp2_with (go_at_call 105; refine (figure_gcd.calls k a0_0 a0_1 1 _ HG.out).mono ?_; rintro e w' ⟨rfl, hb⟩)
        go_roundw
        case rel => exact ⟨(hW.alloc _).below hb, .inr (.inl ⟨rfl, by first | trivial | rfl⟩)⟩
        case measure => simp [intOf]
      | false =>
        obtain rfl : 3 = r := Option.some.inj H.out
        clear H
        rcases lowF_false HT.out with hd | ⟨hd, g, hg, hne⟩
        · have hd' : decide (a0_1 ≤ 0) = true := decide_eq_true hd
          clear hd
          go_wp2
          go_ret
          exact ⟨rfl, (hW.alloc _).bel⟩
        · have hd' : decide (a0_1 ≤ 0) = false := decide_eq_false hd
          have HG := Aside0.mk hg
          have hb1 : (g != 1) = true := by simpa using hne
          clear hd hg hne
          go_wp2_with (go_at_call 105; refine (figure_gcd.calls k a0_0 a0_1 g _ HG.out).mono ?_; rintro e w' ⟨rfl, hb⟩)
          go_ret
          exact ⟨rfl, ((hW.alloc _).below hb).bel⟩
    · subst h0
      obtain ⟨u, hu, h⟩ := Option.bind_eq_some_iff.mp (show ((lowF k a0_2 a0_3).bind fun u => (if u = true then (some (if okR a0_0 a0_1 = true then (if okR a0_2 a0_3 = true then 0 else 2) else 2)) else (some 3))) = some r from H.out)
      have HU := Aside0.mk hu
      clear hu
      cases u with
      | true =>
        clear H h
        obtain ⟨hd, hg⟩ := lowF_true HU.out
        have hd' : decide (a0_3 ≤ 0) = false := decide_eq_false hd
        have HG := Aside0.mk hg
        clear hd hg
        go_wp2_with (go_at_call 105; refine (figure_gcd.calls k a0_2 a0_3 1 _ HG.out).mono ?_; rintro e w' ⟨rfl, hb⟩)
        go_roundw
        case rel => exact ⟨(hW.alloc _).below hb, .inr (.inr ⟨rfl, by first | trivial | rfl, HU⟩)⟩
        case measure => simp [intOf]
      | false =>
        obtain rfl : 3 = r := Option.some.inj h
        clear H
        rcases lowF_false HU.out with hd | ⟨hd, g, hg, hne⟩
        · have hd' : decide (a0_3 ≤ 0) = true := decide_eq_true hd
          clear hd
          go_wp2
          go_ret
          exact ⟨rfl, (hW.alloc _).bel⟩
        · have hd' : decide (a0_3 ≤ 0) = false := decide_eq_false hd
          have HG := Aside0.mk hg
          have hb1 : (g != 1) = true := by simpa using hne
          clear hd hg hne
          go_wp2_with (go_at_call 105; refine (figure_gcd.calls k a0_2 a0_3 g _ HG.out).mono ?_; rintro e w' ⟨rfl, hb⟩)
          go_ret
          exact ⟨rfl, ((hW.alloc _).below hb).bel⟩
    · subst h0
      have R : (if okR a0_0 a0_1 = true then (if okR a0_2 a0_3 = true then (0 : Int) else 2) else 2) = r := by
        have := H.out
        rw [if_pos rfl, h1.out] at this
        exact Option.some.inj this
      have HR := Aside0.mk R
      clear R H
      have c0 := (blk_cell hW.box 0).trans rfl
      have c1 := (blk_cell hW.box 1).trans rfl
      have c2 := (blk_cell hW.box 2).trans rfl
      have c3 := (blk_cell hW.box 3).trans rfl
      go_wp2
      clear c0 c1 c2 c3
      obtain ⟨wo, rfl⟩ : ∃ wo : World, wo = wr := ⟨_, rfl⟩
      go_loopw [30] (fun i wr => CLb w #[.int .i64 a0_0, .int .i64 a0_1, .int .i64 a0_2, .int .i64 a0_3, .int .i64 a0_4, .int .i64 a0_5] #[.int .i64 a0_0, .int .i64 a0_1, .int .i64 a0_2, .int .i64 a0_3] wr ∧ ((i = .int .i64 0) ∨ (i = .int .i64 1 ∧ okR a0_0 a0_1 = true) ∨ (i = .int .i64 2 ∧ okR a0_0 a0_1 = true ∧ okR a0_2 a0_3 = true))) (fun i _ => 2 - (intOf i).toNat)
      case atStart => exact ⟨hW, .inl rfl⟩
      case round =>
        clear hW
        obtain ⟨hW, hrel⟩ := hrel
        rcases hrel with rfl | ⟨rfl, g0⟩ | ⟨rfl, g0, g1⟩
        · by_cases hd : a0_1 > 1000
          · have hq : okR a0_0 a0_1 = false := by unfold okR; rw [if_pos hd]
            obtain rfl : 2 = r := by rw [← HR.out, hq]; rfl
            clear hq HR
            have hd' : decide (1000 < a0_1) = true := decide_eq_true hd
            clear hd
            go_wp2
            go_ret
            exact ⟨rfl, (hW.alloc _).bel⟩
          · have hq : okR a0_0 a0_1 = inR a0_0 := by unfold okR; rw [if_neg hd]
            have hd' : decide (1000 < a0_1) = false := decide_eq_false hd
            clear hd
            have HQ := Aside0.mk hq
            clear hq
            cases hi : inR a0_0 with
            | true =>
              have HI := Aside0.mk (show figure_within.f a0_0 (-1000000000) 1000000000 = some true by rw [inR_w, hi])
              have HI2 := Aside0.mk (HQ.out.trans hi)
              clear hi HQ HR
              go_wp2_with (go_at_call 66; refine (figure_within.calls _ _ _ true _ HI.out).mono ?_; rintro e w' ⟨rfl, ⟨nd, rfl⟩⟩)
              go_roundw
              case rel => exact ⟨(hW.alloc _).drewN nd, .inr (.inl ⟨rfl, HI2.out⟩)⟩
              case measure => simp [intOf]
            | false =>
              have HI := Aside0.mk (show figure_within.f a0_0 (-1000000000) 1000000000 = some false by rw [inR_w, hi])
              obtain rfl : 2 = r := by rw [← HR.out, HQ.out, hi]; rfl
              clear hi HQ HR
              go_wp2_with (go_at_call 66; refine (figure_within.calls _ _ _ false _ HI.out).mono ?_; rintro e w' ⟨rfl, ⟨nd, rfl⟩⟩)
              go_ret
              exact ⟨rfl, ((hW.alloc _).drewN nd).bel⟩
        · by_cases hd : a0_3 > 1000
          · have hq : okR a0_2 a0_3 = false := by unfold okR; rw [if_pos hd]
            obtain rfl : 2 = r := by rw [← HR.out, g0, hq]; rfl
            clear hq HR
            have hd' : decide (1000 < a0_3) = true := decide_eq_true hd
            clear hd g0
            go_wp2
            go_ret
            exact ⟨rfl, (hW.alloc _).bel⟩
          · have hq : okR a0_2 a0_3 = inR a0_2 := by unfold okR; rw [if_neg hd]
            have hd' : decide (1000 < a0_3) = false := decide_eq_false hd
            clear hd
            have HQ := Aside0.mk hq
            clear hq
            have G0 := Aside0.mk g0
            clear g0
            cases hi : inR a0_2 with
            | true =>
              have HI := Aside0.mk (show figure_within.f a0_2 (-1000000000) 1000000000 = some true by rw [inR_w, hi])
              have HI2 := Aside0.mk (HQ.out.trans hi)
              clear hi HQ HR
              go_wp2_with (go_at_call 66; refine (figure_within.calls _ _ _ true _ HI.out).mono ?_; rintro e w' ⟨rfl, ⟨nd, rfl⟩⟩)
              go_roundw
              case rel => exact ⟨(hW.alloc _).drewN nd, .inr (.inr ⟨rfl, G0.out, HI2.out⟩)⟩
              case measure => simp [intOf]
            | false =>
              have HI := Aside0.mk (show figure_within.f a0_2 (-1000000000) 1000000000 = some false by rw [inR_w, hi])
              obtain rfl : 2 = r := by rw [← HR.out, G0.out, HQ.out, hi]; rfl
              clear hi HQ HR
              go_wp2_with (go_at_call 66; refine (figure_within.calls _ _ _ false _ HI.out).mono ?_; rintro e w' ⟨rfl, ⟨nd, rfl⟩⟩)
              go_ret
              exact ⟨rfl, ((hW.alloc _).drewN nd).bel⟩
        · obtain rfl : 0 = r := by rw [← HR.out, g0, g1]; rfl
          clear HR g0 g1
          go_wp2
          go_ret
          exact ⟨rfl, hW.bel⟩
def figure_Removal.l0 : Nat → List (S28) → Int → Int → List Int → List Int → List Int → Int → Int → Int → Int → Int → Int → Option ((List (S28)) × Int)
 | 0, _, _, _, _, _, _, _, _, _, _, _, _ => none
 | k + 1, x8, x22, x23, x382000, x382001, x382002, x383000, x383001, x383002, x383003, x383004, x383005 => if x23 < x22 then ((figure_removal.f x382000 x382001 x382002 x383000 x383001 x383002 x383003 x383004 x383005 x23).bind fun bt385 => ((figure_lowest.f k bt385.1 bt385.2).bind fun bt387 => (if x8.length < 8796093022208 then (figure_Removal.l0 k (x8 ++ [(⟨bt387.1, bt387.2⟩ : S28)]) x22 (wrap64 (x23 + 1)) x382000 x382001 x382002 x383000 x383001 x383002 x383003 x383004 x383005) else (none)))) else (some (x8, 0))
def figure_Removal.f (k : Nat) (l0_0 : List Int) (l0_1 : List Int) (l0_2 : List Int) (a1_0 : Int) (a1_1 : Int) (a1_2 : Int) (a1_3 : Int) (a1_4 : Int) (a1_5 : Int) : Option ((List (S28)) × Int) := (figure_CheckMap.f k l0_0 l0_1 l0_2).bind fun t383 => (if t383 = 0 then ((figure_checkLine.f k a1_0 a1_1 a1_2 a1_3 a1_4 a1_5).bind fun t384 => (if t384 = 0 then (figure_Removal.l0 k ([] : List (S28)) (l0_0.length : Int) 0 l0_0 l0_1 l0_2 a1_0 a1_1 a1_2 a1_3 a1_4 a1_5) else (some (([] : List (S28)), t384)))) else (some (([] : List (S28)), t383)))
set_option maxHeartbeats 8000000 in
set_option maxRecDepth 100000 in
theorem figure_Removal.calls (k : Nat) (A0_0 : Option Addr) (c0_0 : Nat) (l0_0 : List Int) (A0_1 : Option Addr) (c0_1 : Nat) (l0_1 : List Int) (A0_2 : Option Addr) (c0_2 : Nat) (l0_2 : List Int) (a1_0 : Int) (a1_1 : Int) (a1_2 : Int) (a1_3 : Int) (a1_4 : Int) (a1_5 : Int) (r1 : List (S28)) (r2 : Int) (w : World) (hr0_0 : Kd.C (Kd.int .i64) w A0_0 l0_0.length l0_0) (hc0_0 : l0_0.length ≤ c0_0) (hr0_1 : Kd.C (Kd.int .i64) w A0_1 l0_1.length l0_1) (hc0_1 : l0_1.length ≤ c0_1) (hr0_2 : Kd.C (Kd.int .i64) w A0_2 l0_2.length l0_2) (hc0_2 : l0_2.length ≤ c0_2) (h : figure_Removal.f k l0_0 l0_1 l0_2 a1_0 a1_1 a1_2 a1_3 a1_4 a1_5 = some (r1, r2)) :
  Calls Try.prog 31 #[.agg #[.slice A0_0 l0_0.length c0_0, .slice A0_1 l0_1.length c0_1, .slice A0_2 l0_2.length c0_2], .agg #[.int .i64 a1_0, .int .i64 a1_1, .int .i64 a1_2, .int .i64 a1_3, .int .i64 a1_4, .int .i64 a1_5]] w fun e w' => ∃ v0_ : Value, e = .returned (.tuple #[v0_, .int .i64 r2]) ∧ Kd.R k28 28 w' w.heap.size (fun _ => True) v0_ r1 ∧ Below w.heap.size w w' := by
 have hu24 := Try.underlying24
 have hu50 := Try.underlying50
 have HR0_0 := Aside0.mk hr0_0
 have HC0_0 := Aside0.mk hc0_0
 clear hr0_0 hc0_0
 have HR0_1 := Aside0.mk hr0_1
 have HC0_1 := Aside0.mk hc0_1
 clear hr0_1 hc0_1
 have HR0_2 := Aside0.mk hr0_2
 have HC0_2 := Aside0.mk hc0_2
 clear hr0_2 hc0_2
 have HB := Aside0.mk (Below.refl w.heap.size w)
 have H : ((figure_CheckMap.f k l0_0 l0_1 l0_2).bind fun t383 => (if t383 = 0 then ((figure_checkLine.f k a1_0 a1_1 a1_2 a1_3 a1_4 a1_5).bind fun t384 => (if t384 = 0 then (figure_Removal.l0 k ([] : List (S28)) (l0_0.length : Int) 0 l0_0 l0_1 l0_2 a1_0 a1_1 a1_2 a1_3 a1_4 a1_5) else (some (([] : List (S28)), t384)))) else (some (([] : List (S28)), t383)))) = some (r1, r2) := h
 clear h
 replace H := Option.bind_eq_some_iff.mp H
 obtain ⟨t383, A30, H⟩ := H
 replace H : (if t383 = 0 then ((figure_checkLine.f k a1_0 a1_1 a1_2 a1_3 a1_4 a1_5).bind fun t384 => (if t384 = 0 then (figure_Removal.l0 k ([] : List (S28)) (l0_0.length : Int) 0 l0_0 l0_1 l0_2 a1_0 a1_1 a1_2 a1_3 a1_4 a1_5) else (some (([] : List (S28)), t384)))) else (some (([] : List (S28)), t383))) = some (r1, r2) := H
 have A3 := Aside0.mk A30
 clear A30
 by_cases c4 : t383 = 0
 ·rw [if_pos c4] at H
  have c4b0 : (t383 == 0) = true := beq_iff_eq.mpr c4
  have c4b1 : (t383 != 0) = false := bne_eq_false_iff_eq.mpr c4
  clear c4
  replace H := Option.bind_eq_some_iff.mp H
  obtain ⟨t384, A50, H⟩ := H
  replace H : (if t384 = 0 then (figure_Removal.l0 k ([] : List (S28)) (l0_0.length : Int) 0 l0_0 l0_1 l0_2 a1_0 a1_1 a1_2 a1_3 a1_4 a1_5) else (some (([] : List (S28)), t384))) = some (r1, r2) := H
  have A5 := Aside0.mk A50
  clear A50
  by_cases c6 : t384 = 0
  ·rw [if_pos c6] at H
   have c6b0 : (t384 == 0) = true := beq_iff_eq.mpr c6
   have c6b1 : (t384 != 0) = false := bne_eq_false_iff_eq.mpr c6
   clear c6
   have H' := Aside0.mk H
   clear H
   go_enter Try.func31, Try.ntmps31
   go_wp2_with (first | ((with_reducible refine gate_dst (N := 2) rfl ?_); refine box_event ?hg (N := 2) ?hd (cs := #[.slice A0_0 l0_0.length c0_0, .slice A0_1 l0_1.length c0_1, .slice A0_2 l0_2.length c0_2]) (t := 24) ?hr ?_; (case hd => rfl); (case hg => rfl); (case hr => exact gr_); intro gb381 hg w7 hbox hb; have n0_ := Aside0.mk (below_step (hb_ HB) hb); have n1_ := Aside0.mk (hbox); have n2_ := Aside0.mk ((hz_ HB hg)); have n3_ := Aside0.mk ((hz_ HB hg)); clear HB; have HB := n0_; have BK381 := n1_; have GW381 := n2_; have GE381 := n3_; clear n0_ n1_ n2_ n3_; clear hb hbox hg) | ((with_reducible refine gate_dst (N := 3) rfl ?_); refine box_event ?hg (N := 3) ?hd (cs := #[.int .i64 a1_0, .int .i64 a1_1, .int .i64 a1_2, .int .i64 a1_3, .int .i64 a1_4, .int .i64 a1_5]) (t := 50) ?hr ?_; (case hd => rfl); (case hg => rfl); (case hr => exact gr_); intro gb382 hg w8 hbox hb; have n0_ := Aside0.mk (bb_ BK381 hb); have n1_ := Aside0.mk (below_step (hb_ HB) hb); have n2_ := Aside0.mk (hbox); have n3_ := Aside0.mk ((hz_ HB hg)); have n4_ := Aside0.mk ((hz_ HB hg)); have n5_ := Aside0.mk ((nl_ BK381 hg)); have n6_ := Aside0.mk ((ng_ BK381 hg)); clear BK381; clear HB; have BK381 := n0_; have HB := n1_; have BK382 := n2_; have GW382 := n3_; have GE382 := n4_; have NB381_382 := n5_; have NB382_381 := n6_; clear n0_ n1_ n2_ n3_ n4_ n5_ n6_; clear hb hbox hg; have hnb9 := NB381_382.out; have hnc9 := NB382_381.out; have hcz10_0 : w8.cell? ⟨gb381, 0, none⟩ = some (.slice A0_0 l0_0.length c0_0) := (blk_cell BK381.out 0).trans rfl; have hcz10_1 : w8.cell? ⟨gb381, 1, none⟩ = some (.slice A0_1 l0_1.length c0_1) := (blk_cell BK381.out 1).trans rfl; have hcz10_2 : w8.cell? ⟨gb381, 2, none⟩ = some (.slice A0_2 l0_2.length c0_2) := (blk_cell BK381.out 2).trans rfl; have hfz10_0 := blk_frozen BK381.out 0; have hfz10_1 := blk_frozen BK381.out 1; have hfz10_2 := blk_frozen BK381.out 2) | ((with_reducible refine gate_callee (f := 19) rfl ?_); refine goesL_ (some 11) rfl rfl Try.func19 (by kernel_rfl) rfl #[.agg #[.slice A0_0 l0_0.length c0_0, .slice A0_1 l0_1.length c0_1, .slice A0_2 l0_2.length c0_2]] rfl ma_ ?_; (with_reducible refine (figure_CheckMap.calls k _ _ l0_0 _ _ l0_1 _ _ l0_2 t383 _ ?side1 ?side2 ?side3 ?side4 ?side5 ?side6 A3.out).mono ?_); (case side1 => repeat (first | exact (Kd.C_below HR0_0.out HB.out) | (with_reducible refine Kd.C_alloc ?_ _) | (with_reducible refine Kd.C_drewN ?_ _) | (with_reducible refine Kd.C_drew ?_))); (case side2 => exact HC0_0.out); (case side3 => repeat (first | exact (Kd.C_below HR0_1.out HB.out) | (with_reducible refine Kd.C_alloc ?_ _) | (with_reducible refine Kd.C_drewN ?_ _) | (with_reducible refine Kd.C_drew ?_))); (case side4 => exact HC0_1.out); (case side5 => repeat (first | exact (Kd.C_below HR0_2.out HB.out) | (with_reducible refine Kd.C_alloc ?_ _) | (with_reducible refine Kd.C_drewN ?_ _) | (with_reducible refine Kd.C_drew ?_))); (case side6 => exact HC0_2.out); rintro e w11 ⟨rfl, hb⟩; refine ⟨_, rfl, ?_⟩; have n0_ := Aside0.mk (bb_ BK381 hb); have n1_ := Aside0.mk (bb_ BK382 hb); have n2_ := Aside0.mk (below_step (hb_ HB) hb); clear BK381; clear BK382; clear HB; have BK381 := n0_; have BK382 := n1_; have HB := n2_; clear n0_ n1_ n2_; (try clear hb); (try clear hb2); (try clear hk); (try clear hi); have hcz12_0 : w11.cell? ⟨gb382, 0, none⟩ = some (.int .i64 a1_0) := (blk_cell BK382.out 0).trans rfl; have hcz12_1 : w11.cell? ⟨gb382, 1, none⟩ = some (.int .i64 a1_1) := (blk_cell BK382.out 1).trans rfl; have hcz12_2 : w11.cell? ⟨gb382, 2, none⟩ = some (.int .i64 a1_2) := (blk_cell BK382.out 2).trans rfl; have hcz12_3 : w11.cell? ⟨gb382, 3, none⟩ = some (.int .i64 a1_3) := (blk_cell BK382.out 3).trans rfl; have hcz12_4 : w11.cell? ⟨gb382, 4, none⟩ = some (.int .i64 a1_4) := (blk_cell BK382.out 4).trans rfl; have hcz12_5 : w11.cell? ⟨gb382, 5, none⟩ = some (.int .i64 a1_5) := (blk_cell BK382.out 5).trans rfl; have hfz12_0 := blk_frozen BK382.out 0; have hfz12_1 := blk_frozen BK382.out 1; have hfz12_2 := blk_frozen BK382.out 2; have hfz12_3 := blk_frozen BK382.out 3; have hfz12_4 := blk_frozen BK382.out 4; have hfz12_5 := blk_frozen BK382.out 5) | ((with_reducible refine gate_callee (f := 72) rfl ?_); refine goesL_ (some 16) rfl rfl Try.func72 (by kernel_rfl) rfl #[.agg #[.int .i64 a1_0, .int .i64 a1_1, .int .i64 a1_2, .int .i64 a1_3, .int .i64 a1_4, .int .i64 a1_5]] rfl ma_ ?_; (with_reducible refine (figure_checkLine.calls k a1_0 a1_1 a1_2 a1_3 a1_4 a1_5 t384 _ A5.out).mono ?_); rintro e w13 ⟨rfl, hb⟩; refine ⟨_, rfl, ?_⟩; have n0_ := Aside0.mk (bb_ BK381 hb); have n1_ := Aside0.mk (bb_ BK382 hb); have n2_ := Aside0.mk (below_step (hb_ HB) hb); clear BK381; clear BK382; clear HB; have BK381 := n0_; have BK382 := n1_; have HB := n2_; clear n0_ n1_ n2_; (try clear hb); (try clear hb2); (try clear hk); (try clear hi); have hcz14_0 : w13.cell? ⟨gb381, 0, none⟩ = some (.slice A0_0 l0_0.length c0_0) := (blk_cell BK381.out 0).trans rfl; have hcz14_1 : w13.cell? ⟨gb381, 1, none⟩ = some (.slice A0_1 l0_1.length c0_1) := (blk_cell BK381.out 1).trans rfl; have hcz14_2 : w13.cell? ⟨gb381, 2, none⟩ = some (.slice A0_2 l0_2.length c0_2) := (blk_cell BK381.out 2).trans rfl; have hfz14_0 := blk_frozen BK381.out 0; have hfz14_1 := blk_frozen BK381.out 1; have hfz14_2 := blk_frozen BK381.out 2))
   go_loopg [8, 23] k (fun kq v8 v23 w' => ∃ (x8_1 : List (S28)) (x23_1 : Int), v23 = .int .i64 x23_1 ∧ Aside0 (figure_Removal.l0 kq x8_1 (l0_0.length : Int) x23_1 l0_0 l0_1 l0_2 a1_0 a1_1 a1_2 a1_3 a1_4 a1_5 = some (r1, r2)) ∧ Aside0 (kq ≤ k) ∧ Aside0 (Kd.R k28 28 w' w.heap.size (fun _ => True) v8 x8_1) ∧ Aside0 (w'.heap[gb381]? = some (.cells #[(.slice A0_0 l0_0.length c0_0), (.slice A0_1 l0_1.length c0_1), (.slice A0_2 l0_2.length c0_2)] 24 (0, 0))) ∧ Aside0 (w'.heap[gb382]? = some (.cells #[.int .i64 a1_0, .int .i64 a1_1, .int .i64 a1_2, .int .i64 a1_3, .int .i64 a1_4, .int .i64 a1_5] 50 (0, 0))) ∧ Aside0 (Below w.heap.size w w'))
   case atStart => exact ⟨(([] : List (S28))), (0), rs_, H', ⟨Nat.le_refl _⟩, ⟨by first | exact Kd.R_nil _ _ _ _ _ | exact Kd.N_nil _ _ _ _ _ | exact Kd.V_nil _ _ _ _ _ | exact Kd.Q_nil _ _ _ _ _ | exact Kd.S_nil _ _ _ _ _⟩, ⟨by (with_reducible repeat (first | refine blk_drewN ?_ _ | refine blk_drew ?_ | refine blk_alloc ?_ _)); exact BK381.out⟩, ⟨by (with_reducible repeat (first | refine blk_drewN ?_ _ | refine blk_drew ?_ | refine blk_alloc ?_ _)); exact BK382.out⟩, ⟨by repeat (first | (with_reducible first | exact HB.out | apply below_alloc | apply pw_below_drewN | apply below_drew1 | refine below_set ?_ GE381.out | refine below_set ?_ GE382.out) | exact HB.out)⟩⟩
   case round =>
    clear H'
    try clear c1
    try clear p2
    try clear c3
    try clear c4
    try clear c4b0
    try clear c4b1
    try clear c6
    try clear c6b0
    try clear c6b1
    try clear c7
    try clear c9
    try clear hcz10_0
    try clear hcz10_1
    try clear hcz10_2
    try clear hcz12_0
    try clear hcz12_1
    try clear hcz12_2
    try clear hcz12_3
    try clear hcz12_4
    try clear hcz12_5
    try clear hcz14_0
    try clear hcz14_1
    try clear hcz14_2
    try clear hfz10_0
    try clear hfz10_1
    try clear hfz10_2
    try clear hfz12_0
    try clear hfz12_1
    try clear hfz12_2
    try clear hfz12_3
    try clear hfz12_4
    try clear hfz12_5
    try clear hfz14_0
    try clear hfz14_1
    try clear hfz14_2
    obtain ⟨x8_1, x23_1, rfl, HA, HK1, HO_8, BK381, BK382, HB⟩ := hrel
    cases gk with
    | zero => exact absurd HA.out (by simp [figure_Removal.l0])
    | succ k1 =>
     have H := HA.out
     clear HA
     simp only [figure_Removal.l0] at H
     by_cases c15 : x23_1 < (l0_0.length : Int)
     ·rw [if_pos c15] at H
      have c15b0 : decide (x23_1 < (l0_0.length : Int)) = true := decide_eq_true c15
      clear c15
      replace H := Option.bind_eq_some_iff.mp H
      obtain ⟨⟨t385, t386⟩, A160, H⟩ := H
      replace H : ((figure_lowest.f k1 t385 t386).bind fun bt387 => (if x8_1.length < 8796093022208 then (figure_Removal.l0 k1 (x8_1 ++ [(⟨bt387.1, bt387.2⟩ : S28)]) (l0_0.length : Int) (wrap64 (x23_1 + 1)) l0_0 l0_1 l0_2 a1_0 a1_1 a1_2 a1_3 a1_4 a1_5) else (none))) = some (r1, r2) := H
      have A16 := Aside0.mk A160
      clear A160
      replace H := Option.bind_eq_some_iff.mp H
      obtain ⟨⟨t387, t388⟩, A170, H⟩ := H
      replace H : (if x8_1.length < 8796093022208 then (figure_Removal.l0 k1 (x8_1 ++ [(⟨t387, t388⟩ : S28)]) (l0_0.length : Int) (wrap64 (x23_1 + 1)) l0_0 l0_1 l0_2 a1_0 a1_1 a1_2 a1_3 a1_4 a1_5) else (none)) = some (r1, r2) := H
      have A17 := Aside0.mk A170
      clear A170
      by_cases c18 : x8_1.length < 8796093022208
      ·rw [if_pos c18] at H
       have LMc18 := Aside0.mk c18
       clear c18
       obtain ⟨y389, hy389⟩ : ∃ y_ : List (S28), y_ = (x8_1 ++ [(⟨t387, t388⟩ : S28)]) := ⟨_, rfl⟩
       replace H : (figure_Removal.l0 k1 y389 (l0_0.length : Int) (wrap64 (x23_1 + 1)) l0_0 l0_1 l0_2 a1_0 a1_1 a1_2 a1_3 a1_4 a1_5) = some (r1, r2) := by first | (rw [hy389]; with_reducible exact H) | (have H2_ := (Option.bind_some _ _).symm.trans H; rw [hy389]; with_reducible exact H2_) | (have H2_ := (Option.bind_some _ _).symm.trans H; with_reducible exact H2_) | with_reducible exact H | (rw [hy389]; exact H) | exact H
       have Ny389 := Aside0.mk hy389
       clear hy389
       have H' := Aside0.mk H
       clear H
       have hnb19 := NB381_382.out
       have hnc19 := NB382_381.out
       have hcz20_0 : wr.cell? ⟨gb381, 0, none⟩ = some (.slice A0_0 l0_0.length c0_0) := (blk_cell BK381.out 0).trans rfl
       have hcz20_1 : wr.cell? ⟨gb381, 1, none⟩ = some (.slice A0_1 l0_1.length c0_1) := (blk_cell BK381.out 1).trans rfl
       have hcz20_2 : wr.cell? ⟨gb381, 2, none⟩ = some (.slice A0_2 l0_2.length c0_2) := (blk_cell BK381.out 2).trans rfl
       have hfz20_0 := blk_frozen BK381.out 0
       have hfz20_1 := blk_frozen BK381.out 1
       have hfz20_2 := blk_frozen BK381.out 2
       have hcz21_0 : wr.cell? ⟨gb382, 0, none⟩ = some (.int .i64 a1_0) := (blk_cell BK382.out 0).trans rfl
       have hcz21_1 : wr.cell? ⟨gb382, 1, none⟩ = some (.int .i64 a1_1) := (blk_cell BK382.out 1).trans rfl
       have hcz21_2 : wr.cell? ⟨gb382, 2, none⟩ = some (.int .i64 a1_2) := (blk_cell BK382.out 2).trans rfl
       have hcz21_3 : wr.cell? ⟨gb382, 3, none⟩ = some (.int .i64 a1_3) := (blk_cell BK382.out 3).trans rfl
       have hcz21_4 : wr.cell? ⟨gb382, 4, none⟩ = some (.int .i64 a1_4) := (blk_cell BK382.out 4).trans rfl
       have hcz21_5 : wr.cell? ⟨gb382, 5, none⟩ = some (.int .i64 a1_5) := (blk_cell BK382.out 5).trans rfl
       have hfz21_0 := blk_frozen BK382.out 0
       have hfz21_1 := blk_frozen BK382.out 1
       have hfz21_2 := blk_frozen BK382.out 2
       have hfz21_3 := blk_frozen BK382.out 3
       have hfz21_4 := blk_frozen BK382.out 4
       have hfz21_5 := blk_frozen BK382.out 5
       go_wp2_with (first | ((with_reducible refine gate_callee (f := 73) rfl ?_); refine goesL_ (some 30) rfl rfl Try.func73 (by kernel_rfl) rfl #[.agg #[.slice A0_0 l0_0.length c0_0, .slice A0_1 l0_1.length c0_1, .slice A0_2 l0_2.length c0_2], .agg #[.int .i64 a1_0, .int .i64 a1_1, .int .i64 a1_2, .int .i64 a1_3, .int .i64 a1_4, .int .i64 a1_5], .int .i64 x23_1] rfl ma_ ?_; (with_reducible refine (figure_removal.calls _ _ l0_0 _ _ l0_1 _ _ l0_2 a1_0 a1_1 a1_2 a1_3 a1_4 a1_5 x23_1 t385 t386 _ ?side1 ?side2 ?side3 ?side4 ?side5 ?side6 A16.out).mono ?_); (case side1 => repeat (first | exact (Kd.C_below HR0_0.out HB.out) | (with_reducible refine Kd.C_alloc ?_ _) | (with_reducible refine Kd.C_drewN ?_ _) | (with_reducible refine Kd.C_drew ?_))); (case side2 => exact HC0_0.out); (case side3 => repeat (first | exact (Kd.C_below HR0_1.out HB.out) | (with_reducible refine Kd.C_alloc ?_ _) | (with_reducible refine Kd.C_drewN ?_ _) | (with_reducible refine Kd.C_drew ?_))); (case side4 => exact HC0_1.out); (case side5 => repeat (first | exact (Kd.C_below HR0_2.out HB.out) | (with_reducible refine Kd.C_alloc ?_ _) | (with_reducible refine Kd.C_drewN ?_ _) | (with_reducible refine Kd.C_drew ?_))); (case side6 => exact HC0_2.out); rintro e w22 ⟨rfl, hb⟩; refine ⟨_, rfl, ?_⟩; have n0_ := Aside0.mk (Kd.R_below (rk_ HO_8) hb); have n1_ := Aside0.mk (bb_ BK381 hb); have n2_ := Aside0.mk (bb_ BK382 hb); have n3_ := Aside0.mk (below_step (hb_ HB) hb); clear HO_8; clear BK381; clear BK382; clear HB; have HO_8 := n0_; have BK381 := n1_; have BK382 := n2_; have HB := n3_; clear n0_ n1_ n2_ n3_; (try clear hb); (try clear hb2); (try clear hk); (try clear hi)) | ((with_reducible refine gate_callee (f := 63) rfl ?_); refine goesL_ (some 33) rfl rfl Try.func63 (by kernel_rfl) rfl #[.int .i64 t385, .int .i64 t386] rfl ma_ ?_; (with_reducible refine (figure_lowest.calls k1 t385 t386 t387 t388 _ A17.out).mono ?_); rintro e w23 ⟨rfl, hb⟩; refine ⟨_, rfl, ?_⟩; have n0_ := Aside0.mk (Kd.R_below (rk_ HO_8) hb); have n1_ := Aside0.mk (bb_ BK381 hb); have n2_ := Aside0.mk (bb_ BK382 hb); have n3_ := Aside0.mk (below_step (hb_ HB) hb); clear HO_8; clear BK381; clear BK382; clear HB; have HO_8 := n0_; have BK381 := n1_; have BK382 := n2_; have HB := n3_; clear n0_ n1_ n2_ n3_; (try clear hb); (try clear hb2); (try clear hk); (try clear hi)) | ((with_reducible refine gate_builtin (b := .append) (xs := #[.tmp 26, .tmp 34]) rfl ?_); at_builtin; refine Kd.R_append k28 (w0 := w) w.heap.size rfl (.tmp 26) (.tmp 34) 52 28 (.agg #[(.int .i64 0), (.int .i64 0)]) 16 rfl Try.underlying52 info28 rfl di_ (by omega) u8 x8_1 (⟨t387, t388⟩ : S28) [.int .i64 t387, .int .i64 t388] (fun _ => True) (fun _ => False) rfl rfl ?aP (fun _ hk => hk.elim) ?aF ?aO ?aB ?aS ?aL ?_; (case aP => exact k28_mkM _ _ _ (⟨t387, t388⟩ : S28)); (case aB => exact (hb_ HB)); (case aF => exact (fun _ _ => trivial)); (case aO => exact (rk_ HO_8)); (case aS => exact (below_size (hb_ HB))); (case aL => have := LMc18.out; omega); intro v390 w24 ho hb hg hat; rw [← Ny389.out] at ho; have n0_ := Aside0.mk (blk_grown (g := gb381) (o := .cells #[.slice A0_0 l0_0.length c0_0, .slice A0_1 l0_1.length c0_1, .slice A0_2 l0_2.length c0_2] 24 (0, 0)) (bk_ BK381) hg (Kd.R_ne HO_8.out BK381.out di_)); have n1_ := Aside0.mk (blk_grown (g := gb382) (o := .cells #[.int .i64 a1_0, .int .i64 a1_1, .int .i64 a1_2, .int .i64 a1_3, .int .i64 a1_4, .int .i64 a1_5] 50 (0, 0)) (bk_ BK382) hg (Kd.R_ne HO_8.out BK382.out di_)); have n2_ := Aside0.mk (hb); have n3_ := Aside0.mk (ho); clear BK381; clear BK382; clear HB; clear HO_8; have BK381 := n0_; have BK382 := n1_; have HB := n2_; have HO391 := n3_; clear n0_ n1_ n2_ n3_; clear ho hb hg hat))
       go_roundg k1
       case measure => have := HK1.out; omega
       case rel => exact ⟨(y389), (wrap64 (x23_1 + 1)), rs_, H', ⟨by have := HK1.out; omega⟩, ⟨by (with_reducible repeat (first | apply Kd.R_alloc | apply Kd.R_drewN | apply Kd.R_drew)); exact HO391.out⟩, ⟨by (with_reducible repeat (first | refine blk_drewN ?_ _ | refine blk_drew ?_ | refine blk_alloc ?_ _)); exact BK381.out⟩, ⟨by (with_reducible repeat (first | refine blk_drewN ?_ _ | refine blk_drew ?_ | refine blk_alloc ?_ _)); exact BK382.out⟩, ⟨by repeat (first | (with_reducible first | exact HB.out | apply below_alloc | apply pw_below_drewN | apply below_drew1 | refine below_set ?_ GE381.out | refine below_set ?_ GE382.out) | exact HB.out)⟩⟩
      ·rw [if_neg c18] at H
       exact absurd H (by simp)
     ·rw [if_neg c15] at H
      have c15b0 : decide (x23_1 < (l0_0.length : Int)) = false := decide_eq_false c15
      clear c15
      simp only [Option.some.injEq, Prod.mk.injEq] at H
      obtain ⟨rfl, rfl⟩ := H
      go_wp2
      go_ret2
      exact ⟨_, by first | rfl | (simp [errW_none, errW_some] <;> rfl) | (simp [*, errW_none, errW_some] <;> rfl), by (with_reducible repeat (first | apply Kd.R_alloc | apply Kd.R_drewN | apply Kd.R_drew)); exact HO_8.out, by repeat (first | (with_reducible first | exact HB.out | apply below_alloc | apply pw_below_drewN | apply below_drew1 | refine below_set ?_ GE381.out | refine below_set ?_ GE382.out) | exact HB.out)⟩
  ·rw [if_neg c6] at H
   have c6b0 : (t384 == 0) = false := beq_eq_false_iff_ne.mpr c6
   have c6b1 : (t384 != 0) = true := bne_iff_ne.mpr c6
   simp only [Option.some.injEq, Prod.mk.injEq] at H
   obtain ⟨rfl, rfl⟩ := H
   go_enter Try.func31, Try.ntmps31
   go_wp2_with (first | ((with_reducible refine gate_dst (N := 2) rfl ?_); refine box_event ?hg (N := 2) ?hd (cs := #[.slice A0_0 l0_0.length c0_0, .slice A0_1 l0_1.length c0_1, .slice A0_2 l0_2.length c0_2]) (t := 24) ?hr ?_; (case hd => rfl); (case hg => rfl); (case hr => exact gr_); intro gb381 hg w25 hbox hb; have n0_ := Aside0.mk (below_step (hb_ HB) hb); have n1_ := Aside0.mk (hbox); have n2_ := Aside0.mk ((hz_ HB hg)); have n3_ := Aside0.mk ((hz_ HB hg)); clear HB; have HB := n0_; have BK381 := n1_; have GW381 := n2_; have GE381 := n3_; clear n0_ n1_ n2_ n3_; clear hb hbox hg) | ((with_reducible refine gate_dst (N := 3) rfl ?_); refine box_event ?hg (N := 3) ?hd (cs := #[.int .i64 a1_0, .int .i64 a1_1, .int .i64 a1_2, .int .i64 a1_3, .int .i64 a1_4, .int .i64 a1_5]) (t := 50) ?hr ?_; (case hd => rfl); (case hg => rfl); (case hr => exact gr_); intro gb382 hg w26 hbox hb; have n0_ := Aside0.mk (bb_ BK381 hb); have n1_ := Aside0.mk (below_step (hb_ HB) hb); have n2_ := Aside0.mk (hbox); have n3_ := Aside0.mk ((hz_ HB hg)); have n4_ := Aside0.mk ((hz_ HB hg)); have n5_ := Aside0.mk ((nl_ BK381 hg)); have n6_ := Aside0.mk ((ng_ BK381 hg)); clear BK381; clear HB; have BK381 := n0_; have HB := n1_; have BK382 := n2_; have GW382 := n3_; have GE382 := n4_; have NB381_382 := n5_; have NB382_381 := n6_; clear n0_ n1_ n2_ n3_ n4_ n5_ n6_; clear hb hbox hg; have hnb27 := NB381_382.out; have hnc27 := NB382_381.out; have hcz28_0 : w26.cell? ⟨gb381, 0, none⟩ = some (.slice A0_0 l0_0.length c0_0) := (blk_cell BK381.out 0).trans rfl; have hcz28_1 : w26.cell? ⟨gb381, 1, none⟩ = some (.slice A0_1 l0_1.length c0_1) := (blk_cell BK381.out 1).trans rfl; have hcz28_2 : w26.cell? ⟨gb381, 2, none⟩ = some (.slice A0_2 l0_2.length c0_2) := (blk_cell BK381.out 2).trans rfl; have hfz28_0 := blk_frozen BK381.out 0; have hfz28_1 := blk_frozen BK381.out 1; have hfz28_2 := blk_frozen BK381.out 2) | ((with_reducible refine gate_callee (f := 19) rfl ?_); refine goesL_ (some 11) rfl rfl Try.func19 (by kernel_rfl) rfl #[.agg #[.slice A0_0 l0_0.length c0_0, .slice A0_1 l0_1.length c0_1, .slice A0_2 l0_2.length c0_2]] rfl ma_ ?_; (with_reducible refine (figure_CheckMap.calls k _ _ l0_0 _ _ l0_1 _ _ l0_2 t383 _ ?side1 ?side2 ?side3 ?side4 ?side5 ?side6 A3.out).mono ?_); (case side1 => repeat (first | exact (Kd.C_below HR0_0.out HB.out) | (with_reducible refine Kd.C_alloc ?_ _) | (with_reducible refine Kd.C_drewN ?_ _) | (with_reducible refine Kd.C_drew ?_))); (case side2 => exact HC0_0.out); (case side3 => repeat (first | exact (Kd.C_below HR0_1.out HB.out) | (with_reducible refine Kd.C_alloc ?_ _) | (with_reducible refine Kd.C_drewN ?_ _) | (with_reducible refine Kd.C_drew ?_))); (case side4 => exact HC0_1.out); (case side5 => repeat (first | exact (Kd.C_below HR0_2.out HB.out) | (with_reducible refine Kd.C_alloc ?_ _) | (with_reducible refine Kd.C_drewN ?_ _) | (with_reducible refine Kd.C_drew ?_))); (case side6 => exact HC0_2.out); rintro e w29 ⟨rfl, hb⟩; refine ⟨_, rfl, ?_⟩; have n0_ := Aside0.mk (bb_ BK381 hb); have n1_ := Aside0.mk (bb_ BK382 hb); have n2_ := Aside0.mk (below_step (hb_ HB) hb); clear BK381; clear BK382; clear HB; have BK381 := n0_; have BK382 := n1_; have HB := n2_; clear n0_ n1_ n2_; (try clear hb); (try clear hb2); (try clear hk); (try clear hi); have hcz30_0 : w29.cell? ⟨gb382, 0, none⟩ = some (.int .i64 a1_0) := (blk_cell BK382.out 0).trans rfl; have hcz30_1 : w29.cell? ⟨gb382, 1, none⟩ = some (.int .i64 a1_1) := (blk_cell BK382.out 1).trans rfl; have hcz30_2 : w29.cell? ⟨gb382, 2, none⟩ = some (.int .i64 a1_2) := (blk_cell BK382.out 2).trans rfl; have hcz30_3 : w29.cell? ⟨gb382, 3, none⟩ = some (.int .i64 a1_3) := (blk_cell BK382.out 3).trans rfl; have hcz30_4 : w29.cell? ⟨gb382, 4, none⟩ = some (.int .i64 a1_4) := (blk_cell BK382.out 4).trans rfl; have hcz30_5 : w29.cell? ⟨gb382, 5, none⟩ = some (.int .i64 a1_5) := (blk_cell BK382.out 5).trans rfl; have hfz30_0 := blk_frozen BK382.out 0; have hfz30_1 := blk_frozen BK382.out 1; have hfz30_2 := blk_frozen BK382.out 2; have hfz30_3 := blk_frozen BK382.out 3; have hfz30_4 := blk_frozen BK382.out 4; have hfz30_5 := blk_frozen BK382.out 5) | ((with_reducible refine gate_callee (f := 72) rfl ?_); refine goesL_ (some 16) rfl rfl Try.func72 (by kernel_rfl) rfl #[.agg #[.int .i64 a1_0, .int .i64 a1_1, .int .i64 a1_2, .int .i64 a1_3, .int .i64 a1_4, .int .i64 a1_5]] rfl ma_ ?_; (with_reducible refine (figure_checkLine.calls k a1_0 a1_1 a1_2 a1_3 a1_4 a1_5 t384 _ A5.out).mono ?_); rintro e w31 ⟨rfl, hb⟩; refine ⟨_, rfl, ?_⟩; have n0_ := Aside0.mk (bb_ BK381 hb); have n1_ := Aside0.mk (bb_ BK382 hb); have n2_ := Aside0.mk (below_step (hb_ HB) hb); clear BK381; clear BK382; clear HB; have BK381 := n0_; have BK382 := n1_; have HB := n2_; clear n0_ n1_ n2_; (try clear hb); (try clear hb2); (try clear hk); (try clear hi)))
   go_ret2
   exact ⟨_, by first | rfl | (simp [errW_none, errW_some] <;> rfl) | (simp [*, errW_none, errW_some] <;> rfl), by first | exact Kd.R_nil _ _ _ _ _ | exact Kd.N_nil _ _ _ _ _ | exact Kd.V_nil _ _ _ _ _ | exact Kd.Q_nil _ _ _ _ _ | exact Kd.S_nil _ _ _ _ _, by repeat (first | (with_reducible first | exact HB.out | apply below_alloc | apply pw_below_drewN | apply below_drew1 | refine below_set ?_ GE381.out | refine below_set ?_ GE382.out) | exact HB.out)⟩
 ·rw [if_neg c4] at H
  have c4b0 : (t383 == 0) = false := beq_eq_false_iff_ne.mpr c4
  have c4b1 : (t383 != 0) = true := bne_iff_ne.mpr c4
  simp only [Option.some.injEq, Prod.mk.injEq] at H
  obtain ⟨rfl, rfl⟩ := H
  go_enter Try.func31, Try.ntmps31
  go_wp2_with (first | ((with_reducible refine gate_dst (N := 2) rfl ?_); refine box_event ?hg (N := 2) ?hd (cs := #[.slice A0_0 l0_0.length c0_0, .slice A0_1 l0_1.length c0_1, .slice A0_2 l0_2.length c0_2]) (t := 24) ?hr ?_; (case hd => rfl); (case hg => rfl); (case hr => exact gr_); intro gb381 hg w32 hbox hb; have n0_ := Aside0.mk (below_step (hb_ HB) hb); have n1_ := Aside0.mk (hbox); have n2_ := Aside0.mk ((hz_ HB hg)); have n3_ := Aside0.mk ((hz_ HB hg)); clear HB; have HB := n0_; have BK381 := n1_; have GW381 := n2_; have GE381 := n3_; clear n0_ n1_ n2_ n3_; clear hb hbox hg) | ((with_reducible refine gate_dst (N := 3) rfl ?_); refine box_event ?hg (N := 3) ?hd (cs := #[.int .i64 a1_0, .int .i64 a1_1, .int .i64 a1_2, .int .i64 a1_3, .int .i64 a1_4, .int .i64 a1_5]) (t := 50) ?hr ?_; (case hd => rfl); (case hg => rfl); (case hr => exact gr_); intro gb382 hg w33 hbox hb; have n0_ := Aside0.mk (bb_ BK381 hb); have n1_ := Aside0.mk (below_step (hb_ HB) hb); have n2_ := Aside0.mk (hbox); have n3_ := Aside0.mk ((hz_ HB hg)); have n4_ := Aside0.mk ((hz_ HB hg)); have n5_ := Aside0.mk ((nl_ BK381 hg)); have n6_ := Aside0.mk ((ng_ BK381 hg)); clear BK381; clear HB; have BK381 := n0_; have HB := n1_; have BK382 := n2_; have GW382 := n3_; have GE382 := n4_; have NB381_382 := n5_; have NB382_381 := n6_; clear n0_ n1_ n2_ n3_ n4_ n5_ n6_; clear hb hbox hg; have hnb34 := NB381_382.out; have hnc34 := NB382_381.out; have hcz35_0 : w33.cell? ⟨gb381, 0, none⟩ = some (.slice A0_0 l0_0.length c0_0) := (blk_cell BK381.out 0).trans rfl; have hcz35_1 : w33.cell? ⟨gb381, 1, none⟩ = some (.slice A0_1 l0_1.length c0_1) := (blk_cell BK381.out 1).trans rfl; have hcz35_2 : w33.cell? ⟨gb381, 2, none⟩ = some (.slice A0_2 l0_2.length c0_2) := (blk_cell BK381.out 2).trans rfl; have hfz35_0 := blk_frozen BK381.out 0; have hfz35_1 := blk_frozen BK381.out 1; have hfz35_2 := blk_frozen BK381.out 2) | ((with_reducible refine gate_callee (f := 19) rfl ?_); refine goesL_ (some 11) rfl rfl Try.func19 (by kernel_rfl) rfl #[.agg #[.slice A0_0 l0_0.length c0_0, .slice A0_1 l0_1.length c0_1, .slice A0_2 l0_2.length c0_2]] rfl ma_ ?_; (with_reducible refine (figure_CheckMap.calls k _ _ l0_0 _ _ l0_1 _ _ l0_2 t383 _ ?side1 ?side2 ?side3 ?side4 ?side5 ?side6 A3.out).mono ?_); (case side1 => repeat (first | exact (Kd.C_below HR0_0.out HB.out) | (with_reducible refine Kd.C_alloc ?_ _) | (with_reducible refine Kd.C_drewN ?_ _) | (with_reducible refine Kd.C_drew ?_))); (case side2 => exact HC0_0.out); (case side3 => repeat (first | exact (Kd.C_below HR0_1.out HB.out) | (with_reducible refine Kd.C_alloc ?_ _) | (with_reducible refine Kd.C_drewN ?_ _) | (with_reducible refine Kd.C_drew ?_))); (case side4 => exact HC0_1.out); (case side5 => repeat (first | exact (Kd.C_below HR0_2.out HB.out) | (with_reducible refine Kd.C_alloc ?_ _) | (with_reducible refine Kd.C_drewN ?_ _) | (with_reducible refine Kd.C_drew ?_))); (case side6 => exact HC0_2.out); rintro e w36 ⟨rfl, hb⟩; refine ⟨_, rfl, ?_⟩; have n0_ := Aside0.mk (bb_ BK381 hb); have n1_ := Aside0.mk (bb_ BK382 hb); have n2_ := Aside0.mk (below_step (hb_ HB) hb); clear BK381; clear BK382; clear HB; have BK381 := n0_; have BK382 := n1_; have HB := n2_; clear n0_ n1_ n2_; (try clear hb); (try clear hb2); (try clear hk); (try clear hi)))
  go_ret2
  exact ⟨_, by first | rfl | (simp [errW_none, errW_some] <;> rfl) | (simp [*, errW_none, errW_some] <;> rfl), by first | exact Kd.R_nil _ _ _ _ _ | exact Kd.N_nil _ _ _ _ _ | exact Kd.V_nil _ _ _ _ _ | exact Kd.Q_nil _ _ _ _ _ | exact Kd.S_nil _ _ _ _ _, by repeat (first | (with_reducible first | exact HB.out | apply below_alloc | apply pw_below_drewN | apply below_drew1 | refine below_set ?_ GE381.out | refine below_set ?_ GE382.out) | exact HB.out)⟩
def speculumbase_Lowest.f (k : Nat) (a0 : Int) (a1 : Int) : Option (Int × Int) := (speculumbase_Gcd.f k a0 a1).bind fun t281 => (if a1 < 0 then (if (wrap64 (-t281)) = 0 then (none) else (some (wrap64 (Int.tdiv a0 (wrap64 (-t281))), wrap64 (Int.tdiv a1 (wrap64 (-t281)))))) else (if t281 = 0 then (none) else (some (wrap64 (Int.tdiv a0 t281), wrap64 (Int.tdiv a1 t281)))))
def speculumbase_Lowest.T4 : Bool × List (List Nat × List Nat) := (true, [([], []), ([], []), ([0, 1], [0, 1]), ([], []), ([], []), ([3, 4], [3, 4]), ([2, 5], [2, 5]), ([6, 0, 1, 2, 3, 4, 5, 6], [6])])
def speculumbase_Lowest.B4 : List Nat := [0, 0, 3, 0, 0, 24, 63, 127]
theorem speculumbase_Lowest.tab4 : rtab .any (opsOf Try.f43 4) = speculumbase_Lowest.T4 := by kernel_rfl
theorem speculumbase_Lowest.bits4 : waitsOk speculumbase_Lowest.T4.2 speculumbase_Lowest.B4 = true := by kernel_rfl
set_option maxHeartbeats 8000000 in
set_option maxRecDepth 100000 in
theorem speculumbase_Lowest.calls (k : Nat) (a0 : Int) (a1 : Int) (r1 : Int) (r2 : Int) (w : World) (h : speculumbase_Lowest.f k a0 a1 = some (r1, r2)) :
  Calls Try.prog 43 #[.int .i64 a0, .int .i64 a1] w fun e w' => e = .returned (.agg #[.int .i64 r1, .int .i64 r2]) ∧ Below w.heap.size w w' := by
 have hu28 := Try.underlying28
 have HB := Aside0.mk (Below.refl w.heap.size w)
 have H : ((speculumbase_Gcd.f k a0 a1).bind fun t281 => (if a1 < 0 then (if (wrap64 (-t281)) = 0 then (none) else (some (wrap64 (Int.tdiv a0 (wrap64 (-t281))), wrap64 (Int.tdiv a1 (wrap64 (-t281)))))) else (if t281 = 0 then (none) else (some (wrap64 (Int.tdiv a0 t281), wrap64 (Int.tdiv a1 t281)))))) = some (r1, r2) := h
 clear h
 replace H := Option.bind_eq_some_iff.mp H
 obtain ⟨t281, A30, H⟩ := H
 replace H : (if a1 < 0 then (if (wrap64 (-t281)) = 0 then (none) else (some (wrap64 (Int.tdiv a0 (wrap64 (-t281))), wrap64 (Int.tdiv a1 (wrap64 (-t281)))))) else (if t281 = 0 then (none) else (some (wrap64 (Int.tdiv a0 t281), wrap64 (Int.tdiv a1 t281))))) = some (r1, r2) := H
 have A3 := Aside0.mk A30
 clear A30
 by_cases c4 : a1 < 0
 ·rw [if_pos c4] at H
  have c4b0 : decide (a1 < 0) = true := decide_eq_true c4
  clear c4
  by_cases c5 : (wrap64 (-t281)) = 0
  ·rw [if_pos c5] at H
   exact absurd H (by simp)
  ·rw [if_neg c5] at H
   have c5b0 : ((wrap64 (-t281)) == 0) = false := beq_eq_false_iff_ne.mpr c5
   have c5b1 : ((wrap64 (-t281)) != 0) = true := bne_iff_ne.mpr c5
   simp only [Option.some.injEq, Prod.mk.injEq] at H
   obtain ⟨rfl, rfl⟩ := H
   go_enter Try.func43, Try.ntmps43
   try go_wp2_with (first | ((with_reducible refine gate_dst (N := 4) rfl ?_); refine box_event ?hg (N := 4) ?hd (cs := #[.int .i64 0, .int .i64 0]) (t := 28) ?hr ?_; (case hd => rfl); (case hg => rfl); (case hr => exact gr_); intro gb280 hg w6 hbox hb; have n0_ := Aside0.mk (below_step (hb_ HB) hb); have n1_ := Aside0.mk (hbox); have n2_ := Aside0.mk ((hz_ HB hg)); have n3_ := Aside0.mk ((hz_ HB hg)); clear HB; have HB := n0_; have BK280 := n1_; have GW280 := n2_; have GE280 := n3_; clear n0_ n1_ n2_ n3_; clear hb hbox hg) | ((with_reducible refine gate_callee (f := 83) rfl ?_); refine goesL_ (some 8) rfl rfl Try.func83 (by kernel_rfl) rfl #[.int .i64 a0, .int .i64 a1] rfl ma_ ?_; (with_reducible refine (speculumbase_Gcd.calls k a0 a1 t281 _ A3.out).mono ?_); rintro e w' ⟨rfl, ⟨nd, rfl⟩⟩; refine ⟨_, rfl, ?_⟩; (try (rw [drewN_self w6]; generalize hq_ : World.drewN w6 _ = w6; have n0_ : Aside0 (w6.heap[gb280]? = some (.cells #[.int .i64 0, .int .i64 0] 28 (0, 0))) := ⟨by rw [← hq_]; exact (bk_ BK280)⟩; have n1_ : Aside0 (Below w.heap.size w w6) := ⟨by rw [← hq_]; exact (hb_ HB)⟩; clear BK280 HB hq_; have BK280 := n0_; have HB := n1_; clear n0_ n1_))))
   have n0_ := Aside0.mk (blk_drew BK280.out)
   have n1_ := Aside0.mk (below_drew1 HB.out)
   clear BK280
   clear HB
   have BK280 := n0_
   have HB := n1_
   clear n0_ n1_
   refine start_ (n := 8) (S := fun w' => True) (ds := []) #[false, false, false, false, false, false, false, false] (by kernel_rfl) rfl rfl trivial (fun hHeld => ?_); refine with_tabW speculumbase_Lowest.tab4 speculumbase_Lowest.bits4 (fun HT_ HW_ => ?_)
   generalize w6.drew = w7 at BK280 HB hHeld ⊢
   refine pure_ (i := 0) (N := some 13) (v := ?_) (a' := ?_) #[true, false, false, false, false, false, false, false] rfl rfl (any_of HT_.out (by kernel_rfl)) (fun _ _ _ h => h) (Or.inl ⟨by rfl, ?_⟩) ?_ ?_
   rotate_left
   ·exact gs_
   rotate_left
   ·exact pt_
   refine pure_ (i := 1) (N := some 14) (v := ?_) (a' := ?_) #[true, true, false, false, false, false, false, false] rfl rfl (any_of HT_.out (by kernel_rfl)) (fun _ _ _ h => h) (Or.inl ⟨by rfl, ?_⟩) ?_ ?_
   rotate_left
   ·exact gs_
   rotate_left
   ·exact pt_
   refine pure_ (i := 2) (N := some 15) (v := ?_) (a' := ?_) #[true, true, true, false, false, false, false, false] rfl rfl (any_of HT_.out (by kernel_rfl)) (fun _ _ _ h => h) (Or.inl ⟨by rfl, ?_⟩) ?_ ?_
   rotate_left
   ·exact gs_
   rotate_left
   ·exact pt_
   refine pure_ (i := 3) (N := some 16) (v := ?_) (a' := ?_) #[true, true, true, true, false, false, false, false] rfl rfl (any_of HT_.out (by kernel_rfl)) (fun _ _ _ h => h) (Or.inl ⟨by rfl, ?_⟩) ?_ ?_
   rotate_left
   ·exact gs_
   rotate_left
   ·exact pt_
   refine pure_ (i := 4) (N := some 17) (v := ?_) (a' := ?_) #[true, true, true, true, true, false, false, false] rfl rfl (any_of HT_.out (by kernel_rfl)) (fun _ _ _ h => h) (Or.inl ⟨by rfl, ?_⟩) ?_ ?_
   rotate_left
   ·exact gs_
   rotate_left
   ·exact pt_
   refine pure_ (i := 5) (N := some 18) (v := ?_) (a' := ?_) #[true, true, true, true, true, true, false, false] rfl rfl (any_of HT_.out (by kernel_rfl)) (fun _ _ _ h => h) (Or.inl ⟨by rfl, ?_⟩) ?_ ?_
   rotate_left
   ·exact gs_
   rotate_left
   ·exact pt_
   refine pure_ (i := 6) (N := some 19) (v := ?_) (a' := ?_) #[true, true, true, true, true, true, true, false] rfl rfl (any_of HT_.out (by kernel_rfl)) (fun _ _ _ h => h) (Or.inl ⟨by rfl, ?_⟩) ?_ ?_
   rotate_left
   ·exact gs_
   rotate_left
   ·exact pt_
   refine one_ (i := 7) (N := none) #[true, true, true, true, true, true, true, true] rfl rfl (one_of HT_.out (by kernel_rfl)) di_ (fun K hK => ?_)
   have hs8 : w7.cell? ⟨gb280, 0, none⟩ = some (.int .i64 0) := (blk_cell BK280.out 0).trans rfl
   have hfs8 := blk_frozen BK280.out 0
   have hs9 : w7.cell? ⟨gb280, 1, none⟩ = some (.int .i64 0) := (blk_cell BK280.out 1).trans rfl
   have hfs9 := blk_frozen BK280.out 1
   refine skip_ (w1 := ?_) (by rfl) rfl ?_ ?_
   rotate_left
   ·go_simp
    rfl
   refine hK.out _ _ trivial (fun hHeld => ?_)
   clear hK K
   refine done_ (done_of HT_.out (by kernel_rfl)) ?_
   try go_wp2
   refine bodyPost_ret (results_cell_row rfl _ _ gb280 28 #[.int .i64 (wrap64 (Int.tdiv a0 (wrap64 (-t281)))), .int .i64 (wrap64 (Int.tdiv a1 (wrap64 (-t281))))] (0, 0) _ rfl (by (with_reducible repeat (first | refine blk_drewN ?_ _ | refine blk_drew ?_ | refine blk_alloc ?_ _)); refine blk_put (cs := #[.int .i64 (wrap64 (Int.tdiv a0 (wrap64 (-t281)))), .int .i64 0]) ?_ 1 _ rfl; (with_reducible repeat (first | refine blk_drewN ?_ _ | refine blk_drew ?_ | refine blk_alloc ?_ _)); refine blk_put (cs := #[.int .i64 0, .int .i64 0]) ?_ 0 _ rfl; (with_reducible repeat (first | refine blk_drewN ?_ _ | refine blk_drew ?_ | refine blk_alloc ?_ _)); exact BK280.out) Try.underlying28 rfl (by kernel_rfl)) rfl ?_
   exact ⟨by first | rfl | (simp [errW_none, errW_some] <;> rfl) | (simp [*, errW_none, errW_some] <;> rfl), by repeat (first | (with_reducible first | exact HB.out | apply below_alloc | apply pw_below_drewN | apply below_drew1 | refine below_set ?_ GE280.out) | exact HB.out)⟩
 ·rw [if_neg c4] at H
  have c4b0 : decide (a1 < 0) = false := decide_eq_false c4
  clear c4
  by_cases c10 : t281 = 0
  ·rw [if_pos c10] at H
   exact absurd H (by simp)
  ·rw [if_neg c10] at H
   have c10b0 : (t281 == 0) = false := beq_eq_false_iff_ne.mpr c10
   have c10b1 : (t281 != 0) = true := bne_iff_ne.mpr c10
   simp only [Option.some.injEq, Prod.mk.injEq] at H
   obtain ⟨rfl, rfl⟩ := H
   go_enter Try.func43, Try.ntmps43
   try go_wp2_with (first | ((with_reducible refine gate_dst (N := 4) rfl ?_); refine box_event ?hg (N := 4) ?hd (cs := #[.int .i64 0, .int .i64 0]) (t := 28) ?hr ?_; (case hd => rfl); (case hg => rfl); (case hr => exact gr_); intro gb280 hg w11 hbox hb; have n0_ := Aside0.mk (below_step (hb_ HB) hb); have n1_ := Aside0.mk (hbox); have n2_ := Aside0.mk ((hz_ HB hg)); have n3_ := Aside0.mk ((hz_ HB hg)); clear HB; have HB := n0_; have BK280 := n1_; have GW280 := n2_; have GE280 := n3_; clear n0_ n1_ n2_ n3_; clear hb hbox hg) | ((with_reducible refine gate_callee (f := 83) rfl ?_); refine goesL_ (some 8) rfl rfl Try.func83 (by kernel_rfl) rfl #[.int .i64 a0, .int .i64 a1] rfl ma_ ?_; (with_reducible refine (speculumbase_Gcd.calls k a0 a1 t281 _ A3.out).mono ?_); rintro e w' ⟨rfl, ⟨nd, rfl⟩⟩; refine ⟨_, rfl, ?_⟩; (try (rw [drewN_self w11]; generalize hq_ : World.drewN w11 _ = w11; have n0_ : Aside0 (w11.heap[gb280]? = some (.cells #[.int .i64 0, .int .i64 0] 28 (0, 0))) := ⟨by rw [← hq_]; exact (bk_ BK280)⟩; have n1_ : Aside0 (Below w.heap.size w w11) := ⟨by rw [← hq_]; exact (hb_ HB)⟩; clear BK280 HB hq_; have BK280 := n0_; have HB := n1_; clear n0_ n1_))))
   have n0_ := Aside0.mk (blk_drew BK280.out)
   have n1_ := Aside0.mk (below_drew1 HB.out)
   clear BK280
   clear HB
   have BK280 := n0_
   have HB := n1_
   clear n0_ n1_
   refine start_ (n := 8) (S := fun w' => True) (ds := []) #[false, false, false, false, false, false, false, false] (by kernel_rfl) rfl rfl trivial (fun hHeld => ?_); refine with_tabW speculumbase_Lowest.tab4 speculumbase_Lowest.bits4 (fun HT_ HW_ => ?_)
   generalize w11.drew = w12 at BK280 HB hHeld ⊢
   refine pure_ (i := 0) (N := some 13) (v := ?_) (a' := ?_) #[true, false, false, false, false, false, false, false] rfl rfl (any_of HT_.out (by kernel_rfl)) (fun _ _ _ h => h) (Or.inl ⟨by rfl, ?_⟩) ?_ ?_
   rotate_left
   ·exact gs_
   rotate_left
   ·exact pt_
   refine pure_ (i := 1) (N := some 14) (v := ?_) (a' := ?_) #[true, true, false, false, false, false, false, false] rfl rfl (any_of HT_.out (by kernel_rfl)) (fun _ _ _ h => h) (Or.inl ⟨by rfl, ?_⟩) ?_ ?_
   rotate_left
   ·exact gs_
   rotate_left
   ·exact pt_
   refine pure_ (i := 2) (N := some 15) (v := ?_) (a' := ?_) #[true, true, true, false, false, false, false, false] rfl rfl (any_of HT_.out (by kernel_rfl)) (fun _ _ _ h => h) (Or.inl ⟨by rfl, ?_⟩) ?_ ?_
   rotate_left
   ·exact gs_
   rotate_left
   ·exact pt_
   refine pure_ (i := 3) (N := some 16) (v := ?_) (a' := ?_) #[true, true, true, true, false, false, false, false] rfl rfl (any_of HT_.out (by kernel_rfl)) (fun _ _ _ h => h) (Or.inl ⟨by rfl, ?_⟩) ?_ ?_
   rotate_left
   ·exact gs_
   rotate_left
   ·exact pt_
   refine pure_ (i := 4) (N := some 17) (v := ?_) (a' := ?_) #[true, true, true, true, true, false, false, false] rfl rfl (any_of HT_.out (by kernel_rfl)) (fun _ _ _ h => h) (Or.inl ⟨by rfl, ?_⟩) ?_ ?_
   rotate_left
   ·exact gs_
   rotate_left
   ·exact pt_
   refine pure_ (i := 5) (N := some 18) (v := ?_) (a' := ?_) #[true, true, true, true, true, true, false, false] rfl rfl (any_of HT_.out (by kernel_rfl)) (fun _ _ _ h => h) (Or.inl ⟨by rfl, ?_⟩) ?_ ?_
   rotate_left
   ·exact gs_
   rotate_left
   ·exact pt_
   refine pure_ (i := 6) (N := some 19) (v := ?_) (a' := ?_) #[true, true, true, true, true, true, true, false] rfl rfl (any_of HT_.out (by kernel_rfl)) (fun _ _ _ h => h) (Or.inl ⟨by rfl, ?_⟩) ?_ ?_
   rotate_left
   ·exact gs_
   rotate_left
   ·exact pt_
   refine one_ (i := 7) (N := none) #[true, true, true, true, true, true, true, true] rfl rfl (one_of HT_.out (by kernel_rfl)) di_ (fun K hK => ?_)
   have hs13 : w12.cell? ⟨gb280, 0, none⟩ = some (.int .i64 0) := (blk_cell BK280.out 0).trans rfl
   have hfs13 := blk_frozen BK280.out 0
   have hs14 : w12.cell? ⟨gb280, 1, none⟩ = some (.int .i64 0) := (blk_cell BK280.out 1).trans rfl
   have hfs14 := blk_frozen BK280.out 1
   refine skip_ (w1 := ?_) (by rfl) rfl ?_ ?_
   rotate_left
   ·go_simp
    rfl
   refine hK.out _ _ trivial (fun hHeld => ?_)
   clear hK K
   refine done_ (done_of HT_.out (by kernel_rfl)) ?_
   try go_wp2
   refine bodyPost_ret (results_cell_row rfl _ _ gb280 28 #[.int .i64 (wrap64 (Int.tdiv a0 t281)), .int .i64 (wrap64 (Int.tdiv a1 t281))] (0, 0) _ rfl (by (with_reducible repeat (first | refine blk_drewN ?_ _ | refine blk_drew ?_ | refine blk_alloc ?_ _)); refine blk_put (cs := #[.int .i64 (wrap64 (Int.tdiv a0 t281)), .int .i64 0]) ?_ 1 _ rfl; (with_reducible repeat (first | refine blk_drewN ?_ _ | refine blk_drew ?_ | refine blk_alloc ?_ _)); refine blk_put (cs := #[.int .i64 0, .int .i64 0]) ?_ 0 _ rfl; (with_reducible repeat (first | refine blk_drewN ?_ _ | refine blk_drew ?_ | refine blk_alloc ?_ _)); exact BK280.out) Try.underlying28 rfl (by kernel_rfl)) rfl ?_
   exact ⟨by first | rfl | (simp [errW_none, errW_some] <;> rfl) | (simp [*, errW_none, errW_some] <;> rfl), by repeat (first | (with_reducible first | exact HB.out | apply below_alloc | apply pw_below_drewN | apply below_drew1 | refine below_set ?_ GE280.out) | exact HB.out)⟩
def speculumref06_Removal.f (k : Nat) (l0_0 : List Int) (l0_1 : List Int) (l0_2 : List Int) (a1_0 : Int) (a1_1 : Int) (a1_2 : Int) (a1_3 : Int) (a1_4 : Int) (a1_5 : Int) (a2 : Int) : Option (Int × Int) := if 0 ≤ a2 then (if a2 < (l0_0.length : Int) then (if a2 < (l0_1.length : Int) then ((speculumbase_Lowest.f k (wrap64 ((wrap64 ((wrap64 ((rd l0_0 a2) * (wrap64 (a1_1 * a1_3)))) - (wrap64 (a1_0 * a1_3)))) - (wrap64 ((wrap64 (a1_2 * (rd l0_1 a2))) * a1_1)))) (wrap64 (a1_1 * a1_3))).bind fun bt397 => (some (bt397.1, bt397.2))) else (none)) else (none)) else (none)
def speculumref06_Removal.T2 : Bool × List (List Nat × List Nat) := (true, [([], []), ([0], [0]), ([], []), ([1, 2], [1, 2]), ([3], [3]), ([], []), ([4, 5], [4, 5]), ([], []), ([7], [7]), ([8], [8]), ([], []), ([10], [10]), ([11], [11]), ([9, 12], [9, 12]), ([6, 13], [6, 13]), ([], []), ([15], [15]), ([16], [16]), ([], []), ([18], [18]), ([], []), ([19, 20], [19, 20]), ([21], [21]), ([17, 22], [17, 22]), ([], []), ([24], [24]), ([25], [25]), ([23, 26], [23, 26]), ([14, 27], [14, 27]), ([], []), ([28, 29], [28, 29]), ([30, 30, 0, 1, 2, 3, 4, 5, 6, 7, 8, 9, 10, 11, 12, 13, 14, 15, 16, 17, 18, 19, 20, 21, 22, 23, 24, 25, 26, 27, 28, 29, 30], [30])])
def speculumref06_Removal.B2 : List Nat := [0, 1, 0, 7, 15, 0, 63, 0, 128, 384, 0, 1024, 3072, 8064, 16383, 0, 32768, 98304, 0, 262144, 0, 1835008, 3932160, 8355840, 0, 16777216, 50331648, 134184960, 268435455, 0, 1073741823, 2147483647]
theorem speculumref06_Removal.tab2 : rtab .any (opsOf Try.f33 2) = speculumref06_Removal.T2 := by kernel_rfl
theorem speculumref06_Removal.bits2 : waitsOk speculumref06_Removal.T2.2 speculumref06_Removal.B2 = true := by kernel_rfl
set_option maxHeartbeats 8000000 in
set_option maxRecDepth 100000 in
theorem speculumref06_Removal.calls (k : Nat) (A0_0 : Option Addr) (c0_0 : Nat) (l0_0 : List Int) (A0_1 : Option Addr) (c0_1 : Nat) (l0_1 : List Int) (A0_2 : Option Addr) (c0_2 : Nat) (l0_2 : List Int) (a1_0 : Int) (a1_1 : Int) (a1_2 : Int) (a1_3 : Int) (a1_4 : Int) (a1_5 : Int) (a2 : Int) (r1 : Int) (r2 : Int) (w : World) (hr0_0 : Kd.C (Kd.int .i64) w A0_0 l0_0.length l0_0) (hc0_0 : l0_0.length ≤ c0_0) (hr0_1 : Kd.C (Kd.int .i64) w A0_1 l0_1.length l0_1) (hc0_1 : l0_1.length ≤ c0_1) (hr0_2 : Kd.C (Kd.int .i64) w A0_2 l0_2.length l0_2) (hc0_2 : l0_2.length ≤ c0_2) (h : speculumref06_Removal.f k l0_0 l0_1 l0_2 a1_0 a1_1 a1_2 a1_3 a1_4 a1_5 a2 = some (r1, r2)) :
  Calls Try.prog 33 #[.agg #[.slice A0_0 l0_0.length c0_0, .slice A0_1 l0_1.length c0_1, .slice A0_2 l0_2.length c0_2], .agg #[.int .i64 a1_0, .int .i64 a1_1, .int .i64 a1_2, .int .i64 a1_3, .int .i64 a1_4, .int .i64 a1_5], .int .i64 a2] w fun e w' => e = .returned (.agg #[.int .i64 r1, .int .i64 r2]) ∧ Below w.heap.size w w' := by
 have hu24 := Try.underlying24
 have hu50 := Try.underlying50
 have hu28 := Try.underlying28
 have HR0_0 := Aside0.mk hr0_0
 have HC0_0 := Aside0.mk hc0_0
 clear hr0_0 hc0_0
 have HR0_1 := Aside0.mk hr0_1
 have HC0_1 := Aside0.mk hc0_1
 clear hr0_1 hc0_1
 have HR0_2 := Aside0.mk hr0_2
 have HC0_2 := Aside0.mk hc0_2
 clear hr0_2 hc0_2
 have HB := Aside0.mk (Below.refl w.heap.size w)
 have H : (if 0 ≤ a2 then (if a2 < (l0_0.length : Int) then (if a2 < (l0_1.length : Int) then ((speculumbase_Lowest.f k (wrap64 ((wrap64 ((wrap64 ((rd l0_0 a2) * (wrap64 (a1_1 * a1_3)))) - (wrap64 (a1_0 * a1_3)))) - (wrap64 ((wrap64 (a1_2 * (rd l0_1 a2))) * a1_1)))) (wrap64 (a1_1 * a1_3))).bind fun bt397 => (some (bt397.1, bt397.2))) else (none)) else (none)) else (none)) = some (r1, r2) := h
 clear h
 by_cases c4 : 0 ≤ a2
 ·rw [if_pos c4] at H
  have c4b0 : decide (0 ≤ a2) = true := decide_eq_true c4
  clear c4
  by_cases c5 : a2 < (l0_0.length : Int)
  ·rw [if_pos c5] at H
   have c5b0 : decide (a2 < (l0_0.length : Int)) = true := decide_eq_true c5
   clear c5
   by_cases c6 : a2 < (l0_1.length : Int)
   ·rw [if_pos c6] at H
    have c6b0 : decide (a2 < (l0_1.length : Int)) = true := decide_eq_true c6
    clear c6
    replace H := Option.bind_eq_some_iff.mp H
    obtain ⟨⟨t397, t398⟩, A70, H⟩ := H
    replace H : (some (t397, t398)) = some (r1, r2) := H
    have A7 := Aside0.mk A70
    clear A70
    simp only [Option.some.injEq, Prod.mk.injEq] at H
    obtain ⟨rfl, rfl⟩ := H
    go_enter Try.func33, Try.ntmps33
    try go_wp2_with (first | ((with_reducible refine gate_dst (N := 3) rfl ?_); refine box_event ?hg (N := 3) ?hd (cs := #[.slice A0_0 l0_0.length c0_0, .slice A0_1 l0_1.length c0_1, .slice A0_2 l0_2.length c0_2]) (t := 24) ?hr ?_; (case hd => rfl); (case hg => rfl); (case hr => exact gr_); intro gb392 hg w8 hbox hb; have n0_ := Aside0.mk (below_step (hb_ HB) hb); have n1_ := Aside0.mk (hbox); have n2_ := Aside0.mk ((hz_ HB hg)); have n3_ := Aside0.mk ((hz_ HB hg)); clear HB; have HB := n0_; have BK392 := n1_; have GW392 := n2_; have GE392 := n3_; clear n0_ n1_ n2_ n3_; clear hb hbox hg) | ((with_reducible refine gate_dst (N := 4) rfl ?_); refine box_event ?hg (N := 4) ?hd (cs := #[.int .i64 a1_0, .int .i64 a1_1, .int .i64 a1_2, .int .i64 a1_3, .int .i64 a1_4, .int .i64 a1_5]) (t := 50) ?hr ?_; (case hd => rfl); (case hg => rfl); (case hr => exact gr_); intro gb393 hg w9 hbox hb; have n0_ := Aside0.mk (bb_ BK392 hb); have n1_ := Aside0.mk (below_step (hb_ HB) hb); have n2_ := Aside0.mk (hbox); have n3_ := Aside0.mk ((hz_ HB hg)); have n4_ := Aside0.mk ((hz_ HB hg)); have n5_ := Aside0.mk ((nl_ BK392 hg)); have n6_ := Aside0.mk ((ng_ BK392 hg)); clear BK392; clear HB; have BK392 := n0_; have HB := n1_; have BK393 := n2_; have GW393 := n3_; have GE393 := n4_; have NB392_393 := n5_; have NB393_392 := n6_; clear n0_ n1_ n2_ n3_ n4_ n5_ n6_; clear hb hbox hg) | ((with_reducible refine gate_dst (N := 6) rfl ?_); refine box_event ?hg (N := 6) ?hd (cs := #[.int .i64 0, .int .i64 0]) (t := 28) ?hr ?_; (case hd => rfl); (case hg => rfl); (case hr => exact gr_); intro gb394 hg w10 hbox hb; have n0_ := Aside0.mk (bb_ BK392 hb); have n1_ := Aside0.mk (bb_ BK393 hb); have n2_ := Aside0.mk (below_step (hb_ HB) hb); have n3_ := Aside0.mk (hbox); have n4_ := Aside0.mk ((hz_ HB hg)); have n5_ := Aside0.mk ((hz_ HB hg)); have n6_ := Aside0.mk ((nl_ BK392 hg)); have n7_ := Aside0.mk ((ng_ BK392 hg)); have n8_ := Aside0.mk ((nl_ BK393 hg)); have n9_ := Aside0.mk ((ng_ BK393 hg)); clear BK392; clear BK393; clear HB; have BK392 := n0_; have BK393 := n1_; have HB := n2_; have BK394 := n3_; have GW394 := n4_; have GE394 := n5_; have NB392_394 := n6_; have NB394_392 := n7_; have NB393_394 := n8_; have NB394_393 := n9_; clear n0_ n1_ n2_ n3_ n4_ n5_ n6_ n7_ n8_ n9_; clear hb hbox hg; have hnb11 := NB393_392.out; have hnc11 := NB392_393.out; have hnb12 := NB393_394.out; have hnc12 := NB394_393.out; have hcz13_0 : w10.cell? ⟨gb393, 0, none⟩ = some (.int .i64 a1_0) := (blk_cell BK393.out 0).trans rfl; have hcz13_1 : w10.cell? ⟨gb393, 1, none⟩ = some (.int .i64 a1_1) := (blk_cell BK393.out 1).trans rfl; have hcz13_2 : w10.cell? ⟨gb393, 2, none⟩ = some (.int .i64 a1_2) := (blk_cell BK393.out 2).trans rfl; have hcz13_3 : w10.cell? ⟨gb393, 3, none⟩ = some (.int .i64 a1_3) := (blk_cell BK393.out 3).trans rfl; have hcz13_4 : w10.cell? ⟨gb393, 4, none⟩ = some (.int .i64 a1_4) := (blk_cell BK393.out 4).trans rfl; have hcz13_5 : w10.cell? ⟨gb393, 5, none⟩ = some (.int .i64 a1_5) := (blk_cell BK393.out 5).trans rfl; have hfz13_0 := blk_frozen BK393.out 0; have hfz13_1 := blk_frozen BK393.out 1; have hfz13_2 := blk_frozen BK393.out 2; have hfz13_3 := blk_frozen BK393.out 3; have hfz13_4 := blk_frozen BK393.out 4; have hfz13_5 := blk_frozen BK393.out 5))
    have n0_ := Aside0.mk (blk_drew BK392.out)
    have n1_ := Aside0.mk (blk_drew BK393.out)
    have n2_ := Aside0.mk (blk_drew BK394.out)
    have n3_ := Aside0.mk (below_drew1 HB.out)
    clear BK392
    clear BK393
    clear BK394
    clear HB
    have BK392 := n0_
    have BK393 := n1_
    have BK394 := n2_
    have HB := n3_
    clear n0_ n1_ n2_ n3_
    have p395 : 0 ≤ (a2 : Int) := of_decide_eq_true as_
    have q395 : a2 < (l0_0.length : Int) := of_decide_eq_true as_
    obtain ⟨ad395, e395, hx395_0⟩ := Kd.at_int HR0_0.out a2 p395 q395
    have hw395_0 := hx395_0
    cases e395
    replace hx395_0 := (HB.out.cell (World.block_lt_of_cell? w _ hx395_0)).trans hx395_0
    replace p395 := eq_true p395
    replace q395 := eq_true q395
    have p396 : 0 ≤ (a2 : Int) := of_decide_eq_true as_
    have q396 : a2 < (l0_1.length : Int) := of_decide_eq_true as_
    obtain ⟨ad396, e396, hx396_0⟩ := Kd.at_int HR0_1.out a2 p396 q396
    have hw396_0 := hx396_0
    cases e396
    replace hx396_0 := (HB.out.cell (World.block_lt_of_cell? w _ hx396_0)).trans hx396_0
    replace p396 := eq_true p396
    replace q396 := eq_true q396
    refine start_ (n := 32) (S := fun w' => w'.cell? ⟨gb392, 0, none⟩ = some (.slice (some ad395) l0_0.length c0_0) ∧ w'.cell? ⟨gb392, 1, none⟩ = some (.slice (some ad396) l0_1.length c0_1) ∧ w'.cell? ⟨gb392, 2, none⟩ = some (.slice A0_2 l0_2.length c0_2) ∧ w'.cell? ⟨gb393, 0, none⟩ = some (.int .i64 a1_0) ∧ w'.cell? ⟨gb393, 1, none⟩ = some (.int .i64 a1_1) ∧ w'.cell? ⟨gb393, 2, none⟩ = some (.int .i64 a1_2) ∧ w'.cell? ⟨gb393, 3, none⟩ = some (.int .i64 a1_3) ∧ w'.cell? ⟨gb393, 4, none⟩ = some (.int .i64 a1_4) ∧ w'.cell? ⟨gb393, 5, none⟩ = some (.int .i64 a1_5) ∧ w'.cell? (ad395.add (a2).toNat) = some (.int .i64 (rd l0_0 a2)) ∧ w'.cell? (ad396.add (a2).toNat) = some (.int .i64 (rd l0_1 a2))) (ds := []) #[false, false, false, false, false, false, false, false, false, false, false, false, false, false, false, false, false, false, false, false, false, false, false, false, false, false, false, false, false, false, false, false] (by kernel_rfl) rfl rfl ⟨(blk_cell BK392.out 0).trans rfl, (blk_cell BK392.out 1).trans rfl, (blk_cell BK392.out 2).trans rfl, (blk_cell BK393.out 0).trans rfl, (blk_cell BK393.out 1).trans rfl, (blk_cell BK393.out 2).trans rfl, (blk_cell BK393.out 3).trans rfl, (blk_cell BK393.out 4).trans rfl, (blk_cell BK393.out 5).trans rfl, ((HB.out.cell (World.block_lt_of_cell? w _ hw395_0)).trans hw395_0), ((HB.out.cell (World.block_lt_of_cell? w _ hw396_0)).trans hw396_0)⟩ (fun hHeld => ?_); refine with_tabW speculumref06_Removal.tab2 speculumref06_Removal.bits2 (fun HT_ HW_ => ?_)
    generalize w10.drew = w14 at BK392 BK393 BK394 HB hx395_0 hx396_0 hHeld ⊢
    refine pure_ (i := 0) (N := some 15) (v := ?_) (a' := ?_) #[true, false, false, false, false, false, false, false, false, false, false, false, false, false, false, false, false, false, false, false, false, false, false, false, false, false, false, false, false, false, false, false] rfl rfl (any_of HT_.out (by kernel_rfl)) (fun _ _ _ h => h) (Or.inl ⟨by rfl, ?_⟩) ?_ ?_
    rotate_left
    ·exact gs_
    rotate_left
    ·exact pt_
    refine pure_ (i := 2) (N := some 17) (v := ?_) (a' := ?_) #[true, false, true, false, false, false, false, false, false, false, false, false, false, false, false, false, false, false, false, false, false, false, false, false, false, false, false, false, false, false, false, false] rfl rfl (any_of HT_.out (by kernel_rfl)) (fun _ _ _ h => h) (Or.inl ⟨by rfl, ?_⟩) ?_ ?_
    rotate_left
    ·exact gs_
    rotate_left
    ·exact pt_
    refine pure_ (i := 5) (N := some 20) (v := ?_) (a' := ?_) #[true, false, true, false, false, true, false, false, false, false, false, false, false, false, false, false, false, false, false, false, false, false, false, false, false, false, false, false, false, false, false, false] rfl rfl (any_of HT_.out (by kernel_rfl)) (fun _ _ _ h => h) (Or.inl ⟨by rfl, ?_⟩) ?_ ?_
    rotate_left
    ·exact gs_
    rotate_left
    ·exact pt_
    refine pure_ (i := 7) (N := some 22) (v := ?_) (a' := ?_) #[true, false, true, false, false, true, false, true, false, false, false, false, false, false, false, false, false, false, false, false, false, false, false, false, false, false, false, false, false, false, false, false] rfl rfl (any_of HT_.out (by kernel_rfl)) (fun _ _ _ h => h) (Or.inl ⟨by rfl, ?_⟩) ?_ ?_
    rotate_left
    ·exact gs_
    rotate_left
    ·exact pt_
    refine pure_ (i := 8) (N := some 23) (v := ?_) (a' := ?_) #[true, false, true, false, false, true, false, true, true, false, false, false, false, false, false, false, false, false, false, false, false, false, false, false, false, false, false, false, false, false, false, false] rfl rfl (any_of HT_.out (by kernel_rfl)) (fun _ _ _ h => h) (Or.inl ⟨by rfl, ?_⟩) ?_ ?_
    rotate_left
    ·exact gs_
    rotate_left
    ·exact pt_
    refine pure_ (i := 10) (N := some 25) (v := ?_) (a' := ?_) #[true, false, true, false, false, true, false, true, true, false, true, false, false, false, false, false, false, false, false, false, false, false, false, false, false, false, false, false, false, false, false, false] rfl rfl (any_of HT_.out (by kernel_rfl)) (fun _ _ _ h => h) (Or.inl ⟨by rfl, ?_⟩) ?_ ?_
    rotate_left
    ·exact gs_
    rotate_left
    ·exact pt_
    refine pure_ (i := 11) (N := some 26) (v := ?_) (a' := ?_) #[true, false, true, false, false, true, false, true, true, false, true, true, false, false, false, false, false, false, false, false, false, false, false, false, false, false, false, false, false, false, false, false] rfl rfl (any_of HT_.out (by kernel_rfl)) (fun _ _ _ h => h) (Or.inl ⟨by rfl, ?_⟩) ?_ ?_
    rotate_left
    ·exact gs_
    rotate_left
    ·exact pt_
    refine pure_ (i := 15) (N := some 30) (v := ?_) (a' := ?_) #[true, false, true, false, false, true, false, true, true, false, true, true, false, false, false, true, false, false, false, false, false, false, false, false, false, false, false, false, false, false, false, false] rfl rfl (any_of HT_.out (by kernel_rfl)) (fun _ _ _ h => h) (Or.inl ⟨by rfl, ?_⟩) ?_ ?_
    rotate_left
    ·exact gs_
    rotate_left
    ·exact pt_
    refine pure_ (i := 16) (N := some 31) (v := ?_) (a' := ?_) #[true, false, true, false, false, true, false, true, true, false, true, true, false, false, false, true, true, false, false, false, false, false, false, false, false, false, false, false, false, false, false, false] rfl rfl (any_of HT_.out (by kernel_rfl)) (fun _ _ _ h => h) (Or.inl ⟨by rfl, ?_⟩) ?_ ?_
    rotate_left
    ·exact gs_
    rotate_left
    ·exact pt_
    refine pure_ (i := 18) (N := some 33) (v := ?_) (a' := ?_) #[true, false, true, false, false, true, false, true, true, false, true, true, false, false, false, true, true, false, true, false, false, false, false, false, false, false, false, false, false, false, false, false] rfl rfl (any_of HT_.out (by kernel_rfl)) (fun _ _ _ h => h) (Or.inl ⟨by rfl, ?_⟩) ?_ ?_
    rotate_left
    ·exact gs_
    rotate_left
    ·exact pt_
    refine pure_ (i := 20) (N := some 35) (v := ?_) (a' := ?_) #[true, false, true, false, false, true, false, true, true, false, true, true, false, false, false, true, true, false, true, false, true, false, false, false, false, false, false, false, false, false, false, false] rfl rfl (any_of HT_.out (by kernel_rfl)) (fun _ _ _ h => h) (Or.inl ⟨by rfl, ?_⟩) ?_ ?_
    rotate_left
    ·exact gs_
    rotate_left
    ·exact pt_
    refine pure_ (i := 24) (N := some 39) (v := ?_) (a' := ?_) #[true, false, true, false, false, true, false, true, true, false, true, true, false, false, false, true, true, false, true, false, true, false, false, false, true, false, false, false, false, false, false, false] rfl rfl (any_of HT_.out (by kernel_rfl)) (fun _ _ _ h => h) (Or.inl ⟨by rfl, ?_⟩) ?_ ?_
    rotate_left
    ·exact gs_
    rotate_left
    ·exact pt_
    refine pure_ (i := 25) (N := some 40) (v := ?_) (a' := ?_) #[true, false, true, false, false, true, false, true, true, false, true, true, false, false, false, true, true, false, true, false, true, false, false, false, true, true, false, false, false, false, false, false] rfl rfl (any_of HT_.out (by kernel_rfl)) (fun _ _ _ h => h) (Or.inl ⟨by rfl, ?_⟩) ?_ ?_
    rotate_left
    ·exact gs_
    rotate_left
    ·exact pt_
    refine pure_ (i := 29) (N := some 44) (v := ?_) (a' := ?_) #[true, false, true, false, false, true, false, true, true, false, true, true, false, false, false, true, true, false, true, false, true, false, false, false, true, true, false, false, false, true, false, false] rfl rfl (any_of HT_.out (by kernel_rfl)) (fun _ _ _ h => h) (Or.inl ⟨by rfl, ?_⟩) ?_ ?_
    rotate_left
    ·exact gs_
    rotate_left
    ·exact pt_
    refine take_ (i := 1) (N := some 16) (v := ?_) (a' := ?_) #[true, true, true, false, false, true, false, true, true, false, true, true, false, false, false, true, true, false, true, false, true, false, false, false, true, true, false, false, false, true, false, false] rfl rfl (take_ofW HT_.out HW_.out (by kernel_rfl)) (fun _ _ _ h => h) (Or.inl ⟨by rfl, ?_⟩) hHeld ?_ ?_
    rotate_left
    ·rintro w' ⟨s0, s1, s2, s3, s4, s5, s6, s7, s8, s9, s10⟩; go_simp; with_reducible rfl
    rotate_left
    ·exact pt_
    refine pure_ (i := 3) (N := some 18) (v := ?_) (a' := ?_) #[true, true, true, true, false, true, false, true, true, false, true, true, false, false, false, true, true, false, true, false, true, false, false, false, true, true, false, false, false, true, false, false] rfl rfl (any_of HT_.out (by kernel_rfl)) (fun _ _ _ h => h) (Or.inl ⟨by rfl, ?_⟩) ?_ ?_
    rotate_left
    ·exact gs_
    rotate_left
    ·exact pt_
    refine take_ (i := 4) (N := some 19) (v := ?_) (a' := ?_) #[true, true, true, true, true, true, false, true, true, false, true, true, false, false, false, true, true, false, true, false, true, false, false, false, true, true, false, false, false, true, false, false] rfl rfl (take_ofW HT_.out HW_.out (by kernel_rfl)) (fun _ _ _ h => h) (Or.inl ⟨by rfl, ?_⟩) hHeld ?_ ?_
    rotate_left
    ·rintro w' ⟨s0, s1, s2, s3, s4, s5, s6, s7, s8, s9, s10⟩; go_simp; with_reducible rfl
    rotate_left
    ·exact pt_
    refine pure_ (i := 6) (N := some 21) (v := ?_) (a' := ?_) #[true, true, true, true, true, true, true, true, true, false, true, true, false, false, false, true, true, false, true, false, true, false, false, false, true, true, false, false, false, true, false, false] rfl rfl (any_of HT_.out (by kernel_rfl)) (fun _ _ _ h => h) (Or.inl ⟨by rfl, ?_⟩) ?_ ?_
    rotate_left
    ·exact gs_
    rotate_left
    ·exact pt_
    refine take_ (i := 9) (N := some 24) (v := ?_) (a' := ?_) #[true, true, true, true, true, true, true, true, true, true, true, true, false, false, false, true, true, false, true, false, true, false, false, false, true, true, false, false, false, true, false, false] rfl rfl (take_ofW HT_.out HW_.out (by kernel_rfl)) (fun _ _ _ h => h) (Or.inl ⟨by rfl, ?_⟩) hHeld ?_ ?_
    rotate_left
    ·rintro w' ⟨s0, s1, s2, s3, s4, s5, s6, s7, s8, s9, s10⟩; go_simp; with_reducible rfl
    rotate_left
    ·exact pt_
    refine take_ (i := 12) (N := some 27) (v := ?_) (a' := ?_) #[true, true, true, true, true, true, true, true, true, true, true, true, true, false, false, true, true, false, true, false, true, false, false, false, true, true, false, false, false, true, false, false] rfl rfl (take_ofW HT_.out HW_.out (by kernel_rfl)) (fun _ _ _ h => h) (Or.inl ⟨by rfl, ?_⟩) hHeld ?_ ?_
    rotate_left
    ·rintro w' ⟨s0, s1, s2, s3, s4, s5, s6, s7, s8, s9, s10⟩; go_simp; with_reducible rfl
    rotate_left
    ·exact pt_
    refine pure_ (i := 13) (N := some 28) (v := ?_) (a' := ?_) #[true, true, true, true, true, true, true, true, true, true, true, true, true, true, false, true, true, false, true, false, true, false, false, false, true, true, false, false, false, true, false, false] rfl rfl (any_of HT_.out (by kernel_rfl)) (fun _ _ _ h => h) (Or.inl ⟨by rfl, ?_⟩) ?_ ?_
    rotate_left
    ·exact gs_
    rotate_left
    ·exact pt_
    refine pure_ (i := 14) (N := some 29) (v := ?_) (a' := ?_) #[true, true, true, true, true, true, true, true, true, true, true, true, true, true, true, true, true, false, true, false, true, false, false, false, true, true, false, false, false, true, false, false] rfl rfl (any_of HT_.out (by kernel_rfl)) (fun _ _ _ h => h) (Or.inl ⟨by rfl, ?_⟩) ?_ ?_
    rotate_left
    ·exact gs_
    rotate_left
    ·exact pt_
    refine take_ (i := 17) (N := some 32) (v := ?_) (a' := ?_) #[true, true, true, true, true, true, true, true, true, true, true, true, true, true, true, true, true, true, true, false, true, false, false, false, true, true, false, false, false, true, false, false] rfl rfl (take_ofW HT_.out HW_.out (by kernel_rfl)) (fun _ _ _ h => h) (Or.inl ⟨by rfl, ?_⟩) hHeld ?_ ?_
    rotate_left
    ·rintro w' ⟨s0, s1, s2, s3, s4, s5, s6, s7, s8, s9, s10⟩; go_simp; with_reducible rfl
    rotate_left
    ·exact pt_
    refine take_ (i := 19) (N := some 34) (v := ?_) (a' := ?_) #[true, true, true, true, true, true, true, true, true, true, true, true, true, true, true, true, true, true, true, true, true, false, false, false, true, true, false, false, false, true, false, false] rfl rfl (take_ofW HT_.out HW_.out (by kernel_rfl)) (fun _ _ _ h => h) (Or.inl ⟨by rfl, ?_⟩) hHeld ?_ ?_
    rotate_left
    ·rintro w' ⟨s0, s1, s2, s3, s4, s5, s6, s7, s8, s9, s10⟩; go_simp; with_reducible rfl
    rotate_left
    ·exact pt_
    refine pure_ (i := 21) (N := some 36) (v := ?_) (a' := ?_) #[true, true, true, true, true, true, true, true, true, true, true, true, true, true, true, true, true, true, true, true, true, true, false, false, true, true, false, false, false, true, false, false] rfl rfl (any_of HT_.out (by kernel_rfl)) (fun _ _ _ h => h) (Or.inl ⟨by rfl, ?_⟩) ?_ ?_
    rotate_left
    ·exact gs_
    rotate_left
    ·exact pt_
    refine take_ (i := 22) (N := some 37) (v := ?_) (a' := ?_) #[true, true, true, true, true, true, true, true, true, true, true, true, true, true, true, true, true, true, true, true, true, true, true, false, true, true, false, false, false, true, false, false] rfl rfl (take_ofW HT_.out HW_.out (by kernel_rfl)) (fun _ _ _ h => h) (Or.inl ⟨by rfl, ?_⟩) hHeld ?_ ?_
    rotate_left
    ·rintro w' ⟨s0, s1, s2, s3, s4, s5, s6, s7, s8, s9, s10⟩; go_simp; with_reducible rfl
    rotate_left
    ·exact pt_
    refine pure_ (i := 23) (N := some 38) (v := ?_) (a' := ?_) #[true, true, true, true, true, true, true, true, true, true, true, true, true, true, true, true, true, true, true, true, true, true, true, true, true, true, false, false, false, true, false, false] rfl rfl (any_of HT_.out (by kernel_rfl)) (fun _ _ _ h => h) (Or.inl ⟨by rfl, ?_⟩) ?_ ?_
    rotate_left
    ·exact gs_
    rotate_left
    ·exact pt_
    refine take_ (i := 26) (N := some 41) (v := ?_) (a' := ?_) #[true, true, true, true, true, true, true, true, true, true, true, true, true, true, true, true, true, true, true, true, true, true, true, true, true, true, true, false, false, true, false, false] rfl rfl (take_ofW HT_.out HW_.out (by kernel_rfl)) (fun _ _ _ h => h) (Or.inl ⟨by rfl, ?_⟩) hHeld ?_ ?_
    rotate_left
    ·rintro w' ⟨s0, s1, s2, s3, s4, s5, s6, s7, s8, s9, s10⟩; go_simp; with_reducible rfl
    rotate_left
    ·exact pt_
    refine pure_ (i := 27) (N := some 42) (v := ?_) (a' := ?_) #[true, true, true, true, true, true, true, true, true, true, true, true, true, true, true, true, true, true, true, true, true, true, true, true, true, true, true, true, false, true, false, false] rfl rfl (any_of HT_.out (by kernel_rfl)) (fun _ _ _ h => h) (Or.inl ⟨by rfl, ?_⟩) ?_ ?_
    rotate_left
    ·exact gs_
    rotate_left
    ·exact pt_
    refine pure_ (i := 28) (N := some 43) (v := ?_) (a' := ?_) #[true, true, true, true, true, true, true, true, true, true, true, true, true, true, true, true, true, true, true, true, true, true, true, true, true, true, true, true, true, true, false, false] rfl rfl (any_of HT_.out (by kernel_rfl)) (fun _ _ _ h => h) (Or.inl ⟨by rfl, ?_⟩) ?_ ?_
    rotate_left
    ·exact gs_
    rotate_left
    ·exact pt_
    refine one_ (i := 30) (N := some 45) #[true, true, true, true, true, true, true, true, true, true, true, true, true, true, true, true, true, true, true, true, true, true, true, true, true, true, true, true, true, true, true, false] rfl rfl (one_of HT_.out (by kernel_rfl)) di_ (fun K hK => ?_)
    refine goes_ Try.func43 (by kernel_rfl) rfl #[.int .i64 (wrap64 ((wrap64 ((wrap64 ((rd l0_0 a2) * (wrap64 (a1_1 * a1_3)))) - (wrap64 (a1_0 * a1_3)))) - (wrap64 ((wrap64 (a1_2 * (rd l0_1 a2))) * a1_1)))), .int .i64 (wrap64 (a1_1 * a1_3))] (by rfl) rfl rfl ma_ ?_
    with_reducible refine (speculumbase_Lowest.calls k (wrap64 ((wrap64 ((wrap64 ((rd l0_0 a2) * (wrap64 (a1_1 * a1_3)))) - (wrap64 (a1_0 * a1_3)))) - (wrap64 ((wrap64 (a1_2 * (rd l0_1 a2))) * a1_1)))) (wrap64 (a1_1 * a1_3)) t397 t398 _ A7.out).mono ?_
    rintro e w15 ⟨rfl, hb⟩
    refine ⟨_, rfl, ?_⟩
    have n0_ := Aside0.mk (bb_ BK392 hb)
    have n1_ := Aside0.mk (bb_ BK393 hb)
    have n2_ := Aside0.mk (bb_ BK394 hb)
    have n3_ := Aside0.mk (below_step (hb_ HB) hb)
    clear BK392
    clear BK393
    clear BK394
    clear HB
    have BK392 := n0_
    have BK393 := n1_
    have BK394 := n2_
    have HB := n3_
    clear n0_ n1_ n2_ n3_
    (try clear hb)
    (try clear hb2)
    (try clear hk)
    (try clear hi)
    refine hK.out _ _ ⟨(blk_cell BK392.out 0).trans rfl, (blk_cell BK392.out 1).trans rfl, (blk_cell BK392.out 2).trans rfl, (blk_cell BK393.out 0).trans rfl, (blk_cell BK393.out 1).trans rfl, (blk_cell BK393.out 2).trans rfl, (blk_cell BK393.out 3).trans rfl, (blk_cell BK393.out 4).trans rfl, (blk_cell BK393.out 5).trans rfl, ((HB.out.cell (World.block_lt_of_cell? w _ hw395_0)).trans hw395_0), ((HB.out.cell (World.block_lt_of_cell? w _ hw396_0)).trans hw396_0)⟩ (fun hHeld => ?_)
    clear hK K
    refine norm_ (a' := ?_) ?_ ?_
    rotate_left
    ·show Act.put _ (some 45) _ = _
     simp only [Act.put, List.setIfInBounds_toArray, List.set_cons_zero, List.set_cons_succ, i64_w, i32_w]
     rfl
    refine one_ (i := 31) (N := none) #[true, true, true, true, true, true, true, true, true, true, true, true, true, true, true, true, true, true, true, true, true, true, true, true, true, true, true, true, true, true, true, true] rfl rfl (one_of HT_.out (by kernel_rfl)) di_ (fun K hK => ?_)
    have hs16 : w15.cell? ⟨gb394, 0, none⟩ = some (.int .i64 0) := (blk_cell BK394.out 0).trans rfl
    have hfs16 := blk_frozen BK394.out 0
    have hns16_0 := NB392_394.out
    have hns16_1 := NB393_394.out
    have hms16_0 := NB394_392.out
    have hms16_1 := NB394_393.out
    have hs17 : w15.cell? ⟨gb394, 1, none⟩ = some (.int .i64 0) := (blk_cell BK394.out 1).trans rfl
    have hfs17 := blk_frozen BK394.out 1
    have hns17_0 := NB392_394.out
    have hns17_1 := NB393_394.out
    have hms17_0 := NB394_392.out
    have hms17_1 := NB394_393.out
    refine skip_ (w1 := ?_) (by rfl) rfl ?_ ?_
    rotate_left
    ·go_simp
     rfl
    refine hK.out _ _ ⟨((cell_far (p := ⟨gb394, _, none⟩) NB392_394.out _).trans (((cell_far (p := ⟨gb394, _, none⟩) NB392_394.out _).trans (hHeld.1)))), ((cell_far (p := ⟨gb394, _, none⟩) NB392_394.out _).trans (((cell_far (p := ⟨gb394, _, none⟩) NB392_394.out _).trans (hHeld.2.1)))), ((cell_far (p := ⟨gb394, _, none⟩) NB392_394.out _).trans (((cell_far (p := ⟨gb394, _, none⟩) NB392_394.out _).trans (hHeld.2.2.1)))), ((cell_far (p := ⟨gb394, _, none⟩) NB393_394.out _).trans (((cell_far (p := ⟨gb394, _, none⟩) NB393_394.out _).trans (hHeld.2.2.2.1)))), ((cell_far (p := ⟨gb394, _, none⟩) NB393_394.out _).trans (((cell_far (p := ⟨gb394, _, none⟩) NB393_394.out _).trans (hHeld.2.2.2.2.1)))), ((cell_far (p := ⟨gb394, _, none⟩) NB393_394.out _).trans (((cell_far (p := ⟨gb394, _, none⟩) NB393_394.out _).trans (hHeld.2.2.2.2.2.1)))), ((cell_far (p := ⟨gb394, _, none⟩) NB393_394.out _).trans (((cell_far (p := ⟨gb394, _, none⟩) NB393_394.out _).trans (hHeld.2.2.2.2.2.2.1)))), ((cell_far (p := ⟨gb394, _, none⟩) NB393_394.out _).trans (((cell_far (p := ⟨gb394, _, none⟩) NB393_394.out _).trans (hHeld.2.2.2.2.2.2.2.1)))), ((cell_far (p := ⟨gb394, _, none⟩) NB393_394.out _).trans (((cell_far (p := ⟨gb394, _, none⟩) NB393_394.out _).trans (hHeld.2.2.2.2.2.2.2.2.1)))), ((cell_far (p := ⟨gb394, _, none⟩) (ab_ hw395_0 GW394) _).trans (((cell_far (p := ⟨gb394, _, none⟩) (ab_ hw395_0 GW394) _).trans (hHeld.2.2.2.2.2.2.2.2.2.1)))), ((cell_far (p := ⟨gb394, _, none⟩) (ab_ hw396_0 GW394) _).trans (((cell_far (p := ⟨gb394, _, none⟩) (ab_ hw396_0 GW394) _).trans (hHeld.2.2.2.2.2.2.2.2.2.2))))⟩ (fun hHeld => ?_)
    clear hK K
    refine done_ (done_of HT_.out (by kernel_rfl)) ?_
    try go_wp2
    refine bodyPost_ret (results_cell_row rfl _ _ gb394 28 #[.int .i64 t397, .int .i64 t398] (0, 0) _ rfl (by (with_reducible repeat (first | refine blk_drewN ?_ _ | refine blk_drew ?_ | refine blk_alloc ?_ _)); refine blk_put (cs := #[.int .i64 t397, .int .i64 0]) ?_ 1 _ rfl; (with_reducible repeat (first | refine blk_drewN ?_ _ | refine blk_drew ?_ | refine blk_alloc ?_ _)); refine blk_put (cs := #[.int .i64 0, .int .i64 0]) ?_ 0 _ rfl; (with_reducible repeat (first | refine blk_drewN ?_ _ | refine blk_drew ?_ | refine blk_alloc ?_ _)); exact BK394.out) Try.underlying28 rfl (by kernel_rfl)) rfl ?_
    exact ⟨by first | rfl | (simp [errW_none, errW_some] <;> rfl) | (simp [*, errW_none, errW_some] <;> rfl), by repeat (first | (with_reducible first | exact HB.out | apply below_alloc | apply pw_below_drewN | apply below_drew1 | refine below_set ?_ GE392.out | refine below_set ?_ GE393.out | refine below_set ?_ GE394.out) | exact HB.out)⟩
   ·rw [if_neg c6] at H
    exact absurd H (by simp)
  ·rw [if_neg c5] at H
   exact absurd H (by simp)
 ·rw [if_neg c4] at H
  exact absurd H (by simp)
def fewB (n : Nat) : Bool := !(decide (10 < n) && decide (n ≤ 40) || decide (42 < n))
def speculumlaw06_Few.f (l0_0 : List Int) (l0_1 : List Int) (l0_2 : List Int) : Option (Bool) := some (fewB l0_0.length && fewB l0_1.length && fewB l0_2.length)
theorem few_true {n : Nat} (h : fewB n = true) : (n : Int) ≤ 10 ∨ ((40 : Int) < n ∧ (n : Int) ≤ 42) := by simp [fewB] at h; omega
theorem few_false {n : Nat} (h : fewB n = false) : ((10 : Int) < n ∧ (n : Int) ≤ 40) ∨ (42 : Int) < n := by simp [fewB] at h; omega
set_option maxHeartbeats 8000000 in
set_option maxRecDepth 100000 in
theorem speculumlaw06_Few.calls (A0_0 : Option Addr) (c0_0 : Nat) (l0_0 : List Int) (A0_1 : Option Addr) (c0_1 : Nat) (l0_1 : List Int) (A0_2 : Option Addr) (c0_2 : Nat) (l0_2 : List Int) (r : Bool) (w : World) (hr0_0 : Kd.C (Kd.int .i64) w A0_0 l0_0.length l0_0) (hc0_0 : l0_0.length ≤ c0_0) (hr0_1 : Kd.C (Kd.int .i64) w A0_1 l0_1.length l0_1) (hc0_1 : l0_1.length ≤ c0_1) (hr0_2 : Kd.C (Kd.int .i64) w A0_2 l0_2.length l0_2) (hc0_2 : l0_2.length ≤ c0_2) (h : speculumlaw06_Few.f l0_0 l0_1 l0_2 = some r) :
  Calls Try.prog 15 #[.agg #[.slice A0_0 l0_0.length c0_0, .slice A0_1 l0_1.length c0_1, .slice A0_2 l0_2.length c0_2]] w fun e w' => e = .returned (.bool r) ∧ Below w.heap.size w w' := by
 have H := Option.some.inj h
 clear h hr0_0 hr0_1 hr0_2 hc0_0 hc0_1 hc0_2
 generalize l0_0.length = n0 at *
 generalize l0_1.length = n1 at *
 generalize l0_2.length = n2 at *
 go_enter Try.func15, Try.ntmps15
 go_wp2
 have i0 : ∀ w, (Instr.index 103 (.agg #[.int .i64 (n0 : Int), .int .i64 (n1 : Int), .int .i64 (n2 : Int)]) (.int .i64 0)).run Try.prog w = .ok (.int .i64 (n0 : Int)) w := fun _ => by kernel_rfl
 have i1 : ∀ w, (Instr.index 103 (.agg #[.int .i64 (n0 : Int), .int .i64 (n1 : Int), .int .i64 (n2 : Int)]) (.int .i64 1)).run Try.prog w = .ok (.int .i64 (n1 : Int)) w := fun _ => by kernel_rfl
 have i2 : ∀ w, (Instr.index 103 (.agg #[.int .i64 (n0 : Int), .int .i64 (n1 : Int), .int .i64 (n2 : Int)]) (.int .i64 2)).run Try.prog w = .ok (.int .i64 (n2 : Int)) w := fun _ => by kernel_rfl
 go_loop [15] (fun i => (i = .int .i64 0) ∨ (i = .int .i64 1 ∧ fewB n0 = true) ∨ (i = .int .i64 2 ∧ fewB n0 = true ∧ fewB n1 = true) ∨ (i = .int .i64 3 ∧ fewB n0 = true ∧ fewB n1 = true ∧ fewB n2 = true)) (fun i => 3 - (intOf i).toNat)
 case atStart => exact .inl rfl
 case round =>
  rcases hrel with rfl | ⟨rfl, h0⟩ | ⟨rfl, h0, h1⟩ | ⟨rfl, h0, h1, h2⟩
  ·cases hq : fewB n0 with
   | true =>
    rcases few_true hq with hd | ⟨hd, hd2⟩
    all_goals
     clear H
     go_wp2
     go_round
     case rel => exact .inr (.inl ⟨rfl, by first | trivial | exact hq⟩)
     case measure => simp [intOf]
   | false =>
    have R : r = false := by rw [← H, hq]; rfl
    subst R
    rcases few_false hq with ⟨hd, hd2⟩ | hd
    all_goals
     clear H
     go_wp2
     go_ret
     exact ⟨rfl, (Below.refl _ _).alloc (Nat.le_refl _) _⟩
  ·cases hq : fewB n1 with
   | true =>
    rcases few_true hq with hd | ⟨hd, hd2⟩
    all_goals
     clear H
     go_wp2
     go_round
     case rel => exact .inr (.inr (.inl ⟨rfl, by first | trivial | exact h0, by first | trivial | exact hq⟩))
     case measure => simp [intOf]
   | false =>
    have R : r = false := by rw [← H, hq]; simp
    subst R
    rcases few_false hq with ⟨hd, hd2⟩ | hd
    all_goals
     clear H
     go_wp2
     go_ret
     exact ⟨rfl, (Below.refl _ _).alloc (Nat.le_refl _) _⟩
  ·cases hq : fewB n2 with
   | true =>
    rcases few_true hq with hd | ⟨hd, hd2⟩
    all_goals
     clear H
     go_wp2
     go_round
     case rel => exact .inr (.inr (.inr ⟨rfl, by first | trivial | exact h0, by first | trivial | exact h1, by first | trivial | exact hq⟩))
     case measure => simp [intOf]
   | false =>
    have R : r = false := by rw [← H, hq]; simp
    subst R
    rcases few_false hq with ⟨hd, hd2⟩ | hd
    all_goals
     clear H
     go_wp2
     go_ret
     exact ⟨rfl, (Below.refl _ _).alloc (Nat.le_refl _) _⟩
  ·have R : r = true := by rw [← H, h0, h1, h2]; rfl
   subst R
   clear H
   go_wp2
   go_ret
   exact ⟨rfl, (Below.refl _ _).alloc (Nat.le_refl _) _⟩
end Go.Proofs.Ytdkahcolfcmmpaa.Pr
namespace Go.Proofs.Ytdkahcolfcmmpaa.Pure
section
variable {q h : Nat → Int}
def cross (q h : Nat → Int) (a b z : Nat) : Int := (h z - h a) * (q b - q a) - (h b - h a) * (q z - q a)
theorem nn {x y : Int} (hx : 0 < x) (hh : 0 ≤ x * y) : 0 ≤ y := by
 rcases Int.lt_or_le y 0 with h1 | h1
 ·have := Int.mul_neg_of_pos_of_neg hx h1; omega
 ·exact h1
theorem cr_id1 (p b c k : Nat) : (q c - q b) * cross q h p b k = (q k - q b) * cross q h p b c + (q b - q p) * cross q h b c k := by unfold cross; grind
theorem cr_id2 (a' a k z : Nat) : (q a - q a') * cross q h a k z = (q k - q a) * cross q h a' a z + (q a - q z) * cross q h a' a k := by unfold cross; grind
theorem cr_id3 (p t k z : Nat) : (q k - q t) * cross q h p k z = (q k - q p) * cross q h t k z + (q k - q z) * (- cross q h p t k) := by unfold cross; grind
theorem cr_id4 (p t k z : Nat) : (q t - q p) * cross q h p k z = (q k - q p) * cross q h p t z + (q z - q p) * (- cross q h p t k) := by unfold cross; grind
theorem cr1 {p b c k : Nat} (h1 : q p < q b) (h2 : q b < q c) (h3 : q b ≤ q k) (h4 : 0 ≤ cross q h p b c) (h5 : 0 ≤ cross q h b c k) : 0 ≤ cross q h p b k := by
 refine nn (x := q c - q b) (by omega) ?_
 rw [cr_id1]
 have := Int.mul_nonneg (show 0 ≤ q k - q b by omega) h4
 have := Int.mul_nonneg (show 0 ≤ q b - q p by omega) h5
 omega
theorem cr2 {a' a k z : Nat} (h1 : q a' < q a) (h2 : q a ≤ q k) (h3 : q z ≤ q a) (h4 : 0 ≤ cross q h a' a z) (h5 : 0 ≤ cross q h a' a k) : 0 ≤ cross q h a k z := by
 refine nn (x := q a - q a') (by omega) ?_
 rw [cr_id2]
 have := Int.mul_nonneg (show 0 ≤ q k - q a by omega) h4
 have := Int.mul_nonneg (show 0 ≤ q a - q z by omega) h5
 omega
theorem cr3 {p t k z : Nat} (h1 : q p < q t) (h2 : q t < q k) (h3 : q z ≤ q k) (h4 : 0 ≤ cross q h t k z) (h5 : cross q h p t k ≤ 0) : 0 ≤ cross q h p k z := by
 refine nn (x := q k - q t) (by omega) ?_
 rw [cr_id3]
 have := Int.mul_nonneg (show 0 ≤ q k - q p by omega) h4
 have := Int.mul_nonneg (show 0 ≤ q k - q z by omega) (show 0 ≤ - cross q h p t k by omega)
 omega
theorem cr4 {p t k z : Nat} (h1 : q p < q t) (h2 : q t < q k) (h3 : q p ≤ q z) (h4 : 0 ≤ cross q h p t z) (h5 : cross q h p t k ≤ 0) : 0 ≤ cross q h p k z := by
 refine nn (x := q t - q p) (by omega) ?_
 rw [cr_id4]
 have := Int.mul_nonneg (show 0 ≤ q k - q p by omega) h4
 have := Int.mul_nonneg (show 0 ≤ q z - q p by omega) (show 0 ≤ - cross q h p t k by omega)
 omega
def Good (q h : Nat → Int) (P : Nat → Prop) : List Nat → Prop
 | [] => False
 | [a] => P a ∧ ∀ z, P z → q a ≤ q z ∧ (q z = q a → h a ≤ h z)
 | t :: p :: r => P t ∧ q p < q t ∧ (∀ z, P z → 0 ≤ cross q h p t z) ∧ Good q h P (p :: r)
theorem Good.top {P : Nat → Prop} : ∀ {t : Nat} {r : List Nat}, Good q h P (t :: r) → P t
 | _, [], h => h.1
 | _, _ :: _, h => h.1
theorem Good.eq {P : Nat → Prop} {t z : Nat} : ∀ {r : List Nat}, Good q h P (t :: r) → P z → q z = q t → h t ≤ h z
 | [], g, hz, e => (g.2 z hz).2 e
 | p :: r, g, hz, e => by
  obtain ⟨_, h1, h2, _⟩ := g
  have := h2 z hz
  unfold cross at this
  rw [e] at this
  have h3 : 0 ≤ (q t - q p) * (h z - h t) := by
   have : (q t - q p) * (h z - h t) = (h z - h p) * (q t - q p) - (h t - h p) * (q t - q p) := by grind
   omega
  have := nn (show 0 < q t - q p by omega) h3
  omega
theorem Good.ext {P : Nat → Prop} {k : Nat} : ∀ {c : Nat} {r : List Nat}, Good q h P (c :: r) → q c ≤ q k → (q k = q c → h c ≤ h k) → (∀ p r', r = p :: r' → 0 ≤ cross q h p c k) → Good q h (fun z => P z ∨ z = k) (c :: r)
 | c, [], g, h1, h2, _ => ⟨.inl g.1, fun z hz => by
   rcases hz with hz | rfl
   ·exact g.2 z hz
   ·exact ⟨h1, h2⟩⟩
 | c, p :: r, g, h1, h2, h3 => by
  obtain ⟨g1, g2, g3, g4⟩ := g
  refine ⟨.inl g1, g2, fun z hz => ?_, ?_⟩
  ·rcases hz with hz | rfl
   ·exact g3 z hz
   ·exact h3 p r rfl
  ·refine Good.ext g4 (by omega) (fun e => by omega) (fun p2 r2 e => ?_)
   subst e
   obtain ⟨_, e2, e3, _⟩ := g4
   exact cr1 e2 g2 (by omega) (e3 c g1) (h3 p _ rfl)
def Hyp (q h : Nat → Int) (P : Nat → Prop) (k a : Nat) : Prop := ∀ z, P z → q a ≤ q z → 0 ≤ cross q h a k z
theorem Good.hyp {P : Nat → Prop} {k t : Nat} {r : List Nat} (g : Good q h P (t :: r)) (hm : ∀ z, P z → q z ≤ q t) (hk : q t < q k) : Hyp q h P k t := by
 intro z hz h1
 have e : q z = q t := by have := hm z hz; omega
 have := g.eq hz e
 have := Int.mul_nonneg (show 0 ≤ h z - h t by omega) (show 0 ≤ q k - q t by omega)
 unfold cross
 rw [e]
 simp only [Int.sub_self, Int.mul_zero, Int.sub_zero]
 exact this
theorem Good.pop {P : Nat → Prop} {k a p : Nat} {r : List Nat} (g : Good q h P (a :: p :: r)) (hm : ∀ z, P z → q z ≤ q k) (hk : q a < q k) (hy : Hyp q h P k a) (hc : cross q h p a k ≤ 0) : Hyp q h P k p := by
 obtain ⟨g1, g2, g3, g4⟩ := g
 intro z hz h1
 rcases Int.lt_or_le (q z) (q a) with h2 | h2
 ·exact cr4 g2 hk h1 (g3 z hz) hc
 ·exact cr3 g2 hk (hm z hz) (hy z hz h2) hc
theorem cross_self (a k : Nat) : cross q h a k k = 0 := by unfold cross; grind
theorem Good.push {P : Nat → Prop} {k a : Nat} {r : List Nat} (g : Good q h P (a :: r)) (hk : q a < q k) (hy : Hyp q h P k a) (hc : ∀ p r', r = p :: r' → 0 ≤ cross q h p a k) : Good q h (fun z => P z ∨ z = k) (k :: a :: r) := by
 refine ⟨.inr rfl, hk, fun z hz => ?_, g.ext (by omega) (fun e => by omega) hc⟩
 rcases hz with hz | rfl
 ·rcases Int.lt_or_le (q z) (q a) with h2 | h2
  ·cases r with
   | nil => have := (g.2 z hz).1; omega
   | cons p r =>
    obtain ⟨_, g2, g3, _⟩ := g
    exact cr2 g2 (by omega) (by omega) (g3 z hz) (hc p r rfl)
  ·exact hy z hz h2
 ·rw [cross_self]; exact Int.le_refl _
theorem Good.skip {P : Nat → Prop} {k a : Nat} {r : List Nat} (g : Good q h P (a :: r)) (hk : q k = q a) (hh : h a ≤ h k) : Good q h (fun z => P z ∨ z = k) (a :: r) := by
 refine g.ext (by omega) (fun _ => hh) (fun p r' e => ?_)
 subst e
 obtain ⟨_, g2, _, _⟩ := g
 have := Int.mul_nonneg (show 0 ≤ h k - h a by omega) (show 0 ≤ q a - q p by omega)
 have e : cross q h p a k = (h k - h a) * (q a - q p) := by unfold cross; rw [hk]; grind
 rw [e]; exact this
end
end Go.Proofs.Ytdkahcolfcmmpaa.Pure
namespace Go.Proofs.Ytdkahcolfcmmpaa.Pr
open Go.RowKit Go.Proofs.YtdkahcolfcmmpaaW.PrintWords Go.Proofs.YtdkahcolfcmmpaaW.PrintLast Go.Proofs.YtdkahcolfcmmpaaW.PrintMore
attribute [local go_sem] max2_int min2_int max_two min_two max_three min_three max_four min_four
set_option linter.unusedVariables false
set_option linter.unusedSimpArgs false
def remVal (l0 l1 : List Int) (a0 a1 a2 a3 : Int) (i : Int) : Int := wrap64 ((wrap64 ((wrap64 ((rd l0 i) * (wrap64 (a1 * a3)))) - (wrap64 (a0 * a3)))) - (wrap64 ((wrap64 (a2 * (rd l1 i))) * a1)))
theorem rem_f (l0 l1 l2 : List Int) (a0 a1 a2 a3 a4 a5 : Int) (i : Int) (h0 : 0 ≤ i) (h1 : i < l0.length) (h2 : i < l1.length) : figure_removal.f l0 l1 l2 a0 a1 a2 a3 a4 a5 i = some (remVal l0 l1 a0 a1 a2 a3 i, wrap64 (a1 * a3)) := by
  unfold figure_removal.f remVal
  rw [if_pos h0, if_pos h1, if_pos h2]
def sdV (a b q : Int) : Int := if wrap64 (q * a) < b then -1 else if wrap64 (q * a) > b then 1 else 0
theorem side_f (a b c q : Int) : figure_sums_side.f a b c q = some (sdV a b q) := by
  unfold figure_sums_side.f cmp_Compare_int.f cmp_isNaN_int.f sdV
  simp only [bne_self_eq_false, Option.bind_some, Bool.false_eq_true, if_false]
  split
  · rfl
  · split <;> rfl
structure CRw (w : World) (cs ds : Array Value) (W : World) : Prop where
  b0 : W.heap[w.heap.size]? = some (.cells cs 24 (0, 0))
  b1 : W.heap[w.heap.size + 1]? = some (.cells ds 50 (0, 0))
  bel : Below w.heap.size w W
theorem CRw.below {w W W' : World} {cs ds : Array Value} (h : CRw w cs ds W) (hb : Below W.heap.size W W') : CRw w cs ds W' := ⟨blk_below h.b0 hb, blk_below h.b1 hb, below_step h.bel hb⟩
theorem CRw.alloc {w W : World} {cs ds : Array Value} (h : CRw w cs ds W) (o : Obj) : CRw w cs ds (W.alloc o) := ⟨blk_alloc h.b0 o, blk_alloc h.b1 o, below_alloc h.bel o⟩
theorem CRw.drewN {w W : World} {cs ds : Array Value} (h : CRw w cs ds W) (n : Nat) : CRw w cs ds (W.drewN n) := ⟨blk_drewN h.b0 n, blk_drewN h.b1 n, pw_below_drewN h.bel n⟩
theorem CRw.drew {w W : World} {cs ds : Array Value} (h : CRw w cs ds W) : CRw w cs ds W.drew := ⟨h.b0, h.b1, below_drew1 h.bel⟩
end Go.Proofs.Ytdkahcolfcmmpaa.Pr
namespace Go.Proofs.Ytdkahcolfcmmpaa.RowB
open Go.ChangeShapes Go.WideShapes Go.ChangeAt Go.RowKit Go.Deep Go.Proofs.YtdkahcolfcmmpaaW.PrintWords Go.Proofs.Ytdkahcolfcmmpaa.Pr
set_option linter.unusedVariables false
theorem own : ownKnob Try.prog.godebug = none := by kernel_rfl
theorem laidOut : laidOutB Try.prog = true := by kernel_rfl
theorem isInts {H : Type} {enc : TypeId × Value → H} {W : World} {base n : Nat} {cs : List Value} {x : DataW H × List MemPlace} (h : DataW.trod enc Try.prog W base (fun _ => true) true n 22 cs = some x) :
    ∃ a c, ∃ l : List Int, cs = [.slice a l.length c] ∧ Kd.C (Kd.int .i64) W a l.length l ∧ l.length ≤ c ∧ ∀ x ∈ l, (Lit.int .i64 x).wf = true := by
  rcases open_ints Try.underlying22 Try.underlying3 (by kernel_rfl) h with ⟨rfl, _⟩ | ⟨x, len, c, zs, rfl, _, hl, hm, hz, _, hcell, hwz⟩
  · exact ⟨none, 0, [], rfl, Kd.C_nil _ _, Nat.le_refl _, by simp⟩
  · obtain ⟨l, rfl, hr, hm, hw, hc⟩ := ReadsInt.ofRowC (k := .i64) (w := W) (a := some x) (len := len) (cap := c) (zs := zs) (.inr ⟨_, rfl, hl, hm, by simpa using hz, hcell, hwz⟩)
    exact ⟨_, _, l, rfl, Kd.C_of_reads (d := (0 : Int)) (h1 := fun _ => rfl) hr, hc, hw⟩
theorem isIntC {H : Type} {enc : TypeId × Value → H} {W : World} {base n : Nat} {cs : List Value} {x : DataW H × List MemPlace} (h : DataW.trod enc Try.prog W base (fun _ => true) true n 3 cs = some x) :
    ∃ m : Int, cs = [.int .i64 m] ∧ (Lit.int .i64 m).wf = true := by
  obtain ⟨m, e, _, hw⟩ := DataW.trod_int (k := .i64) Try.underlying3 h
  exact ⟨m, e, hw⟩
set_option maxRecDepth 100000 in
theorem isFrac {H : Type} {enc : TypeId × Value → H} {W : World} {base n : Nat} {cs : List Value} {x : DataW H × List MemPlace} (h : DataW.trod enc Try.prog W base (fun _ => true) true n 28 cs = some x) :
    ∃ a b : Int, cs = [.int .i64 a, .int .i64 b] ∧ (Lit.int .i64 a).wf = true ∧ (Lit.int .i64 b).wf = true := by
  obtain ⟨y0, y1, m, _, hl, h0, h1⟩ := trod_struct2 Try.underlying28 h
  have hC : Try.prog.cellsOf 28 = 2 := by kernel_rfl
  have hc : Try.prog.cellsOf 3 = 1 := by kernel_rfl
  rw [hC] at hl
  simp only [hc] at h0 h1
  match cs, hl with
  | [u0, u1], _ =>
    obtain ⟨a, e0, w0⟩ := isIntC h0
    obtain ⟨b, e1, w1⟩ := isIntC h1
    simp at e0 e1
    exact ⟨a, b, by rw [e0, e1], w0, w1⟩
set_option maxRecDepth 100000 in
theorem isTwo {H : Type} {enc : TypeId × Value → H} {W : World} {base n : Nat} {cs : List Value} {x : DataW H × List MemPlace} (h : DataW.trod enc Try.prog W base (fun _ => true) true n 48 cs = some x) :
    ∃ a b : Int, cs = [.int .i64 a, .int .i64 b] ∧ (Lit.int .i64 a).wf = true ∧ (Lit.int .i64 b).wf = true := by
  obtain ⟨xs, m, _, _, hl, hx, hf⟩ := DataW.trod_array Try.underlying48 h
  have hC : Try.prog.cellsOf 48 = 2 := by kernel_rfl
  have hc : Try.prog.cellsOf 3 = 1 := by kernel_rfl
  rw [hC] at hl
  match cs, hl, xs, hx with
  | [u0, u1], _, [x0, x1], _ =>
    have h0 := hf 0 (by omega)
    have h1 := hf 1 (by omega)
    simp only [hc] at h0 h1
    simp at h0 h1
    obtain ⟨a, e0, w0⟩ := isIntC h0
    obtain ⟨b, e1, w1⟩ := isIntC h1
    simp at e0 e1
    exact ⟨a, b, by rw [e0, e1], w0, w1⟩
set_option maxRecDepth 100000 in
theorem isLine {H : Type} {enc : TypeId × Value → H} {W : World} {base : Nat} {v : Value} {d : DataW H} {p : List MemPlace} (hv : Value.okWide Try.prog W .any base 50 v) (h : DataW.Trod enc Try.prog W 0 (fun _ => true) true 50 v d p) :
    ∃ a0 a1 a2 a3 a4 a5 : Int, v = .agg #[.int .i64 a0, .int .i64 a1, .int .i64 a2, .int .i64 a3, .int .i64 a4, .int .i64 a5] ∧ (Lit.int .i64 a0).wf = true ∧ (Lit.int .i64 a1).wf = true ∧ (Lit.int .i64 a2).wf = true ∧ (Lit.int .i64 a3).wf = true ∧ (Lit.int .i64 a4).wf = true ∧ (Lit.int .i64 a5).wf = true := by
  obtain ⟨cs, rfl, hsz⟩ := okWide_struct Try.underlying50 hv
  have hC : Try.prog.cellsOf 50 = 6 := by kernel_rfl
  have h28 : Try.prog.cellsOf 28 = 2 := by kernel_rfl
  have h48 : Try.prog.cellsOf 48 = 2 := by kernel_rfl
  rw [hC] at hsz
  obtain ⟨n, hf⟩ := h
  obtain ⟨l⟩ := cs
  match l, hsz with
  | [u0, u1, u2, u3, u4, u5], _ =>
    obtain ⟨xs, m, _, _, _, hx, hg⟩ := DataW.trod_struct Try.underlying50 hf
    match xs, hx with
    | [x0, x1, x2], _ =>
      have g0 : DataW.trod enc Try.prog W 0 (fun _ => true) true m 28 ((([u0, u1, u2, u3, u4, u5] : List Value).drop 0).take (Try.prog.cellsOf 28)) = some x0 := hg 0 _ rfl
      have g1 : DataW.trod enc Try.prog W 0 (fun _ => true) true m 28 ((([u0, u1, u2, u3, u4, u5] : List Value).drop 2).take (Try.prog.cellsOf 28)) = some x1 := hg 1 _ rfl
      have g2 : DataW.trod enc Try.prog W 0 (fun _ => true) true m 48 ((([u0, u1, u2, u3, u4, u5] : List Value).drop 4).take (Try.prog.cellsOf 48)) = some x2 := hg 2 _ rfl
      rw [h28] at g0 g1
      rw [h48] at g2
      obtain ⟨a0, a1, e0, w0, w1⟩ := isFrac g0
      obtain ⟨a2, a3, e1, w2, w3⟩ := isFrac g1
      obtain ⟨a4, a5, e2, w4, w5⟩ := isTwo g2
      simp at e0 e1 e2
      refine ⟨a0, a1, a2, a3, a4, a5, ?_, w0, w1, w2, w3, w4, w5⟩
      rw [e0.1, e0.2, e1.1, e1.2, e2.1, e2.2]
end Go.Proofs.Ytdkahcolfcmmpaa.RowB
