import Derived.Below
import Derived.ChangeOld
import Derived.Deep.Matrix
import Derived.Deep.SlicePairs
import Derived.Lib.SmallJoins
import Derived.OpenShut
import Derived.ProofKit
import Derived.ShutString
import Derived.SizedLaws
import Derived.Test.YtdkahcolfcmmpaaFd1
import Derived.Test.YtdkahcolfcmmpaaFd2
import Derived.WalkKit
import Derived.WalkSpells
namespace Go.Proofs.Ytdkahcolfcmmpaa.Pr
open Go.RowKit Go.Proofs.YtdkahcolfcmmpaaW.PrintWords Go.Proofs.YtdkahcolfcmmpaaW.PrintLast Go.Proofs.YtdkahcolfcmmpaaW.PrintMore
attribute [local go_sem] max2_int min2_int max_two min_two max_three min_three max_four min_four   -- for this text's walks alone
set_option linter.unusedVariables false
set_option linter.unusedSimpArgs false
def speculumlaw06_Known.f  : Option ((List (S38))) := some (([(⟨0, 2⟩ : S38), (⟨1, 4⟩ : S38), (⟨3, 5⟩ : S38)] : List (S38)))
set_option maxHeartbeats 8000000 in
set_option maxRecDepth 100000 in
theorem speculumlaw06_Known.calls  (r : List (S38)) (w : World) (h : speculumlaw06_Known.f  = some r) :
  Calls Try.prog 60 #[] w fun e w' => ∃ v0_ : Value, e = .returned (v0_) ∧ Kd.R k38 38 w' w.heap.size (fun _ => True) v0_ r ∧ Below w.heap.size w w' := by
 have hu38 := Try.underlying38
 have HB := Aside0.mk (Below.refl w.heap.size w)
 have H : (some (([(⟨0, 2⟩ : S38), (⟨1, 4⟩ : S38), (⟨3, 5⟩ : S38)] : List (S38)))) = some r := h
 clear h
 obtain ⟨y194, hy194⟩ : ∃ y_ : List (S38), y_ = (([(⟨0, 2⟩ : S38), (⟨1, 4⟩ : S38), (⟨3, 5⟩ : S38)] : List (S38))) := ⟨_, rfl⟩
 replace H : (some y194) = some r := by first | (rw [hy194]; with_reducible exact H) | (have H2_ := (Option.bind_some _ _).symm.trans H; rw [hy194]; with_reducible exact H2_) | (have H2_ := (Option.bind_some _ _).symm.trans H; with_reducible exact H2_) | with_reducible exact H | (rw [hy194]; exact H) | exact H
 have Ny194 := Aside0.mk hy194
 clear hy194
 obtain rfl := Option.some.inj H
 go_enter Try.func60, Try.ntmps60
 go_wp2_with (first | ((with_reducible refine gate_dst (N := 4) rfl ?_); refine Kd.R_lit k38 _ 38 ?hg (N := 4) ?hd (xs := ([(⟨0, 2⟩ : S38), (⟨1, 4⟩ : S38), (⟨3, 5⟩ : S38)] : List (S38))) (inner := [.int .i64 0, .int .i64 2, .int .i64 1, .int .i64 4, .int .i64 3, .int .i64 5]) (ok := fun _ => True) (okp := fun _ => True) ?hr ?hp (fun _ hk => hk) trivial (Below.refl _ _) (Nat.le_refl _) (by simp) ?_; (case hd => rfl); (case hg => rfl); (case hr => exact gr_); (case hp => exact (Reps.c2 (show Kd.M k38 _ _ _ (⟨0, 2⟩ : S38) [.int .i64 0, .int .i64 2] from (k38_mkM _ _ _ (⟨0, 2⟩ : S38) )) (Reps.c2 (show Kd.M k38 _ _ _ (⟨1, 4⟩ : S38) [.int .i64 1, .int .i64 4] from (k38_mkM _ _ _ (⟨1, 4⟩ : S38) )) (Reps.c2 (show Kd.M k38 _ _ _ (⟨3, 5⟩ : S38) [.int .i64 3, .int .i64 5] from (k38_mkM _ _ _ (⟨3, 5⟩ : S38) )) (Reps.none _ _))))); intro v195 w1 ho2 hb hg_ hnew_; clear hg_ hnew_; (first | rw [← Ny194.out] at ho2 | (simp only [Int.reduceToNat] at ho2; rw [← Ny194.out] at ho2)); have n0_ := Aside0.mk (Kd.R_lower ho2 (below_size (hb_ HB))); have n1_ := Aside0.mk (below_step (hb_ HB) hb); clear HB; have HO196 := n0_; have HB := n1_; clear n0_ n1_; clear hb ho2))
 go_ret
 exact ⟨_, by first | rfl | (simp [errW_none, errW_some] <;> rfl) | (simp [*, errW_none, errW_some] <;> rfl), by (with_reducible repeat (first | apply Kd.R_alloc | apply Kd.R_drewN | apply Kd.R_drew)); exact HO196.out, by repeat (first | (with_reducible first | exact HB.out | apply below_alloc | apply pw_below_drewN | apply below_drew1) | exact HB.out)⟩
end Go.Proofs.Ytdkahcolfcmmpaa.Pr
namespace Go.Proofs.Ytdkahcolfcmmpaa.Pr
open Go.RowKit Go.Proofs.YtdkahcolfcmmpaaW.PrintWords Go.Proofs.YtdkahcolfcmmpaaW.PrintLast Go.Proofs.YtdkahcolfcmmpaaW.PrintMore
attribute [local go_sem] max2_int min2_int max_two min_two max_three min_three max_four min_four   -- for this text's walks alone
set_option linter.unusedVariables false
set_option linter.unusedSimpArgs false
def speculumlaw06_ranges.f (l0 : List (S38)) : Option ((List (S38))) := (some (([] : List (S38)) : List (S38))).bind fun y318 => (if y318.length + l0.length < 8796093022208 then (some (y318 ++ l0)) else (none))
set_option maxHeartbeats 8000000 in
set_option maxRecDepth 100000 in
theorem speculumlaw06_ranges.calls (A0 : Option Addr) (c0 : Nat) (l0 : List (S38)) (r : List (S38)) (w : World) (hr0 : Kd.C k38 w A0 l0.length l0) (hc0 : l0.length ≤ c0) (h : speculumlaw06_ranges.f l0 = some r) :
  Calls Try.prog 22 #[.slice A0 l0.length c0] w fun e w' => ∃ v0_ : Value, e = .returned (v0_) ∧ Kd.R k38 38 w' w.heap.size (fun _ => True) v0_ r ∧ Below w.heap.size w w' := by
 have HR0 := Aside0.mk hr0
 have HC0 := Aside0.mk hc0
 clear hr0 hc0
 have HB := Aside0.mk (Below.refl w.heap.size w)
 have H : ((some (([] : List (S38)) : List (S38))).bind fun y318 => (if y318.length + l0.length < 8796093022208 then (some (y318 ++ l0)) else (none))) = some r := h
 clear h
 obtain ⟨y318, hy318⟩ : ∃ y_ : List (S38), y_ = (([] : List (S38))) := ⟨_, rfl⟩
 replace H : (if y318.length + l0.length < 8796093022208 then (some (y318 ++ l0)) else (none)) = some r := by first | (rw [hy318]; with_reducible exact H) | (have H2_ := (Option.bind_some _ _).symm.trans H; rw [hy318]; with_reducible exact H2_) | (have H2_ := (Option.bind_some _ _).symm.trans H; with_reducible exact H2_) | with_reducible exact H | (rw [hy318]; exact H) | exact H
 have Ny318 := Aside0.mk hy318
 clear hy318
 by_cases c2 : y318.length + l0.length < 8796093022208
 ·rw [if_pos c2] at H
  have LMc2 := Aside0.mk c2
  clear c2
  obtain ⟨y321, hy321⟩ : ∃ y_ : List (S38), y_ = (y318 ++ l0) := ⟨_, rfl⟩
  replace H : (some y321) = some r := by first | (rw [hy321]; with_reducible exact H) | (have H2_ := (Option.bind_some _ _).symm.trans H; rw [hy321]; with_reducible exact H2_) | (have H2_ := (Option.bind_some _ _).symm.trans H; with_reducible exact H2_) | with_reducible exact H | (rw [hy321]; exact H) | exact H
  have Ny321 := Aside0.mk hy321
  clear hy321
  obtain rfl := Option.some.inj H
  go_enter Try.func22, Try.ntmps22
  go_wp2_with (first | ((with_reducible refine gate_dst (N := 3) rfl ?_); refine Kd.R_lit k38 _ 38 ?hg (N := 3) ?hd (xs := ([] : List (S38))) (inner := []) (ok := fun _ => True) (okp := fun _ => True) ?hr ?hp (fun _ hk => hk) trivial (Below.refl _ _) (Nat.le_refl _) (by simp) ?_; (case hd => rfl); (case hg => rfl); (case hr => exact gr_); (case hp => exact (Reps.none _ _)); intro v319 w3 ho4 hb hg_ hnew_; clear hg_ hnew_; (first | rw [← Ny318.out] at ho4 | (simp only [Int.reduceToNat] at ho4; rw [← Ny318.out] at ho4)); have n0_ := Aside0.mk (Kd.R_lower ho4 (below_size (hb_ HB))); have n1_ := Aside0.mk (below_step (hb_ HB) hb); clear HB; have HO320 := n0_; have HB := n1_; clear n0_ n1_; clear hb ho4) | ((with_reducible refine gate_builtin (b := .append) (xs := #[.tmp 3, .tmp 4]) rfl ?_); at_builtin; refine Kd.R_append_rows k38 (w0 := w) w.heap.size rfl (.tmp 3) (.tmp 4) 36 38 (.agg #[(.int .i64 0), (.int .i64 0)]) 16 rfl Try.underlying36 info38 rfl di_ (by omega) v319 y318 l0 _ _ _ (fun _ => True) (fun _ => False) rfl rfl ?aO ?aR (fun _ _ h => h) (fun _ h => h.elim) ?aF ?aB ?aS ?aL ?_; (case aR => repeat (first | exact (Kd.C_below HR0.out HB.out) | (with_reducible refine Kd.C_alloc ?_ _) | (with_reducible refine Kd.C_drewN ?_ _) | (with_reducible refine Kd.C_drew ?_))); (case aB => exact (hb_ HB)); (case aF => exact (fun _ _ => trivial)); (case aO => exact (rk_ HO320)); (case aS => exact (below_size (hb_ HB))); (case aL => have := LMc2.out; omega); intro v322 w5 ho hb hg hat; rw [← Ny321.out] at ho; have n0_ := Aside0.mk (hb); have n1_ := Aside0.mk (ho); clear HB; clear HO320; have HB := n0_; have HO323 := n1_; clear n0_ n1_; clear ho hb hg hat))
  go_ret
  exact ⟨_, by first | rfl | (simp [errW_none, errW_some] <;> rfl) | (simp [*, errW_none, errW_some] <;> rfl), by (with_reducible repeat (first | apply Kd.R_alloc | apply Kd.R_drewN | apply Kd.R_drew)); exact HO323.out, by repeat (first | (with_reducible first | exact HB.out | apply below_alloc | apply pw_below_drewN | apply below_drew1) | exact HB.out)⟩
 ·rw [if_neg c2] at H
  exact absurd H (by simp)
end Go.Proofs.Ytdkahcolfcmmpaa.Pr
namespace Go.Proofs.Ytdkahcolfcmmpaa.Pr
open Go.RowKit Go.Proofs.YtdkahcolfcmmpaaW.PrintWords Go.Proofs.YtdkahcolfcmmpaaW.PrintLast Go.Proofs.YtdkahcolfcmmpaaW.PrintMore
attribute [local go_sem] max2_int min2_int max_two min_two max_three min_three max_four min_four
set_option linter.unusedVariables false
set_option linter.unusedSimpArgs false
def slices_Clone_Range.f (l0 : List (S38)) : Option ((List (S38))) := (some (([] : List (S38)) : List (S38))).bind fun y480 => (if y480.length + l0.length < 8796093022208 then (some (y480 ++ l0)) else (none))
set_option maxHeartbeats 8000000 in
set_option maxRecDepth 100000 in
theorem slices_Clone_Range.calls_some (ad0 : Addr) (c0 : Nat) (l0 : List (S38)) (r : List (S38)) (w : World) (hr0 : Kd.C k38 w (some ad0) l0.length l0) (hc0 : l0.length ≤ c0) (h : slices_Clone_Range.f l0 = some r) :
  Calls Try.prog 112 #[.slice (some ad0) l0.length c0] w fun e w' => ∃ v0_ : Value, e = .returned (v0_) ∧ Kd.R k38 38 w' w.heap.size (fun _ => True) v0_ r ∧ Below w.heap.size w w' := by
 have HR0 := Aside0.mk hr0
 have HC0 := Aside0.mk hc0
 clear hr0 hc0
 have HB := Aside0.mk (Below.refl w.heap.size w)
 have H : ((some (([] : List (S38)) : List (S38))).bind fun y480 => (if y480.length + l0.length < 8796093022208 then (some (y480 ++ l0)) else (none))) = some r := h
 clear h
 obtain ⟨y480, hy480⟩ : ∃ y_ : List (S38), y_ = (([] : List (S38))) := ⟨_, rfl⟩
 replace H : (if y480.length + l0.length < 8796093022208 then (some (y480 ++ l0)) else (none)) = some r := by first | (rw [hy480]; with_reducible exact H) | (have H2_ := (Option.bind_some _ _).symm.trans H; rw [hy480]; with_reducible exact H2_) | (have H2_ := (Option.bind_some _ _).symm.trans H; with_reducible exact H2_) | with_reducible exact H | (rw [hy480]; exact H) | exact H
 have Ny480 := Aside0.mk hy480
 clear hy480
 by_cases c2 : y480.length + l0.length < 8796093022208
 ·rw [if_pos c2] at H
  have LMc2 := Aside0.mk c2
  clear c2
  obtain ⟨y483, hy483⟩ : ∃ y_ : List (S38), y_ = (y480 ++ l0) := ⟨_, rfl⟩
  replace H : (some y483) = some r := by first | (rw [hy483]; with_reducible exact H) | (have H2_ := (Option.bind_some _ _).symm.trans H; rw [hy483]; with_reducible exact H2_) | (have H2_ := (Option.bind_some _ _).symm.trans H; with_reducible exact H2_) | with_reducible exact H | (rw [hy483]; exact H) | exact H
  have Ny483 := Aside0.mk hy483
  clear hy483
  obtain rfl := Option.some.inj H
  have hnil_ : ∀ (W : World) (n c : Nat), (binOp .eql 36 (.slice (some ad0) n c) (.slice none 0 0)).run Try.prog W = .ok (.bool false) W := fun W n c => Lib.run_eql_slice_nil W 36 _ (some ad0) n c 0 0 Try.underlying36
  go_enter Try.func112, Try.ntmps112
  go_wp2_with (first | ((with_reducible refine gate_dst (N := 5) rfl ?_); refine Kd.R_lit k38 _ 38 ?hg (N := 5) ?hd (xs := ([] : List (S38))) (inner := []) (ok := fun _ => True) (okp := fun _ => True) ?hr ?hp (fun _ hk => hk) trivial (Below.refl _ _) (Nat.le_refl _) (by simp) ?_; (case hd => rfl); (case hg => rfl); (case hr => exact gr_); (case hp => exact (Reps.none _ _)); intro v481 w3 ho4 hb hg_ hnew_; clear hg_ hnew_; (first | rw [← Ny480.out] at ho4 | (simp only [Int.reduceToNat] at ho4; rw [← Ny480.out] at ho4)); have n0_ := Aside0.mk (Kd.R_lower ho4 (below_size (hb_ HB))); have n1_ := Aside0.mk (below_step (hb_ HB) hb); clear HB; have HO482 := n0_; have HB := n1_; clear n0_ n1_; clear hb ho4) | ((with_reducible refine gate_builtin (b := .append) (xs := #[.tmp 5, .tmp 6]) rfl ?_); at_builtin; refine Kd.R_append_rows k38 (w0 := w) w.heap.size rfl (.tmp 5) (.tmp 6) 36 38 (.agg #[(.int .i64 0), (.int .i64 0)]) 16 rfl Try.underlying36 info38 rfl di_ (by omega) v481 y480 l0 _ _ _ (fun _ => True) (fun _ => False) rfl rfl ?aO ?aR (fun _ _ h => h) (fun _ h => h.elim) ?aF ?aB ?aS ?aL ?_; (case aR => repeat (first | exact (Kd.C_below HR0.out HB.out) | (with_reducible refine Kd.C_alloc ?_ _) | (with_reducible refine Kd.C_drewN ?_ _) | (with_reducible refine Kd.C_drew ?_))); (case aB => exact (hb_ HB)); (case aF => exact (fun _ _ => trivial)); (case aO => exact (rk_ HO482)); (case aS => exact (below_size (hb_ HB))); (case aL => have := LMc2.out; omega); intro v484 w5 ho hb hg hat; rw [← Ny483.out] at ho; have n0_ := Aside0.mk (hb); have n1_ := Aside0.mk (ho); clear HB; clear HO482; have HB := n0_; have HO485 := n1_; clear n0_ n1_; clear ho hb hg hat))
  go_ret
  exact ⟨_, by first | rfl | (simp [errW_none, errW_some] <;> rfl) | (simp [*, errW_none, errW_some] <;> rfl), by (with_reducible repeat (first | apply Kd.R_alloc | apply Kd.R_drewN | apply Kd.R_drew)); exact HO485.out, by repeat (first | (with_reducible first | exact HB.out | apply below_alloc | apply pw_below_drewN | apply below_drew1) | exact HB.out)⟩
 ·rw [if_neg c2] at H
  exact absurd H (by simp)
set_option maxHeartbeats 8000000 in
set_option maxRecDepth 100000 in
theorem slices_Clone_Range.calls (A0 : Option Addr) (c0 : Nat) (l0 : List (S38)) (r : List (S38)) (w : World) (hr0 : Kd.C k38 w A0 l0.length l0) (hc0 : l0.length ≤ c0) (h : slices_Clone_Range.f l0 = some r) :
  Calls Try.prog 112 #[.slice A0 l0.length c0] w fun e w' => ∃ v0_ : Value, e = .returned (v0_) ∧ Kd.R k38 38 w' w.heap.size (fun _ => True) v0_ r ∧ Below w.heap.size w w' := by
 rcases A0 with _ | ad0
 ·have hl0 : l0 = [] := by
   rcases l0 with _ | ⟨x, l⟩
   ·rfl
   ·exact absurd (hr0.2.2 (by simp)) (by simp)
  subst hl0
  have hr_ : r = [] := by
   have h' := h
   unfold slices_Clone_Range.f at h'
   rw [Option.bind_some, if_pos di_] at h'
   exact (Option.some.inj h').symm
  subst hr_
  have hnil_ : ∀ (W : World) (n c : Nat), (binOp .eql 36 (.slice none n c) (.slice none 0 0)).run Try.prog W = .ok (.bool true) W := fun W n c => Lib.run_eql_slice_nil W 36 _ none n c 0 0 Try.underlying36
  clear hr0 hc0 h
  go_enter Try.func112, Try.ntmps112
  go_wp2
  go_ret
  exact ⟨_, rfl, Kd.R_nil _ _ _ _ _, Below.refl _ _⟩
 ·exact slices_Clone_Range.calls_some ad0 c0 l0 r w hr0 hc0 h
end Go.Proofs.Ytdkahcolfcmmpaa.Pr
namespace Go.Proofs.Ytdkahcolfcmmpaa.Pr
open Go.RowKit Go.Proofs.YtdkahcolfcmmpaaW.PrintWords Go.Proofs.YtdkahcolfcmmpaaW.PrintLast Go.Proofs.YtdkahcolfcmmpaaW.PrintMore
attribute [local go_sem] max2_int min2_int max_two min_two max_three min_three max_four min_four   -- for this text's walks alone
set_option linter.unusedVariables false
set_option linter.unusedSimpArgs false
def figure_Deciding_1.f (a0_0 : Int) (a0_1 : Int) : Option (Bool) := some (decide ((wrap64 (a0_1 - a0_0)) > 200))
set_option maxHeartbeats 8000000 in
set_option maxRecDepth 100000 in
theorem figure_Deciding_1.calls (a0_0 : Int) (a0_1 : Int) (r : Bool) (w : World) (h : figure_Deciding_1.f a0_0 a0_1 = some r) :
  Calls Try.prog 76 #[.agg #[.int .i64 a0_0, .int .i64 a0_1]] w fun e w' => e = .returned (.bool r) ∧ Below w.heap.size w w' := by
 have hu38 := Try.underlying38
 have HB := Aside0.mk (Below.refl w.heap.size w)
 have H : (some (decide ((wrap64 (a0_1 - a0_0)) > 200))) = some r := h
 clear h
 obtain rfl := Option.some.inj H
 go_enter Try.func76, Try.ntmps76
 go_wp2_with (first | ((with_reducible refine gate_dst (N := 1) rfl ?_); refine box_event ?hg (N := 1) ?hd (cs := #[.int .i64 a0_0, .int .i64 a0_1]) (t := 38) ?hr ?_; (case hd => rfl); (case hg => rfl); (case hr => exact gr_); intro gb443 hg w2 hbox hb; have n0_ := Aside0.mk (below_step (hb_ HB) hb); have n1_ := Aside0.mk (hbox); have n2_ := Aside0.mk ((hz_ HB hg)); have n3_ := Aside0.mk ((hz_ HB hg)); clear HB; have HB := n0_; have BK443 := n1_; have GW443 := n2_; have GE443 := n3_; clear n0_ n1_ n2_ n3_; clear hb hbox hg; have hcz3_0 : w2.cell? ⟨gb443, 0, none⟩ = some (.int .i64 a0_0) := (blk_cell BK443.out 0).trans rfl; have hcz3_1 : w2.cell? ⟨gb443, 1, none⟩ = some (.int .i64 a0_1) := (blk_cell BK443.out 1).trans rfl; have hfz3_0 := blk_frozen BK443.out 0; have hfz3_1 := blk_frozen BK443.out 1))
 go_ret
 exact ⟨by first | rfl | (simp [errW_none, errW_some] <;> rfl) | (simp [*, errW_none, errW_some] <;> rfl), by repeat (first | (with_reducible first | exact HB.out | apply below_alloc | apply pw_below_drewN | apply below_drew1 | refine below_set ?_ GE443.out) | exact HB.out)⟩
end Go.Proofs.Ytdkahcolfcmmpaa.Pr
namespace Go.Proofs.Ytdkahcolfcmmpaa.Pr
open Go.RowKit Go.Proofs.YtdkahcolfcmmpaaW.PrintWords Go.Proofs.YtdkahcolfcmmpaaW.PrintLast Go.Proofs.YtdkahcolfcmmpaaW.PrintMore
attribute [local go_sem] max2_int min2_int max_two min_two max_three min_three max_four min_four   -- for this text's walks alone
set_option linter.unusedVariables false
set_option linter.unusedSimpArgs false
def api_Range_111__figure_Deciding_1.l0 : Nat → List (S38) → Int → Int → Option (Int)
 | 0, _, _, _ => none
 | k + 1, x0, x7, x8 => if x8 < x7 then (if 0 ≤ x8 then (if x8 < (x0.length : Int) then ((figure_Deciding_1.f ((rd_T38 x0 x8).f0) ((rd_T38 x0 x8).f1)).bind fun t456 => (if t456 = true then (some x8) else (api_Range_111__figure_Deciding_1.l0 k x0 x7 (wrap64 (x8 + 1))))) else (none)) else (none)) else (some (-1))
def api_Range_111__figure_Deciding_1.f (k : Nat) (l0 : List (S38))  : Option (Int) := api_Range_111__figure_Deciding_1.l0 k l0 (l0.length : Int) 0
set_option maxHeartbeats 8000000 in
set_option maxRecDepth 100000 in
theorem api_Range_111__figure_Deciding_1.calls (k : Nat) (A0 : Option Addr) (c0 : Nat) (l0 : List (S38))  (r : Int) (w : World) (hr0 : Kd.C k38 w A0 l0.length l0) (hc0 : l0.length ≤ c0) (h : api_Range_111__figure_Deciding_1.f k l0 = some r) :
  Calls Try.prog 111 #[.slice A0 l0.length c0, .func (.func 76) #[] #[]] w fun e w' => e = .returned (.int .i64 r) ∧ Below w.heap.size w w' := by
 have hu38 := Try.underlying38
 have HR0 := Aside0.mk hr0
 have HC0 := Aside0.mk hc0
 clear hr0 hc0
 have HB := Aside0.mk (Below.refl w.heap.size w)
 have H : (api_Range_111__figure_Deciding_1.l0 k l0 (l0.length : Int) 0) = some r := h
 clear h
 have H' := Aside0.mk H
 clear H
 go_enter Try.func111, Try.ntmps111
 go_wp2
 go_loopg [8] k (fun kq v8 w' => ∃ (x8_1 : Int), v8 = .int .i64 x8_1 ∧ Aside0 (api_Range_111__figure_Deciding_1.l0 kq l0 (l0.length : Int) x8_1 = some r) ∧ Aside0 (kq ≤ k) ∧ Aside0 (Below w.heap.size w w'))
 case atStart => exact ⟨(0), rs_, H', ⟨Nat.le_refl _⟩, ⟨by repeat (first | (with_reducible first | exact HB.out | apply below_alloc | apply pw_below_drewN | apply below_drew1) | exact HB.out)⟩⟩
 case round =>
  clear H'
  try clear c1
  try clear p2
  obtain ⟨x8_1, rfl, HA, HK1, HB⟩ := hrel
  cases gk with
  | zero => exact absurd HA.out (by simp [api_Range_111__figure_Deciding_1.l0])
  | succ k1 =>
   have H := HA.out
   clear HA
   simp only [api_Range_111__figure_Deciding_1.l0] at H
   by_cases c3 : x8_1 < (l0.length : Int)
   ·rw [if_pos c3] at H
    have c3b0 : decide (x8_1 < (l0.length : Int)) = true := decide_eq_true c3
    clear c3
    by_cases c4 : 0 ≤ x8_1
    ·rw [if_pos c4] at H
     have c4b0 : decide (0 ≤ x8_1) = true := decide_eq_true c4
     clear c4
     by_cases c5 : x8_1 < (l0.length : Int)
     ·rw [if_pos c5] at H
      have c5b0 : decide (x8_1 < (l0.length : Int)) = true := decide_eq_true c5
      clear c5
      replace H := Option.bind_eq_some_iff.mp H
      obtain ⟨t456, A60, H⟩ := H
      replace H : (if t456 = true then (some x8_1) else (api_Range_111__figure_Deciding_1.l0 k1 l0 (l0.length : Int) (wrap64 (x8_1 + 1)))) = some r := H
      have A6 := Aside0.mk A60
      clear A60
      by_cases c7 : t456 = true
      ·subst c7
       have H1 : (some x8_1) = some r := by rw [if_pos rfl] at H; exact H
       clear H
       have H := H1
       clear H1
       obtain rfl := Option.some.inj H
       have p455 : 0 ≤ (x8_1 : Int) := of_decide_eq_true as_
       have q455 : x8_1 < (l0.length : Int) := of_decide_eq_true as_
       obtain ⟨ad455, e455, hx455_0, hx455_1⟩ := at_T38 HR0.out x8_1 p455 q455
       cases e455
       replace hx455_0 := (HB.out.cell (World.block_lt_of_cell? w _ hx455_0)).trans hx455_0
       replace hx455_1 := (HB.out.cell (World.block_lt_of_cell? w _ hx455_1)).trans hx455_1
       replace p455 := eq_true p455
       replace q455 := eq_true q455
       go_wp2_with (first | (go_at_call 76; (with_reducible refine (figure_Deciding_1.calls ((rd_T38 l0 x8_1).f0) ((rd_T38 l0 x8_1).f1) true _ A6.out).mono ?_); rintro e w8 ⟨rfl, hb⟩; have n0_ := Aside0.mk (below_step (hb_ HB) hb); clear HB; have HB := n0_; clear n0_; (try clear hb); (try clear hb2); (try clear hk); (try clear hi)))
       go_ret
       exact ⟨by first | rfl | (simp [errW_none, errW_some] <;> rfl) | (simp [*, errW_none, errW_some] <;> rfl), by repeat (first | (with_reducible first | exact HB.out | apply below_alloc | apply pw_below_drewN | apply below_drew1) | exact HB.out)⟩
      ·replace c7 := Bool.eq_false_iff.mpr c7
       subst c7
       have H1 : (api_Range_111__figure_Deciding_1.l0 k1 l0 (l0.length : Int) (wrap64 (x8_1 + 1))) = some r := by rw [if_neg (show ¬ (false = true) by decide)] at H; exact H
       clear H
       have H := H1
       clear H1
       have H' := Aside0.mk H
       clear H
       have p455 : 0 ≤ (x8_1 : Int) := of_decide_eq_true as_
       have q455 : x8_1 < (l0.length : Int) := of_decide_eq_true as_
       obtain ⟨ad455, e455, hx455_0, hx455_1⟩ := at_T38 HR0.out x8_1 p455 q455
       cases e455
       replace hx455_0 := (HB.out.cell (World.block_lt_of_cell? w _ hx455_0)).trans hx455_0
       replace hx455_1 := (HB.out.cell (World.block_lt_of_cell? w _ hx455_1)).trans hx455_1
       replace p455 := eq_true p455
       replace q455 := eq_true q455
       go_wp2_with (first | (go_at_call 76; (with_reducible refine (figure_Deciding_1.calls ((rd_T38 l0 x8_1).f0) ((rd_T38 l0 x8_1).f1) false _ A6.out).mono ?_); rintro e w9 ⟨rfl, hb⟩; have n0_ := Aside0.mk (below_step (hb_ HB) hb); clear HB; have HB := n0_; clear n0_; (try clear hb); (try clear hb2); (try clear hk); (try clear hi)))
       go_roundg k1
       case measure => have := HK1.out; omega
       case rel => exact ⟨(wrap64 (x8_1 + 1)), rs_, H', ⟨by have := HK1.out; omega⟩, ⟨by repeat (first | (with_reducible first | exact HB.out | apply below_alloc | apply pw_below_drewN | apply below_drew1) | exact HB.out)⟩⟩
     ·rw [if_neg c5] at H
      exact absurd H (by simp)
    ·rw [if_neg c4] at H
     exact absurd H (by simp)
   ·rw [if_neg c3] at H
    have c3b0 : decide (x8_1 < (l0.length : Int)) = false := decide_eq_false c3
    clear c3
    obtain rfl := Option.some.inj H
    go_wp2
    go_ret
    exact ⟨by first | rfl | (simp [errW_none, errW_some] <;> rfl) | (simp [*, errW_none, errW_some] <;> rfl), by repeat (first | (with_reducible first | exact HB.out | apply below_alloc | apply pw_below_drewN | apply below_drew1) | exact HB.out)⟩
end Go.Proofs.Ytdkahcolfcmmpaa.Pr
namespace Go.Proofs.Ytdkahcolfcmmpaa.Pr
open Go.RowKit Go.Proofs.YtdkahcolfcmmpaaW.PrintWords Go.Proofs.YtdkahcolfcmmpaaW.PrintLast Go.Proofs.YtdkahcolfcmmpaaW.PrintMore
attribute [local go_sem] max2_int min2_int max_two min_two max_three min_three max_four min_four   -- for this text's walks alone
set_option linter.unusedVariables false
set_option linter.unusedSimpArgs false
def api_Range_75__figure_Deciding_1.f (k : Nat) (l0 : List (S38))  : Option (Bool) := (api_Range_111__figure_Deciding_1.f k l0).bind fun t457 => (some (decide (t457 ≥ 0)))
set_option maxHeartbeats 8000000 in
set_option maxRecDepth 100000 in
theorem api_Range_75__figure_Deciding_1.calls (k : Nat) (A0 : Option Addr) (c0 : Nat) (l0 : List (S38))  (r : Bool) (w : World) (hr0 : Kd.C k38 w A0 l0.length l0) (hc0 : l0.length ≤ c0) (h : api_Range_75__figure_Deciding_1.f k l0 = some r) :
  Calls Try.prog 75 #[.slice A0 l0.length c0, .func (.func 76) #[] #[]] w fun e w' => e = .returned (.bool r) ∧ Below w.heap.size w w' := by
 have HR0 := Aside0.mk hr0
 have HC0 := Aside0.mk hc0
 clear hr0 hc0
 have HB := Aside0.mk (Below.refl w.heap.size w)
 have H : ((api_Range_111__figure_Deciding_1.f k l0).bind fun t457 => (some (decide (t457 ≥ 0)))) = some r := h
 clear h
 replace H := Option.bind_eq_some_iff.mp H
 obtain ⟨t457, A30, H⟩ := H
 replace H : (some (decide (t457 ≥ 0))) = some r := H
 have A3 := Aside0.mk A30
 clear A30
 obtain rfl := Option.some.inj H
 go_enter Try.func75, Try.ntmps75
 go_wp2_with (first | ((with_reducible refine gate_callee (f := 111) rfl ?_); refine goesL_ (some 7) rfl rfl Try.func111 (by kernel_rfl) rfl #[.slice A0 l0.length c0, .func (.func 76) #[] #[]] rfl ma_ ?_; (with_reducible refine (api_Range_111__figure_Deciding_1.calls k _ _ l0  t457 _ ?side1 ?side2 A3.out).mono ?_); (case side1 => repeat (first | exact HR0.out | (with_reducible refine Kd.C_alloc ?_ _) | (with_reducible refine Kd.C_drewN ?_ _) | (with_reducible refine Kd.C_drew ?_))); (case side2 => exact HC0.out); rintro e w4 ⟨rfl, hb⟩; refine ⟨_, rfl, ?_⟩; have n0_ := Aside0.mk (below_step (hb_ HB) hb); clear HB; have HB := n0_; clear n0_; (try clear hb); (try clear hb2); (try clear hk); (try clear hi)))
 go_ret
 exact ⟨by first | rfl | (simp [errW_none, errW_some] <;> rfl) | (simp [*, errW_none, errW_some] <;> rfl), by repeat (first | (with_reducible first | exact HB.out | apply below_alloc | apply pw_below_drewN | apply below_drew1) | exact HB.out)⟩
end Go.Proofs.Ytdkahcolfcmmpaa.Pr
namespace Go.Proofs.Ytdkahcolfcmmpaa.Pr
open Go.RowKit Go.Proofs.YtdkahcolfcmmpaaW.PrintWords Go.Proofs.YtdkahcolfcmmpaaW.PrintLast Go.Proofs.YtdkahcolfcmmpaaW.PrintMore
attribute [local go_sem] max2_int min2_int max_two min_two max_three min_three max_four min_four   -- for this text's walks alone
set_option linter.unusedVariables false
set_option linter.unusedSimpArgs false
def speculumbase_Within.f (a0 : Int) (a1 : Int) (a2 : Int) : Option (Bool) := if a0 ≥ a1 then (some (decide (a0 ≤ a2))) else (some false)
set_option maxHeartbeats 8000000 in
set_option maxRecDepth 100000 in
theorem speculumbase_Within.calls (a0 : Int) (a1 : Int) (a2 : Int) (r : Bool) (w : World) (h : speculumbase_Within.f a0 a1 a2 = some r) :
  Calls Try.prog 28 #[.int .i64 a0, .int .i64 a1, .int .i64 a2] w fun e w' => e = .returned (.bool r) ∧ Drawn0 w w' := by
 have H : (if a0 ≥ a1 then (some (decide (a0 ≤ a2))) else (some false)) = some r := h
 clear h
 by_cases c4 : a0 ≥ a1
 ·rw [if_pos c4] at H
  have c4b0 : decide (a1 ≤ a0) = true := decide_eq_true c4
  clear c4
  obtain rfl := Option.some.inj H
  go_enter Try.func28, Try.ntmps28
  go_wp2
  go_ret
  exact ⟨by first | rfl | (simp; done) | (simp [*]; done), by repeat (first | exact Drawn0.refl _ | apply Drawn0.step)⟩
 ·rw [if_neg c4] at H
  have c4b0 : decide (a1 ≤ a0) = false := decide_eq_false c4
  clear c4
  obtain rfl := Option.some.inj H
  go_enter Try.func28, Try.ntmps28
  go_wp2
  go_ret
  exact ⟨by first | rfl | (simp; done) | (simp [*]; done), by repeat (first | exact Drawn0.refl _ | apply Drawn0.step)⟩
end Go.Proofs.Ytdkahcolfcmmpaa.Pr
namespace Go.Proofs.Ytdkahcolfcmmpaa.Pr
open Go.RowKit Go.Proofs.YtdkahcolfcmmpaaW.PrintWords Go.Proofs.YtdkahcolfcmmpaaW.PrintLast Go.Proofs.YtdkahcolfcmmpaaW.PrintMore
attribute [local go_sem] max2_int min2_int max_two min_two max_three min_three max_four min_four   -- for this text's walks alone
set_option linter.unusedVariables false
set_option linter.unusedSimpArgs false
def speculumref06_isHeight.f (a0 : Int) : Option (Bool) := (speculumbase_Within.f a0 (-100000) 100000).bind fun t269 => (some t269)
set_option maxHeartbeats 8000000 in
set_option maxRecDepth 100000 in
theorem speculumref06_isHeight.calls (a0 : Int) (r : Bool) (w : World) (h : speculumref06_isHeight.f a0 = some r) :
  Calls Try.prog 64 #[.int .i64 a0] w fun e w' => e = .returned (.bool r) ∧ Drawn0 w w' := by
 have H : ((speculumbase_Within.f a0 (-100000) 100000).bind fun t269 => (some t269)) = some r := h
 clear h
 replace H := Option.bind_eq_some_iff.mp H
 obtain ⟨t269, A20, H⟩ := H
 replace H : (some t269) = some r := H
 have A2 := Aside0.mk A20
 clear A20
 obtain rfl := Option.some.inj H
 go_enter Try.func64, Try.ntmps64
 go_wp2_with (first | ((with_reducible refine gate_callee (f := 28) rfl ?_); refine goesL_ (some 4) rfl rfl Try.func28 (by kernel_rfl) rfl #[.int .i64 a0, .int .i64 (-100000), .int .i64 100000] rfl ma_ ?_; (with_reducible refine (speculumbase_Within.calls a0 (-100000) 100000 t269 _ A2.out).mono ?_); rintro e w' ⟨rfl, ⟨nd, rfl⟩⟩; refine ⟨_, rfl, ?_⟩))
 go_ret
 exact ⟨by first | rfl | (simp; done) | (simp [*]; done), by repeat (first | exact Drawn0.refl _ | apply Drawn0.step)⟩
end Go.Proofs.Ytdkahcolfcmmpaa.Pr
namespace Go.Proofs.Ytdkahcolfcmmpaa.Pr
open Go.RowKit Go.Proofs.YtdkahcolfcmmpaaW.PrintWords Go.Proofs.YtdkahcolfcmmpaaW.PrintLast Go.Proofs.YtdkahcolfcmmpaaW.PrintMore
attribute [local go_sem] max2_int min2_int max_two min_two max_three min_three max_four min_four   -- for this text's walks alone
set_option linter.unusedVariables false
set_option linter.unusedSimpArgs false
mutual
def speculumref06_CheckEnclosure.l0 : Nat → List (S38) → Int → Option (Int)
 | 0, _, _ => none
 | k + 1, x0, x3 => if x3 < (x0.length : Int) then (if 0 ≤ x3 then ((speculumref06_isHeight.f ((rd_T38 x0 x3).f0)).bind fun t326 => (if t326 = true then ((speculumref06_isHeight.f ((rd_T38 x0 x3).f1)).bind fun t328 => (speculumref06_CheckEnclosure.j1 k x0 x3 (!t328))) else (speculumref06_CheckEnclosure.j1 k x0 x3 true))) else (none)) else (some 0)
def speculumref06_CheckEnclosure.j1 : Nat → List (S38) → Int → Bool → Option (Int)
 | 0, _, _, _ => none
 | k + 1, x0, x3, x29 => if x29 = true then (some 2) else (if 0 ≤ x3 then (if x3 < (x0.length : Int) then (if ((rd_T38 x0 x3).f0) > ((rd_T38 x0 x3).f1) then (some 9) else (speculumref06_CheckEnclosure.l0 k x0 (wrap64 (x3 + 1)))) else (none)) else (none))
end
def speculumref06_CheckEnclosure.f (k : Nat) (l0 : List (S38)) : Option (Int) := (speculumbase_Within.f (l0.length : Int) 1 40).bind fun t324 => (if t324 = true then (speculumref06_CheckEnclosure.l0 k l0 0) else (some 10))
set_option maxHeartbeats 8000000 in
set_option maxRecDepth 100000 in
theorem speculumref06_CheckEnclosure.calls (k : Nat) (A0 : Option Addr) (c0 : Nat) (l0 : List (S38)) (r : Int) (w : World) (hr0 : Kd.C k38 w A0 l0.length l0) (hc0 : l0.length ≤ c0) (h : speculumref06_CheckEnclosure.f k l0 = some r) :
  Calls Try.prog 24 #[.slice A0 l0.length c0] w fun e w' => e = .returned (.int .i64 r) ∧ Drawn0 w w' := by
 have HR0 := Aside0.mk hr0
 have HC0 := Aside0.mk hc0
 clear hr0 hc0
 have H : ((speculumbase_Within.f (l0.length : Int) 1 40).bind fun t324 => (if t324 = true then (speculumref06_CheckEnclosure.l0 k l0 0) else (some 10))) = some r := h
 clear h
 replace H := Option.bind_eq_some_iff.mp H
 obtain ⟨t324, A20, H⟩ := H
 replace H : (if t324 = true then (speculumref06_CheckEnclosure.l0 k l0 0) else (some 10)) = some r := H
 have A2 := Aside0.mk A20
 clear A20
 by_cases c3 : t324 = true
 ·subst c3
  have H1 : (speculumref06_CheckEnclosure.l0 k l0 0) = some r := by rw [if_pos rfl] at H; exact H
  clear H
  have H := H1
  clear H1
  have H' := Aside0.mk H
  clear H
  go_enter Try.func24, Try.ntmps24
  go_wp2_with (first | (go_at_call 28; (with_reducible refine (speculumbase_Within.calls (l0.length : Int) 1 40 true _ A2.out).mono ?_); rintro e w' ⟨rfl, ⟨nd, rfl⟩⟩; (try first | exact ⟨rfl, _, World.drewN_drewN _ _ _⟩ | exact ⟨rfl, _, Eq.trans (World.drewN_drewN _ _ _) (congrArg (World.drewN _) (Nat.add_assoc _ _ _))⟩)))
  repeat (go_quiet (first | (go_at_call 28; (with_reducible refine (speculumbase_Within.calls (l0.length : Int) 1 40 true _ A2.out).mono ?_); rintro e w' ⟨rfl, ⟨nd, rfl⟩⟩; (try first | exact ⟨rfl, _, World.drewN_drewN _ _ _⟩ | exact ⟨rfl, _, Eq.trans (World.drewN_drewN _ _ _) (congrArg (World.drewN _) (Nat.add_assoc _ _ _))⟩))); try go_wp2_with (first | (go_at_call 28; (with_reducible refine (speculumbase_Within.calls (l0.length : Int) 1 40 true _ A2.out).mono ?_); rintro e w' ⟨rfl, ⟨nd, rfl⟩⟩; (try first | exact ⟨rfl, _, World.drewN_drewN _ _ _⟩ | exact ⟨rfl, _, Eq.trans (World.drewN_drewN _ _ _) (congrArg (World.drewN _) (Nat.add_assoc _ _ _))⟩))))
  go_loopg [3] k (fun kq v3 w' => ∃ (x3_1 : Int), v3 = .int .i64 x3_1 ∧ Aside0 (speculumref06_CheckEnclosure.l0 kq l0 x3_1 = some r) ∧ Aside0 (kq ≤ k) ∧ Drawn0 w w')
  case atStart => exact ⟨(0), rs_, H', ⟨Nat.le_refl _⟩, by repeat (first | exact Drawn0.refl _ | apply Drawn0.step)⟩
  case round =>
   clear H'
   try clear c2
   try clear p2
   try clear c3
   obtain ⟨x3_1, rfl, HA, HK1, ⟨m1, rfl⟩⟩ := hrel
   cases gk with
   | zero => exact absurd HA.out (by simp [speculumref06_CheckEnclosure.l0])
   | succ k1 =>
    have H := HA.out
    clear HA
    simp only [speculumref06_CheckEnclosure.l0] at H
    by_cases c4 : x3_1 < (l0.length : Int)
    ·rw [if_pos c4] at H
     have c4b0 : decide (x3_1 < (l0.length : Int)) = true := decide_eq_true c4
     clear c4
     have HC5 := Aside0.mk H
     clear H
     go_upto_region 6 with (fail)
     repeat (go_quiet (fail); go_upto_region 6 with (fail))
     go_cut [29] (fun v29 wc => ∃ (kq : Nat) (x29_4 : Bool), v29 = .bool x29_4 ∧ Aside0 (speculumref06_CheckEnclosure.j1 kq l0 x3_1 x29_4 = some r) ∧ Aside0 (kq ≤ k1) ∧ Drawn0 w wc)
     case first =>
      have H := HC5.out
      clear HC5
      by_cases c6 : 0 ≤ x3_1
      ·rw [if_pos c6] at H
       have c6b0 : decide (0 ≤ x3_1) = true := decide_eq_true c6
       clear c6
       (first | rw [c6b0] | (simp only [i64_w, i32_w]; rw [c6b0]) | skip)
       replace H := Option.bind_eq_some_iff.mp H
       obtain ⟨t326, A70, H⟩ := H
       replace H : (if t326 = true then ((speculumref06_isHeight.f ((rd_T38 l0 x3_1).f1)).bind fun t328 => (speculumref06_CheckEnclosure.j1 k1 l0 x3_1 (!t328))) else (speculumref06_CheckEnclosure.j1 k1 l0 x3_1 true)) = some r := H
       have A7 := Aside0.mk A70
       clear A70
       by_cases c8 : t326 = true
       ·subst c8
        have H1 : ((speculumref06_isHeight.f ((rd_T38 l0 x3_1).f1)).bind fun t328 => (speculumref06_CheckEnclosure.j1 k1 l0 x3_1 (!t328))) = some r := by rw [if_pos rfl] at H; exact H
        clear H
        have H := H1
        clear H1
        replace H := Option.bind_eq_some_iff.mp H
        obtain ⟨t328, A90, H⟩ := H
        replace H : (speculumref06_CheckEnclosure.j1 k1 l0 x3_1 (!t328)) = some r := H
        have A9 := Aside0.mk A90
        clear A90
        have H' := Aside0.mk H
        clear H
        have p325 : 0 ≤ (x3_1 : Int) := of_decide_eq_true as_
        have q325 : x3_1 < (l0.length : Int) := of_decide_eq_true as_
        obtain ⟨ad325, e325, hx325_0, hx325_1⟩ := at_T38 HR0.out x3_1 p325 q325
        cases e325
        replace p325 := eq_true p325
        replace q325 := eq_true q325
        go_wp2_with (first | (go_at_call 64; (with_reducible refine (speculumref06_isHeight.calls ((rd_T38 l0 x3_1).f0) true _ A7.out).mono ?_); rintro e w' ⟨rfl, ⟨nd, rfl⟩⟩; (try first | exact ⟨rfl, _, World.drewN_drewN _ _ _⟩ | exact ⟨rfl, _, Eq.trans (World.drewN_drewN _ _ _) (congrArg (World.drewN _) (Nat.add_assoc _ _ _))⟩); have p327 : 0 ≤ (x3_1 : Int) := of_decide_eq_true as_; have q327 : x3_1 < (l0.length : Int) := of_decide_eq_true as_; obtain ⟨ad327, e327, hx327_0, hx327_1⟩ := at_T38 HR0.out x3_1 p327 q327; obtain rfl : ad325 = ad327 := (by injection e327); replace p327 := eq_true p327; replace q327 := eq_true q327) | (go_at_call 64; (with_reducible refine (speculumref06_isHeight.calls ((rd_T38 l0 x3_1).f1) t328 _ A9.out).mono ?_); rintro e w' ⟨rfl, ⟨nd, rfl⟩⟩; (try first | exact ⟨rfl, _, World.drewN_drewN _ _ _⟩ | exact ⟨rfl, _, Eq.trans (World.drewN_drewN _ _ _) (congrArg (World.drewN _) (Nat.add_assoc _ _ _))⟩)))
        repeat (go_quiet (first | (go_at_call 64; (with_reducible refine (speculumref06_isHeight.calls ((rd_T38 l0 x3_1).f0) true _ A7.out).mono ?_); rintro e w' ⟨rfl, ⟨nd, rfl⟩⟩; (try first | exact ⟨rfl, _, World.drewN_drewN _ _ _⟩ | exact ⟨rfl, _, Eq.trans (World.drewN_drewN _ _ _) (congrArg (World.drewN _) (Nat.add_assoc _ _ _))⟩); have p327 : 0 ≤ (x3_1 : Int) := of_decide_eq_true as_; have q327 : x3_1 < (l0.length : Int) := of_decide_eq_true as_; obtain ⟨ad327, e327, hx327_0, hx327_1⟩ := at_T38 HR0.out x3_1 p327 q327; obtain rfl : ad325 = ad327 := (by injection e327); replace p327 := eq_true p327; replace q327 := eq_true q327) | (go_at_call 64; (with_reducible refine (speculumref06_isHeight.calls ((rd_T38 l0 x3_1).f1) t328 _ A9.out).mono ?_); rintro e w' ⟨rfl, ⟨nd, rfl⟩⟩; (try first | exact ⟨rfl, _, World.drewN_drewN _ _ _⟩ | exact ⟨rfl, _, Eq.trans (World.drewN_drewN _ _ _) (congrArg (World.drewN _) (Nat.add_assoc _ _ _))⟩))); try go_wp2_with (first | (go_at_call 64; (with_reducible refine (speculumref06_isHeight.calls ((rd_T38 l0 x3_1).f0) true _ A7.out).mono ?_); rintro e w' ⟨rfl, ⟨nd, rfl⟩⟩; (try first | exact ⟨rfl, _, World.drewN_drewN _ _ _⟩ | exact ⟨rfl, _, Eq.trans (World.drewN_drewN _ _ _) (congrArg (World.drewN _) (Nat.add_assoc _ _ _))⟩); have p327 : 0 ≤ (x3_1 : Int) := of_decide_eq_true as_; have q327 : x3_1 < (l0.length : Int) := of_decide_eq_true as_; obtain ⟨ad327, e327, hx327_0, hx327_1⟩ := at_T38 HR0.out x3_1 p327 q327; obtain rfl : ad325 = ad327 := (by injection e327); replace p327 := eq_true p327; replace q327 := eq_true q327) | (go_at_call 64; (with_reducible refine (speculumref06_isHeight.calls ((rd_T38 l0 x3_1).f1) t328 _ A9.out).mono ?_); rintro e w' ⟨rfl, ⟨nd, rfl⟩⟩; (try first | exact ⟨rfl, _, World.drewN_drewN _ _ _⟩ | exact ⟨rfl, _, Eq.trans (World.drewN_drewN _ _ _) (congrArg (World.drewN _) (Nat.add_assoc _ _ _))⟩))))
        go_meet
        case rel => exact ⟨_, (!t328), rs_, H', ⟨by have := HK1.out; first | omega | exact Nat.le_refl _⟩, by repeat (first | exact Drawn0.refl _ | apply Drawn0.step)⟩
       ·replace c8 := Bool.eq_false_iff.mpr c8
        subst c8
        have H1 : (speculumref06_CheckEnclosure.j1 k1 l0 x3_1 true) = some r := by rw [if_neg (show ¬ (false = true) by decide)] at H; exact H
        clear H
        have H := H1
        clear H1
        have H' := Aside0.mk H
        clear H
        have p325 : 0 ≤ (x3_1 : Int) := of_decide_eq_true as_
        have q325 : x3_1 < (l0.length : Int) := of_decide_eq_true as_
        obtain ⟨ad325, e325, hx325_0, hx325_1⟩ := at_T38 HR0.out x3_1 p325 q325
        cases e325
        replace p325 := eq_true p325
        replace q325 := eq_true q325
        go_wp2_with (first | (go_at_call 64; (with_reducible refine (speculumref06_isHeight.calls ((rd_T38 l0 x3_1).f0) false _ A7.out).mono ?_); rintro e w' ⟨rfl, ⟨nd, rfl⟩⟩; (try first | exact ⟨rfl, _, World.drewN_drewN _ _ _⟩ | exact ⟨rfl, _, Eq.trans (World.drewN_drewN _ _ _) (congrArg (World.drewN _) (Nat.add_assoc _ _ _))⟩)))
        repeat (go_quiet (first | (go_at_call 64; (with_reducible refine (speculumref06_isHeight.calls ((rd_T38 l0 x3_1).f0) false _ A7.out).mono ?_); rintro e w' ⟨rfl, ⟨nd, rfl⟩⟩; (try first | exact ⟨rfl, _, World.drewN_drewN _ _ _⟩ | exact ⟨rfl, _, Eq.trans (World.drewN_drewN _ _ _) (congrArg (World.drewN _) (Nat.add_assoc _ _ _))⟩))); try go_wp2_with (first | (go_at_call 64; (with_reducible refine (speculumref06_isHeight.calls ((rd_T38 l0 x3_1).f0) false _ A7.out).mono ?_); rintro e w' ⟨rfl, ⟨nd, rfl⟩⟩; (try first | exact ⟨rfl, _, World.drewN_drewN _ _ _⟩ | exact ⟨rfl, _, Eq.trans (World.drewN_drewN _ _ _) (congrArg (World.drewN _) (Nat.add_assoc _ _ _))⟩))))
        go_meet
        case rel => exact ⟨_, (true), rs_, H', ⟨by have := HK1.out; first | omega | exact Nat.le_refl _⟩, by repeat (first | exact Drawn0.refl _ | apply Drawn0.step)⟩
      ·rw [if_neg c6] at H
       exact absurd H (by simp)
     case rest =>
      clear HC5
      try clear c2
      try clear p2
      try clear c3
      try clear p3
      try clear q3
      try clear hx3
      try clear c4
      try clear c4b0
      try clear c6
      try clear c6b0
      try clear c8
      try clear hx325_0
      try clear hx325_1
      try clear hx327_0
      try clear hx327_1
      try clear p2
      try clear p325
      try clear p327
      try clear q325
      try clear q327
      obtain ⟨kq, x29_4, rfl, HA, HJ4, ⟨mc4, rfl⟩⟩ := hcut
      cases kq with
      | zero => exact absurd HA.out (by simp [speculumref06_CheckEnclosure.j1])
      | succ kj4 =>
       have H := HA.out
       clear HA
       simp only [speculumref06_CheckEnclosure.j1] at H
       by_cases c10 : x29_4 = true
       ·subst c10
        have H1 : (some 2) = some r := by rw [if_pos rfl] at H; exact H
        clear H
        have H := H1
        clear H1
        obtain rfl := Option.some.inj H
        go_wp2
        repeat (go_quiet (fail); try go_wp2)
        go_ret
        exact ⟨by first | rfl | (simp; done) | (simp [*]; done), by repeat (first | exact Drawn0.refl _ | apply Drawn0.step)⟩
       ·replace c10 := Bool.eq_false_iff.mpr c10
        subst c10
        have H1 : (if 0 ≤ x3_1 then (if x3_1 < (l0.length : Int) then (if ((rd_T38 l0 x3_1).f0) > ((rd_T38 l0 x3_1).f1) then (some 9) else (speculumref06_CheckEnclosure.l0 kj4 l0 (wrap64 (x3_1 + 1)))) else (none)) else (none)) = some r := by rw [if_neg (show ¬ (false = true) by decide)] at H; exact H
        clear H
        have H := H1
        clear H1
        by_cases c11 : 0 ≤ x3_1
        ·rw [if_pos c11] at H
         have c11b0 : decide (0 ≤ x3_1) = true := decide_eq_true c11
         clear c11
         by_cases c12 : x3_1 < (l0.length : Int)
         ·rw [if_pos c12] at H
          have c12b0 : decide (x3_1 < (l0.length : Int)) = true := decide_eq_true c12
          clear c12
          by_cases c13 : ((rd_T38 l0 x3_1).f0) > ((rd_T38 l0 x3_1).f1)
          ·rw [if_pos c13] at H
           have c13b0 : decide (((rd_T38 l0 x3_1).f1) < ((rd_T38 l0 x3_1).f0)) = true := decide_eq_true c13
           clear c13
           obtain rfl := Option.some.inj H
           have p329 : 0 ≤ (x3_1 : Int) := of_decide_eq_true as_
           have q329 : x3_1 < (l0.length : Int) := of_decide_eq_true as_
           obtain ⟨ad329, e329, hx329_0, hx329_1⟩ := at_T38 HR0.out x3_1 p329 q329
           cases e329
           replace p329 := eq_true p329
           replace q329 := eq_true q329
           have p330 : 0 ≤ (x3_1 : Int) := of_decide_eq_true as_
           have q330 : x3_1 < (l0.length : Int) := of_decide_eq_true as_
           obtain ⟨ad330, e330, hx330_0, hx330_1⟩ := at_T38 HR0.out x3_1 p330 q330
           obtain rfl : ad329 = ad330 := (by injection e330)
           replace p330 := eq_true p330
           replace q330 := eq_true q330
           go_wp2
           repeat (go_quiet (fail); try go_wp2)
           go_ret
           exact ⟨by first | rfl | (simp; done) | (simp [*]; done), by repeat (first | exact Drawn0.refl _ | apply Drawn0.step)⟩
          ·rw [if_neg c13] at H
           have c13b0 : decide (((rd_T38 l0 x3_1).f1) < ((rd_T38 l0 x3_1).f0)) = false := decide_eq_false c13
           clear c13
           have H' := Aside0.mk H
           clear H
           have p329 : 0 ≤ (x3_1 : Int) := of_decide_eq_true as_
           have q329 : x3_1 < (l0.length : Int) := of_decide_eq_true as_
           obtain ⟨ad329, e329, hx329_0, hx329_1⟩ := at_T38 HR0.out x3_1 p329 q329
           cases e329
           replace p329 := eq_true p329
           replace q329 := eq_true q329
           have p330 : 0 ≤ (x3_1 : Int) := of_decide_eq_true as_
           have q330 : x3_1 < (l0.length : Int) := of_decide_eq_true as_
           obtain ⟨ad330, e330, hx330_0, hx330_1⟩ := at_T38 HR0.out x3_1 p330 q330
           obtain rfl : ad329 = ad330 := (by injection e330)
           replace p330 := eq_true p330
           replace q330 := eq_true q330
           go_wp2
           repeat (go_quiet (fail); try go_wp2)
           go_roundg kj4
           case measure => have := HK1.out; have := HJ4.out; omega
           case rel => exact ⟨(wrap64 (x3_1 + 1)), rs_, H', ⟨by have := HK1.out; have := HJ4.out; omega⟩, by repeat (first | exact Drawn0.refl _ | apply Drawn0.step)⟩
         ·rw [if_neg c12] at H
          exact absurd H (by simp)
        ·rw [if_neg c11] at H
         exact absurd H (by simp)
    ·rw [if_neg c4] at H
     have c4b0 : decide (x3_1 < (l0.length : Int)) = false := decide_eq_false c4
     clear c4
     obtain rfl := Option.some.inj H
     go_wp2
     repeat (go_quiet (fail); try go_wp2)
     go_ret
     exact ⟨by first | rfl | (simp; done) | (simp [*]; done), by repeat (first | exact Drawn0.refl _ | apply Drawn0.step)⟩
 ·replace c3 := Bool.eq_false_iff.mpr c3
  subst c3
  have H1 : (some 10) = some r := by rw [if_neg (show ¬ (false = true) by decide)] at H; exact H
  clear H
  have H := H1
  clear H1
  obtain rfl := Option.some.inj H
  go_enter Try.func24, Try.ntmps24
  go_wp2_with (first | (go_at_call 28; (with_reducible refine (speculumbase_Within.calls (l0.length : Int) 1 40 false _ A2.out).mono ?_); rintro e w' ⟨rfl, ⟨nd, rfl⟩⟩; (try first | exact ⟨rfl, _, World.drewN_drewN _ _ _⟩ | exact ⟨rfl, _, Eq.trans (World.drewN_drewN _ _ _) (congrArg (World.drewN _) (Nat.add_assoc _ _ _))⟩)))
  repeat (go_quiet (first | (go_at_call 28; (with_reducible refine (speculumbase_Within.calls (l0.length : Int) 1 40 false _ A2.out).mono ?_); rintro e w' ⟨rfl, ⟨nd, rfl⟩⟩; (try first | exact ⟨rfl, _, World.drewN_drewN _ _ _⟩ | exact ⟨rfl, _, Eq.trans (World.drewN_drewN _ _ _) (congrArg (World.drewN _) (Nat.add_assoc _ _ _))⟩))); try go_wp2_with (first | (go_at_call 28; (with_reducible refine (speculumbase_Within.calls (l0.length : Int) 1 40 false _ A2.out).mono ?_); rintro e w' ⟨rfl, ⟨nd, rfl⟩⟩; (try first | exact ⟨rfl, _, World.drewN_drewN _ _ _⟩ | exact ⟨rfl, _, Eq.trans (World.drewN_drewN _ _ _) (congrArg (World.drewN _) (Nat.add_assoc _ _ _))⟩))))
  go_ret
  exact ⟨by first | rfl | (simp; done) | (simp [*]; done), by repeat (first | exact Drawn0.refl _ | apply Drawn0.step)⟩
end Go.Proofs.Ytdkahcolfcmmpaa.Pr
namespace Go.Proofs.Ytdkahcolfcmmpaa.Pr
open Go.RowKit Go.Proofs.YtdkahcolfcmmpaaW.PrintWords Go.Proofs.YtdkahcolfcmmpaaW.PrintLast Go.Proofs.YtdkahcolfcmmpaaW.PrintMore
attribute [local go_sem] max2_int min2_int max_two min_two max_three min_three max_four min_four   -- for this text's walks alone
set_option linter.unusedVariables false
set_option linter.unusedSimpArgs false
def speculumref06_CheckTolerance.f (a0_0 : Int) (a0_1 : Int) : Option (Int) := (speculumbase_Within.f a0_0 0 200000).bind fun t467 => (if t467 = true then ((speculumbase_Within.f a0_1 0 200000).bind fun t468 => (if t468 = true then (some 0) else (some 2))) else (some 2))
set_option maxHeartbeats 8000000 in
set_option maxRecDepth 100000 in
theorem speculumref06_CheckTolerance.calls (a0_0 : Int) (a0_1 : Int) (r : Int) (w : World) (h : speculumref06_CheckTolerance.f a0_0 a0_1 = some r) :
  Calls Try.prog 78 #[.agg #[.int .i64 a0_0, .int .i64 a0_1]] w fun e w' => e = .returned (.int .i64 r) ∧ Below w.heap.size w w' := by
 have hu59 := Try.underlying59
 have HB := Aside0.mk (Below.refl w.heap.size w)
 have H : ((speculumbase_Within.f a0_0 0 200000).bind fun t467 => (if t467 = true then ((speculumbase_Within.f a0_1 0 200000).bind fun t468 => (if t468 = true then (some 0) else (some 2))) else (some 2))) = some r := h
 clear h
 replace H := Option.bind_eq_some_iff.mp H
 obtain ⟨t467, A20, H⟩ := H
 replace H : (if t467 = true then ((speculumbase_Within.f a0_1 0 200000).bind fun t468 => (if t468 = true then (some 0) else (some 2))) else (some 2)) = some r := H
 have A2 := Aside0.mk A20
 clear A20
 by_cases c3 : t467 = true
 ·subst c3
  have H1 : ((speculumbase_Within.f a0_1 0 200000).bind fun t468 => (if t468 = true then (some 0) else (some 2))) = some r := by rw [if_pos rfl] at H; exact H
  clear H
  have H := H1
  clear H1
  replace H := Option.bind_eq_some_iff.mp H
  obtain ⟨t468, A40, H⟩ := H
  replace H : (if t468 = true then (some 0) else (some 2)) = some r := H
  have A4 := Aside0.mk A40
  clear A40
  by_cases c5 : t468 = true
  ·subst c5
   have H1 : (some 0) = some r := by rw [if_pos rfl] at H; exact H
   clear H
   have H := H1
   clear H1
   obtain rfl := Option.some.inj H
   go_enter Try.func78, Try.ntmps78
   go_wp2_with (first | ((with_reducible refine gate_dst (N := 1) rfl ?_); refine box_event ?hg (N := 1) ?hd (cs := #[.int .i64 a0_0, .int .i64 a0_1]) (t := 59) ?hr ?_; (case hd => rfl); (case hg => rfl); (case hr => exact gr_); intro gb466 hg w6 hbox hb; have n0_ := Aside0.mk (below_step (hb_ HB) hb); have n1_ := Aside0.mk (hbox); have n2_ := Aside0.mk ((hz_ HB hg)); have n3_ := Aside0.mk ((hz_ HB hg)); clear HB; have HB := n0_; have BK466 := n1_; have GW466 := n2_; have GE466 := n3_; clear n0_ n1_ n2_ n3_; clear hb hbox hg; have hcz7_0 : w6.cell? ⟨gb466, 0, none⟩ = some (.int .i64 a0_0) := (blk_cell BK466.out 0).trans rfl; have hcz7_1 : w6.cell? ⟨gb466, 1, none⟩ = some (.int .i64 a0_1) := (blk_cell BK466.out 1).trans rfl; have hfz7_0 := blk_frozen BK466.out 0; have hfz7_1 := blk_frozen BK466.out 1) | ((with_reducible refine gate_callee (f := 28) rfl ?_); refine goesL_ (some 5) rfl rfl Try.func28 (by kernel_rfl) rfl #[.int .i64 a0_0, .int .i64 0, .int .i64 200000] rfl ma_ ?_; (with_reducible refine (speculumbase_Within.calls a0_0 0 200000 true _ A2.out).mono ?_); rintro e w' ⟨rfl, ⟨nd, rfl⟩⟩; refine ⟨_, rfl, ?_⟩) | (go_at_call 28; (with_reducible refine (speculumbase_Within.calls a0_1 0 200000 true _ A4.out).mono ?_); rintro e w' ⟨rfl, ⟨nd, rfl⟩⟩))
   go_ret
   exact ⟨by first | rfl | (simp [errW_none, errW_some] <;> rfl) | (simp [*, errW_none, errW_some] <;> rfl), by repeat (first | (with_reducible first | exact HB.out | apply below_alloc | apply pw_below_drewN | apply below_drew1 | refine below_set ?_ GE466.out) | exact HB.out)⟩
  ·replace c5 := Bool.eq_false_iff.mpr c5
   subst c5
   have H1 : (some 2) = some r := by rw [if_neg (show ¬ (false = true) by decide)] at H; exact H
   clear H
   have H := H1
   clear H1
   obtain rfl := Option.some.inj H
   go_enter Try.func78, Try.ntmps78
   go_wp2_with (first | ((with_reducible refine gate_dst (N := 1) rfl ?_); refine box_event ?hg (N := 1) ?hd (cs := #[.int .i64 a0_0, .int .i64 a0_1]) (t := 59) ?hr ?_; (case hd => rfl); (case hg => rfl); (case hr => exact gr_); intro gb466 hg w8 hbox hb; have n0_ := Aside0.mk (below_step (hb_ HB) hb); have n1_ := Aside0.mk (hbox); have n2_ := Aside0.mk ((hz_ HB hg)); have n3_ := Aside0.mk ((hz_ HB hg)); clear HB; have HB := n0_; have BK466 := n1_; have GW466 := n2_; have GE466 := n3_; clear n0_ n1_ n2_ n3_; clear hb hbox hg; have hcz9_0 : w8.cell? ⟨gb466, 0, none⟩ = some (.int .i64 a0_0) := (blk_cell BK466.out 0).trans rfl; have hcz9_1 : w8.cell? ⟨gb466, 1, none⟩ = some (.int .i64 a0_1) := (blk_cell BK466.out 1).trans rfl; have hfz9_0 := blk_frozen BK466.out 0; have hfz9_1 := blk_frozen BK466.out 1) | ((with_reducible refine gate_callee (f := 28) rfl ?_); refine goesL_ (some 5) rfl rfl Try.func28 (by kernel_rfl) rfl #[.int .i64 a0_0, .int .i64 0, .int .i64 200000] rfl ma_ ?_; (with_reducible refine (speculumbase_Within.calls a0_0 0 200000 true _ A2.out).mono ?_); rintro e w' ⟨rfl, ⟨nd, rfl⟩⟩; refine ⟨_, rfl, ?_⟩) | (go_at_call 28; (with_reducible refine (speculumbase_Within.calls a0_1 0 200000 false _ A4.out).mono ?_); rintro e w' ⟨rfl, ⟨nd, rfl⟩⟩))
   go_ret
   exact ⟨by first | rfl | (simp [errW_none, errW_some] <;> rfl) | (simp [*, errW_none, errW_some] <;> rfl), by repeat (first | (with_reducible first | exact HB.out | apply below_alloc | apply pw_below_drewN | apply below_drew1 | refine below_set ?_ GE466.out) | exact HB.out)⟩
 ·replace c3 := Bool.eq_false_iff.mpr c3
  subst c3
  have H1 : (some 2) = some r := by rw [if_neg (show ¬ (false = true) by decide)] at H; exact H
  clear H
  have H := H1
  clear H1
  obtain rfl := Option.some.inj H
  go_enter Try.func78, Try.ntmps78
  go_wp2_with (first | ((with_reducible refine gate_dst (N := 1) rfl ?_); refine box_event ?hg (N := 1) ?hd (cs := #[.int .i64 a0_0, .int .i64 a0_1]) (t := 59) ?hr ?_; (case hd => rfl); (case hg => rfl); (case hr => exact gr_); intro gb466 hg w10 hbox hb; have n0_ := Aside0.mk (below_step (hb_ HB) hb); have n1_ := Aside0.mk (hbox); have n2_ := Aside0.mk ((hz_ HB hg)); have n3_ := Aside0.mk ((hz_ HB hg)); clear HB; have HB := n0_; have BK466 := n1_; have GW466 := n2_; have GE466 := n3_; clear n0_ n1_ n2_ n3_; clear hb hbox hg; have hcz11_0 : w10.cell? ⟨gb466, 0, none⟩ = some (.int .i64 a0_0) := (blk_cell BK466.out 0).trans rfl; have hcz11_1 : w10.cell? ⟨gb466, 1, none⟩ = some (.int .i64 a0_1) := (blk_cell BK466.out 1).trans rfl; have hfz11_0 := blk_frozen BK466.out 0; have hfz11_1 := blk_frozen BK466.out 1) | ((with_reducible refine gate_callee (f := 28) rfl ?_); refine goesL_ (some 5) rfl rfl Try.func28 (by kernel_rfl) rfl #[.int .i64 a0_0, .int .i64 0, .int .i64 200000] rfl ma_ ?_; (with_reducible refine (speculumbase_Within.calls a0_0 0 200000 false _ A2.out).mono ?_); rintro e w' ⟨rfl, ⟨nd, rfl⟩⟩; refine ⟨_, rfl, ?_⟩))
  go_ret
  exact ⟨by first | rfl | (simp [errW_none, errW_some] <;> rfl) | (simp [*, errW_none, errW_some] <;> rfl), by repeat (first | (with_reducible first | exact HB.out | apply below_alloc | apply pw_below_drewN | apply below_drew1 | refine below_set ?_ GE466.out) | exact HB.out)⟩
end Go.Proofs.Ytdkahcolfcmmpaa.Pr
namespace Go.Proofs.Ytdkahcolfcmmpaa.Pr
open Go.RowKit Go.Proofs.YtdkahcolfcmmpaaW.PrintWords Go.Proofs.YtdkahcolfcmmpaaW.PrintLast Go.Proofs.YtdkahcolfcmmpaaW.PrintMore
attribute [local go_sem] max2_int min2_int max_two min_two max_three min_three max_four min_four   -- for this text's walks alone
set_option linter.unusedVariables false
set_option linter.unusedSimpArgs false
def speculumlaw06_judgeErr.f (k : Nat) (l0 : List (S38)) (a1_0 : Int) (a1_1 : Int) : Option (Int) := (speculumref06_CheckEnclosure.f k l0).bind fun t470 => (if t470 = 0 then ((speculumref06_CheckTolerance.f a1_0 a1_1).bind fun t471 => (some t471)) else (some t470))
set_option maxHeartbeats 8000000 in
set_option maxRecDepth 100000 in
theorem speculumlaw06_judgeErr.calls (k : Nat) (A0 : Option Addr) (c0 : Nat) (l0 : List (S38)) (a1_0 : Int) (a1_1 : Int) (r : Int) (w : World) (hr0 : Kd.C k38 w A0 l0.length l0) (hc0 : l0.length ≤ c0) (h : speculumlaw06_judgeErr.f k l0 a1_0 a1_1 = some r) :
  Calls Try.prog 36 #[.slice A0 l0.length c0, .agg #[.int .i64 a1_0, .int .i64 a1_1]] w fun e w' => e = .returned (.int .i64 r) ∧ Below w.heap.size w w' := by
 have hu59 := Try.underlying59
 have HR0 := Aside0.mk hr0
 have HC0 := Aside0.mk hc0
 clear hr0 hc0
 have HB := Aside0.mk (Below.refl w.heap.size w)
 have H : ((speculumref06_CheckEnclosure.f k l0).bind fun t470 => (if t470 = 0 then ((speculumref06_CheckTolerance.f a1_0 a1_1).bind fun t471 => (some t471)) else (some t470))) = some r := h
 clear h
 replace H := Option.bind_eq_some_iff.mp H
 obtain ⟨t470, A30, H⟩ := H
 replace H : (if t470 = 0 then ((speculumref06_CheckTolerance.f a1_0 a1_1).bind fun t471 => (some t471)) else (some t470)) = some r := H
 have A3 := Aside0.mk A30
 clear A30
 by_cases c4 : t470 = 0
 ·rw [if_pos c4] at H
  have c4b0 : (t470 == 0) = true := beq_iff_eq.mpr c4
  have c4b1 : (t470 != 0) = false := bne_eq_false_iff_eq.mpr c4
  clear c4
  replace H := Option.bind_eq_some_iff.mp H
  obtain ⟨t471, A50, H⟩ := H
  replace H : (some t471) = some r := H
  have A5 := Aside0.mk A50
  clear A50
  obtain rfl := Option.some.inj H
  go_enter Try.func36, Try.ntmps36
  go_wp2_with (first | ((with_reducible refine gate_dst (N := 3) rfl ?_); refine box_event ?hg (N := 3) ?hd (cs := #[.int .i64 a1_0, .int .i64 a1_1]) (t := 59) ?hr ?_; (case hd => rfl); (case hg => rfl); (case hr => exact gr_); intro gb469 hg w6 hbox hb; have n0_ := Aside0.mk (below_step (hb_ HB) hb); have n1_ := Aside0.mk (hbox); have n2_ := Aside0.mk ((hz_ HB hg)); have n3_ := Aside0.mk ((hz_ HB hg)); clear HB; have HB := n0_; have BK469 := n1_; have GW469 := n2_; have GE469 := n3_; clear n0_ n1_ n2_ n3_; clear hb hbox hg) | ((with_reducible refine gate_callee (f := 24) rfl ?_); refine goesL_ (some 7) rfl rfl Try.func24 (by kernel_rfl) rfl #[.slice A0 l0.length c0] rfl ma_ ?_; (with_reducible refine (speculumref06_CheckEnclosure.calls k _ _ l0 t470 _ ?side1 ?side2 A3.out).mono ?_); (case side1 => repeat (first | exact (Kd.C_below HR0.out HB.out) | (with_reducible refine Kd.C_alloc ?_ _) | (with_reducible refine Kd.C_drewN ?_ _) | (with_reducible refine Kd.C_drew ?_))); (case side2 => exact HC0.out); rintro e w' ⟨rfl, ⟨nd, rfl⟩⟩; refine ⟨_, rfl, ?_⟩; have hcz7_0 : w6.cell? ⟨gb469, 0, none⟩ = some (.int .i64 a1_0) := (blk_cell BK469.out 0).trans rfl; have hcz7_1 : w6.cell? ⟨gb469, 1, none⟩ = some (.int .i64 a1_1) := (blk_cell BK469.out 1).trans rfl; have hfz7_0 := blk_frozen BK469.out 0; have hfz7_1 := blk_frozen BK469.out 1) | ((with_reducible refine gate_callee (f := 78) rfl ?_); refine goesL_ (some 12) rfl rfl Try.func78 (by kernel_rfl) rfl #[.agg #[.int .i64 a1_0, .int .i64 a1_1]] rfl ma_ ?_; (with_reducible refine (speculumref06_CheckTolerance.calls a1_0 a1_1 t471 _ A5.out).mono ?_); rintro e w8 ⟨rfl, hb⟩; refine ⟨_, rfl, ?_⟩; have n0_ := Aside0.mk (bb_ BK469 hb); have n1_ := Aside0.mk (below_step (hb_ HB) hb); clear BK469; clear HB; have BK469 := n0_; have HB := n1_; clear n0_ n1_; (try clear hb); (try clear hb2); (try clear hk); (try clear hi)))
  go_ret
  exact ⟨by first | rfl | (simp [errW_none, errW_some] <;> rfl) | (simp [*, errW_none, errW_some] <;> rfl), by repeat (first | (with_reducible first | exact HB.out | apply below_alloc | apply pw_below_drewN | apply below_drew1 | refine below_set ?_ GE469.out) | exact HB.out)⟩
 ·rw [if_neg c4] at H
  have c4b0 : (t470 == 0) = false := beq_eq_false_iff_ne.mpr c4
  have c4b1 : (t470 != 0) = true := bne_iff_ne.mpr c4
  obtain rfl := Option.some.inj H
  go_enter Try.func36, Try.ntmps36
  go_wp2_with (first | ((with_reducible refine gate_dst (N := 3) rfl ?_); refine box_event ?hg (N := 3) ?hd (cs := #[.int .i64 a1_0, .int .i64 a1_1]) (t := 59) ?hr ?_; (case hd => rfl); (case hg => rfl); (case hr => exact gr_); intro gb469 hg w9 hbox hb; have n0_ := Aside0.mk (below_step (hb_ HB) hb); have n1_ := Aside0.mk (hbox); have n2_ := Aside0.mk ((hz_ HB hg)); have n3_ := Aside0.mk ((hz_ HB hg)); clear HB; have HB := n0_; have BK469 := n1_; have GW469 := n2_; have GE469 := n3_; clear n0_ n1_ n2_ n3_; clear hb hbox hg) | ((with_reducible refine gate_callee (f := 24) rfl ?_); refine goesL_ (some 7) rfl rfl Try.func24 (by kernel_rfl) rfl #[.slice A0 l0.length c0] rfl ma_ ?_; (with_reducible refine (speculumref06_CheckEnclosure.calls k _ _ l0 t470 _ ?side1 ?side2 A3.out).mono ?_); (case side1 => repeat (first | exact (Kd.C_below HR0.out HB.out) | (with_reducible refine Kd.C_alloc ?_ _) | (with_reducible refine Kd.C_drewN ?_ _) | (with_reducible refine Kd.C_drew ?_))); (case side2 => exact HC0.out); rintro e w' ⟨rfl, ⟨nd, rfl⟩⟩; refine ⟨_, rfl, ?_⟩))
  go_ret
  exact ⟨by first | rfl | (simp [errW_none, errW_some] <;> rfl) | (simp [*, errW_none, errW_some] <;> rfl), by repeat (first | (with_reducible first | exact HB.out | apply below_alloc | apply pw_below_drewN | apply below_drew1 | refine below_set ?_ GE469.out) | exact HB.out)⟩
end Go.Proofs.Ytdkahcolfcmmpaa.Pr
namespace Go.Proofs.Ytdkahcolfcmmpaa.Pr
open Go.RowKit Go.Proofs.YtdkahcolfcmmpaaW.PrintWords Go.Proofs.YtdkahcolfcmmpaaW.PrintLast Go.Proofs.YtdkahcolfcmmpaaW.PrintMore
attribute [local go_sem] max2_int min2_int max_two min_two max_three min_three max_four min_four   -- for this text's walks alone
set_option linter.unusedVariables false
set_option linter.unusedSimpArgs false
def speculumbase_Abs.f (a0 : Int) : Option (Int) := if a0 < 0 then (some (wrap64 (-a0))) else (some a0)
set_option maxHeartbeats 8000000 in
set_option maxRecDepth 100000 in
theorem speculumbase_Abs.calls (a0 : Int) (r : Int) (w : World) (h : speculumbase_Abs.f a0 = some r) :
  Calls Try.prog 29 #[.int .i64 a0] w fun e w' => e = .returned (.int .i64 r) ∧ Drawn0 w w' := by
 have H : (if a0 < 0 then (some (wrap64 (-a0))) else (some a0)) = some r := h
 clear h
 by_cases c2 : a0 < 0
 ·rw [if_pos c2] at H
  have c2b0 : decide (a0 < 0) = true := decide_eq_true c2
  clear c2
  obtain rfl := Option.some.inj H
  go_enter Try.func29, Try.ntmps29
  go_wp2
  go_ret
  exact ⟨by first | rfl | (simp; done) | (simp [*]; done), by repeat (first | exact Drawn0.refl _ | apply Drawn0.step)⟩
 ·rw [if_neg c2] at H
  have c2b0 : decide (a0 < 0) = false := decide_eq_false c2
  clear c2
  obtain rfl := Option.some.inj H
  go_enter Try.func29, Try.ntmps29
  go_wp2
  go_ret
  exact ⟨by first | rfl | (simp; done) | (simp [*]; done), by repeat (first | exact Drawn0.refl _ | apply Drawn0.step)⟩
end Go.Proofs.Ytdkahcolfcmmpaa.Pr
namespace Go.Proofs.Ytdkahcolfcmmpaa.Pr
open Go.RowKit Go.Proofs.YtdkahcolfcmmpaaW.PrintWords Go.Proofs.YtdkahcolfcmmpaaW.PrintLast Go.Proofs.YtdkahcolfcmmpaaW.PrintMore
attribute [local go_sem] max2_int min2_int max_two min_two max_three min_three max_four min_four   -- for this text's walks alone
set_option linter.unusedVariables false
set_option linter.unusedSimpArgs false
def speculumref06_Bound.f (a0_0 : Int) (a0_1 : Int) (a1 : Int) (a2 : Int) : Option (Int) := (speculumbase_Abs.f (wrap64 (a1 - a2))).bind fun t473 => (some (mn a0_0 (wrap64 (a0_1 * t473))))
set_option maxHeartbeats 8000000 in
set_option maxRecDepth 100000 in
theorem speculumref06_Bound.calls (a0_0 : Int) (a0_1 : Int) (a1 : Int) (a2 : Int) (r : Int) (w : World) (h : speculumref06_Bound.f a0_0 a0_1 a1 a2 = some r) :
  Calls Try.prog 114 #[.agg #[.int .i64 a0_0, .int .i64 a0_1], .int .i64 a1, .int .i64 a2] w fun e w' => e = .returned (.int .i64 r) ∧ Below w.heap.size w w' := by
 have hu59 := Try.underlying59
 have HB := Aside0.mk (Below.refl w.heap.size w)
 have H : ((speculumbase_Abs.f (wrap64 (a1 - a2))).bind fun t473 => (some (mn a0_0 (wrap64 (a0_1 * t473))))) = some r := h
 clear h
 replace H := Option.bind_eq_some_iff.mp H
 obtain ⟨t473, A40, H⟩ := H
 replace H : (some (mn a0_0 (wrap64 (a0_1 * t473)))) = some r := H
 have A4 := Aside0.mk A40
 clear A40
 obtain ⟨ji5, hji5⟩ : ∃ j_ : Int, (mn a0_0 (wrap64 (a0_1 * t473))) = j_ := ⟨_, rfl⟩
 replace H : (some ji5) = some r := by first | (rw [hji5] at H; exact H) | (simp only [hji5] at H ⊢; exact H)
 (try rw [hji5] at A4)
 have hji5_ : (if (wrap64 (a0_1 * t473)) < a0_0 then (wrap64 (a0_1 * t473)) else a0_0) = ji5 := hji5
 obtain rfl := Option.some.inj H
 go_enter Try.func114, Try.ntmps114
 go_wp2_with (first | ((with_reducible refine gate_dst (N := 3) rfl ?_); refine box_event ?hg (N := 3) ?hd (cs := #[.int .i64 a0_0, .int .i64 a0_1]) (t := 59) ?hr ?_; (case hd => rfl); (case hg => rfl); (case hr => exact gr_); intro gb472 hg w6 hbox hb; have n0_ := Aside0.mk (below_step (hb_ HB) hb); have n1_ := Aside0.mk (hbox); have n2_ := Aside0.mk ((hz_ HB hg)); have n3_ := Aside0.mk ((hz_ HB hg)); clear HB; have HB := n0_; have BK472 := n1_; have GW472 := n2_; have GE472 := n3_; clear n0_ n1_ n2_ n3_; clear hb hbox hg; have hcz7_0 : w6.cell? ⟨gb472, 0, none⟩ = some (.int .i64 a0_0) := (blk_cell BK472.out 0).trans rfl; have hcz7_1 : w6.cell? ⟨gb472, 1, none⟩ = some (.int .i64 a0_1) := (blk_cell BK472.out 1).trans rfl; have hfz7_0 := blk_frozen BK472.out 0; have hfz7_1 := blk_frozen BK472.out 1) | (go_at_call 29; (with_reducible refine (speculumbase_Abs.calls (wrap64 (a1 - a2)) t473 _ A4.out).mono ?_); rintro e w' ⟨rfl, ⟨nd, rfl⟩⟩; (try first | exact ⟨rfl, _, World.drewN_drewN _ _ _⟩ | exact ⟨rfl, _, Eq.trans (World.drewN_drewN _ _ _) (congrArg (World.drewN _) (Nat.add_assoc _ _ _))⟩)))
 repeat (go_quiet (first | ((with_reducible refine gate_dst (N := 3) rfl ?_); refine box_event ?hg (N := 3) ?hd (cs := #[.int .i64 a0_0, .int .i64 a0_1]) (t := 59) ?hr ?_; (case hd => rfl); (case hg => rfl); (case hr => exact gr_); intro gb472 hg w6 hbox hb; have n0_ := Aside0.mk (below_step (hb_ HB) hb); have n1_ := Aside0.mk (hbox); have n2_ := Aside0.mk ((hz_ HB hg)); have n3_ := Aside0.mk ((hz_ HB hg)); clear HB; have HB := n0_; have BK472 := n1_; have GW472 := n2_; have GE472 := n3_; clear n0_ n1_ n2_ n3_; clear hb hbox hg; have hcz7_0 : w6.cell? ⟨gb472, 0, none⟩ = some (.int .i64 a0_0) := (blk_cell BK472.out 0).trans rfl; have hcz7_1 : w6.cell? ⟨gb472, 1, none⟩ = some (.int .i64 a0_1) := (blk_cell BK472.out 1).trans rfl; have hfz7_0 := blk_frozen BK472.out 0; have hfz7_1 := blk_frozen BK472.out 1) | (go_at_call 29; (with_reducible refine (speculumbase_Abs.calls (wrap64 (a1 - a2)) t473 _ A4.out).mono ?_); rintro e w' ⟨rfl, ⟨nd, rfl⟩⟩; (try first | exact ⟨rfl, _, World.drewN_drewN _ _ _⟩ | exact ⟨rfl, _, Eq.trans (World.drewN_drewN _ _ _) (congrArg (World.drewN _) (Nat.add_assoc _ _ _))⟩))); try go_wp2_with (first | ((with_reducible refine gate_dst (N := 3) rfl ?_); refine box_event ?hg (N := 3) ?hd (cs := #[.int .i64 a0_0, .int .i64 a0_1]) (t := 59) ?hr ?_; (case hd => rfl); (case hg => rfl); (case hr => exact gr_); intro gb472 hg w6 hbox hb; have n0_ := Aside0.mk (below_step (hb_ HB) hb); have n1_ := Aside0.mk (hbox); have n2_ := Aside0.mk ((hz_ HB hg)); have n3_ := Aside0.mk ((hz_ HB hg)); clear HB; have HB := n0_; have BK472 := n1_; have GW472 := n2_; have GE472 := n3_; clear n0_ n1_ n2_ n3_; clear hb hbox hg; have hcz7_0 : w6.cell? ⟨gb472, 0, none⟩ = some (.int .i64 a0_0) := (blk_cell BK472.out 0).trans rfl; have hcz7_1 : w6.cell? ⟨gb472, 1, none⟩ = some (.int .i64 a0_1) := (blk_cell BK472.out 1).trans rfl; have hfz7_0 := blk_frozen BK472.out 0; have hfz7_1 := blk_frozen BK472.out 1) | (go_at_call 29; (with_reducible refine (speculumbase_Abs.calls (wrap64 (a1 - a2)) t473 _ A4.out).mono ?_); rintro e w' ⟨rfl, ⟨nd, rfl⟩⟩; (try first | exact ⟨rfl, _, World.drewN_drewN _ _ _⟩ | exact ⟨rfl, _, Eq.trans (World.drewN_drewN _ _ _) (congrArg (World.drewN _) (Nat.add_assoc _ _ _))⟩))))
 go_ret
 exact ⟨by first | rfl | (simp [errW_none, errW_some] <;> rfl) | (simp only [← hji5]; first | rfl | (simp [errW_none, errW_some] <;> rfl)) | (simp [*, errW_none, errW_some] <;> rfl), by repeat (first | (with_reducible first | exact HB.out | apply below_alloc | apply pw_below_drewN | apply below_drew1 | refine below_set ?_ GE472.out) | exact HB.out)⟩
end Go.Proofs.Ytdkahcolfcmmpaa.Pr
namespace Go.Proofs.Ytdkahcolfcmmpaa.Pr
open Go.RowKit Go.Proofs.YtdkahcolfcmmpaaW.PrintWords Go.Proofs.YtdkahcolfcmmpaaW.PrintLast Go.Proofs.YtdkahcolfcmmpaaW.PrintMore
attribute [local go_sem] max2_int min2_int max_two min_two max_three min_three max_four min_four   -- for this text's walks alone
set_option linter.unusedVariables false
set_option linter.unusedSimpArgs false
mutual
def speculumref06_Refused.l0 : Nat → List (S38) → Int → Int → Int → Option (Int × Int × Bool)
 | 0, _, _, _, _ => none
 | k + 1, x0, x6, x475000, x475001 => if x6 < (x0.length : Int) then (speculumref06_Refused.l1 k x0 x6 0 x475000 x475001) else (some (0, 0, false))
def speculumref06_Refused.l1 : Nat → List (S38) → Int → Int → Int → Int → Option (Int × Int × Bool)
 | 0, _, _, _, _, _ => none
 | k + 1, x0, x6, x7, x475000, x475001 => if x7 < (x0.length : Int) then (if x6 = x7 then (speculumref06_Refused.l1 k x0 x6 (wrap64 (x7 + 1)) x475000 x475001) else (if 0 ≤ x6 then (if x6 < (x0.length : Int) then (if 0 ≤ x7 then ((speculumref06_Bound.f x475000 x475001 x6 x7).bind fun t478 => (if (wrap64 (((rd_T38 x0 x6).f0) - ((rd_T38 x0 x7).f1))) > t478 then (some (x6, x7, true)) else (speculumref06_Refused.l1 k x0 x6 (wrap64 (x7 + 1)) x475000 x475001))) else (none)) else (none)) else (none))) else (speculumref06_Refused.l0 k x0 (wrap64 (x6 + 1)) x475000 x475001)
end
def speculumref06_Refused.f (k : Nat) (l0 : List (S38)) (a1_0 : Int) (a1_1 : Int) : Option (Int × Int × Bool) := speculumref06_Refused.l0 k l0 0 a1_0 a1_1
def speculumref06_Refused.T7 : Bool × List (List Nat × List Nat) := (true, [([], []), ([], []), ([0, 1], [0, 1]), ([2], [2]), ([3], [3]), ([3], [3]), ([4, 5, 3], [3, 4, 5]), ([6, 3], [3, 6]), ([7, 3], [3, 7]), ([3], [3]), ([3], [3]), ([9, 10, 3], [3, 9, 10]), ([11, 3], [3, 11]), ([12, 3], [3, 12]), ([8, 13, 3], [3, 8, 13]), ([3], [3]), ([3], [3]), ([3], [3]), ([15, 16, 17, 3, 3], [3, 15, 16, 17]), ([14, 18, 3], [3, 14, 18]), ([3, 19], [3, 19])])
def speculumref06_Refused.B7 : List Nat := [0, 0, 3, 7, 15, 15, 63, 127, 255, 15, 15, 1551, 3599, 7695, 16383, 15, 15, 15, 229391, 524287, 1048575]
theorem speculumref06_Refused.tab7 : rtab .any (opsOf Try.f113 7) = speculumref06_Refused.T7 := by kernel_rfl
theorem speculumref06_Refused.bits7 : waitsOk speculumref06_Refused.T7.2 speculumref06_Refused.B7 = true := by kernel_rfl
set_option maxHeartbeats 8000000 in
set_option maxRecDepth 100000 in
theorem speculumref06_Refused.calls (k : Nat) (A0 : Option Addr) (c0 : Nat) (l0 : List (S38)) (a1_0 : Int) (a1_1 : Int) (r1 : Int) (r2 : Int) (r3 : Bool) (w : World) (hr0 : Kd.C k38 w A0 l0.length l0) (hc0 : l0.length ≤ c0) (h : speculumref06_Refused.f k l0 a1_0 a1_1 = some (r1, r2, r3)) :
  Calls Try.prog 113 #[.slice A0 l0.length c0, .agg #[.int .i64 a1_0, .int .i64 a1_1]] w fun e w' => e = .returned (.tuple #[.agg #[.int .i64 r1, .int .i64 r2], .bool r3]) ∧ Below w.heap.size w w' := by
 have hu59 := Try.underlying59
 have hu48 := Try.underlying48
 have HR0 := Aside0.mk hr0
 have HC0 := Aside0.mk hc0
 clear hr0 hc0
 have HB := Aside0.mk (Below.refl w.heap.size w)
 have H : (speculumref06_Refused.l0 k l0 0 a1_0 a1_1) = some (r1, r2, r3) := h
 clear h
 have H' := Aside0.mk H
 clear H
 go_enter Try.func113, Try.ntmps113
 go_wp2_with (first | ((with_reducible refine gate_dst (N := 3) rfl ?_); refine box_event ?hg (N := 3) ?hd (cs := #[.int .i64 a1_0, .int .i64 a1_1]) (t := 59) ?hr ?_; (case hd => rfl); (case hg => rfl); (case hr => exact gr_); intro gb474 hg w3 hbox hb; have n0_ := Aside0.mk (below_step (hb_ HB) hb); have n1_ := Aside0.mk (hbox); have n2_ := Aside0.mk ((hz_ HB hg)); have n3_ := Aside0.mk ((hz_ HB hg)); clear HB; have HB := n0_; have BK474 := n1_; have GW474 := n2_; have GE474 := n3_; clear n0_ n1_ n2_ n3_; clear hb hbox hg) | ((with_reducible refine gate_dst (N := 4) rfl ?_); refine box_event ?hg (N := 4) ?hd (cs := #[.int .i64 0, .int .i64 0]) (t := 48) ?hr ?_; (case hd => rfl); (case hg => rfl); (case hr => exact gr_); intro gb475 hg w4 hbox hb; have n0_ := Aside0.mk (bb_ BK474 hb); have n1_ := Aside0.mk (below_step (hb_ HB) hb); have n2_ := Aside0.mk (hbox); have n3_ := Aside0.mk ((hz_ HB hg)); have n4_ := Aside0.mk ((hz_ HB hg)); have n5_ := Aside0.mk ((nl_ BK474 hg)); have n6_ := Aside0.mk ((ng_ BK474 hg)); clear BK474; clear HB; have BK474 := n0_; have HB := n1_; have BK475 := n2_; have GW475 := n3_; have GE475 := n4_; have NB474_475 := n5_; have NB475_474 := n6_; clear n0_ n1_ n2_ n3_ n4_ n5_ n6_; clear hb hbox hg))
 go_loopg [6] k (fun kq v6 w' => ∃ (x6_1 : Int) (x476000_1 : Int) (x476001_1 : Int), v6 = .int .i64 x6_1 ∧ Aside0 (speculumref06_Refused.l0 kq l0 x6_1 a1_0 a1_1 = some (r1, r2, r3)) ∧ Aside0 (kq ≤ k) ∧ Aside0 (w'.heap[gb474]? = some (.cells #[.int .i64 a1_0, .int .i64 a1_1] 59 (0, 0))) ∧ Aside0 (w'.heap[gb475]? = some (.cells #[.int .i64 x476000_1, .int .i64 x476001_1] 48 (0, 0))) ∧ Aside0 (Below w.heap.size w w'))
 case atStart => exact ⟨(0), (0), (0), rs_, H', ⟨Nat.le_refl _⟩, ⟨by (with_reducible repeat (first | refine blk_drewN ?_ _ | refine blk_drew ?_ | refine blk_alloc ?_ _)); exact BK474.out⟩, ⟨by (with_reducible repeat (first | refine blk_drewN ?_ _ | refine blk_drew ?_ | refine blk_alloc ?_ _)); exact BK475.out⟩, ⟨by repeat (first | (with_reducible first | exact HB.out | apply below_alloc | apply pw_below_drewN | apply below_drew1 | refine below_set ?_ GE474.out | refine below_set ?_ GE475.out) | exact HB.out)⟩⟩
 case round =>
  clear H'
  try clear c1
  try clear p2
  obtain ⟨x6_1, x476000_1, x476001_1, rfl, HA, HK1, BK474, BK475, HB⟩ := hrel
  cases gk with
  | zero => exact absurd HA.out (by simp [speculumref06_Refused.l0])
  | succ k1 =>
   have H := HA.out
   clear HA
   simp only [speculumref06_Refused.l0] at H
   by_cases c5 : x6_1 < (l0.length : Int)
   ·rw [if_pos c5] at H
    have c5b0 : decide (x6_1 < (l0.length : Int)) = true := decide_eq_true c5
    clear c5
    have H' := Aside0.mk H
    clear H
    go_wp2
    go_loopg [7] k1 (fun kq v7 w' => ∃ (x7_2 : Int) (x476000_2 : Int) (x476001_2 : Int), v7 = .int .i64 x7_2 ∧ Aside0 (speculumref06_Refused.l1 kq l0 x6_1 x7_2 a1_0 a1_1 = some (r1, r2, r3)) ∧ Aside0 (kq ≤ k1) ∧ Aside0 (w'.heap[gb474]? = some (.cells #[.int .i64 a1_0, .int .i64 a1_1] 59 (0, 0))) ∧ Aside0 (w'.heap[gb475]? = some (.cells #[.int .i64 x476000_2, .int .i64 x476001_2] 48 (0, 0))) ∧ Aside0 (Below w.heap.size w w'))
    case atStart => exact ⟨(0), (x476000_1), (x476001_1), rs_, H', ⟨Nat.le_refl _⟩, ⟨by (with_reducible repeat (first | refine blk_drewN ?_ _ | refine blk_drew ?_ | refine blk_alloc ?_ _)); exact BK474.out⟩, ⟨by (with_reducible repeat (first | refine blk_drewN ?_ _ | refine blk_drew ?_ | refine blk_alloc ?_ _)); exact BK475.out⟩, ⟨by repeat (first | (with_reducible first | exact HB.out | apply below_alloc | apply pw_below_drewN | apply below_drew1 | refine below_set ?_ GE474.out | refine below_set ?_ GE475.out) | exact HB.out)⟩⟩
    case round =>
     clear H'
     try clear c1
     try clear p2
     try clear c5
     try clear c5b0
     try clear p2
     obtain ⟨x7_2, x476000_2, x476001_2, rfl, HA, HK2, BK474, BK475, HB⟩ := hrel
     cases gk with
     | zero => exact absurd HA.out (by simp [speculumref06_Refused.l1])
     | succ k2 =>
      have H := HA.out
      clear HA
      simp only [speculumref06_Refused.l1] at H
      by_cases c6 : x7_2 < (l0.length : Int)
      ·rw [if_pos c6] at H
       have c6b0 : decide (x7_2 < (l0.length : Int)) = true := decide_eq_true c6
       clear c6
       by_cases c7 : x6_1 = x7_2
       ·rw [if_pos c7] at H
        have c7b0 : (x6_1 == x7_2) = true := beq_iff_eq.mpr c7
        have c7b1 : (x6_1 != x7_2) = false := bne_eq_false_iff_eq.mpr c7
        clear c7
        have H' := Aside0.mk H
        clear H
        try go_wp2
        have n0_ := Aside0.mk (blk_drew BK474.out)
        have n1_ := Aside0.mk (blk_drew BK475.out)
        have n2_ := Aside0.mk (below_drew1 HB.out)
        clear BK474
        clear BK475
        clear HB
        have BK474 := n0_
        have BK475 := n1_
        have HB := n2_
        clear n0_ n1_ n2_
        refine start_ (n := 21) (S := fun w' => True) (ds := []) #[false, false, false, false, false, false, false, false, false, false, false, false, false, false, false, false, false, false, false, false, false] (by kernel_rfl) rfl rfl trivial (fun hHeld => ?_); refine with_tabW speculumref06_Refused.tab7 speculumref06_Refused.bits7 (fun HT_ HW_ => ?_)
        generalize wr.drew = w8 at BK474 BK475 HB hHeld ⊢
        refine pure_ (i := 0) (N := some 20) (v := ?_) (a' := ?_) #[true, false, false, false, false, false, false, false, false, false, false, false, false, false, false, false, false, false, false, false, false] rfl rfl (any_of HT_.out (by kernel_rfl)) (fun _ _ _ h => h) (Or.inl ⟨by rfl, ?_⟩) ?_ ?_
        rotate_left
        ·intro w'; go_simp; with_reducible rfl
        rotate_left
        ·simp only [Act.put, List.setIfInBounds_toArray, List.set_cons_zero, List.set_cons_succ, i64_w, i32_w]; rfl
        refine pure_ (i := 1) (N := some 21) (v := ?_) (a' := ?_) #[true, true, false, false, false, false, false, false, false, false, false, false, false, false, false, false, false, false, false, false, false] rfl rfl (any_of HT_.out (by kernel_rfl)) (fun _ _ _ h => h) (Or.inl ⟨by rfl, ?_⟩) ?_ ?_
        rotate_left
        ·intro w'; go_simp; with_reducible rfl
        rotate_left
        ·simp only [Act.put, List.setIfInBounds_toArray, List.set_cons_zero, List.set_cons_succ, i64_w, i32_w]; rfl
        refine pure_ (i := 2) (N := some 22) (v := ?_) (a' := ?_) #[true, true, true, false, false, false, false, false, false, false, false, false, false, false, false, false, false, false, false, false, false] rfl rfl (any_of HT_.out (by kernel_rfl)) (fun _ _ _ h => h) (Or.inl ⟨by rfl, ?_⟩) ?_ ?_
        rotate_left
        ·intro w'; go_simp; with_reducible rfl
        rotate_left
        ·simp only [Act.put, List.setIfInBounds_toArray, List.set_cons_zero, List.set_cons_succ, i64_w, i32_w]; rfl
        refine pure_ (i := 3) (N := some 23) (v := ?_) (a' := ?_) #[true, true, true, true, false, false, false, false, false, false, false, false, false, false, false, false, false, false, false, false, false] rfl rfl (any_of HT_.out (by kernel_rfl)) (fun _ _ _ h => h) (Or.inl ⟨by rfl, ?_⟩) ?_ ?_
        rotate_left
        ·intro w'; go_simp; with_reducible rfl
        rotate_left
        ·simp only [Act.put, List.setIfInBounds_toArray, List.set_cons_zero, List.set_cons_succ, i64_w, i32_w]; rfl
        refine pure_ (i := 4) (N := some 24) (v := undef) (a' := ?_) #[true, true, true, true, true, false, false, false, false, false, false, false, false, false, false, false, false, false, false, false, false] rfl rfl (any_of HT_.out (by kernel_rfl)) (fun _ _ _ h => h) (Or.inr ⟨by rfl, rfl⟩) ?_ ?_
        rotate_left
        ·simp only [Act.put, List.setIfInBounds_toArray, List.set_cons_zero, List.set_cons_succ, i64_w, i32_w]; rfl
        refine pure_ (i := 5) (N := some 25) (v := undef) (a' := ?_) #[true, true, true, true, true, true, false, false, false, false, false, false, false, false, false, false, false, false, false, false, false] rfl rfl (any_of HT_.out (by kernel_rfl)) (fun _ _ _ h => h) (Or.inr ⟨by rfl, rfl⟩) ?_ ?_
        rotate_left
        ·simp only [Act.put, List.setIfInBounds_toArray, List.set_cons_zero, List.set_cons_succ, i64_w, i32_w]; rfl
        refine pure_ (i := 6) (N := some 26) (v := undef) (a' := ?_) #[true, true, true, true, true, true, true, false, false, false, false, false, false, false, false, false, false, false, false, false, false] rfl rfl (any_of HT_.out (by kernel_rfl)) (fun _ _ _ h => h) (Or.inr ⟨by rfl, rfl⟩) ?_ ?_
        rotate_left
        ·simp only [Act.put, List.setIfInBounds_toArray, List.set_cons_zero, List.set_cons_succ, i64_w, i32_w]; rfl
        refine pure_ (i := 7) (N := some 27) (v := undef) (a' := ?_) #[true, true, true, true, true, true, true, true, false, false, false, false, false, false, false, false, false, false, false, false, false] rfl rfl (any_of HT_.out (by kernel_rfl)) (fun _ _ _ h => h) (Or.inr ⟨by rfl, rfl⟩) ?_ ?_
        rotate_left
        ·simp only [Act.put, List.setIfInBounds_toArray, List.set_cons_zero, List.set_cons_succ, i64_w, i32_w]; rfl
        refine pure_ (i := 8) (N := some 28) (v := undef) (a' := ?_) #[true, true, true, true, true, true, true, true, true, false, false, false, false, false, false, false, false, false, false, false, false] rfl rfl (any_of HT_.out (by kernel_rfl)) (fun _ _ _ h => h) (Or.inr ⟨by rfl, rfl⟩) ?_ ?_
        rotate_left
        ·simp only [Act.put, List.setIfInBounds_toArray, List.set_cons_zero, List.set_cons_succ, i64_w, i32_w]; rfl
        refine pure_ (i := 9) (N := some 29) (v := undef) (a' := ?_) #[true, true, true, true, true, true, true, true, true, true, false, false, false, false, false, false, false, false, false, false, false] rfl rfl (any_of HT_.out (by kernel_rfl)) (fun _ _ _ h => h) (Or.inr ⟨by rfl, rfl⟩) ?_ ?_
        rotate_left
        ·simp only [Act.put, List.setIfInBounds_toArray, List.set_cons_zero, List.set_cons_succ, i64_w, i32_w]; rfl
        refine pure_ (i := 10) (N := some 30) (v := undef) (a' := ?_) #[true, true, true, true, true, true, true, true, true, true, true, false, false, false, false, false, false, false, false, false, false] rfl rfl (any_of HT_.out (by kernel_rfl)) (fun _ _ _ h => h) (Or.inr ⟨by rfl, rfl⟩) ?_ ?_
        rotate_left
        ·simp only [Act.put, List.setIfInBounds_toArray, List.set_cons_zero, List.set_cons_succ, i64_w, i32_w]; rfl
        refine pure_ (i := 11) (N := some 31) (v := undef) (a' := ?_) #[true, true, true, true, true, true, true, true, true, true, true, true, false, false, false, false, false, false, false, false, false] rfl rfl (any_of HT_.out (by kernel_rfl)) (fun _ _ _ h => h) (Or.inr ⟨by rfl, rfl⟩) ?_ ?_
        rotate_left
        ·simp only [Act.put, List.setIfInBounds_toArray, List.set_cons_zero, List.set_cons_succ, i64_w, i32_w]; rfl
        refine pure_ (i := 12) (N := some 32) (v := undef) (a' := ?_) #[true, true, true, true, true, true, true, true, true, true, true, true, true, false, false, false, false, false, false, false, false] rfl rfl (any_of HT_.out (by kernel_rfl)) (fun _ _ _ h => h) (Or.inr ⟨by rfl, rfl⟩) ?_ ?_
        rotate_left
        ·simp only [Act.put, List.setIfInBounds_toArray, List.set_cons_zero, List.set_cons_succ, i64_w, i32_w]; rfl
        refine pure_ (i := 13) (N := some 33) (v := undef) (a' := ?_) #[true, true, true, true, true, true, true, true, true, true, true, true, true, true, false, false, false, false, false, false, false] rfl rfl (any_of HT_.out (by kernel_rfl)) (fun _ _ _ h => h) (Or.inr ⟨by rfl, rfl⟩) ?_ ?_
        rotate_left
        ·simp only [Act.put, List.setIfInBounds_toArray, List.set_cons_zero, List.set_cons_succ, i64_w, i32_w]; rfl
        refine pure_ (i := 14) (N := some 34) (v := undef) (a' := ?_) #[true, true, true, true, true, true, true, true, true, true, true, true, true, true, true, false, false, false, false, false, false] rfl rfl (any_of HT_.out (by kernel_rfl)) (fun _ _ _ h => h) (Or.inr ⟨by rfl, rfl⟩) ?_ ?_
        rotate_left
        ·simp only [Act.put, List.setIfInBounds_toArray, List.set_cons_zero, List.set_cons_succ, i64_w, i32_w]; rfl
        refine pure_ (i := 15) (N := some 35) (v := undef) (a' := ?_) #[true, true, true, true, true, true, true, true, true, true, true, true, true, true, true, true, false, false, false, false, false] rfl rfl (any_of HT_.out (by kernel_rfl)) (fun _ _ _ h => h) (Or.inr ⟨by rfl, rfl⟩) ?_ ?_
        rotate_left
        ·simp only [Act.put, List.setIfInBounds_toArray, List.set_cons_zero, List.set_cons_succ, i64_w, i32_w]; rfl
        refine pure_ (i := 16) (N := some 36) (v := undef) (a' := ?_) #[true, true, true, true, true, true, true, true, true, true, true, true, true, true, true, true, true, false, false, false, false] rfl rfl (any_of HT_.out (by kernel_rfl)) (fun _ _ _ h => h) (Or.inr ⟨by rfl, rfl⟩) ?_ ?_
        rotate_left
        ·simp only [Act.put, List.setIfInBounds_toArray, List.set_cons_zero, List.set_cons_succ, i64_w, i32_w]; rfl
        refine pure_ (i := 17) (N := some 37) (v := undef) (a' := ?_) #[true, true, true, true, true, true, true, true, true, true, true, true, true, true, true, true, true, true, false, false, false] rfl rfl (any_of HT_.out (by kernel_rfl)) (fun _ _ _ h => h) (Or.inr ⟨by rfl, rfl⟩) ?_ ?_
        rotate_left
        ·simp only [Act.put, List.setIfInBounds_toArray, List.set_cons_zero, List.set_cons_succ, i64_w, i32_w]; rfl
        refine pure_ (i := 18) (N := some 38) (v := undef) (a' := ?_) #[true, true, true, true, true, true, true, true, true, true, true, true, true, true, true, true, true, true, true, false, false] rfl rfl (any_of HT_.out (by kernel_rfl)) (fun _ _ _ h => h) (Or.inr ⟨by rfl, rfl⟩) ?_ ?_
        rotate_left
        ·simp only [Act.put, List.setIfInBounds_toArray, List.set_cons_zero, List.set_cons_succ, i64_w, i32_w]; rfl
        refine pure_ (i := 19) (N := some 39) (v := undef) (a' := ?_) #[true, true, true, true, true, true, true, true, true, true, true, true, true, true, true, true, true, true, true, true, false] rfl rfl (any_of HT_.out (by kernel_rfl)) (fun _ _ _ h => h) (Or.inr ⟨by rfl, rfl⟩) ?_ ?_
        rotate_left
        ·simp only [Act.put, List.setIfInBounds_toArray, List.set_cons_zero, List.set_cons_succ, i64_w, i32_w]; rfl
        refine pure_ (i := 20) (N := some 40) (v := ?_) (a' := ?_) #[true, true, true, true, true, true, true, true, true, true, true, true, true, true, true, true, true, true, true, true, true] rfl rfl (any_of HT_.out (by kernel_rfl)) (fun _ _ _ h => h) (Or.inl ⟨by rfl, ?_⟩) ?_ ?_
        rotate_left
        ·intro w'; go_simp; with_reducible rfl
        rotate_left
        ·simp only [Act.put, List.setIfInBounds_toArray, List.set_cons_zero, List.set_cons_succ, i64_w, i32_w]; rfl
        refine done_ (done_of HT_.out (by kernel_rfl)) ?_
        try go_wp2
        go_roundg k2
        case measure => have := HK1.out; have := HK2.out; omega
        case rel => exact ⟨(wrap64 (x7_2 + 1)), (x476000_2), (x476001_2), rs_, H', ⟨by have := HK1.out; have := HK2.out; omega⟩, ⟨by (with_reducible repeat (first | refine blk_drewN ?_ _ | refine blk_drew ?_ | refine blk_alloc ?_ _)); exact BK474.out⟩, ⟨by (with_reducible repeat (first | refine blk_drewN ?_ _ | refine blk_drew ?_ | refine blk_alloc ?_ _)); exact BK475.out⟩, ⟨by repeat (first | (with_reducible first | exact HB.out | apply below_alloc | apply pw_below_drewN | apply below_drew1 | refine below_set ?_ GE474.out | refine below_set ?_ GE475.out) | exact HB.out)⟩⟩
       ·rw [if_neg c7] at H
        have c7b0 : (x6_1 == x7_2) = false := beq_eq_false_iff_ne.mpr c7
        have c7b1 : (x6_1 != x7_2) = true := bne_iff_ne.mpr c7
        by_cases c9 : 0 ≤ x6_1
        ·rw [if_pos c9] at H
         have c9b0 : decide (0 ≤ x6_1) = true := decide_eq_true c9
         clear c9
         by_cases c10 : x6_1 < (l0.length : Int)
         ·rw [if_pos c10] at H
          have c10b0 : decide (x6_1 < (l0.length : Int)) = true := decide_eq_true c10
          clear c10
          by_cases c11 : 0 ≤ x7_2
          ·rw [if_pos c11] at H
           have c11b0 : decide (0 ≤ x7_2) = true := decide_eq_true c11
           clear c11
           replace H := Option.bind_eq_some_iff.mp H
           obtain ⟨t478, A120, H⟩ := H
           replace H : (if (wrap64 (((rd_T38 l0 x6_1).f0) - ((rd_T38 l0 x7_2).f1))) > t478 then (some (x6_1, x7_2, true)) else (speculumref06_Refused.l1 k2 l0 x6_1 (wrap64 (x7_2 + 1)) a1_0 a1_1)) = some (r1, r2, r3) := H
           have A12 := Aside0.mk A120
           clear A120
           by_cases c13 : (wrap64 (((rd_T38 l0 x6_1).f0) - ((rd_T38 l0 x7_2).f1))) > t478
           ·rw [if_pos c13] at H
            have c13b0 : decide (t478 < (wrap64 (((rd_T38 l0 x6_1).f0) - ((rd_T38 l0 x7_2).f1)))) = true := decide_eq_true c13
            clear c13
            simp only [Option.some.injEq, Prod.mk.injEq] at H
            obtain ⟨rfl, rfl, rfl⟩ := H
            try go_wp2
            have n0_ := Aside0.mk (blk_drew BK474.out)
            have n1_ := Aside0.mk (blk_drew BK475.out)
            have n2_ := Aside0.mk (below_drew1 HB.out)
            clear BK474
            clear BK475
            clear HB
            have BK474 := n0_
            have BK475 := n1_
            have HB := n2_
            clear n0_ n1_ n2_
            have p476 : 0 ≤ (x6_1 : Int) := of_decide_eq_true as_
            have q476 : x6_1 < (l0.length : Int) := of_decide_eq_true as_
            obtain ⟨ad476, e476, hx476_0, hx476_1⟩ := at_T38 HR0.out x6_1 p476 q476
            have hw476_1 := hx476_1
            have hw476_0 := hx476_0
            cases e476
            replace hx476_0 := (HB.out.cell (World.block_lt_of_cell? w _ hx476_0)).trans hx476_0
            replace hx476_1 := (HB.out.cell (World.block_lt_of_cell? w _ hx476_1)).trans hx476_1
            replace p476 := eq_true p476
            replace q476 := eq_true q476
            have p477 : 0 ≤ (x7_2 : Int) := of_decide_eq_true as_
            have q477 : x7_2 < (l0.length : Int) := of_decide_eq_true as_
            obtain ⟨ad477, e477, hx477_0, hx477_1⟩ := at_T38 HR0.out x7_2 p477 q477
            have hw477_1 := hx477_1
            have hw477_0 := hx477_0
            obtain rfl : ad476 = ad477 := (by injection e477)
            replace hx477_0 := (HB.out.cell (World.block_lt_of_cell? w _ hx477_0)).trans hx477_0
            replace hx477_1 := (HB.out.cell (World.block_lt_of_cell? w _ hx477_1)).trans hx477_1
            replace p477 := eq_true p477
            replace q477 := eq_true q477
            refine start_ (n := 21) (S := fun w' => w'.cell? ⟨gb474, 0, none⟩ = some (.int .i64 a1_0) ∧ w'.cell? ⟨gb474, 1, none⟩ = some (.int .i64 a1_1) ∧ w'.cell? (ad476.add ((x6_1).toNat * 2)) = some (.int .i64 ((rd_T38 l0 x6_1).f0)) ∧ w'.cell? ⟨(ad476.add ((x6_1).toNat * 2)).block, (ad476.add ((x6_1).toNat * 2)).off + 1, none⟩ = some (.int .i64 ((rd_T38 l0 x6_1).f1)) ∧ w'.cell? (ad476.add ((x7_2).toNat * 2)) = some (.int .i64 ((rd_T38 l0 x7_2).f0)) ∧ w'.cell? ⟨(ad476.add ((x7_2).toNat * 2)).block, (ad476.add ((x7_2).toNat * 2)).off + 1, none⟩ = some (.int .i64 ((rd_T38 l0 x7_2).f1))) (ds := []) #[false, false, false, false, false, false, false, false, false, false, false, false, false, false, false, false, false, false, false, false, false] (by kernel_rfl) rfl rfl ⟨(blk_cell BK474.out 0).trans rfl, (blk_cell BK474.out 1).trans rfl, ((HB.out.cell (World.block_lt_of_cell? w _ hw476_0)).trans hw476_0), ((HB.out.cell (World.block_lt_of_cell? w _ hw476_1)).trans hw476_1), ((HB.out.cell (World.block_lt_of_cell? w _ hw477_0)).trans hw477_0), ((HB.out.cell (World.block_lt_of_cell? w _ hw477_1)).trans hw477_1)⟩ (fun hHeld => ?_); refine with_tabW speculumref06_Refused.tab7 speculumref06_Refused.bits7 (fun HT_ HW_ => ?_)
            generalize wr.drew = w14 at BK474 BK475 HB hx476_0 hx476_1 hx477_0 hx477_1 hHeld ⊢
            refine pure_ (i := 0) (N := some 20) (v := ?_) (a' := ?_) #[true, false, false, false, false, false, false, false, false, false, false, false, false, false, false, false, false, false, false, false, false] rfl rfl (any_of HT_.out (by kernel_rfl)) (fun _ _ _ h => h) (Or.inl ⟨by rfl, ?_⟩) ?_ ?_
            rotate_left
            ·intro w'; go_simp; with_reducible rfl
            rotate_left
            ·simp only [Act.put, List.setIfInBounds_toArray, List.set_cons_zero, List.set_cons_succ, i64_w, i32_w]; rfl
            refine pure_ (i := 1) (N := some 21) (v := ?_) (a' := ?_) #[true, true, false, false, false, false, false, false, false, false, false, false, false, false, false, false, false, false, false, false, false] rfl rfl (any_of HT_.out (by kernel_rfl)) (fun _ _ _ h => h) (Or.inl ⟨by rfl, ?_⟩) ?_ ?_
            rotate_left
            ·intro w'; go_simp; with_reducible rfl
            rotate_left
            ·simp only [Act.put, List.setIfInBounds_toArray, List.set_cons_zero, List.set_cons_succ, i64_w, i32_w]; rfl
            refine pure_ (i := 2) (N := some 22) (v := ?_) (a' := ?_) #[true, true, true, false, false, false, false, false, false, false, false, false, false, false, false, false, false, false, false, false, false] rfl rfl (any_of HT_.out (by kernel_rfl)) (fun _ _ _ h => h) (Or.inl ⟨by rfl, ?_⟩) ?_ ?_
            rotate_left
            ·intro w'; go_simp; with_reducible rfl
            rotate_left
            ·simp only [Act.put, List.setIfInBounds_toArray, List.set_cons_zero, List.set_cons_succ, i64_w, i32_w]; rfl
            refine pure_ (i := 3) (N := some 23) (v := ?_) (a' := ?_) #[true, true, true, true, false, false, false, false, false, false, false, false, false, false, false, false, false, false, false, false, false] rfl rfl (any_of HT_.out (by kernel_rfl)) (fun _ _ _ h => h) (Or.inl ⟨by rfl, ?_⟩) ?_ ?_
            rotate_left
            ·intro w'; go_simp; with_reducible rfl
            rotate_left
            ·simp only [Act.put, List.setIfInBounds_toArray, List.set_cons_zero, List.set_cons_succ, i64_w, i32_w]; rfl
            refine pure_ (i := 4) (N := some 24) (v := ?_) (a' := ?_) #[true, true, true, true, true, false, false, false, false, false, false, false, false, false, false, false, false, false, false, false, false] rfl rfl (any_of HT_.out (by kernel_rfl)) (fun _ _ _ h => h) (Or.inl ⟨by rfl, ?_⟩) ?_ ?_
            rotate_left
            ·intro w'; go_simp; with_reducible rfl
            rotate_left
            ·simp only [Act.put, List.setIfInBounds_toArray, List.set_cons_zero, List.set_cons_succ, i64_w, i32_w]; rfl
            refine pure_ (i := 5) (N := some 25) (v := ?_) (a' := ?_) #[true, true, true, true, true, true, false, false, false, false, false, false, false, false, false, false, false, false, false, false, false] rfl rfl (any_of HT_.out (by kernel_rfl)) (fun _ _ _ h => h) (Or.inl ⟨by rfl, ?_⟩) ?_ ?_
            rotate_left
            ·intro w'; go_simp; with_reducible rfl
            rotate_left
            ·simp only [Act.put, List.setIfInBounds_toArray, List.set_cons_zero, List.set_cons_succ, i64_w, i32_w]; rfl
            refine pure_ (i := 6) (N := some 26) (v := ?_) (a' := ?_) #[true, true, true, true, true, true, true, false, false, false, false, false, false, false, false, false, false, false, false, false, false] rfl rfl (any_of HT_.out (by kernel_rfl)) (fun _ _ _ h => h) (Or.inl ⟨by rfl, ?_⟩) ?_ ?_
            rotate_left
            ·intro w'; go_simp; with_reducible rfl
            rotate_left
            ·simp only [Act.put, List.setIfInBounds_toArray, List.set_cons_zero, List.set_cons_succ, i64_w, i32_w]; rfl
            refine pure_ (i := 7) (N := some 27) (v := ?_) (a' := ?_) #[true, true, true, true, true, true, true, true, false, false, false, false, false, false, false, false, false, false, false, false, false] rfl rfl (any_of HT_.out (by kernel_rfl)) (fun _ _ _ h => h) (Or.inl ⟨by rfl, ?_⟩) ?_ ?_
            rotate_left
            ·intro w'; go_simp; with_reducible rfl
            rotate_left
            ·simp only [Act.put, List.setIfInBounds_toArray, List.set_cons_zero, List.set_cons_succ, i64_w, i32_w]; rfl
            refine pure_ (i := 9) (N := some 29) (v := ?_) (a' := ?_) #[true, true, true, true, true, true, true, true, false, true, false, false, false, false, false, false, false, false, false, false, false] rfl rfl (any_of HT_.out (by kernel_rfl)) (fun _ _ _ h => h) (Or.inl ⟨by rfl, ?_⟩) ?_ ?_
            rotate_left
            ·intro w'; go_simp; with_reducible rfl
            rotate_left
            ·simp only [Act.put, List.setIfInBounds_toArray, List.set_cons_zero, List.set_cons_succ, i64_w, i32_w]; rfl
            refine pure_ (i := 10) (N := some 30) (v := ?_) (a' := ?_) #[true, true, true, true, true, true, true, true, false, true, true, false, false, false, false, false, false, false, false, false, false] rfl rfl (any_of HT_.out (by kernel_rfl)) (fun _ _ _ h => h) (Or.inl ⟨by rfl, ?_⟩) ?_ ?_
            rotate_left
            ·intro w'; go_simp; with_reducible rfl
            rotate_left
            ·simp only [Act.put, List.setIfInBounds_toArray, List.set_cons_zero, List.set_cons_succ, i64_w, i32_w]; rfl
            refine pure_ (i := 11) (N := some 31) (v := ?_) (a' := ?_) #[true, true, true, true, true, true, true, true, false, true, true, true, false, false, false, false, false, false, false, false, false] rfl rfl (any_of HT_.out (by kernel_rfl)) (fun _ _ _ h => h) (Or.inl ⟨by rfl, ?_⟩) ?_ ?_
            rotate_left
            ·intro w'; go_simp; with_reducible rfl
            rotate_left
            ·simp only [Act.put, List.setIfInBounds_toArray, List.set_cons_zero, List.set_cons_succ, i64_w, i32_w]; rfl
            refine pure_ (i := 12) (N := some 32) (v := ?_) (a' := ?_) #[true, true, true, true, true, true, true, true, false, true, true, true, true, false, false, false, false, false, false, false, false] rfl rfl (any_of HT_.out (by kernel_rfl)) (fun _ _ _ h => h) (Or.inl ⟨by rfl, ?_⟩) ?_ ?_
            rotate_left
            ·intro w'; go_simp; with_reducible rfl
            rotate_left
            ·simp only [Act.put, List.setIfInBounds_toArray, List.set_cons_zero, List.set_cons_succ, i64_w, i32_w]; rfl
            refine pure_ (i := 16) (N := some 36) (v := ?_) (a' := ?_) #[true, true, true, true, true, true, true, true, false, true, true, true, true, false, false, false, true, false, false, false, false] rfl rfl (any_of HT_.out (by kernel_rfl)) (fun _ _ _ h => h) (Or.inl ⟨by rfl, ?_⟩) ?_ ?_
            rotate_left
            ·intro w'; go_simp; with_reducible rfl
            rotate_left
            ·simp only [Act.put, List.setIfInBounds_toArray, List.set_cons_zero, List.set_cons_succ, i64_w, i32_w]; rfl
            refine pure_ (i := 17) (N := some 37) (v := ?_) (a' := ?_) #[true, true, true, true, true, true, true, true, false, true, true, true, true, false, false, false, true, true, false, false, false] rfl rfl (any_of HT_.out (by kernel_rfl)) (fun _ _ _ h => h) (Or.inl ⟨by rfl, ?_⟩) ?_ ?_
            rotate_left
            ·intro w'; go_simp; with_reducible rfl
            rotate_left
            ·simp only [Act.put, List.setIfInBounds_toArray, List.set_cons_zero, List.set_cons_succ, i64_w, i32_w]; rfl
            refine take_ (i := 8) (N := some 28) (v := ?_) (a' := ?_) #[true, true, true, true, true, true, true, true, true, true, true, true, true, false, false, false, true, true, false, false, false] rfl rfl (take_ofW HT_.out HW_.out (by kernel_rfl)) (fun _ _ _ h => h) (Or.inl ⟨by rfl, ?_⟩) hHeld ?_ ?_
            rotate_left
            ·rintro w' ⟨s0, s1, s2, s3, s4, s5⟩; go_simp; with_reducible rfl
            rotate_left
            ·simp only [Act.put, List.setIfInBounds_toArray, List.set_cons_zero, List.set_cons_succ, i64_w, i32_w]; rfl
            refine take_ (i := 13) (N := some 33) (v := ?_) (a' := ?_) #[true, true, true, true, true, true, true, true, true, true, true, true, true, true, false, false, true, true, false, false, false] rfl rfl (take_ofW HT_.out HW_.out (by kernel_rfl)) (fun _ _ _ h => h) (Or.inl ⟨by rfl, ?_⟩) hHeld ?_ ?_
            rotate_left
            ·rintro w' ⟨s0, s1, s2, s3, s4, s5⟩; go_simp; with_reducible rfl
            rotate_left
            ·simp only [Act.put, List.setIfInBounds_toArray, List.set_cons_zero, List.set_cons_succ, i64_w, i32_w]; rfl
            refine pure_ (i := 14) (N := some 34) (v := ?_) (a' := ?_) #[true, true, true, true, true, true, true, true, true, true, true, true, true, true, true, false, true, true, false, false, false] rfl rfl (any_of HT_.out (by kernel_rfl)) (fun _ _ _ h => h) (Or.inl ⟨by rfl, ?_⟩) ?_ ?_
            rotate_left
            ·intro w'; go_simp; with_reducible rfl
            rotate_left
            ·simp only [Act.put, List.setIfInBounds_toArray, List.set_cons_zero, List.set_cons_succ, i64_w, i32_w]; rfl
            refine take_ (i := 15) (N := some 35) (v := ?_) (a' := ?_) #[true, true, true, true, true, true, true, true, true, true, true, true, true, true, true, true, true, true, false, false, false] rfl rfl (take_ofW HT_.out HW_.out (by kernel_rfl)) (fun _ _ _ h => h) (Or.inl ⟨by rfl, ?_⟩) hHeld ?_ ?_
            rotate_left
            ·rintro w' ⟨s0, s1, s2, s3, s4, s5⟩; go_simp; with_reducible rfl
            rotate_left
            ·simp only [Act.put, List.setIfInBounds_toArray, List.set_cons_zero, List.set_cons_succ, i64_w, i32_w]; rfl
            refine one_ (i := 18) (N := some 38) #[true, true, true, true, true, true, true, true, true, true, true, true, true, true, true, true, true, true, true, false, false] rfl rfl (one_of HT_.out (by kernel_rfl)) di_ (fun K hK => ?_)
            refine goes_ Try.func114 (by kernel_rfl) rfl #[.agg #[.int .i64 a1_0, .int .i64 a1_1], .int .i64 x6_1, .int .i64 x7_2] (by rfl) rfl rfl ma_ ?_
            with_reducible refine (speculumref06_Bound.calls a1_0 a1_1 x6_1 x7_2 t478 _ A12.out).mono ?_
            rintro e w15 ⟨rfl, hb⟩
            refine ⟨_, rfl, ?_⟩
            have n0_ := Aside0.mk (bb_ BK474 hb)
            have n1_ := Aside0.mk (bb_ BK475 hb)
            have n2_ := Aside0.mk (below_step (hb_ HB) hb)
            clear BK474
            clear BK475
            clear HB
            have BK474 := n0_
            have BK475 := n1_
            have HB := n2_
            clear n0_ n1_ n2_
            (try clear hb)
            (try clear hb2)
            (try clear hk)
            (try clear hi)
            refine hK.out _ _ ⟨(blk_cell BK474.out 0).trans rfl, (blk_cell BK474.out 1).trans rfl, ((HB.out.cell (World.block_lt_of_cell? w _ hw476_0)).trans hw476_0), ((HB.out.cell (World.block_lt_of_cell? w _ hw476_1)).trans hw476_1), ((HB.out.cell (World.block_lt_of_cell? w _ hw477_0)).trans hw477_0), ((HB.out.cell (World.block_lt_of_cell? w _ hw477_1)).trans hw477_1)⟩ (fun hHeld => ?_)
            clear hK K
            refine norm_ (a' := ?_) ?_ ?_
            rotate_left
            ·show Act.put _ (some 38) _ = _
             simp only [Act.put, List.setIfInBounds_toArray, List.set_cons_zero, List.set_cons_succ, i64_w, i32_w]
             rfl
            refine pure_ (i := 19) (N := some 39) (v := ?_) (a' := ?_) #[true, true, true, true, true, true, true, true, true, true, true, true, true, true, true, true, true, true, true, true, false] rfl rfl (any_of HT_.out (by kernel_rfl)) (fun _ _ _ h => h) (Or.inl ⟨by rfl, ?_⟩) ?_ ?_
            rotate_left
            ·intro w'; go_simp; with_reducible rfl
            rotate_left
            ·simp only [Act.put, List.setIfInBounds_toArray, List.set_cons_zero, List.set_cons_succ, i64_w, i32_w]; rfl
            refine pure_ (i := 20) (N := some 40) (v := ?_) (a' := ?_) #[true, true, true, true, true, true, true, true, true, true, true, true, true, true, true, true, true, true, true, true, true] rfl rfl (any_of HT_.out (by kernel_rfl)) (fun _ _ _ h => h) (Or.inl ⟨by rfl, ?_⟩) ?_ ?_
            rotate_left
            ·intro w'; go_simp; with_reducible rfl
            rotate_left
            ·simp only [Act.put, List.setIfInBounds_toArray, List.set_cons_zero, List.set_cons_succ, i64_w, i32_w]; rfl
            refine done_ (done_of HT_.out (by kernel_rfl)) ?_
            have hnb16 := NB475_474.out
            have hnc16 := NB474_475.out
            have hcz17_0 : w15.cell? ⟨gb475, 0, none⟩ = some (.int .i64 x476000_2) := (blk_cell BK475.out 0).trans rfl
            have hcz17_1 : w15.cell? ⟨gb475, 1, none⟩ = some (.int .i64 x476001_2) := (blk_cell BK475.out 1).trans rfl
            have hfz17_0 := blk_frozen BK475.out 0
            have hfz17_1 := blk_frozen BK475.out 1
            try go_wp2
            refine bodyPost_ret (results_ct rfl _ _ gb475 48 #[.int .i64 x6_1, .int .i64 x7_2] (0, 0) _ rfl (by (with_reducible repeat (first | refine blk_drewN ?_ _ | refine blk_drew ?_ | refine blk_alloc ?_ _)); refine blk_put (cs := #[.int .i64 x6_1, .int .i64 x476001_2]) ?_ 1 _ rfl; (with_reducible repeat (first | refine blk_drewN ?_ _ | refine blk_drew ?_ | refine blk_alloc ?_ _)); refine blk_put (cs := #[.int .i64 x476000_2, .int .i64 x476001_2]) ?_ 0 _ rfl; (with_reducible repeat (first | refine blk_drewN ?_ _ | refine blk_drew ?_ | refine blk_alloc ?_ _)); exact BK475.out) Try.underlying48 rfl (by kernel_rfl)) rfl ?_
            exact ⟨by first | rfl | (simp [errW_none, errW_some] <;> rfl) | (simp [*, errW_none, errW_some] <;> rfl), by repeat (first | (with_reducible first | exact HB.out | apply below_alloc | apply pw_below_drewN | apply below_drew1 | refine below_set ?_ GE474.out | refine below_set ?_ GE475.out) | exact HB.out)⟩
           ·rw [if_neg c13] at H
            have c13b0 : decide (t478 < (wrap64 (((rd_T38 l0 x6_1).f0) - ((rd_T38 l0 x7_2).f1)))) = false := decide_eq_false c13
            clear c13
            have H' := Aside0.mk H
            clear H
            try go_wp2
            have n0_ := Aside0.mk (blk_drew BK474.out)
            have n1_ := Aside0.mk (blk_drew BK475.out)
            have n2_ := Aside0.mk (below_drew1 HB.out)
            clear BK474
            clear BK475
            clear HB
            have BK474 := n0_
            have BK475 := n1_
            have HB := n2_
            clear n0_ n1_ n2_
            have p476 : 0 ≤ (x6_1 : Int) := of_decide_eq_true as_
            have q476 : x6_1 < (l0.length : Int) := of_decide_eq_true as_
            obtain ⟨ad476, e476, hx476_0, hx476_1⟩ := at_T38 HR0.out x6_1 p476 q476
            have hw476_1 := hx476_1
            have hw476_0 := hx476_0
            cases e476
            replace hx476_0 := (HB.out.cell (World.block_lt_of_cell? w _ hx476_0)).trans hx476_0
            replace hx476_1 := (HB.out.cell (World.block_lt_of_cell? w _ hx476_1)).trans hx476_1
            replace p476 := eq_true p476
            replace q476 := eq_true q476
            have p477 : 0 ≤ (x7_2 : Int) := of_decide_eq_true as_
            have q477 : x7_2 < (l0.length : Int) := of_decide_eq_true as_
            obtain ⟨ad477, e477, hx477_0, hx477_1⟩ := at_T38 HR0.out x7_2 p477 q477
            have hw477_1 := hx477_1
            have hw477_0 := hx477_0
            obtain rfl : ad476 = ad477 := (by injection e477)
            replace hx477_0 := (HB.out.cell (World.block_lt_of_cell? w _ hx477_0)).trans hx477_0
            replace hx477_1 := (HB.out.cell (World.block_lt_of_cell? w _ hx477_1)).trans hx477_1
            replace p477 := eq_true p477
            replace q477 := eq_true q477
            refine start_ (n := 21) (S := fun w' => w'.cell? ⟨gb474, 0, none⟩ = some (.int .i64 a1_0) ∧ w'.cell? ⟨gb474, 1, none⟩ = some (.int .i64 a1_1) ∧ w'.cell? (ad476.add ((x6_1).toNat * 2)) = some (.int .i64 ((rd_T38 l0 x6_1).f0)) ∧ w'.cell? ⟨(ad476.add ((x6_1).toNat * 2)).block, (ad476.add ((x6_1).toNat * 2)).off + 1, none⟩ = some (.int .i64 ((rd_T38 l0 x6_1).f1)) ∧ w'.cell? (ad476.add ((x7_2).toNat * 2)) = some (.int .i64 ((rd_T38 l0 x7_2).f0)) ∧ w'.cell? ⟨(ad476.add ((x7_2).toNat * 2)).block, (ad476.add ((x7_2).toNat * 2)).off + 1, none⟩ = some (.int .i64 ((rd_T38 l0 x7_2).f1))) (ds := []) #[false, false, false, false, false, false, false, false, false, false, false, false, false, false, false, false, false, false, false, false, false] (by kernel_rfl) rfl rfl ⟨(blk_cell BK474.out 0).trans rfl, (blk_cell BK474.out 1).trans rfl, ((HB.out.cell (World.block_lt_of_cell? w _ hw476_0)).trans hw476_0), ((HB.out.cell (World.block_lt_of_cell? w _ hw476_1)).trans hw476_1), ((HB.out.cell (World.block_lt_of_cell? w _ hw477_0)).trans hw477_0), ((HB.out.cell (World.block_lt_of_cell? w _ hw477_1)).trans hw477_1)⟩ (fun hHeld => ?_); refine with_tabW speculumref06_Refused.tab7 speculumref06_Refused.bits7 (fun HT_ HW_ => ?_)
            generalize wr.drew = w18 at BK474 BK475 HB hx476_0 hx476_1 hx477_0 hx477_1 hHeld ⊢
            refine pure_ (i := 0) (N := some 20) (v := ?_) (a' := ?_) #[true, false, false, false, false, false, false, false, false, false, false, false, false, false, false, false, false, false, false, false, false] rfl rfl (any_of HT_.out (by kernel_rfl)) (fun _ _ _ h => h) (Or.inl ⟨by rfl, ?_⟩) ?_ ?_
            rotate_left
            ·intro w'; go_simp; with_reducible rfl
            rotate_left
            ·simp only [Act.put, List.setIfInBounds_toArray, List.set_cons_zero, List.set_cons_succ, i64_w, i32_w]; rfl
            refine pure_ (i := 1) (N := some 21) (v := ?_) (a' := ?_) #[true, true, false, false, false, false, false, false, false, false, false, false, false, false, false, false, false, false, false, false, false] rfl rfl (any_of HT_.out (by kernel_rfl)) (fun _ _ _ h => h) (Or.inl ⟨by rfl, ?_⟩) ?_ ?_
            rotate_left
            ·intro w'; go_simp; with_reducible rfl
            rotate_left
            ·simp only [Act.put, List.setIfInBounds_toArray, List.set_cons_zero, List.set_cons_succ, i64_w, i32_w]; rfl
            refine pure_ (i := 2) (N := some 22) (v := ?_) (a' := ?_) #[true, true, true, false, false, false, false, false, false, false, false, false, false, false, false, false, false, false, false, false, false] rfl rfl (any_of HT_.out (by kernel_rfl)) (fun _ _ _ h => h) (Or.inl ⟨by rfl, ?_⟩) ?_ ?_
            rotate_left
            ·intro w'; go_simp; with_reducible rfl
            rotate_left
            ·simp only [Act.put, List.setIfInBounds_toArray, List.set_cons_zero, List.set_cons_succ, i64_w, i32_w]; rfl
            refine pure_ (i := 3) (N := some 23) (v := ?_) (a' := ?_) #[true, true, true, true, false, false, false, false, false, false, false, false, false, false, false, false, false, false, false, false, false] rfl rfl (any_of HT_.out (by kernel_rfl)) (fun _ _ _ h => h) (Or.inl ⟨by rfl, ?_⟩) ?_ ?_
            rotate_left
            ·intro w'; go_simp; with_reducible rfl
            rotate_left
            ·simp only [Act.put, List.setIfInBounds_toArray, List.set_cons_zero, List.set_cons_succ, i64_w, i32_w]; rfl
            refine pure_ (i := 4) (N := some 24) (v := ?_) (a' := ?_) #[true, true, true, true, true, false, false, false, false, false, false, false, false, false, false, false, false, false, false, false, false] rfl rfl (any_of HT_.out (by kernel_rfl)) (fun _ _ _ h => h) (Or.inl ⟨by rfl, ?_⟩) ?_ ?_
            rotate_left
            ·intro w'; go_simp; with_reducible rfl
            rotate_left
            ·simp only [Act.put, List.setIfInBounds_toArray, List.set_cons_zero, List.set_cons_succ, i64_w, i32_w]; rfl
            refine pure_ (i := 5) (N := some 25) (v := ?_) (a' := ?_) #[true, true, true, true, true, true, false, false, false, false, false, false, false, false, false, false, false, false, false, false, false] rfl rfl (any_of HT_.out (by kernel_rfl)) (fun _ _ _ h => h) (Or.inl ⟨by rfl, ?_⟩) ?_ ?_
            rotate_left
            ·intro w'; go_simp; with_reducible rfl
            rotate_left
            ·simp only [Act.put, List.setIfInBounds_toArray, List.set_cons_zero, List.set_cons_succ, i64_w, i32_w]; rfl
            refine pure_ (i := 6) (N := some 26) (v := ?_) (a' := ?_) #[true, true, true, true, true, true, true, false, false, false, false, false, false, false, false, false, false, false, false, false, false] rfl rfl (any_of HT_.out (by kernel_rfl)) (fun _ _ _ h => h) (Or.inl ⟨by rfl, ?_⟩) ?_ ?_
            rotate_left
            ·intro w'; go_simp; with_reducible rfl
            rotate_left
            ·simp only [Act.put, List.setIfInBounds_toArray, List.set_cons_zero, List.set_cons_succ, i64_w, i32_w]; rfl
            refine pure_ (i := 7) (N := some 27) (v := ?_) (a' := ?_) #[true, true, true, true, true, true, true, true, false, false, false, false, false, false, false, false, false, false, false, false, false] rfl rfl (any_of HT_.out (by kernel_rfl)) (fun _ _ _ h => h) (Or.inl ⟨by rfl, ?_⟩) ?_ ?_
            rotate_left
            ·intro w'; go_simp; with_reducible rfl
            rotate_left
            ·simp only [Act.put, List.setIfInBounds_toArray, List.set_cons_zero, List.set_cons_succ, i64_w, i32_w]; rfl
            refine pure_ (i := 9) (N := some 29) (v := ?_) (a' := ?_) #[true, true, true, true, true, true, true, true, false, true, false, false, false, false, false, false, false, false, false, false, false] rfl rfl (any_of HT_.out (by kernel_rfl)) (fun _ _ _ h => h) (Or.inl ⟨by rfl, ?_⟩) ?_ ?_
            rotate_left
            ·intro w'; go_simp; with_reducible rfl
            rotate_left
            ·simp only [Act.put, List.setIfInBounds_toArray, List.set_cons_zero, List.set_cons_succ, i64_w, i32_w]; rfl
            refine pure_ (i := 10) (N := some 30) (v := ?_) (a' := ?_) #[true, true, true, true, true, true, true, true, false, true, true, false, false, false, false, false, false, false, false, false, false] rfl rfl (any_of HT_.out (by kernel_rfl)) (fun _ _ _ h => h) (Or.inl ⟨by rfl, ?_⟩) ?_ ?_
            rotate_left
            ·intro w'; go_simp; with_reducible rfl
            rotate_left
            ·simp only [Act.put, List.setIfInBounds_toArray, List.set_cons_zero, List.set_cons_succ, i64_w, i32_w]; rfl
            refine pure_ (i := 11) (N := some 31) (v := ?_) (a' := ?_) #[true, true, true, true, true, true, true, true, false, true, true, true, false, false, false, false, false, false, false, false, false] rfl rfl (any_of HT_.out (by kernel_rfl)) (fun _ _ _ h => h) (Or.inl ⟨by rfl, ?_⟩) ?_ ?_
            rotate_left
            ·intro w'; go_simp; with_reducible rfl
            rotate_left
            ·simp only [Act.put, List.setIfInBounds_toArray, List.set_cons_zero, List.set_cons_succ, i64_w, i32_w]; rfl
            refine pure_ (i := 12) (N := some 32) (v := ?_) (a' := ?_) #[true, true, true, true, true, true, true, true, false, true, true, true, true, false, false, false, false, false, false, false, false] rfl rfl (any_of HT_.out (by kernel_rfl)) (fun _ _ _ h => h) (Or.inl ⟨by rfl, ?_⟩) ?_ ?_
            rotate_left
            ·intro w'; go_simp; with_reducible rfl
            rotate_left
            ·simp only [Act.put, List.setIfInBounds_toArray, List.set_cons_zero, List.set_cons_succ, i64_w, i32_w]; rfl
            refine pure_ (i := 16) (N := some 36) (v := ?_) (a' := ?_) #[true, true, true, true, true, true, true, true, false, true, true, true, true, false, false, false, true, false, false, false, false] rfl rfl (any_of HT_.out (by kernel_rfl)) (fun _ _ _ h => h) (Or.inl ⟨by rfl, ?_⟩) ?_ ?_
            rotate_left
            ·intro w'; go_simp; with_reducible rfl
            rotate_left
            ·simp only [Act.put, List.setIfInBounds_toArray, List.set_cons_zero, List.set_cons_succ, i64_w, i32_w]; rfl
            refine pure_ (i := 17) (N := some 37) (v := ?_) (a' := ?_) #[true, true, true, true, true, true, true, true, false, true, true, true, true, false, false, false, true, true, false, false, false] rfl rfl (any_of HT_.out (by kernel_rfl)) (fun _ _ _ h => h) (Or.inl ⟨by rfl, ?_⟩) ?_ ?_
            rotate_left
            ·intro w'; go_simp; with_reducible rfl
            rotate_left
            ·simp only [Act.put, List.setIfInBounds_toArray, List.set_cons_zero, List.set_cons_succ, i64_w, i32_w]; rfl
            refine take_ (i := 8) (N := some 28) (v := ?_) (a' := ?_) #[true, true, true, true, true, true, true, true, true, true, true, true, true, false, false, false, true, true, false, false, false] rfl rfl (take_ofW HT_.out HW_.out (by kernel_rfl)) (fun _ _ _ h => h) (Or.inl ⟨by rfl, ?_⟩) hHeld ?_ ?_
            rotate_left
            ·rintro w' ⟨s0, s1, s2, s3, s4, s5⟩; go_simp; with_reducible rfl
            rotate_left
            ·simp only [Act.put, List.setIfInBounds_toArray, List.set_cons_zero, List.set_cons_succ, i64_w, i32_w]; rfl
            refine take_ (i := 13) (N := some 33) (v := ?_) (a' := ?_) #[true, true, true, true, true, true, true, true, true, true, true, true, true, true, false, false, true, true, false, false, false] rfl rfl (take_ofW HT_.out HW_.out (by kernel_rfl)) (fun _ _ _ h => h) (Or.inl ⟨by rfl, ?_⟩) hHeld ?_ ?_
            rotate_left
            ·rintro w' ⟨s0, s1, s2, s3, s4, s5⟩; go_simp; with_reducible rfl
            rotate_left
            ·simp only [Act.put, List.setIfInBounds_toArray, List.set_cons_zero, List.set_cons_succ, i64_w, i32_w]; rfl
            refine pure_ (i := 14) (N := some 34) (v := ?_) (a' := ?_) #[true, true, true, true, true, true, true, true, true, true, true, true, true, true, true, false, true, true, false, false, false] rfl rfl (any_of HT_.out (by kernel_rfl)) (fun _ _ _ h => h) (Or.inl ⟨by rfl, ?_⟩) ?_ ?_
            rotate_left
            ·intro w'; go_simp; with_reducible rfl
            rotate_left
            ·simp only [Act.put, List.setIfInBounds_toArray, List.set_cons_zero, List.set_cons_succ, i64_w, i32_w]; rfl
            refine take_ (i := 15) (N := some 35) (v := ?_) (a' := ?_) #[true, true, true, true, true, true, true, true, true, true, true, true, true, true, true, true, true, true, false, false, false] rfl rfl (take_ofW HT_.out HW_.out (by kernel_rfl)) (fun _ _ _ h => h) (Or.inl ⟨by rfl, ?_⟩) hHeld ?_ ?_
            rotate_left
            ·rintro w' ⟨s0, s1, s2, s3, s4, s5⟩; go_simp; with_reducible rfl
            rotate_left
            ·simp only [Act.put, List.setIfInBounds_toArray, List.set_cons_zero, List.set_cons_succ, i64_w, i32_w]; rfl
            refine one_ (i := 18) (N := some 38) #[true, true, true, true, true, true, true, true, true, true, true, true, true, true, true, true, true, true, true, false, false] rfl rfl (one_of HT_.out (by kernel_rfl)) di_ (fun K hK => ?_)
            refine goes_ Try.func114 (by kernel_rfl) rfl #[.agg #[.int .i64 a1_0, .int .i64 a1_1], .int .i64 x6_1, .int .i64 x7_2] (by rfl) rfl rfl ma_ ?_
            with_reducible refine (speculumref06_Bound.calls a1_0 a1_1 x6_1 x7_2 t478 _ A12.out).mono ?_
            rintro e w19 ⟨rfl, hb⟩
            refine ⟨_, rfl, ?_⟩
            have n0_ := Aside0.mk (bb_ BK474 hb)
            have n1_ := Aside0.mk (bb_ BK475 hb)
            have n2_ := Aside0.mk (below_step (hb_ HB) hb)
            clear BK474
            clear BK475
            clear HB
            have BK474 := n0_
            have BK475 := n1_
            have HB := n2_
            clear n0_ n1_ n2_
            (try clear hb)
            (try clear hb2)
            (try clear hk)
            (try clear hi)
            refine hK.out _ _ ⟨(blk_cell BK474.out 0).trans rfl, (blk_cell BK474.out 1).trans rfl, ((HB.out.cell (World.block_lt_of_cell? w _ hw476_0)).trans hw476_0), ((HB.out.cell (World.block_lt_of_cell? w _ hw476_1)).trans hw476_1), ((HB.out.cell (World.block_lt_of_cell? w _ hw477_0)).trans hw477_0), ((HB.out.cell (World.block_lt_of_cell? w _ hw477_1)).trans hw477_1)⟩ (fun hHeld => ?_)
            clear hK K
            refine norm_ (a' := ?_) ?_ ?_
            rotate_left
            ·show Act.put _ (some 38) _ = _
             simp only [Act.put, List.setIfInBounds_toArray, List.set_cons_zero, List.set_cons_succ, i64_w, i32_w]
             rfl
            refine pure_ (i := 19) (N := some 39) (v := ?_) (a' := ?_) #[true, true, true, true, true, true, true, true, true, true, true, true, true, true, true, true, true, true, true, true, false] rfl rfl (any_of HT_.out (by kernel_rfl)) (fun _ _ _ h => h) (Or.inl ⟨by rfl, ?_⟩) ?_ ?_
            rotate_left
            ·intro w'; go_simp; with_reducible rfl
            rotate_left
            ·simp only [Act.put, List.setIfInBounds_toArray, List.set_cons_zero, List.set_cons_succ, i64_w, i32_w]; rfl
            refine pure_ (i := 20) (N := some 40) (v := ?_) (a' := ?_) #[true, true, true, true, true, true, true, true, true, true, true, true, true, true, true, true, true, true, true, true, true] rfl rfl (any_of HT_.out (by kernel_rfl)) (fun _ _ _ h => h) (Or.inl ⟨by rfl, ?_⟩) ?_ ?_
            rotate_left
            ·intro w'; go_simp; with_reducible rfl
            rotate_left
            ·simp only [Act.put, List.setIfInBounds_toArray, List.set_cons_zero, List.set_cons_succ, i64_w, i32_w]; rfl
            refine done_ (done_of HT_.out (by kernel_rfl)) ?_
            try go_wp2
            go_roundg k2
            case measure => have := HK1.out; have := HK2.out; omega
            case rel => exact ⟨(wrap64 (x7_2 + 1)), (x476000_2), (x476001_2), rs_, H', ⟨by have := HK1.out; have := HK2.out; omega⟩, ⟨by (with_reducible repeat (first | refine blk_drewN ?_ _ | refine blk_drew ?_ | refine blk_alloc ?_ _)); exact BK474.out⟩, ⟨by (with_reducible repeat (first | refine blk_drewN ?_ _ | refine blk_drew ?_ | refine blk_alloc ?_ _)); exact BK475.out⟩, ⟨by repeat (first | (with_reducible first | exact HB.out | apply below_alloc | apply pw_below_drewN | apply below_drew1 | refine below_set ?_ GE474.out | refine below_set ?_ GE475.out) | exact HB.out)⟩⟩
          ·rw [if_neg c11] at H
           exact absurd H (by simp)
         ·rw [if_neg c10] at H
          exact absurd H (by simp)
        ·rw [if_neg c9] at H
         exact absurd H (by simp)
      ·rw [if_neg c6] at H
       have c6b0 : decide (x7_2 < (l0.length : Int)) = false := decide_eq_false c6
       clear c6
       have H' := Aside0.mk H
       clear H
       go_wp2
       go_roundg k2
       case measure => have := HK1.out; have := HK2.out; omega
       case rel => exact ⟨(wrap64 (x6_1 + 1)), (x476000_2), (x476001_2), rs_, H', ⟨by have := HK1.out; have := HK2.out; omega⟩, ⟨by (with_reducible repeat (first | refine blk_drewN ?_ _ | refine blk_drew ?_ | refine blk_alloc ?_ _)); exact BK474.out⟩, ⟨by (with_reducible repeat (first | refine blk_drewN ?_ _ | refine blk_drew ?_ | refine blk_alloc ?_ _)); exact BK475.out⟩, ⟨by repeat (first | (with_reducible first | exact HB.out | apply below_alloc | apply pw_below_drewN | apply below_drew1 | refine below_set ?_ GE474.out | refine below_set ?_ GE475.out) | exact HB.out)⟩⟩
   ·rw [if_neg c5] at H
    have c5b0 : decide (x6_1 < (l0.length : Int)) = false := decide_eq_false c5
    clear c5
    simp only [Option.some.injEq, Prod.mk.injEq] at H
    obtain ⟨rfl, rfl, rfl⟩ := H
    have hnb20 := NB475_474.out
    have hnc20 := NB474_475.out
    have hcz21_0 : wr.cell? ⟨gb475, 0, none⟩ = some (.int .i64 x476000_1) := (blk_cell BK475.out 0).trans rfl
    have hcz21_1 : wr.cell? ⟨gb475, 1, none⟩ = some (.int .i64 x476001_1) := (blk_cell BK475.out 1).trans rfl
    have hfz21_0 := blk_frozen BK475.out 0
    have hfz21_1 := blk_frozen BK475.out 1
    go_wp2
    refine bodyPost_ret (results_ct rfl _ _ gb475 48 #[.int .i64 0, .int .i64 0] (0, 0) _ rfl (by (with_reducible repeat (first | refine blk_drewN ?_ _ | refine blk_drew ?_ | refine blk_alloc ?_ _)); refine blk_put (cs := #[.int .i64 0, .int .i64 x476001_1]) ?_ 1 _ rfl; (with_reducible repeat (first | refine blk_drewN ?_ _ | refine blk_drew ?_ | refine blk_alloc ?_ _)); refine blk_put (cs := #[.int .i64 x476000_1, .int .i64 x476001_1]) ?_ 0 _ rfl; (with_reducible repeat (first | refine blk_drewN ?_ _ | refine blk_drew ?_ | refine blk_alloc ?_ _)); exact BK475.out) Try.underlying48 rfl (by kernel_rfl)) rfl ?_
    exact ⟨by first | rfl | (simp [errW_none, errW_some] <;> rfl) | (simp [*, errW_none, errW_some] <;> rfl), by repeat (first | (with_reducible first | exact HB.out | apply below_alloc | apply pw_below_drewN | apply below_drew1 | refine below_set ?_ GE474.out | refine below_set ?_ GE475.out) | exact HB.out)⟩
end Go.Proofs.Ytdkahcolfcmmpaa.Pr
namespace Go.Proofs.Ytdkahcolfcmmpaa.Pr
open Go.RowKit Go.Proofs.YtdkahcolfcmmpaaW.PrintWords Go.Proofs.YtdkahcolfcmmpaaW.PrintLast Go.Proofs.YtdkahcolfcmmpaaW.PrintMore
attribute [local go_sem] max2_int min2_int max_two min_two max_three min_three max_four min_four   -- for this text's walks alone
set_option linter.unusedVariables false
set_option linter.unusedSimpArgs false
mutual
def speculumref06_Judge.l0 : Nat → List (S38) → Int → Int → Int → Option (Int × Int × Int)
 | 0, _, _, _, _ => none
 | k + 1, x0, x8, x480000, x480001 => if x8 < (x0.length : Int) then (speculumref06_Judge.l1 k x0 x8 0 x480000 x480001) else (some (1, 0, 0))
def speculumref06_Judge.l1 : Nat → List (S38) → Int → Int → Int → Int → Option (Int × Int × Int)
 | 0, _, _, _, _, _ => none
 | k + 1, x0, x8, x9, x480000, x480001 => if x9 < (x0.length : Int) then (if x8 = x9 then (speculumref06_Judge.l1 k x0 x8 (wrap64 (x9 + 1)) x480000 x480001) else (if 0 ≤ x8 then (if x8 < (x0.length : Int) then (if 0 ≤ x9 then ((speculumref06_Bound.f x480000 x480001 x8 x9).bind fun t487 => (if (wrap64 (((rd_T38 x0 x8).f1) - ((rd_T38 x0 x9).f0))) > t487 then (some (0, 0, 0)) else (speculumref06_Judge.l1 k x0 x8 (wrap64 (x9 + 1)) x480000 x480001))) else (none)) else (none)) else (none))) else (speculumref06_Judge.l0 k x0 (wrap64 (x8 + 1)) x480000 x480001)
end
def speculumref06_Judge.f (k : Nat) (l0 : List (S38)) (a1_0 : Int) (a1_1 : Int) : Option (Int × Int × Int) := (speculumref06_Refused.f k l0 a1_0 a1_1).bind fun bt481 => (if bt481.2.2 = true then (some ((-1), bt481.1, bt481.2.1)) else (speculumref06_Judge.l0 k l0 0 a1_0 a1_1))
def speculumref06_Judge.T10 : Bool × List (List Nat × List Nat) := (true, [([], []), ([], []), ([0, 1], [0, 1]), ([2], [2]), ([3], [3]), ([3], [3]), ([4, 5, 3], [3, 4, 5]), ([6, 3], [3, 6]), ([7, 3], [3, 7]), ([3], [3]), ([3], [3]), ([9, 10, 3], [3, 9, 10]), ([11, 3], [3, 11]), ([12, 3], [3, 12]), ([8, 13, 3], [3, 8, 13]), ([3], [3]), ([3], [3]), ([3], [3]), ([15, 16, 17, 3, 3], [3, 15, 16, 17]), ([14, 18, 3], [3, 14, 18]), ([3, 19], [3, 19])])
def speculumref06_Judge.B10 : List Nat := [0, 0, 3, 7, 15, 15, 63, 127, 255, 15, 15, 1551, 3599, 7695, 16383, 15, 15, 15, 229391, 524287, 1048575]
theorem speculumref06_Judge.tab10 : rtab .any (opsOf Try.f79 10) = speculumref06_Judge.T10 := by kernel_rfl
theorem speculumref06_Judge.bits10 : waitsOk speculumref06_Judge.T10.2 speculumref06_Judge.B10 = true := by kernel_rfl
set_option maxHeartbeats 8000000 in
set_option maxRecDepth 100000 in
theorem speculumref06_Judge.calls (k : Nat) (A0 : Option Addr) (c0 : Nat) (l0 : List (S38)) (a1_0 : Int) (a1_1 : Int) (r1 : Int) (r2 : Int) (r3 : Int) (w : World) (hr0 : Kd.C k38 w A0 l0.length l0) (hc0 : l0.length ≤ c0) (h : speculumref06_Judge.f k l0 a1_0 a1_1 = some (r1, r2, r3)) :
  Calls Try.prog 79 #[.slice A0 l0.length c0, .agg #[.int .i64 a1_0, .int .i64 a1_1]] w fun e w' => e = .returned (.tuple #[.int .i64 r1, .agg #[.int .i64 r2, .int .i64 r3]]) ∧ Below w.heap.size w w' := by
 have hu59 := Try.underlying59
 have hu48 := Try.underlying48
 have HR0 := Aside0.mk hr0
 have HC0 := Aside0.mk hc0
 clear hr0 hc0
 have HB := Aside0.mk (Below.refl w.heap.size w)
 have H : ((speculumref06_Refused.f k l0 a1_0 a1_1).bind fun bt481 => (if bt481.2.2 = true then (some ((-1), bt481.1, bt481.2.1)) else (speculumref06_Judge.l0 k l0 0 a1_0 a1_1))) = some (r1, r2, r3) := h
 clear h
 replace H := Option.bind_eq_some_iff.mp H
 obtain ⟨⟨t481, t482, t483⟩, A30, H⟩ := H
 replace H : (if t483 = true then (some ((-1), t481, t482)) else (speculumref06_Judge.l0 k l0 0 a1_0 a1_1)) = some (r1, r2, r3) := H
 have A3 := Aside0.mk A30
 clear A30
 by_cases c4 : t483 = true
 ·subst c4
  have H1 : (some ((-1), t481, t482)) = some (r1, r2, r3) := by rw [if_pos rfl] at H; exact H
  clear H
  have H := H1
  clear H1
  simp only [Option.some.injEq, Prod.mk.injEq] at H
  obtain ⟨rfl, rfl, rfl⟩ := H
  go_enter Try.func79, Try.ntmps79
  try go_wp2_with (first | ((with_reducible refine gate_dst (N := 3) rfl ?_); refine box_event ?hg (N := 3) ?hd (cs := #[.int .i64 a1_0, .int .i64 a1_1]) (t := 59) ?hr ?_; (case hd => rfl); (case hg => rfl); (case hr => exact gr_); intro gb479 hg w5 hbox hb; have n0_ := Aside0.mk (below_step (hb_ HB) hb); have n1_ := Aside0.mk (hbox); have n2_ := Aside0.mk ((hz_ HB hg)); have n3_ := Aside0.mk ((hz_ HB hg)); clear HB; have HB := n0_; have BK479 := n1_; have GW479 := n2_; have GE479 := n3_; clear n0_ n1_ n2_ n3_; clear hb hbox hg) | ((with_reducible refine gate_dst (N := 5) rfl ?_); refine box_event ?hg (N := 5) ?hd (cs := #[.int .i64 0, .int .i64 0]) (t := 48) ?hr ?_; (case hd => rfl); (case hg => rfl); (case hr => exact gr_); intro gb480 hg w6 hbox hb; have n0_ := Aside0.mk (bb_ BK479 hb); have n1_ := Aside0.mk (below_step (hb_ HB) hb); have n2_ := Aside0.mk (hbox); have n3_ := Aside0.mk ((hz_ HB hg)); have n4_ := Aside0.mk ((hz_ HB hg)); have n5_ := Aside0.mk ((nl_ BK479 hg)); have n6_ := Aside0.mk ((ng_ BK479 hg)); clear BK479; clear HB; have BK479 := n0_; have HB := n1_; have BK480 := n2_; have GW480 := n3_; have GE480 := n4_; have NB479_480 := n5_; have NB480_479 := n6_; clear n0_ n1_ n2_ n3_ n4_ n5_ n6_; clear hb hbox hg; have hnb7 := NB479_480.out; have hnc7 := NB480_479.out; have hcz8_0 : w6.cell? ⟨gb479, 0, none⟩ = some (.int .i64 a1_0) := (blk_cell BK479.out 0).trans rfl; have hcz8_1 : w6.cell? ⟨gb479, 1, none⟩ = some (.int .i64 a1_1) := (blk_cell BK479.out 1).trans rfl; have hfz8_0 := blk_frozen BK479.out 0; have hfz8_1 := blk_frozen BK479.out 1) | ((with_reducible refine gate_callee (f := 113) rfl ?_); refine goesL_ (some 13) rfl rfl Try.func113 (by kernel_rfl) rfl #[.slice A0 l0.length c0, .agg #[.int .i64 a1_0, .int .i64 a1_1]] rfl ma_ ?_; (with_reducible refine (speculumref06_Refused.calls k _ _ l0 a1_0 a1_1 t481 t482 true _ ?side1 ?side2 A3.out).mono ?_); (case side1 => repeat (first | exact (Kd.C_below HR0.out HB.out) | (with_reducible refine Kd.C_alloc ?_ _) | (with_reducible refine Kd.C_drewN ?_ _) | (with_reducible refine Kd.C_drew ?_))); (case side2 => exact HC0.out); rintro e w9 ⟨rfl, hb⟩; refine ⟨_, rfl, ?_⟩; have n0_ := Aside0.mk (bb_ BK479 hb); have n1_ := Aside0.mk (bb_ BK480 hb); have n2_ := Aside0.mk (below_step (hb_ HB) hb); clear BK479; clear BK480; clear HB; have BK479 := n0_; have BK480 := n1_; have HB := n2_; clear n0_ n1_ n2_; (try clear hb); (try clear hb2); (try clear hk); (try clear hi)) | ((with_reducible refine gate_dst (N := 6) rfl ?_); refine box_event ?hg (N := 6) ?hd (cs := #[.int .i64 0, .int .i64 0]) (t := 48) ?hr ?_; (case hd => rfl); (case hg => rfl); (case hr => exact gr_); intro gb484 hg w10 hbox hb; have n0_ := Aside0.mk (bb_ BK479 hb); have n1_ := Aside0.mk (bb_ BK480 hb); have n2_ := Aside0.mk (below_step (hb_ HB) hb); have n3_ := Aside0.mk (hbox); have n4_ := Aside0.mk ((hz_ HB hg)); have n5_ := Aside0.mk ((hz_ HB hg)); have n6_ := Aside0.mk ((nl_ BK479 hg)); have n7_ := Aside0.mk ((ng_ BK479 hg)); have n8_ := Aside0.mk ((nl_ BK480 hg)); have n9_ := Aside0.mk ((ng_ BK480 hg)); clear BK479; clear BK480; clear HB; have BK479 := n0_; have BK480 := n1_; have HB := n2_; have BK484 := n3_; have GW484 := n4_; have GE484 := n5_; have NB479_484 := n6_; have NB484_479 := n7_; have NB480_484 := n8_; have NB484_480 := n9_; clear n0_ n1_ n2_ n3_ n4_ n5_ n6_ n7_ n8_ n9_; clear hb hbox hg; have hnb11 := NB484_479.out; have hnc11 := NB479_484.out; have hnb12 := NB484_480.out; have hnc12 := NB480_484.out; have hcz13_0 : w10.cell? ⟨gb484, 0, none⟩ = some (.int .i64 0) := (blk_cell BK484.out 0).trans rfl; have hcz13_1 : w10.cell? ⟨gb484, 1, none⟩ = some (.int .i64 0) := (blk_cell BK484.out 1).trans rfl; have hfz13_0 := blk_frozen BK484.out 0; have hfz13_1 := blk_frozen BK484.out 1))
  have n0_ : Aside0 (((w10.setCell ⟨gb484, 0, none⟩ (.int .i64 t481)).setCell ⟨gb484, 1, none⟩ (.int .i64 t482)).heap[gb479]? = some (.cells #[.int .i64 a1_0, .int .i64 a1_1] 59 (0, 0))) := ⟨by (with_reducible repeat (first | refine blk_drewN ?_ _ | refine blk_drew ?_ | refine blk_alloc ?_ _)); refine blk_far ?_ NB479_484.out _; (with_reducible repeat (first | refine blk_drewN ?_ _ | refine blk_drew ?_ | refine blk_alloc ?_ _)); refine blk_far ?_ NB479_484.out _; (with_reducible repeat (first | refine blk_drewN ?_ _ | refine blk_drew ?_ | refine blk_alloc ?_ _)); exact BK479.out⟩
  have n1_ : Aside0 (((w10.setCell ⟨gb484, 0, none⟩ (.int .i64 t481)).setCell ⟨gb484, 1, none⟩ (.int .i64 t482)).heap[gb480]? = some (.cells #[.int .i64 0, .int .i64 0] 48 (0, 0))) := ⟨by (with_reducible repeat (first | refine blk_drewN ?_ _ | refine blk_drew ?_ | refine blk_alloc ?_ _)); refine blk_far ?_ NB480_484.out _; (with_reducible repeat (first | refine blk_drewN ?_ _ | refine blk_drew ?_ | refine blk_alloc ?_ _)); refine blk_far ?_ NB480_484.out _; (with_reducible repeat (first | refine blk_drewN ?_ _ | refine blk_drew ?_ | refine blk_alloc ?_ _)); exact BK480.out⟩
  have n2_ : Aside0 (((w10.setCell ⟨gb484, 0, none⟩ (.int .i64 t481)).setCell ⟨gb484, 1, none⟩ (.int .i64 t482)).heap[gb484]? = some (.cells #[.int .i64 t481, .int .i64 t482] 48 (0, 0))) := ⟨by (with_reducible repeat (first | refine blk_drewN ?_ _ | refine blk_drew ?_ | refine blk_alloc ?_ _)); refine blk_put (cs := #[.int .i64 t481, .int .i64 0]) ?_ 1 _ rfl; (with_reducible repeat (first | refine blk_drewN ?_ _ | refine blk_drew ?_ | refine blk_alloc ?_ _)); refine blk_put (cs := #[.int .i64 0, .int .i64 0]) ?_ 0 _ rfl; (with_reducible repeat (first | refine blk_drewN ?_ _ | refine blk_drew ?_ | refine blk_alloc ?_ _)); exact BK484.out⟩
  have n3_ : Aside0 (Below w.heap.size w ((w10.setCell ⟨gb484, 0, none⟩ (.int .i64 t481)).setCell ⟨gb484, 1, none⟩ (.int .i64 t482))) := ⟨by repeat (first | (with_reducible first | exact HB.out | apply below_alloc | apply pw_below_drewN | apply below_drew1 | refine below_set ?_ GE479.out | refine below_set ?_ GE480.out | refine below_set ?_ GE484.out) | exact HB.out)⟩
  (try clear BK479)
  (try clear BK480)
  (try clear BK484)
  (try clear HB)
  generalize ((w10.setCell ⟨gb484, 0, none⟩ (.int .i64 t481)).setCell ⟨gb484, 1, none⟩ (.int .i64 t482)) = w14 at n0_ n1_ n2_ n3_ ⊢
  have BK479 := n0_
  have BK480 := n1_
  have BK484 := n2_
  have HB := n3_
  clear n0_ n1_ n2_ n3_
  have n0_ := Aside0.mk (blk_drew BK479.out)
  have n1_ := Aside0.mk (blk_drew BK480.out)
  have n2_ := Aside0.mk (blk_drew BK484.out)
  have n3_ := Aside0.mk (below_drew1 HB.out)
  clear BK479
  clear BK480
  clear BK484
  clear HB
  have BK479 := n0_
  have BK480 := n1_
  have BK484 := n2_
  have HB := n3_
  clear n0_ n1_ n2_ n3_
  refine start_ (n := 3) (S := fun w' => w'.cell? ⟨gb484, 0, none⟩ = some (.int .i64 t481) ∧ w'.cell? ⟨gb484, 1, none⟩ = some (.int .i64 t482)) (ds := []) #[false, false, false] (by kernel_rfl) rfl rfl ⟨(blk_cell BK484.out 0).trans rfl, (blk_cell BK484.out 1).trans rfl⟩ (fun hHeld => ?_)
  generalize w14.drew = w15 at BK479 BK480 BK484 HB hHeld ⊢
  refine pure_ (i := 1) (N := some 4) (v := ?_) (a' := ?_) #[false, true, false] rfl rfl (by kernel_rfl) (fun _ _ _ h => h) (Or.inl ⟨by rfl, ?_⟩) ?_ ?_
  rotate_left
  ·intro w'; go_simp; with_reducible rfl
  rotate_left
  ·simp only [Act.put, List.setIfInBounds_toArray, List.set_cons_zero, List.set_cons_succ, i64_w, i32_w]; rfl
  refine take_ (i := 0) (N := some 17) (v := ?_) (a' := ?_) #[true, true, false] rfl rfl (by kernel_rfl) (fun _ _ _ h => h) (Or.inl ⟨by rfl, ?_⟩) hHeld ?_ ?_
  rotate_left
  ·rintro w' ⟨s0, s1⟩; go_simp; with_reducible rfl
  rotate_left
  ·simp only [Act.put, List.setIfInBounds_toArray, List.set_cons_zero, List.set_cons_succ, i64_w, i32_w]; rfl
  refine one_ (i := 2) (N := none) #[true, true, true] rfl rfl (by kernel_rfl) di_ (fun K hK => ?_)
  have hs16 : w15.cell? ⟨gb480, 0, none⟩ = some (.int .i64 0) := (blk_cell BK480.out 0).trans rfl
  have hfs16 := blk_frozen BK480.out 0
  have hns16_0 := NB479_480.out
  have hns16_2 := NB484_480.out
  have hms16_0 := NB480_479.out
  have hms16_2 := NB480_484.out
  have hs17 : w15.cell? ⟨gb480, 1, none⟩ = some (.int .i64 0) := (blk_cell BK480.out 1).trans rfl
  have hfs17 := blk_frozen BK480.out 1
  have hns17_0 := NB479_480.out
  have hns17_2 := NB484_480.out
  have hms17_0 := NB480_479.out
  have hms17_2 := NB480_484.out
  refine skip_ (w1 := ?_) (by rfl) rfl ?_ ?_
  rotate_left
  ·go_simp
   rfl
  refine hK.out _ _ ⟨((cell_far (p := ⟨gb480, _, none⟩) NB484_480.out _).trans (((cell_far (p := ⟨gb480, _, none⟩) NB484_480.out _).trans (hHeld.1)))), ((cell_far (p := ⟨gb480, _, none⟩) NB484_480.out _).trans (((cell_far (p := ⟨gb480, _, none⟩) NB484_480.out _).trans (hHeld.2))))⟩ (fun hHeld => ?_)
  clear hK K
  refine done_ (by kernel_rfl) ?_
  try go_wp2
  refine bodyPost_ret (results_tc rfl _ _ gb480 48 #[.int .i64 t481, .int .i64 t482] (0, 0) _ rfl (by (with_reducible repeat (first | refine blk_drewN ?_ _ | refine blk_drew ?_ | refine blk_alloc ?_ _)); refine blk_put (cs := #[.int .i64 t481, .int .i64 0]) ?_ 1 _ rfl; (with_reducible repeat (first | refine blk_drewN ?_ _ | refine blk_drew ?_ | refine blk_alloc ?_ _)); refine blk_put (cs := #[.int .i64 0, .int .i64 0]) ?_ 0 _ rfl; (with_reducible repeat (first | refine blk_drewN ?_ _ | refine blk_drew ?_ | refine blk_alloc ?_ _)); exact BK480.out) Try.underlying48 rfl (by kernel_rfl)) rfl ?_
  exact ⟨by first | rfl | (simp [errW_none, errW_some] <;> rfl) | (simp [*, errW_none, errW_some] <;> rfl), by repeat (first | (with_reducible first | exact HB.out | apply below_alloc | apply pw_below_drewN | apply below_drew1 | refine below_set ?_ GE479.out | refine below_set ?_ GE480.out | refine below_set ?_ GE484.out) | exact HB.out)⟩
 ·replace c4 := Bool.eq_false_iff.mpr c4
  subst c4
  have H1 : (speculumref06_Judge.l0 k l0 0 a1_0 a1_1) = some (r1, r2, r3) := by rw [if_neg (show ¬ (false = true) by decide)] at H; exact H
  clear H
  have H := H1
  clear H1
  have H' := Aside0.mk H
  clear H
  go_enter Try.func79, Try.ntmps79
  go_wp2_with (first | ((with_reducible refine gate_dst (N := 3) rfl ?_); refine box_event ?hg (N := 3) ?hd (cs := #[.int .i64 a1_0, .int .i64 a1_1]) (t := 59) ?hr ?_; (case hd => rfl); (case hg => rfl); (case hr => exact gr_); intro gb479 hg w18 hbox hb; have n0_ := Aside0.mk (below_step (hb_ HB) hb); have n1_ := Aside0.mk (hbox); have n2_ := Aside0.mk ((hz_ HB hg)); have n3_ := Aside0.mk ((hz_ HB hg)); clear HB; have HB := n0_; have BK479 := n1_; have GW479 := n2_; have GE479 := n3_; clear n0_ n1_ n2_ n3_; clear hb hbox hg) | ((with_reducible refine gate_dst (N := 5) rfl ?_); refine box_event ?hg (N := 5) ?hd (cs := #[.int .i64 0, .int .i64 0]) (t := 48) ?hr ?_; (case hd => rfl); (case hg => rfl); (case hr => exact gr_); intro gb480 hg w19 hbox hb; have n0_ := Aside0.mk (bb_ BK479 hb); have n1_ := Aside0.mk (below_step (hb_ HB) hb); have n2_ := Aside0.mk (hbox); have n3_ := Aside0.mk ((hz_ HB hg)); have n4_ := Aside0.mk ((hz_ HB hg)); have n5_ := Aside0.mk ((nl_ BK479 hg)); have n6_ := Aside0.mk ((ng_ BK479 hg)); clear BK479; clear HB; have BK479 := n0_; have HB := n1_; have BK480 := n2_; have GW480 := n3_; have GE480 := n4_; have NB479_480 := n5_; have NB480_479 := n6_; clear n0_ n1_ n2_ n3_ n4_ n5_ n6_; clear hb hbox hg; have hnb20 := NB479_480.out; have hnc20 := NB480_479.out; have hcz21_0 : w19.cell? ⟨gb479, 0, none⟩ = some (.int .i64 a1_0) := (blk_cell BK479.out 0).trans rfl; have hcz21_1 : w19.cell? ⟨gb479, 1, none⟩ = some (.int .i64 a1_1) := (blk_cell BK479.out 1).trans rfl; have hfz21_0 := blk_frozen BK479.out 0; have hfz21_1 := blk_frozen BK479.out 1) | ((with_reducible refine gate_callee (f := 113) rfl ?_); refine goesL_ (some 13) rfl rfl Try.func113 (by kernel_rfl) rfl #[.slice A0 l0.length c0, .agg #[.int .i64 a1_0, .int .i64 a1_1]] rfl ma_ ?_; (with_reducible refine (speculumref06_Refused.calls k _ _ l0 a1_0 a1_1 t481 t482 false _ ?side1 ?side2 A3.out).mono ?_); (case side1 => repeat (first | exact (Kd.C_below HR0.out HB.out) | (with_reducible refine Kd.C_alloc ?_ _) | (with_reducible refine Kd.C_drewN ?_ _) | (with_reducible refine Kd.C_drew ?_))); (case side2 => exact HC0.out); rintro e w22 ⟨rfl, hb⟩; refine ⟨_, rfl, ?_⟩; have n0_ := Aside0.mk (bb_ BK479 hb); have n1_ := Aside0.mk (bb_ BK480 hb); have n2_ := Aside0.mk (below_step (hb_ HB) hb); clear BK479; clear BK480; clear HB; have BK479 := n0_; have BK480 := n1_; have HB := n2_; clear n0_ n1_ n2_; (try clear hb); (try clear hb2); (try clear hk); (try clear hi)) | ((with_reducible refine gate_dst (N := 6) rfl ?_); refine box_event ?hg (N := 6) ?hd (cs := #[.int .i64 0, .int .i64 0]) (t := 48) ?hr ?_; (case hd => rfl); (case hg => rfl); (case hr => exact gr_); intro gb484 hg w23 hbox hb; have n0_ := Aside0.mk (bb_ BK479 hb); have n1_ := Aside0.mk (bb_ BK480 hb); have n2_ := Aside0.mk (below_step (hb_ HB) hb); have n3_ := Aside0.mk (hbox); have n4_ := Aside0.mk ((hz_ HB hg)); have n5_ := Aside0.mk ((hz_ HB hg)); have n6_ := Aside0.mk ((nl_ BK479 hg)); have n7_ := Aside0.mk ((ng_ BK479 hg)); have n8_ := Aside0.mk ((nl_ BK480 hg)); have n9_ := Aside0.mk ((ng_ BK480 hg)); clear BK479; clear BK480; clear HB; have BK479 := n0_; have BK480 := n1_; have HB := n2_; have BK484 := n3_; have GW484 := n4_; have GE484 := n5_; have NB479_484 := n6_; have NB484_479 := n7_; have NB480_484 := n8_; have NB484_480 := n9_; clear n0_ n1_ n2_ n3_ n4_ n5_ n6_ n7_ n8_ n9_; clear hb hbox hg; have hnb24 := NB484_479.out; have hnc24 := NB479_484.out; have hnb25 := NB484_480.out; have hnc25 := NB480_484.out; have hcz26_0 : w23.cell? ⟨gb484, 0, none⟩ = some (.int .i64 0) := (blk_cell BK484.out 0).trans rfl; have hcz26_1 : w23.cell? ⟨gb484, 1, none⟩ = some (.int .i64 0) := (blk_cell BK484.out 1).trans rfl; have hfz26_0 := blk_frozen BK484.out 0; have hfz26_1 := blk_frozen BK484.out 1))
  go_loopg [8] k (fun kq v8 w' => ∃ (x8_1 : Int) (x481000_1 : Int) (x481001_1 : Int), v8 = .int .i64 x8_1 ∧ Aside0 (speculumref06_Judge.l0 kq l0 x8_1 a1_0 a1_1 = some (r1, r2, r3)) ∧ Aside0 (kq ≤ k) ∧ Aside0 (w'.heap[gb479]? = some (.cells #[.int .i64 a1_0, .int .i64 a1_1] 59 (0, 0))) ∧ Aside0 (w'.heap[gb480]? = some (.cells #[.int .i64 x481000_1, .int .i64 x481001_1] 48 (0, 0))) ∧ Aside0 (w'.heap[gb484]? = some (.cells #[.int .i64 t481, .int .i64 t482] 48 (0, 0))) ∧ Aside0 (Below w.heap.size w w'))
  case atStart => exact ⟨(0), (0), (0), rs_, H', ⟨Nat.le_refl _⟩, ⟨by (with_reducible repeat (first | refine blk_drewN ?_ _ | refine blk_drew ?_ | refine blk_alloc ?_ _)); refine blk_far ?_ NB479_484.out _; (with_reducible repeat (first | refine blk_drewN ?_ _ | refine blk_drew ?_ | refine blk_alloc ?_ _)); refine blk_far ?_ NB479_484.out _; (with_reducible repeat (first | refine blk_drewN ?_ _ | refine blk_drew ?_ | refine blk_alloc ?_ _)); exact BK479.out⟩, ⟨by (with_reducible repeat (first | refine blk_drewN ?_ _ | refine blk_drew ?_ | refine blk_alloc ?_ _)); refine blk_far ?_ NB480_484.out _; (with_reducible repeat (first | refine blk_drewN ?_ _ | refine blk_drew ?_ | refine blk_alloc ?_ _)); refine blk_far ?_ NB480_484.out _; (with_reducible repeat (first | refine blk_drewN ?_ _ | refine blk_drew ?_ | refine blk_alloc ?_ _)); exact BK480.out⟩, ⟨by (with_reducible repeat (first | refine blk_drewN ?_ _ | refine blk_drew ?_ | refine blk_alloc ?_ _)); refine blk_put (cs := #[.int .i64 t481, .int .i64 0]) ?_ 1 _ rfl; (with_reducible repeat (first | refine blk_drewN ?_ _ | refine blk_drew ?_ | refine blk_alloc ?_ _)); refine blk_put (cs := #[.int .i64 0, .int .i64 0]) ?_ 0 _ rfl; (with_reducible repeat (first | refine blk_drewN ?_ _ | refine blk_drew ?_ | refine blk_alloc ?_ _)); exact BK484.out⟩, ⟨by repeat (first | (with_reducible first | exact HB.out | apply below_alloc | apply pw_below_drewN | apply below_drew1 | refine below_set ?_ GE479.out | refine below_set ?_ GE480.out | refine below_set ?_ GE484.out) | exact HB.out)⟩⟩
  case round =>
   clear H'
   try clear c1
   try clear c2
   try clear p2
   try clear c4
   try clear c7
   try clear c11
   try clear c12
   try clear c20
   try clear c24
   try clear c25
   try clear hcz13_0
   try clear hcz13_1
   try clear hcz21_0
   try clear hcz21_1
   try clear hcz26_0
   try clear hcz26_1
   try clear hcz8_0
   try clear hcz8_1
   try clear hfz13_0
   try clear hfz13_1
   try clear hfz21_0
   try clear hfz21_1
   try clear hfz26_0
   try clear hfz26_1
   try clear hfz8_0
   try clear hfz8_1
   obtain ⟨x8_1, x481000_1, x481001_1, rfl, HA, HK1, BK479, BK480, BK484, HB⟩ := hrel
   cases gk with
   | zero => exact absurd HA.out (by simp [speculumref06_Judge.l0])
   | succ k1 =>
    have H := HA.out
    clear HA
    simp only [speculumref06_Judge.l0] at H
    by_cases c27 : x8_1 < (l0.length : Int)
    ·rw [if_pos c27] at H
     have c27b0 : decide (x8_1 < (l0.length : Int)) = true := decide_eq_true c27
     clear c27
     have H' := Aside0.mk H
     clear H
     go_wp2
     go_loopg [9] k1 (fun kq v9 w' => ∃ (x9_2 : Int) (x481000_2 : Int) (x481001_2 : Int), v9 = .int .i64 x9_2 ∧ Aside0 (speculumref06_Judge.l1 kq l0 x8_1 x9_2 a1_0 a1_1 = some (r1, r2, r3)) ∧ Aside0 (kq ≤ k1) ∧ Aside0 (w'.heap[gb479]? = some (.cells #[.int .i64 a1_0, .int .i64 a1_1] 59 (0, 0))) ∧ Aside0 (w'.heap[gb480]? = some (.cells #[.int .i64 x481000_2, .int .i64 x481001_2] 48 (0, 0))) ∧ Aside0 (w'.heap[gb484]? = some (.cells #[.int .i64 t481, .int .i64 t482] 48 (0, 0))) ∧ Aside0 (Below w.heap.size w w'))
     case atStart => exact ⟨(0), (x481000_1), (x481001_1), rs_, H', ⟨Nat.le_refl _⟩, ⟨by (with_reducible repeat (first | refine blk_drewN ?_ _ | refine blk_drew ?_ | refine blk_alloc ?_ _)); exact BK479.out⟩, ⟨by (with_reducible repeat (first | refine blk_drewN ?_ _ | refine blk_drew ?_ | refine blk_alloc ?_ _)); exact BK480.out⟩, ⟨by (with_reducible repeat (first | refine blk_drewN ?_ _ | refine blk_drew ?_ | refine blk_alloc ?_ _)); exact BK484.out⟩, ⟨by repeat (first | (with_reducible first | exact HB.out | apply below_alloc | apply pw_below_drewN | apply below_drew1 | refine below_set ?_ GE479.out | refine below_set ?_ GE480.out | refine below_set ?_ GE484.out) | exact HB.out)⟩⟩
     case round =>
      clear H'
      try clear c1
      try clear c2
      try clear p2
      try clear c4
      try clear c7
      try clear c11
      try clear c12
      try clear c20
      try clear c24
      try clear c25
      try clear c27
      try clear c27b0
      try clear hcz13_0
      try clear hcz13_1
      try clear hcz21_0
      try clear hcz21_1
      try clear hcz26_0
      try clear hcz26_1
      try clear hcz8_0
      try clear hcz8_1
      try clear hfz13_0
      try clear hfz13_1
      try clear hfz21_0
      try clear hfz21_1
      try clear hfz26_0
      try clear hfz26_1
      try clear hfz8_0
      try clear hfz8_1
      try clear p2
      obtain ⟨x9_2, x481000_2, x481001_2, rfl, HA, HK2, BK479, BK480, BK484, HB⟩ := hrel
      cases gk with
      | zero => exact absurd HA.out (by simp [speculumref06_Judge.l1])
      | succ k2 =>
       have H := HA.out
       clear HA
       simp only [speculumref06_Judge.l1] at H
       by_cases c28 : x9_2 < (l0.length : Int)
       ·rw [if_pos c28] at H
        have c28b0 : decide (x9_2 < (l0.length : Int)) = true := decide_eq_true c28
        clear c28
        by_cases c29 : x8_1 = x9_2
        ·rw [if_pos c29] at H
         have c29b0 : (x8_1 == x9_2) = true := beq_iff_eq.mpr c29
         have c29b1 : (x8_1 != x9_2) = false := bne_eq_false_iff_eq.mpr c29
         clear c29
         have H' := Aside0.mk H
         clear H
         try go_wp2
         have n0_ := Aside0.mk (blk_drew BK479.out)
         have n1_ := Aside0.mk (blk_drew BK480.out)
         have n2_ := Aside0.mk (blk_drew BK484.out)
         have n3_ := Aside0.mk (below_drew1 HB.out)
         clear BK479
         clear BK480
         clear BK484
         clear HB
         have BK479 := n0_
         have BK480 := n1_
         have BK484 := n2_
         have HB := n3_
         clear n0_ n1_ n2_ n3_
         refine start_ (n := 21) (S := fun w' => True) (ds := []) #[false, false, false, false, false, false, false, false, false, false, false, false, false, false, false, false, false, false, false, false, false] (by kernel_rfl) rfl rfl trivial (fun hHeld => ?_); refine with_tabW speculumref06_Judge.tab10 speculumref06_Judge.bits10 (fun HT_ HW_ => ?_)
         generalize wr.drew = w30 at BK479 BK480 BK484 HB hHeld ⊢
         refine pure_ (i := 0) (N := some 30) (v := ?_) (a' := ?_) #[true, false, false, false, false, false, false, false, false, false, false, false, false, false, false, false, false, false, false, false, false] rfl rfl (any_of HT_.out (by kernel_rfl)) (fun _ _ _ h => h) (Or.inl ⟨by rfl, ?_⟩) ?_ ?_
         rotate_left
         ·intro w'; go_simp; with_reducible rfl
         rotate_left
         ·simp only [Act.put, List.setIfInBounds_toArray, List.set_cons_zero, List.set_cons_succ, i64_w, i32_w]; rfl
         refine pure_ (i := 1) (N := some 31) (v := ?_) (a' := ?_) #[true, true, false, false, false, false, false, false, false, false, false, false, false, false, false, false, false, false, false, false, false] rfl rfl (any_of HT_.out (by kernel_rfl)) (fun _ _ _ h => h) (Or.inl ⟨by rfl, ?_⟩) ?_ ?_
         rotate_left
         ·intro w'; go_simp; with_reducible rfl
         rotate_left
         ·simp only [Act.put, List.setIfInBounds_toArray, List.set_cons_zero, List.set_cons_succ, i64_w, i32_w]; rfl
         refine pure_ (i := 2) (N := some 32) (v := ?_) (a' := ?_) #[true, true, true, false, false, false, false, false, false, false, false, false, false, false, false, false, false, false, false, false, false] rfl rfl (any_of HT_.out (by kernel_rfl)) (fun _ _ _ h => h) (Or.inl ⟨by rfl, ?_⟩) ?_ ?_
         rotate_left
         ·intro w'; go_simp; with_reducible rfl
         rotate_left
         ·simp only [Act.put, List.setIfInBounds_toArray, List.set_cons_zero, List.set_cons_succ, i64_w, i32_w]; rfl
         refine pure_ (i := 3) (N := some 33) (v := ?_) (a' := ?_) #[true, true, true, true, false, false, false, false, false, false, false, false, false, false, false, false, false, false, false, false, false] rfl rfl (any_of HT_.out (by kernel_rfl)) (fun _ _ _ h => h) (Or.inl ⟨by rfl, ?_⟩) ?_ ?_
         rotate_left
         ·intro w'; go_simp; with_reducible rfl
         rotate_left
         ·simp only [Act.put, List.setIfInBounds_toArray, List.set_cons_zero, List.set_cons_succ, i64_w, i32_w]; rfl
         refine pure_ (i := 4) (N := some 34) (v := undef) (a' := ?_) #[true, true, true, true, true, false, false, false, false, false, false, false, false, false, false, false, false, false, false, false, false] rfl rfl (any_of HT_.out (by kernel_rfl)) (fun _ _ _ h => h) (Or.inr ⟨by rfl, rfl⟩) ?_ ?_
         rotate_left
         ·simp only [Act.put, List.setIfInBounds_toArray, List.set_cons_zero, List.set_cons_succ, i64_w, i32_w]; rfl
         refine pure_ (i := 5) (N := some 35) (v := undef) (a' := ?_) #[true, true, true, true, true, true, false, false, false, false, false, false, false, false, false, false, false, false, false, false, false] rfl rfl (any_of HT_.out (by kernel_rfl)) (fun _ _ _ h => h) (Or.inr ⟨by rfl, rfl⟩) ?_ ?_
         rotate_left
         ·simp only [Act.put, List.setIfInBounds_toArray, List.set_cons_zero, List.set_cons_succ, i64_w, i32_w]; rfl
         refine pure_ (i := 6) (N := some 36) (v := undef) (a' := ?_) #[true, true, true, true, true, true, true, false, false, false, false, false, false, false, false, false, false, false, false, false, false] rfl rfl (any_of HT_.out (by kernel_rfl)) (fun _ _ _ h => h) (Or.inr ⟨by rfl, rfl⟩) ?_ ?_
         rotate_left
         ·simp only [Act.put, List.setIfInBounds_toArray, List.set_cons_zero, List.set_cons_succ, i64_w, i32_w]; rfl
         refine pure_ (i := 7) (N := some 37) (v := undef) (a' := ?_) #[true, true, true, true, true, true, true, true, false, false, false, false, false, false, false, false, false, false, false, false, false] rfl rfl (any_of HT_.out (by kernel_rfl)) (fun _ _ _ h => h) (Or.inr ⟨by rfl, rfl⟩) ?_ ?_
         rotate_left
         ·simp only [Act.put, List.setIfInBounds_toArray, List.set_cons_zero, List.set_cons_succ, i64_w, i32_w]; rfl
         refine pure_ (i := 8) (N := some 38) (v := undef) (a' := ?_) #[true, true, true, true, true, true, true, true, true, false, false, false, false, false, false, false, false, false, false, false, false] rfl rfl (any_of HT_.out (by kernel_rfl)) (fun _ _ _ h => h) (Or.inr ⟨by rfl, rfl⟩) ?_ ?_
         rotate_left
         ·simp only [Act.put, List.setIfInBounds_toArray, List.set_cons_zero, List.set_cons_succ, i64_w, i32_w]; rfl
         refine pure_ (i := 9) (N := some 39) (v := undef) (a' := ?_) #[true, true, true, true, true, true, true, true, true, true, false, false, false, false, false, false, false, false, false, false, false] rfl rfl (any_of HT_.out (by kernel_rfl)) (fun _ _ _ h => h) (Or.inr ⟨by rfl, rfl⟩) ?_ ?_
         rotate_left
         ·simp only [Act.put, List.setIfInBounds_toArray, List.set_cons_zero, List.set_cons_succ, i64_w, i32_w]; rfl
         refine pure_ (i := 10) (N := some 40) (v := undef) (a' := ?_) #[true, true, true, true, true, true, true, true, true, true, true, false, false, false, false, false, false, false, false, false, false] rfl rfl (any_of HT_.out (by kernel_rfl)) (fun _ _ _ h => h) (Or.inr ⟨by rfl, rfl⟩) ?_ ?_
         rotate_left
         ·simp only [Act.put, List.setIfInBounds_toArray, List.set_cons_zero, List.set_cons_succ, i64_w, i32_w]; rfl
         refine pure_ (i := 11) (N := some 41) (v := undef) (a' := ?_) #[true, true, true, true, true, true, true, true, true, true, true, true, false, false, false, false, false, false, false, false, false] rfl rfl (any_of HT_.out (by kernel_rfl)) (fun _ _ _ h => h) (Or.inr ⟨by rfl, rfl⟩) ?_ ?_
         rotate_left
         ·simp only [Act.put, List.setIfInBounds_toArray, List.set_cons_zero, List.set_cons_succ, i64_w, i32_w]; rfl
         refine pure_ (i := 12) (N := some 42) (v := undef) (a' := ?_) #[true, true, true, true, true, true, true, true, true, true, true, true, true, false, false, false, false, false, false, false, false] rfl rfl (any_of HT_.out (by kernel_rfl)) (fun _ _ _ h => h) (Or.inr ⟨by rfl, rfl⟩) ?_ ?_
         rotate_left
         ·simp only [Act.put, List.setIfInBounds_toArray, List.set_cons_zero, List.set_cons_succ, i64_w, i32_w]; rfl
         refine pure_ (i := 13) (N := some 43) (v := undef) (a' := ?_) #[true, true, true, true, true, true, true, true, true, true, true, true, true, true, false, false, false, false, false, false, false] rfl rfl (any_of HT_.out (by kernel_rfl)) (fun _ _ _ h => h) (Or.inr ⟨by rfl, rfl⟩) ?_ ?_
         rotate_left
         ·simp only [Act.put, List.setIfInBounds_toArray, List.set_cons_zero, List.set_cons_succ, i64_w, i32_w]; rfl
         refine pure_ (i := 14) (N := some 44) (v := undef) (a' := ?_) #[true, true, true, true, true, true, true, true, true, true, true, true, true, true, true, false, false, false, false, false, false] rfl rfl (any_of HT_.out (by kernel_rfl)) (fun _ _ _ h => h) (Or.inr ⟨by rfl, rfl⟩) ?_ ?_
         rotate_left
         ·simp only [Act.put, List.setIfInBounds_toArray, List.set_cons_zero, List.set_cons_succ, i64_w, i32_w]; rfl
         refine pure_ (i := 15) (N := some 45) (v := undef) (a' := ?_) #[true, true, true, true, true, true, true, true, true, true, true, true, true, true, true, true, false, false, false, false, false] rfl rfl (any_of HT_.out (by kernel_rfl)) (fun _ _ _ h => h) (Or.inr ⟨by rfl, rfl⟩) ?_ ?_
         rotate_left
         ·simp only [Act.put, List.setIfInBounds_toArray, List.set_cons_zero, List.set_cons_succ, i64_w, i32_w]; rfl
         refine pure_ (i := 16) (N := some 46) (v := undef) (a' := ?_) #[true, true, true, true, true, true, true, true, true, true, true, true, true, true, true, true, true, false, false, false, false] rfl rfl (any_of HT_.out (by kernel_rfl)) (fun _ _ _ h => h) (Or.inr ⟨by rfl, rfl⟩) ?_ ?_
         rotate_left
         ·simp only [Act.put, List.setIfInBounds_toArray, List.set_cons_zero, List.set_cons_succ, i64_w, i32_w]; rfl
         refine pure_ (i := 17) (N := some 47) (v := undef) (a' := ?_) #[true, true, true, true, true, true, true, true, true, true, true, true, true, true, true, true, true, true, false, false, false] rfl rfl (any_of HT_.out (by kernel_rfl)) (fun _ _ _ h => h) (Or.inr ⟨by rfl, rfl⟩) ?_ ?_
         rotate_left
         ·simp only [Act.put, List.setIfInBounds_toArray, List.set_cons_zero, List.set_cons_succ, i64_w, i32_w]; rfl
         refine pure_ (i := 18) (N := some 48) (v := undef) (a' := ?_) #[true, true, true, true, true, true, true, true, true, true, true, true, true, true, true, true, true, true, true, false, false] rfl rfl (any_of HT_.out (by kernel_rfl)) (fun _ _ _ h => h) (Or.inr ⟨by rfl, rfl⟩) ?_ ?_
         rotate_left
         ·simp only [Act.put, List.setIfInBounds_toArray, List.set_cons_zero, List.set_cons_succ, i64_w, i32_w]; rfl
         refine pure_ (i := 19) (N := some 49) (v := undef) (a' := ?_) #[true, true, true, true, true, true, true, true, true, true, true, true, true, true, true, true, true, true, true, true, false] rfl rfl (any_of HT_.out (by kernel_rfl)) (fun _ _ _ h => h) (Or.inr ⟨by rfl, rfl⟩) ?_ ?_
         rotate_left
         ·simp only [Act.put, List.setIfInBounds_toArray, List.set_cons_zero, List.set_cons_succ, i64_w, i32_w]; rfl
         refine pure_ (i := 20) (N := some 50) (v := ?_) (a' := ?_) #[true, true, true, true, true, true, true, true, true, true, true, true, true, true, true, true, true, true, true, true, true] rfl rfl (any_of HT_.out (by kernel_rfl)) (fun _ _ _ h => h) (Or.inl ⟨by rfl, ?_⟩) ?_ ?_
         rotate_left
         ·intro w'; go_simp; with_reducible rfl
         rotate_left
         ·simp only [Act.put, List.setIfInBounds_toArray, List.set_cons_zero, List.set_cons_succ, i64_w, i32_w]; rfl
         refine done_ (done_of HT_.out (by kernel_rfl)) ?_
         try go_wp2
         go_roundg k2
         case measure => have := HK1.out; have := HK2.out; omega
         case rel => exact ⟨(wrap64 (x9_2 + 1)), (x481000_2), (x481001_2), rs_, H', ⟨by have := HK1.out; have := HK2.out; omega⟩, ⟨by (with_reducible repeat (first | refine blk_drewN ?_ _ | refine blk_drew ?_ | refine blk_alloc ?_ _)); exact BK479.out⟩, ⟨by (with_reducible repeat (first | refine blk_drewN ?_ _ | refine blk_drew ?_ | refine blk_alloc ?_ _)); exact BK480.out⟩, ⟨by (with_reducible repeat (first | refine blk_drewN ?_ _ | refine blk_drew ?_ | refine blk_alloc ?_ _)); exact BK484.out⟩, ⟨by repeat (first | (with_reducible first | exact HB.out | apply below_alloc | apply pw_below_drewN | apply below_drew1 | refine below_set ?_ GE479.out | refine below_set ?_ GE480.out | refine below_set ?_ GE484.out) | exact HB.out)⟩⟩
        ·rw [if_neg c29] at H
         have c29b0 : (x8_1 == x9_2) = false := beq_eq_false_iff_ne.mpr c29
         have c29b1 : (x8_1 != x9_2) = true := bne_iff_ne.mpr c29
         by_cases c31 : 0 ≤ x8_1
         ·rw [if_pos c31] at H
          have c31b0 : decide (0 ≤ x8_1) = true := decide_eq_true c31
          clear c31
          by_cases c32 : x8_1 < (l0.length : Int)
          ·rw [if_pos c32] at H
           have c32b0 : decide (x8_1 < (l0.length : Int)) = true := decide_eq_true c32
           clear c32
           by_cases c33 : 0 ≤ x9_2
           ·rw [if_pos c33] at H
            have c33b0 : decide (0 ≤ x9_2) = true := decide_eq_true c33
            clear c33
            replace H := Option.bind_eq_some_iff.mp H
            obtain ⟨t487, A340, H⟩ := H
            replace H : (if (wrap64 (((rd_T38 l0 x8_1).f1) - ((rd_T38 l0 x9_2).f0))) > t487 then (some (0, 0, 0)) else (speculumref06_Judge.l1 k2 l0 x8_1 (wrap64 (x9_2 + 1)) a1_0 a1_1)) = some (r1, r2, r3) := H
            have A34 := Aside0.mk A340
            clear A340
            by_cases c35 : (wrap64 (((rd_T38 l0 x8_1).f1) - ((rd_T38 l0 x9_2).f0))) > t487
            ·rw [if_pos c35] at H
             have c35b0 : decide (t487 < (wrap64 (((rd_T38 l0 x8_1).f1) - ((rd_T38 l0 x9_2).f0)))) = true := decide_eq_true c35
             clear c35
             simp only [Option.some.injEq, Prod.mk.injEq] at H
             obtain ⟨rfl, rfl, rfl⟩ := H
             try go_wp2
             have n0_ := Aside0.mk (blk_drew BK479.out)
             have n1_ := Aside0.mk (blk_drew BK480.out)
             have n2_ := Aside0.mk (blk_drew BK484.out)
             have n3_ := Aside0.mk (below_drew1 HB.out)
             clear BK479
             clear BK480
             clear BK484
             clear HB
             have BK479 := n0_
             have BK480 := n1_
             have BK484 := n2_
             have HB := n3_
             clear n0_ n1_ n2_ n3_
             have p485 : 0 ≤ (x8_1 : Int) := of_decide_eq_true as_
             have q485 : x8_1 < (l0.length : Int) := of_decide_eq_true as_
             obtain ⟨ad485, e485, hx485_0, hx485_1⟩ := at_T38 HR0.out x8_1 p485 q485
             have hw485_1 := hx485_1
             have hw485_0 := hx485_0
             cases e485
             replace hx485_0 := (HB.out.cell (World.block_lt_of_cell? w _ hx485_0)).trans hx485_0
             replace hx485_1 := (HB.out.cell (World.block_lt_of_cell? w _ hx485_1)).trans hx485_1
             replace p485 := eq_true p485
             replace q485 := eq_true q485
             have p486 : 0 ≤ (x9_2 : Int) := of_decide_eq_true as_
             have q486 : x9_2 < (l0.length : Int) := of_decide_eq_true as_
             obtain ⟨ad486, e486, hx486_0, hx486_1⟩ := at_T38 HR0.out x9_2 p486 q486
             have hw486_1 := hx486_1
             have hw486_0 := hx486_0
             obtain rfl : ad485 = ad486 := (by injection e486)
             replace hx486_0 := (HB.out.cell (World.block_lt_of_cell? w _ hx486_0)).trans hx486_0
             replace hx486_1 := (HB.out.cell (World.block_lt_of_cell? w _ hx486_1)).trans hx486_1
             replace p486 := eq_true p486
             replace q486 := eq_true q486
             refine start_ (n := 21) (S := fun w' => w'.cell? ⟨gb479, 0, none⟩ = some (.int .i64 a1_0) ∧ w'.cell? ⟨gb479, 1, none⟩ = some (.int .i64 a1_1) ∧ w'.cell? (ad485.add ((x8_1).toNat * 2)) = some (.int .i64 ((rd_T38 l0 x8_1).f0)) ∧ w'.cell? ⟨(ad485.add ((x8_1).toNat * 2)).block, (ad485.add ((x8_1).toNat * 2)).off + 1, none⟩ = some (.int .i64 ((rd_T38 l0 x8_1).f1)) ∧ w'.cell? (ad485.add ((x9_2).toNat * 2)) = some (.int .i64 ((rd_T38 l0 x9_2).f0)) ∧ w'.cell? ⟨(ad485.add ((x9_2).toNat * 2)).block, (ad485.add ((x9_2).toNat * 2)).off + 1, none⟩ = some (.int .i64 ((rd_T38 l0 x9_2).f1))) (ds := []) #[false, false, false, false, false, false, false, false, false, false, false, false, false, false, false, false, false, false, false, false, false] (by kernel_rfl) rfl rfl ⟨(blk_cell BK479.out 0).trans rfl, (blk_cell BK479.out 1).trans rfl, ((HB.out.cell (World.block_lt_of_cell? w _ hw485_0)).trans hw485_0), ((HB.out.cell (World.block_lt_of_cell? w _ hw485_1)).trans hw485_1), ((HB.out.cell (World.block_lt_of_cell? w _ hw486_0)).trans hw486_0), ((HB.out.cell (World.block_lt_of_cell? w _ hw486_1)).trans hw486_1)⟩ (fun hHeld => ?_); refine with_tabW speculumref06_Judge.tab10 speculumref06_Judge.bits10 (fun HT_ HW_ => ?_)
             generalize wr.drew = w36 at BK479 BK480 BK484 HB hx485_0 hx485_1 hx486_0 hx486_1 hHeld ⊢
             refine pure_ (i := 0) (N := some 30) (v := ?_) (a' := ?_) #[true, false, false, false, false, false, false, false, false, false, false, false, false, false, false, false, false, false, false, false, false] rfl rfl (any_of HT_.out (by kernel_rfl)) (fun _ _ _ h => h) (Or.inl ⟨by rfl, ?_⟩) ?_ ?_
             rotate_left
             ·intro w'; go_simp; with_reducible rfl
             rotate_left
             ·simp only [Act.put, List.setIfInBounds_toArray, List.set_cons_zero, List.set_cons_succ, i64_w, i32_w]; rfl
             refine pure_ (i := 1) (N := some 31) (v := ?_) (a' := ?_) #[true, true, false, false, false, false, false, false, false, false, false, false, false, false, false, false, false, false, false, false, false] rfl rfl (any_of HT_.out (by kernel_rfl)) (fun _ _ _ h => h) (Or.inl ⟨by rfl, ?_⟩) ?_ ?_
             rotate_left
             ·intro w'; go_simp; with_reducible rfl
             rotate_left
             ·simp only [Act.put, List.setIfInBounds_toArray, List.set_cons_zero, List.set_cons_succ, i64_w, i32_w]; rfl
             refine pure_ (i := 2) (N := some 32) (v := ?_) (a' := ?_) #[true, true, true, false, false, false, false, false, false, false, false, false, false, false, false, false, false, false, false, false, false] rfl rfl (any_of HT_.out (by kernel_rfl)) (fun _ _ _ h => h) (Or.inl ⟨by rfl, ?_⟩) ?_ ?_
             rotate_left
             ·intro w'; go_simp; with_reducible rfl
             rotate_left
             ·simp only [Act.put, List.setIfInBounds_toArray, List.set_cons_zero, List.set_cons_succ, i64_w, i32_w]; rfl
             refine pure_ (i := 3) (N := some 33) (v := ?_) (a' := ?_) #[true, true, true, true, false, false, false, false, false, false, false, false, false, false, false, false, false, false, false, false, false] rfl rfl (any_of HT_.out (by kernel_rfl)) (fun _ _ _ h => h) (Or.inl ⟨by rfl, ?_⟩) ?_ ?_
             rotate_left
             ·intro w'; go_simp; with_reducible rfl
             rotate_left
             ·simp only [Act.put, List.setIfInBounds_toArray, List.set_cons_zero, List.set_cons_succ, i64_w, i32_w]; rfl
             refine pure_ (i := 4) (N := some 34) (v := ?_) (a' := ?_) #[true, true, true, true, true, false, false, false, false, false, false, false, false, false, false, false, false, false, false, false, false] rfl rfl (any_of HT_.out (by kernel_rfl)) (fun _ _ _ h => h) (Or.inl ⟨by rfl, ?_⟩) ?_ ?_
             rotate_left
             ·intro w'; go_simp; with_reducible rfl
             rotate_left
             ·simp only [Act.put, List.setIfInBounds_toArray, List.set_cons_zero, List.set_cons_succ, i64_w, i32_w]; rfl
             refine pure_ (i := 5) (N := some 35) (v := ?_) (a' := ?_) #[true, true, true, true, true, true, false, false, false, false, false, false, false, false, false, false, false, false, false, false, false] rfl rfl (any_of HT_.out (by kernel_rfl)) (fun _ _ _ h => h) (Or.inl ⟨by rfl, ?_⟩) ?_ ?_
             rotate_left
             ·intro w'; go_simp; with_reducible rfl
             rotate_left
             ·simp only [Act.put, List.setIfInBounds_toArray, List.set_cons_zero, List.set_cons_succ, i64_w, i32_w]; rfl
             refine pure_ (i := 6) (N := some 36) (v := ?_) (a' := ?_) #[true, true, true, true, true, true, true, false, false, false, false, false, false, false, false, false, false, false, false, false, false] rfl rfl (any_of HT_.out (by kernel_rfl)) (fun _ _ _ h => h) (Or.inl ⟨by rfl, ?_⟩) ?_ ?_
             rotate_left
             ·intro w'; go_simp; with_reducible rfl
             rotate_left
             ·simp only [Act.put, List.setIfInBounds_toArray, List.set_cons_zero, List.set_cons_succ, i64_w, i32_w]; rfl
             refine pure_ (i := 7) (N := some 37) (v := ?_) (a' := ?_) #[true, true, true, true, true, true, true, true, false, false, false, false, false, false, false, false, false, false, false, false, false] rfl rfl (any_of HT_.out (by kernel_rfl)) (fun _ _ _ h => h) (Or.inl ⟨by rfl, ?_⟩) ?_ ?_
             rotate_left
             ·intro w'; go_simp; with_reducible rfl
             rotate_left
             ·simp only [Act.put, List.setIfInBounds_toArray, List.set_cons_zero, List.set_cons_succ, i64_w, i32_w]; rfl
             refine pure_ (i := 9) (N := some 39) (v := ?_) (a' := ?_) #[true, true, true, true, true, true, true, true, false, true, false, false, false, false, false, false, false, false, false, false, false] rfl rfl (any_of HT_.out (by kernel_rfl)) (fun _ _ _ h => h) (Or.inl ⟨by rfl, ?_⟩) ?_ ?_
             rotate_left
             ·intro w'; go_simp; with_reducible rfl
             rotate_left
             ·simp only [Act.put, List.setIfInBounds_toArray, List.set_cons_zero, List.set_cons_succ, i64_w, i32_w]; rfl
             refine pure_ (i := 10) (N := some 40) (v := ?_) (a' := ?_) #[true, true, true, true, true, true, true, true, false, true, true, false, false, false, false, false, false, false, false, false, false] rfl rfl (any_of HT_.out (by kernel_rfl)) (fun _ _ _ h => h) (Or.inl ⟨by rfl, ?_⟩) ?_ ?_
             rotate_left
             ·intro w'; go_simp; with_reducible rfl
             rotate_left
             ·simp only [Act.put, List.setIfInBounds_toArray, List.set_cons_zero, List.set_cons_succ, i64_w, i32_w]; rfl
             refine pure_ (i := 11) (N := some 41) (v := ?_) (a' := ?_) #[true, true, true, true, true, true, true, true, false, true, true, true, false, false, false, false, false, false, false, false, false] rfl rfl (any_of HT_.out (by kernel_rfl)) (fun _ _ _ h => h) (Or.inl ⟨by rfl, ?_⟩) ?_ ?_
             rotate_left
             ·intro w'; go_simp; with_reducible rfl
             rotate_left
             ·simp only [Act.put, List.setIfInBounds_toArray, List.set_cons_zero, List.set_cons_succ, i64_w, i32_w]; rfl
             refine pure_ (i := 12) (N := some 42) (v := ?_) (a' := ?_) #[true, true, true, true, true, true, true, true, false, true, true, true, true, false, false, false, false, false, false, false, false] rfl rfl (any_of HT_.out (by kernel_rfl)) (fun _ _ _ h => h) (Or.inl ⟨by rfl, ?_⟩) ?_ ?_
             rotate_left
             ·intro w'; go_simp; with_reducible rfl
             rotate_left
             ·simp only [Act.put, List.setIfInBounds_toArray, List.set_cons_zero, List.set_cons_succ, i64_w, i32_w]; rfl
             refine pure_ (i := 16) (N := some 46) (v := ?_) (a' := ?_) #[true, true, true, true, true, true, true, true, false, true, true, true, true, false, false, false, true, false, false, false, false] rfl rfl (any_of HT_.out (by kernel_rfl)) (fun _ _ _ h => h) (Or.inl ⟨by rfl, ?_⟩) ?_ ?_
             rotate_left
             ·intro w'; go_simp; with_reducible rfl
             rotate_left
             ·simp only [Act.put, List.setIfInBounds_toArray, List.set_cons_zero, List.set_cons_succ, i64_w, i32_w]; rfl
             refine pure_ (i := 17) (N := some 47) (v := ?_) (a' := ?_) #[true, true, true, true, true, true, true, true, false, true, true, true, true, false, false, false, true, true, false, false, false] rfl rfl (any_of HT_.out (by kernel_rfl)) (fun _ _ _ h => h) (Or.inl ⟨by rfl, ?_⟩) ?_ ?_
             rotate_left
             ·intro w'; go_simp; with_reducible rfl
             rotate_left
             ·simp only [Act.put, List.setIfInBounds_toArray, List.set_cons_zero, List.set_cons_succ, i64_w, i32_w]; rfl
             refine take_ (i := 8) (N := some 38) (v := ?_) (a' := ?_) #[true, true, true, true, true, true, true, true, true, true, true, true, true, false, false, false, true, true, false, false, false] rfl rfl (take_ofW HT_.out HW_.out (by kernel_rfl)) (fun _ _ _ h => h) (Or.inl ⟨by rfl, ?_⟩) hHeld ?_ ?_
             rotate_left
             ·rintro w' ⟨s0, s1, s2, s3, s4, s5⟩; go_simp; with_reducible rfl
             rotate_left
             ·simp only [Act.put, List.setIfInBounds_toArray, List.set_cons_zero, List.set_cons_succ, i64_w, i32_w]; rfl
             refine take_ (i := 13) (N := some 43) (v := ?_) (a' := ?_) #[true, true, true, true, true, true, true, true, true, true, true, true, true, true, false, false, true, true, false, false, false] rfl rfl (take_ofW HT_.out HW_.out (by kernel_rfl)) (fun _ _ _ h => h) (Or.inl ⟨by rfl, ?_⟩) hHeld ?_ ?_
             rotate_left
             ·rintro w' ⟨s0, s1, s2, s3, s4, s5⟩; go_simp; with_reducible rfl
             rotate_left
             ·simp only [Act.put, List.setIfInBounds_toArray, List.set_cons_zero, List.set_cons_succ, i64_w, i32_w]; rfl
             refine pure_ (i := 14) (N := some 44) (v := ?_) (a' := ?_) #[true, true, true, true, true, true, true, true, true, true, true, true, true, true, true, false, true, true, false, false, false] rfl rfl (any_of HT_.out (by kernel_rfl)) (fun _ _ _ h => h) (Or.inl ⟨by rfl, ?_⟩) ?_ ?_
             rotate_left
             ·intro w'; go_simp; with_reducible rfl
             rotate_left
             ·simp only [Act.put, List.setIfInBounds_toArray, List.set_cons_zero, List.set_cons_succ, i64_w, i32_w]; rfl
             refine take_ (i := 15) (N := some 45) (v := ?_) (a' := ?_) #[true, true, true, true, true, true, true, true, true, true, true, true, true, true, true, true, true, true, false, false, false] rfl rfl (take_ofW HT_.out HW_.out (by kernel_rfl)) (fun _ _ _ h => h) (Or.inl ⟨by rfl, ?_⟩) hHeld ?_ ?_
             rotate_left
             ·rintro w' ⟨s0, s1, s2, s3, s4, s5⟩; go_simp; with_reducible rfl
             rotate_left
             ·simp only [Act.put, List.setIfInBounds_toArray, List.set_cons_zero, List.set_cons_succ, i64_w, i32_w]; rfl
             refine one_ (i := 18) (N := some 48) #[true, true, true, true, true, true, true, true, true, true, true, true, true, true, true, true, true, true, true, false, false] rfl rfl (one_of HT_.out (by kernel_rfl)) di_ (fun K hK => ?_)
             refine goes_ Try.func114 (by kernel_rfl) rfl #[.agg #[.int .i64 a1_0, .int .i64 a1_1], .int .i64 x8_1, .int .i64 x9_2] (by rfl) rfl rfl ma_ ?_
             with_reducible refine (speculumref06_Bound.calls a1_0 a1_1 x8_1 x9_2 t487 _ A34.out).mono ?_
             rintro e w37 ⟨rfl, hb⟩
             refine ⟨_, rfl, ?_⟩
             have n0_ := Aside0.mk (bb_ BK479 hb)
             have n1_ := Aside0.mk (bb_ BK480 hb)
             have n2_ := Aside0.mk (bb_ BK484 hb)
             have n3_ := Aside0.mk (below_step (hb_ HB) hb)
             clear BK479
             clear BK480
             clear BK484
             clear HB
             have BK479 := n0_
             have BK480 := n1_
             have BK484 := n2_
             have HB := n3_
             clear n0_ n1_ n2_ n3_
             (try clear hb)
             (try clear hb2)
             (try clear hk)
             (try clear hi)
             refine hK.out _ _ ⟨(blk_cell BK479.out 0).trans rfl, (blk_cell BK479.out 1).trans rfl, ((HB.out.cell (World.block_lt_of_cell? w _ hw485_0)).trans hw485_0), ((HB.out.cell (World.block_lt_of_cell? w _ hw485_1)).trans hw485_1), ((HB.out.cell (World.block_lt_of_cell? w _ hw486_0)).trans hw486_0), ((HB.out.cell (World.block_lt_of_cell? w _ hw486_1)).trans hw486_1)⟩ (fun hHeld => ?_)
             clear hK K
             refine norm_ (a' := ?_) ?_ ?_
             rotate_left
             ·show Act.put _ (some 48) _ = _
              simp only [Act.put, List.setIfInBounds_toArray, List.set_cons_zero, List.set_cons_succ, i64_w, i32_w]
              rfl
             refine pure_ (i := 19) (N := some 49) (v := ?_) (a' := ?_) #[true, true, true, true, true, true, true, true, true, true, true, true, true, true, true, true, true, true, true, true, false] rfl rfl (any_of HT_.out (by kernel_rfl)) (fun _ _ _ h => h) (Or.inl ⟨by rfl, ?_⟩) ?_ ?_
             rotate_left
             ·intro w'; go_simp; with_reducible rfl
             rotate_left
             ·simp only [Act.put, List.setIfInBounds_toArray, List.set_cons_zero, List.set_cons_succ, i64_w, i32_w]; rfl
             refine pure_ (i := 20) (N := some 50) (v := ?_) (a' := ?_) #[true, true, true, true, true, true, true, true, true, true, true, true, true, true, true, true, true, true, true, true, true] rfl rfl (any_of HT_.out (by kernel_rfl)) (fun _ _ _ h => h) (Or.inl ⟨by rfl, ?_⟩) ?_ ?_
             rotate_left
             ·intro w'; go_simp; with_reducible rfl
             rotate_left
             ·simp only [Act.put, List.setIfInBounds_toArray, List.set_cons_zero, List.set_cons_succ, i64_w, i32_w]; rfl
             refine done_ (done_of HT_.out (by kernel_rfl)) ?_
             have hnb38 := NB480_479.out
             have hnc38 := NB479_480.out
             have hnb39 := NB480_484.out
             have hnc39 := NB484_480.out
             have hcz40_0 : w37.cell? ⟨gb480, 0, none⟩ = some (.int .i64 x481000_2) := (blk_cell BK480.out 0).trans rfl
             have hcz40_1 : w37.cell? ⟨gb480, 1, none⟩ = some (.int .i64 x481001_2) := (blk_cell BK480.out 1).trans rfl
             have hfz40_0 := blk_frozen BK480.out 0
             have hfz40_1 := blk_frozen BK480.out 1
             try go_wp2
             refine bodyPost_ret (results_tc rfl _ _ gb480 48 #[.int .i64 0, .int .i64 0] (0, 0) _ rfl (by (with_reducible repeat (first | refine blk_drewN ?_ _ | refine blk_drew ?_ | refine blk_alloc ?_ _)); refine blk_put (cs := #[.int .i64 0, .int .i64 x481001_2]) ?_ 1 _ rfl; (with_reducible repeat (first | refine blk_drewN ?_ _ | refine blk_drew ?_ | refine blk_alloc ?_ _)); refine blk_put (cs := #[.int .i64 x481000_2, .int .i64 x481001_2]) ?_ 0 _ rfl; (with_reducible repeat (first | refine blk_drewN ?_ _ | refine blk_drew ?_ | refine blk_alloc ?_ _)); exact BK480.out) Try.underlying48 rfl (by kernel_rfl)) rfl ?_
             exact ⟨by first | rfl | (simp [errW_none, errW_some] <;> rfl) | (simp [*, errW_none, errW_some] <;> rfl), by repeat (first | (with_reducible first | exact HB.out | apply below_alloc | apply pw_below_drewN | apply below_drew1 | refine below_set ?_ GE479.out | refine below_set ?_ GE480.out | refine below_set ?_ GE484.out) | exact HB.out)⟩
            ·rw [if_neg c35] at H
             have c35b0 : decide (t487 < (wrap64 (((rd_T38 l0 x8_1).f1) - ((rd_T38 l0 x9_2).f0)))) = false := decide_eq_false c35
             clear c35
             have H' := Aside0.mk H
             clear H
             try go_wp2
             have n0_ := Aside0.mk (blk_drew BK479.out)
             have n1_ := Aside0.mk (blk_drew BK480.out)
             have n2_ := Aside0.mk (blk_drew BK484.out)
             have n3_ := Aside0.mk (below_drew1 HB.out)
             clear BK479
             clear BK480
             clear BK484
             clear HB
             have BK479 := n0_
             have BK480 := n1_
             have BK484 := n2_
             have HB := n3_
             clear n0_ n1_ n2_ n3_
             have p485 : 0 ≤ (x8_1 : Int) := of_decide_eq_true as_
             have q485 : x8_1 < (l0.length : Int) := of_decide_eq_true as_
             obtain ⟨ad485, e485, hx485_0, hx485_1⟩ := at_T38 HR0.out x8_1 p485 q485
             have hw485_1 := hx485_1
             have hw485_0 := hx485_0
             cases e485
             replace hx485_0 := (HB.out.cell (World.block_lt_of_cell? w _ hx485_0)).trans hx485_0
             replace hx485_1 := (HB.out.cell (World.block_lt_of_cell? w _ hx485_1)).trans hx485_1
             replace p485 := eq_true p485
             replace q485 := eq_true q485
             have p486 : 0 ≤ (x9_2 : Int) := of_decide_eq_true as_
             have q486 : x9_2 < (l0.length : Int) := of_decide_eq_true as_
             obtain ⟨ad486, e486, hx486_0, hx486_1⟩ := at_T38 HR0.out x9_2 p486 q486
             have hw486_1 := hx486_1
             have hw486_0 := hx486_0
             obtain rfl : ad485 = ad486 := (by injection e486)
             replace hx486_0 := (HB.out.cell (World.block_lt_of_cell? w _ hx486_0)).trans hx486_0
             replace hx486_1 := (HB.out.cell (World.block_lt_of_cell? w _ hx486_1)).trans hx486_1
             replace p486 := eq_true p486
             replace q486 := eq_true q486
             refine start_ (n := 21) (S := fun w' => w'.cell? ⟨gb479, 0, none⟩ = some (.int .i64 a1_0) ∧ w'.cell? ⟨gb479, 1, none⟩ = some (.int .i64 a1_1) ∧ w'.cell? (ad485.add ((x8_1).toNat * 2)) = some (.int .i64 ((rd_T38 l0 x8_1).f0)) ∧ w'.cell? ⟨(ad485.add ((x8_1).toNat * 2)).block, (ad485.add ((x8_1).toNat * 2)).off + 1, none⟩ = some (.int .i64 ((rd_T38 l0 x8_1).f1)) ∧ w'.cell? (ad485.add ((x9_2).toNat * 2)) = some (.int .i64 ((rd_T38 l0 x9_2).f0)) ∧ w'.cell? ⟨(ad485.add ((x9_2).toNat * 2)).block, (ad485.add ((x9_2).toNat * 2)).off + 1, none⟩ = some (.int .i64 ((rd_T38 l0 x9_2).f1))) (ds := []) #[false, false, false, false, false, false, false, false, false, false, false, false, false, false, false, false, false, false, false, false, false] (by kernel_rfl) rfl rfl ⟨(blk_cell BK479.out 0).trans rfl, (blk_cell BK479.out 1).trans rfl, ((HB.out.cell (World.block_lt_of_cell? w _ hw485_0)).trans hw485_0), ((HB.out.cell (World.block_lt_of_cell? w _ hw485_1)).trans hw485_1), ((HB.out.cell (World.block_lt_of_cell? w _ hw486_0)).trans hw486_0), ((HB.out.cell (World.block_lt_of_cell? w _ hw486_1)).trans hw486_1)⟩ (fun hHeld => ?_); refine with_tabW speculumref06_Judge.tab10 speculumref06_Judge.bits10 (fun HT_ HW_ => ?_)
             generalize wr.drew = w41 at BK479 BK480 BK484 HB hx485_0 hx485_1 hx486_0 hx486_1 hHeld ⊢
             refine pure_ (i := 0) (N := some 30) (v := ?_) (a' := ?_) #[true, false, false, false, false, false, false, false, false, false, false, false, false, false, false, false, false, false, false, false, false] rfl rfl (any_of HT_.out (by kernel_rfl)) (fun _ _ _ h => h) (Or.inl ⟨by rfl, ?_⟩) ?_ ?_
             rotate_left
             ·intro w'; go_simp; with_reducible rfl
             rotate_left
             ·simp only [Act.put, List.setIfInBounds_toArray, List.set_cons_zero, List.set_cons_succ, i64_w, i32_w]; rfl
             refine pure_ (i := 1) (N := some 31) (v := ?_) (a' := ?_) #[true, true, false, false, false, false, false, false, false, false, false, false, false, false, false, false, false, false, false, false, false] rfl rfl (any_of HT_.out (by kernel_rfl)) (fun _ _ _ h => h) (Or.inl ⟨by rfl, ?_⟩) ?_ ?_
             rotate_left
             ·intro w'; go_simp; with_reducible rfl
             rotate_left
             ·simp only [Act.put, List.setIfInBounds_toArray, List.set_cons_zero, List.set_cons_succ, i64_w, i32_w]; rfl
             refine pure_ (i := 2) (N := some 32) (v := ?_) (a' := ?_) #[true, true, true, false, false, false, false, false, false, false, false, false, false, false, false, false, false, false, false, false, false] rfl rfl (any_of HT_.out (by kernel_rfl)) (fun _ _ _ h => h) (Or.inl ⟨by rfl, ?_⟩) ?_ ?_
             rotate_left
             ·intro w'; go_simp; with_reducible rfl
             rotate_left
             ·simp only [Act.put, List.setIfInBounds_toArray, List.set_cons_zero, List.set_cons_succ, i64_w, i32_w]; rfl
             refine pure_ (i := 3) (N := some 33) (v := ?_) (a' := ?_) #[true, true, true, true, false, false, false, false, false, false, false, false, false, false, false, false, false, false, false, false, false] rfl rfl (any_of HT_.out (by kernel_rfl)) (fun _ _ _ h => h) (Or.inl ⟨by rfl, ?_⟩) ?_ ?_
             rotate_left
             ·intro w'; go_simp; with_reducible rfl
             rotate_left
             ·simp only [Act.put, List.setIfInBounds_toArray, List.set_cons_zero, List.set_cons_succ, i64_w, i32_w]; rfl
             refine pure_ (i := 4) (N := some 34) (v := ?_) (a' := ?_) #[true, true, true, true, true, false, false, false, false, false, false, false, false, false, false, false, false, false, false, false, false] rfl rfl (any_of HT_.out (by kernel_rfl)) (fun _ _ _ h => h) (Or.inl ⟨by rfl, ?_⟩) ?_ ?_
             rotate_left
             ·intro w'; go_simp; with_reducible rfl
             rotate_left
             ·simp only [Act.put, List.setIfInBounds_toArray, List.set_cons_zero, List.set_cons_succ, i64_w, i32_w]; rfl
             refine pure_ (i := 5) (N := some 35) (v := ?_) (a' := ?_) #[true, true, true, true, true, true, false, false, false, false, false, false, false, false, false, false, false, false, false, false, false] rfl rfl (any_of HT_.out (by kernel_rfl)) (fun _ _ _ h => h) (Or.inl ⟨by rfl, ?_⟩) ?_ ?_
             rotate_left
             ·intro w'; go_simp; with_reducible rfl
             rotate_left
             ·simp only [Act.put, List.setIfInBounds_toArray, List.set_cons_zero, List.set_cons_succ, i64_w, i32_w]; rfl
             refine pure_ (i := 6) (N := some 36) (v := ?_) (a' := ?_) #[true, true, true, true, true, true, true, false, false, false, false, false, false, false, false, false, false, false, false, false, false] rfl rfl (any_of HT_.out (by kernel_rfl)) (fun _ _ _ h => h) (Or.inl ⟨by rfl, ?_⟩) ?_ ?_
             rotate_left
             ·intro w'; go_simp; with_reducible rfl
             rotate_left
             ·simp only [Act.put, List.setIfInBounds_toArray, List.set_cons_zero, List.set_cons_succ, i64_w, i32_w]; rfl
             refine pure_ (i := 7) (N := some 37) (v := ?_) (a' := ?_) #[true, true, true, true, true, true, true, true, false, false, false, false, false, false, false, false, false, false, false, false, false] rfl rfl (any_of HT_.out (by kernel_rfl)) (fun _ _ _ h => h) (Or.inl ⟨by rfl, ?_⟩) ?_ ?_
             rotate_left
             ·intro w'; go_simp; with_reducible rfl
             rotate_left
             ·simp only [Act.put, List.setIfInBounds_toArray, List.set_cons_zero, List.set_cons_succ, i64_w, i32_w]; rfl
             refine pure_ (i := 9) (N := some 39) (v := ?_) (a' := ?_) #[true, true, true, true, true, true, true, true, false, true, false, false, false, false, false, false, false, false, false, false, false] rfl rfl (any_of HT_.out (by kernel_rfl)) (fun _ _ _ h => h) (Or.inl ⟨by rfl, ?_⟩) ?_ ?_
             rotate_left
             ·intro w'; go_simp; with_reducible rfl
             rotate_left
             ·simp only [Act.put, List.setIfInBounds_toArray, List.set_cons_zero, List.set_cons_succ, i64_w, i32_w]; rfl
             refine pure_ (i := 10) (N := some 40) (v := ?_) (a' := ?_) #[true, true, true, true, true, true, true, true, false, true, true, false, false, false, false, false, false, false, false, false, false] rfl rfl (any_of HT_.out (by kernel_rfl)) (fun _ _ _ h => h) (Or.inl ⟨by rfl, ?_⟩) ?_ ?_
             rotate_left
             ·intro w'; go_simp; with_reducible rfl
             rotate_left
             ·simp only [Act.put, List.setIfInBounds_toArray, List.set_cons_zero, List.set_cons_succ, i64_w, i32_w]; rfl
             refine pure_ (i := 11) (N := some 41) (v := ?_) (a' := ?_) #[true, true, true, true, true, true, true, true, false, true, true, true, false, false, false, false, false, false, false, false, false] rfl rfl (any_of HT_.out (by kernel_rfl)) (fun _ _ _ h => h) (Or.inl ⟨by rfl, ?_⟩) ?_ ?_
             rotate_left
             ·intro w'; go_simp; with_reducible rfl
             rotate_left
             ·simp only [Act.put, List.setIfInBounds_toArray, List.set_cons_zero, List.set_cons_succ, i64_w, i32_w]; rfl
             refine pure_ (i := 12) (N := some 42) (v := ?_) (a' := ?_) #[true, true, true, true, true, true, true, true, false, true, true, true, true, false, false, false, false, false, false, false, false] rfl rfl (any_of HT_.out (by kernel_rfl)) (fun _ _ _ h => h) (Or.inl ⟨by rfl, ?_⟩) ?_ ?_
             rotate_left
             ·intro w'; go_simp; with_reducible rfl
             rotate_left
             ·simp only [Act.put, List.setIfInBounds_toArray, List.set_cons_zero, List.set_cons_succ, i64_w, i32_w]; rfl
             refine pure_ (i := 16) (N := some 46) (v := ?_) (a' := ?_) #[true, true, true, true, true, true, true, true, false, true, true, true, true, false, false, false, true, false, false, false, false] rfl rfl (any_of HT_.out (by kernel_rfl)) (fun _ _ _ h => h) (Or.inl ⟨by rfl, ?_⟩) ?_ ?_
             rotate_left
             ·intro w'; go_simp; with_reducible rfl
             rotate_left
             ·simp only [Act.put, List.setIfInBounds_toArray, List.set_cons_zero, List.set_cons_succ, i64_w, i32_w]; rfl
             refine pure_ (i := 17) (N := some 47) (v := ?_) (a' := ?_) #[true, true, true, true, true, true, true, true, false, true, true, true, true, false, false, false, true, true, false, false, false] rfl rfl (any_of HT_.out (by kernel_rfl)) (fun _ _ _ h => h) (Or.inl ⟨by rfl, ?_⟩) ?_ ?_
             rotate_left
             ·intro w'; go_simp; with_reducible rfl
             rotate_left
             ·simp only [Act.put, List.setIfInBounds_toArray, List.set_cons_zero, List.set_cons_succ, i64_w, i32_w]; rfl
             refine take_ (i := 8) (N := some 38) (v := ?_) (a' := ?_) #[true, true, true, true, true, true, true, true, true, true, true, true, true, false, false, false, true, true, false, false, false] rfl rfl (take_ofW HT_.out HW_.out (by kernel_rfl)) (fun _ _ _ h => h) (Or.inl ⟨by rfl, ?_⟩) hHeld ?_ ?_
             rotate_left
             ·rintro w' ⟨s0, s1, s2, s3, s4, s5⟩; go_simp; with_reducible rfl
             rotate_left
             ·simp only [Act.put, List.setIfInBounds_toArray, List.set_cons_zero, List.set_cons_succ, i64_w, i32_w]; rfl
             refine take_ (i := 13) (N := some 43) (v := ?_) (a' := ?_) #[true, true, true, true, true, true, true, true, true, true, true, true, true, true, false, false, true, true, false, false, false] rfl rfl (take_ofW HT_.out HW_.out (by kernel_rfl)) (fun _ _ _ h => h) (Or.inl ⟨by rfl, ?_⟩) hHeld ?_ ?_
             rotate_left
             ·rintro w' ⟨s0, s1, s2, s3, s4, s5⟩; go_simp; with_reducible rfl
             rotate_left
             ·simp only [Act.put, List.setIfInBounds_toArray, List.set_cons_zero, List.set_cons_succ, i64_w, i32_w]; rfl
             refine pure_ (i := 14) (N := some 44) (v := ?_) (a' := ?_) #[true, true, true, true, true, true, true, true, true, true, true, true, true, true, true, false, true, true, false, false, false] rfl rfl (any_of HT_.out (by kernel_rfl)) (fun _ _ _ h => h) (Or.inl ⟨by rfl, ?_⟩) ?_ ?_
             rotate_left
             ·intro w'; go_simp; with_reducible rfl
             rotate_left
             ·simp only [Act.put, List.setIfInBounds_toArray, List.set_cons_zero, List.set_cons_succ, i64_w, i32_w]; rfl
             refine take_ (i := 15) (N := some 45) (v := ?_) (a' := ?_) #[true, true, true, true, true, true, true, true, true, true, true, true, true, true, true, true, true, true, false, false, false] rfl rfl (take_ofW HT_.out HW_.out (by kernel_rfl)) (fun _ _ _ h => h) (Or.inl ⟨by rfl, ?_⟩) hHeld ?_ ?_
             rotate_left
             ·rintro w' ⟨s0, s1, s2, s3, s4, s5⟩; go_simp; with_reducible rfl
             rotate_left
             ·simp only [Act.put, List.setIfInBounds_toArray, List.set_cons_zero, List.set_cons_succ, i64_w, i32_w]; rfl
             refine one_ (i := 18) (N := some 48) #[true, true, true, true, true, true, true, true, true, true, true, true, true, true, true, true, true, true, true, false, false] rfl rfl (one_of HT_.out (by kernel_rfl)) di_ (fun K hK => ?_)
             refine goes_ Try.func114 (by kernel_rfl) rfl #[.agg #[.int .i64 a1_0, .int .i64 a1_1], .int .i64 x8_1, .int .i64 x9_2] (by rfl) rfl rfl ma_ ?_
             with_reducible refine (speculumref06_Bound.calls a1_0 a1_1 x8_1 x9_2 t487 _ A34.out).mono ?_
             rintro e w42 ⟨rfl, hb⟩
             refine ⟨_, rfl, ?_⟩
             have n0_ := Aside0.mk (bb_ BK479 hb)
             have n1_ := Aside0.mk (bb_ BK480 hb)
             have n2_ := Aside0.mk (bb_ BK484 hb)
             have n3_ := Aside0.mk (below_step (hb_ HB) hb)
             clear BK479
             clear BK480
             clear BK484
             clear HB
             have BK479 := n0_
             have BK480 := n1_
             have BK484 := n2_
             have HB := n3_
             clear n0_ n1_ n2_ n3_
             (try clear hb)
             (try clear hb2)
             (try clear hk)
             (try clear hi)
             refine hK.out _ _ ⟨(blk_cell BK479.out 0).trans rfl, (blk_cell BK479.out 1).trans rfl, ((HB.out.cell (World.block_lt_of_cell? w _ hw485_0)).trans hw485_0), ((HB.out.cell (World.block_lt_of_cell? w _ hw485_1)).trans hw485_1), ((HB.out.cell (World.block_lt_of_cell? w _ hw486_0)).trans hw486_0), ((HB.out.cell (World.block_lt_of_cell? w _ hw486_1)).trans hw486_1)⟩ (fun hHeld => ?_)
             clear hK K
             refine norm_ (a' := ?_) ?_ ?_
             rotate_left
             ·show Act.put _ (some 48) _ = _
              simp only [Act.put, List.setIfInBounds_toArray, List.set_cons_zero, List.set_cons_succ, i64_w, i32_w]
              rfl
             refine pure_ (i := 19) (N := some 49) (v := ?_) (a' := ?_) #[true, true, true, true, true, true, true, true, true, true, true, true, true, true, true, true, true, true, true, true, false] rfl rfl (any_of HT_.out (by kernel_rfl)) (fun _ _ _ h => h) (Or.inl ⟨by rfl, ?_⟩) ?_ ?_
             rotate_left
             ·intro w'; go_simp; with_reducible rfl
             rotate_left
             ·simp only [Act.put, List.setIfInBounds_toArray, List.set_cons_zero, List.set_cons_succ, i64_w, i32_w]; rfl
             refine pure_ (i := 20) (N := some 50) (v := ?_) (a' := ?_) #[true, true, true, true, true, true, true, true, true, true, true, true, true, true, true, true, true, true, true, true, true] rfl rfl (any_of HT_.out (by kernel_rfl)) (fun _ _ _ h => h) (Or.inl ⟨by rfl, ?_⟩) ?_ ?_
             rotate_left
             ·intro w'; go_simp; with_reducible rfl
             rotate_left
             ·simp only [Act.put, List.setIfInBounds_toArray, List.set_cons_zero, List.set_cons_succ, i64_w, i32_w]; rfl
             refine done_ (done_of HT_.out (by kernel_rfl)) ?_
             try go_wp2
             go_roundg k2
             case measure => have := HK1.out; have := HK2.out; omega
             case rel => exact ⟨(wrap64 (x9_2 + 1)), (x481000_2), (x481001_2), rs_, H', ⟨by have := HK1.out; have := HK2.out; omega⟩, ⟨by (with_reducible repeat (first | refine blk_drewN ?_ _ | refine blk_drew ?_ | refine blk_alloc ?_ _)); exact BK479.out⟩, ⟨by (with_reducible repeat (first | refine blk_drewN ?_ _ | refine blk_drew ?_ | refine blk_alloc ?_ _)); exact BK480.out⟩, ⟨by (with_reducible repeat (first | refine blk_drewN ?_ _ | refine blk_drew ?_ | refine blk_alloc ?_ _)); exact BK484.out⟩, ⟨by repeat (first | (with_reducible first | exact HB.out | apply below_alloc | apply pw_below_drewN | apply below_drew1 | refine below_set ?_ GE479.out | refine below_set ?_ GE480.out | refine below_set ?_ GE484.out) | exact HB.out)⟩⟩
           ·rw [if_neg c33] at H
            exact absurd H (by simp)
          ·rw [if_neg c32] at H
           exact absurd H (by simp)
         ·rw [if_neg c31] at H
          exact absurd H (by simp)
       ·rw [if_neg c28] at H
        have c28b0 : decide (x9_2 < (l0.length : Int)) = false := decide_eq_false c28
        clear c28
        have H' := Aside0.mk H
        clear H
        go_wp2
        go_roundg k2
        case measure => have := HK1.out; have := HK2.out; omega
        case rel => exact ⟨(wrap64 (x8_1 + 1)), (x481000_2), (x481001_2), rs_, H', ⟨by have := HK1.out; have := HK2.out; omega⟩, ⟨by (with_reducible repeat (first | refine blk_drewN ?_ _ | refine blk_drew ?_ | refine blk_alloc ?_ _)); exact BK479.out⟩, ⟨by (with_reducible repeat (first | refine blk_drewN ?_ _ | refine blk_drew ?_ | refine blk_alloc ?_ _)); exact BK480.out⟩, ⟨by (with_reducible repeat (first | refine blk_drewN ?_ _ | refine blk_drew ?_ | refine blk_alloc ?_ _)); exact BK484.out⟩, ⟨by repeat (first | (with_reducible first | exact HB.out | apply below_alloc | apply pw_below_drewN | apply below_drew1 | refine below_set ?_ GE479.out | refine below_set ?_ GE480.out | refine below_set ?_ GE484.out) | exact HB.out)⟩⟩
    ·rw [if_neg c27] at H
     have c27b0 : decide (x8_1 < (l0.length : Int)) = false := decide_eq_false c27
     clear c27
     simp only [Option.some.injEq, Prod.mk.injEq] at H
     obtain ⟨rfl, rfl, rfl⟩ := H
     have hnb43 := NB480_479.out
     have hnc43 := NB479_480.out
     have hnb44 := NB480_484.out
     have hnc44 := NB484_480.out
     have hcz45_0 : wr.cell? ⟨gb480, 0, none⟩ = some (.int .i64 x481000_1) := (blk_cell BK480.out 0).trans rfl
     have hcz45_1 : wr.cell? ⟨gb480, 1, none⟩ = some (.int .i64 x481001_1) := (blk_cell BK480.out 1).trans rfl
     have hfz45_0 := blk_frozen BK480.out 0
     have hfz45_1 := blk_frozen BK480.out 1
     go_wp2
     refine bodyPost_ret (results_tc rfl _ _ gb480 48 #[.int .i64 0, .int .i64 0] (0, 0) _ rfl (by (with_reducible repeat (first | refine blk_drewN ?_ _ | refine blk_drew ?_ | refine blk_alloc ?_ _)); refine blk_put (cs := #[.int .i64 0, .int .i64 x481001_1]) ?_ 1 _ rfl; (with_reducible repeat (first | refine blk_drewN ?_ _ | refine blk_drew ?_ | refine blk_alloc ?_ _)); refine blk_put (cs := #[.int .i64 x481000_1, .int .i64 x481001_1]) ?_ 0 _ rfl; (with_reducible repeat (first | refine blk_drewN ?_ _ | refine blk_drew ?_ | refine blk_alloc ?_ _)); exact BK480.out) Try.underlying48 rfl (by kernel_rfl)) rfl ?_
     exact ⟨by first | rfl | (simp [errW_none, errW_some] <;> rfl) | (simp [*, errW_none, errW_some] <;> rfl), by repeat (first | (with_reducible first | exact HB.out | apply below_alloc | apply pw_below_drewN | apply below_drew1 | refine below_set ?_ GE479.out | refine below_set ?_ GE480.out | refine below_set ?_ GE484.out) | exact HB.out)⟩
end Go.Proofs.Ytdkahcolfcmmpaa.Pr
namespace Go.Proofs.Ytdkahcolfcmmpaa.Pr
open Go.RowKit Go.Proofs.YtdkahcolfcmmpaaW.PrintWords Go.Proofs.YtdkahcolfcmmpaaW.PrintLast Go.Proofs.YtdkahcolfcmmpaaW.PrintMore
attribute [local go_sem] max2_int min2_int max_two min_two max_three min_three max_four min_four   -- for this text's walks alone
set_option linter.unusedVariables false
set_option linter.unusedSimpArgs false
def speculumbase_CopyRanges.f (l0 : List (S38)) : Option ((List (S38))) := (some (([] : List (S38)) : List (S38))).bind fun y488 => (if y488.length + l0.length < 8796093022208 then (some (y488 ++ l0)) else (none))
set_option maxHeartbeats 8000000 in
set_option maxRecDepth 100000 in
theorem speculumbase_CopyRanges.calls (A0 : Option Addr) (c0 : Nat) (l0 : List (S38)) (r : List (S38)) (w : World) (hr0 : Kd.C k38 w A0 l0.length l0) (hc0 : l0.length ≤ c0) (h : speculumbase_CopyRanges.f l0 = some r) :
  Calls Try.prog 80 #[.slice A0 l0.length c0] w fun e w' => ∃ v0_ : Value, e = .returned (v0_) ∧ Kd.R k38 38 w' w.heap.size (fun _ => True) v0_ r ∧ Below w.heap.size w w' := by
 have HR0 := Aside0.mk hr0
 have HC0 := Aside0.mk hc0
 clear hr0 hc0
 have HB := Aside0.mk (Below.refl w.heap.size w)
 have H : ((some (([] : List (S38)) : List (S38))).bind fun y488 => (if y488.length + l0.length < 8796093022208 then (some (y488 ++ l0)) else (none))) = some r := h
 clear h
 obtain ⟨y488, hy488⟩ : ∃ y_ : List (S38), y_ = (([] : List (S38))) := ⟨_, rfl⟩
 replace H : (if y488.length + l0.length < 8796093022208 then (some (y488 ++ l0)) else (none)) = some r := by first | (rw [hy488]; with_reducible exact H) | (have H2_ := (Option.bind_some _ _).symm.trans H; rw [hy488]; with_reducible exact H2_) | (have H2_ := (Option.bind_some _ _).symm.trans H; with_reducible exact H2_) | with_reducible exact H | (rw [hy488]; exact H) | exact H
 have Ny488 := Aside0.mk hy488
 clear hy488
 by_cases c2 : y488.length + l0.length < 8796093022208
 ·rw [if_pos c2] at H
  have LMc2 := Aside0.mk c2
  clear c2
  obtain ⟨y491, hy491⟩ : ∃ y_ : List (S38), y_ = (y488 ++ l0) := ⟨_, rfl⟩
  replace H : (some y491) = some r := by first | (rw [hy491]; with_reducible exact H) | (have H2_ := (Option.bind_some _ _).symm.trans H; rw [hy491]; with_reducible exact H2_) | (have H2_ := (Option.bind_some _ _).symm.trans H; with_reducible exact H2_) | with_reducible exact H | (rw [hy491]; exact H) | exact H
  have Ny491 := Aside0.mk hy491
  clear hy491
  obtain rfl := Option.some.inj H
  go_enter Try.func80, Try.ntmps80
  go_wp2_with (first | ((with_reducible refine gate_dst (N := 3) rfl ?_); refine Kd.R_lit k38 _ 38 ?hg (N := 3) ?hd (xs := ([] : List (S38))) (inner := []) (ok := fun _ => True) (okp := fun _ => True) ?hr ?hp (fun _ hk => hk) trivial (Below.refl _ _) (Nat.le_refl _) (by simp) ?_; (case hd => rfl); (case hg => rfl); (case hr => exact gr_); (case hp => exact (Reps.none _ _)); intro v489 w3 ho4 hb hg_ hnew_; clear hg_ hnew_; (first | rw [← Ny488.out] at ho4 | (simp only [Int.reduceToNat] at ho4; rw [← Ny488.out] at ho4)); have n0_ := Aside0.mk (Kd.R_lower ho4 (below_size (hb_ HB))); have n1_ := Aside0.mk (below_step (hb_ HB) hb); clear HB; have HO490 := n0_; have HB := n1_; clear n0_ n1_; clear hb ho4) | ((with_reducible refine gate_builtin (b := .append) (xs := #[.tmp 3, .tmp 4]) rfl ?_); at_builtin; refine Kd.R_append_rows k38 (w0 := w) w.heap.size rfl (.tmp 3) (.tmp 4) 36 38 (.agg #[(.int .i64 0), (.int .i64 0)]) 16 rfl Try.underlying36 info38 rfl di_ (by omega) v489 y488 l0 _ _ _ (fun _ => True) (fun _ => False) rfl rfl ?aO ?aR (fun _ _ h => h) (fun _ h => h.elim) ?aF ?aB ?aS ?aL ?_; (case aR => repeat (first | exact (Kd.C_below HR0.out HB.out) | (with_reducible refine Kd.C_alloc ?_ _) | (with_reducible refine Kd.C_drewN ?_ _) | (with_reducible refine Kd.C_drew ?_))); (case aB => exact (hb_ HB)); (case aF => exact (fun _ _ => trivial)); (case aO => exact (rk_ HO490)); (case aS => exact (below_size (hb_ HB))); (case aL => have := LMc2.out; omega); intro v492 w5 ho hb hg hat; rw [← Ny491.out] at ho; have n0_ := Aside0.mk (hb); have n1_ := Aside0.mk (ho); clear HB; clear HO490; have HB := n0_; have HO493 := n1_; clear n0_ n1_; clear ho hb hg hat))
  go_ret
  exact ⟨_, by first | rfl | (simp [errW_none, errW_some] <;> rfl) | (simp [*, errW_none, errW_some] <;> rfl), by (with_reducible repeat (first | apply Kd.R_alloc | apply Kd.R_drewN | apply Kd.R_drew)); exact HO493.out, by repeat (first | (with_reducible first | exact HB.out | apply below_alloc | apply pw_below_drewN | apply below_drew1) | exact HB.out)⟩
 ·rw [if_neg c2] at H
  exact absurd H (by simp)
end Go.Proofs.Ytdkahcolfcmmpaa.Pr
namespace Go.Proofs.Ytdkahcolfcmmpaa.Pr
open Go.RowKit Go.Proofs.YtdkahcolfcmmpaaW.PrintWords Go.Proofs.YtdkahcolfcmmpaaW.PrintLast Go.Proofs.YtdkahcolfcmmpaaW.PrintMore
attribute [local go_sem] max2_int min2_int max_two min_two max_three min_three max_four min_four   -- for this text's walks alone
set_option linter.unusedVariables false
set_option linter.unusedSimpArgs false
mutual
def speculumref06_Deciding.l0 : Nat → List (S38) → Int → Int → Int → Option (Int × Int)
 | 0, _, _, _, _ => none
 | k + 1, x0, x8, x495000, x495001 => if x8 < (x0.length : Int) then (if 0 ≤ x8 then (if (wrap64 (((rd_T38 x0 x8).f1) - ((rd_T38 x0 x8).f0))) > 200 then (some (0, 8)) else (speculumref06_Deciding.l0 k x0 (wrap64 (x8 + 1)) x495000 x495001)) else (none)) else (speculumref06_Deciding.l1 k x0 0 x495000 x495001)
def speculumref06_Deciding.l1 : Nat → List (S38) → Int → Int → Int → Option (Int × Int)
 | 0, _, _, _, _ => none
 | k + 1, x0, x9, x495000, x495001 => if x9 < (x0.length : Int) then (if 0 ≤ x9 then (speculumref06_Deciding.l2 k x0 x9 true ((rd_T38 x0 x9).f0) x495000 x495001) else (none)) else (some (0, 12))
def speculumref06_Deciding.l2 : Nat → List (S38) → Int → Bool → Int → Int → Int → Option (Int × Int)
 | 0, _, _, _, _, _, _ => none
 | k + 1, x0, x9, x10, x11, x495000, x495001 => if 0 ≤ x9 then (if x9 < (x0.length : Int) then (if x11 ≤ ((rd_T38 x0 x9).f1) then (speculumref06_Deciding.j3 k x0 x9 x10 x11 x10 x495000 x495001) else (speculumref06_Deciding.j3 k x0 x9 x10 x11 false x495000 x495001)) else (none)) else (none)
def speculumref06_Deciding.j3 : Nat → List (S38) → Int → Bool → Int → Bool → Int → Int → Option (Int × Int)
 | 0, _, _, _, _, _, _, _ => none
 | k + 1, x0, x9, x10, x11, x61, x495000, x495001 => if x61 = true then ((speculumbase_CopyRanges.f x0).bind fun t503 => (if 0 ≤ x9 then (if x9 < (t503.length : Int) then ((speculumref06_Judge.f k (t503.set (x9 : Int).toNat (⟨x11, x11⟩ : S38)) x495000 x495001).bind fun bt507 => (speculumref06_Deciding.l2 k x0 x9 (bt507.1 != 0) (wrap64 (x11 + 1)) x495000 x495001)) else (none)) else (none))) else (if x10 = true then (some (x9, 0)) else (speculumref06_Deciding.l1 k x0 (wrap64 (x9 + 1)) x495000 x495001))
end
def speculumref06_Deciding.f (k : Nat) (l0 : List (S38)) (a1_0 : Int) (a1_1 : Int) : Option (Int × Int) := (speculumref06_Judge.f k l0 a1_0 a1_1).bind fun bt495 => (if bt495.1 = 0 then (speculumref06_Deciding.l0 k l0 0 a1_0 a1_1) else (some (0, 24)))
set_option maxHeartbeats 8000000 in
set_option maxRecDepth 100000 in
theorem speculumref06_Deciding.calls (k : Nat) (A0 : Option Addr) (c0 : Nat) (l0 : List (S38)) (a1_0 : Int) (a1_1 : Int) (r1 : Int) (r2 : Int) (w : World) (hr0 : Kd.C k38 w A0 l0.length l0) (hc0 : l0.length ≤ c0) (h : speculumref06_Deciding.f k l0 a1_0 a1_1 = some (r1, r2)) :
  Calls Try.prog 37 #[.slice A0 l0.length c0, .agg #[.int .i64 a1_0, .int .i64 a1_1]] w fun e w' => e = .returned (.tuple #[.int .i64 r1, .int .i64 r2]) ∧ Below w.heap.size w w' := by
 have hu59 := Try.underlying59
 have hu48 := Try.underlying48
 have hu38 := Try.underlying38
 have HR0 := Aside0.mk hr0
 have HC0 := Aside0.mk hc0
 clear hr0 hc0
 have HB := Aside0.mk (Below.refl w.heap.size w)
 have H : ((speculumref06_Judge.f k l0 a1_0 a1_1).bind fun bt495 => (if bt495.1 = 0 then (speculumref06_Deciding.l0 k l0 0 a1_0 a1_1) else (some (0, 24)))) = some (r1, r2) := h
 clear h
 replace H := Option.bind_eq_some_iff.mp H
 obtain ⟨⟨t495, t496, t497⟩, A30, H⟩ := H
 replace H : (if t495 = 0 then (speculumref06_Deciding.l0 k l0 0 a1_0 a1_1) else (some (0, 24))) = some (r1, r2) := H
 have A3 := Aside0.mk A30
 clear A30
 by_cases c4 : t495 = 0
 ·rw [if_pos c4] at H
  have c4b0 : (t495 == 0) = true := beq_iff_eq.mpr c4
  have c4b1 : (t495 != 0) = false := bne_eq_false_iff_eq.mpr c4
  clear c4
  have H' := Aside0.mk H
  clear H
  go_enter Try.func37, Try.ntmps37
  go_wp2_with (first | ((with_reducible refine gate_dst (N := 3) rfl ?_); refine box_event ?hg (N := 3) ?hd (cs := #[.int .i64 a1_0, .int .i64 a1_1]) (t := 59) ?hr ?_; (case hd => rfl); (case hg => rfl); (case hr => exact gr_); intro gb494 hg w5 hbox hb; have n0_ := Aside0.mk (below_step (hb_ HB) hb); have n1_ := Aside0.mk (hbox); have n2_ := Aside0.mk ((hz_ HB hg)); have n3_ := Aside0.mk ((hz_ HB hg)); clear HB; have HB := n0_; have BK494 := n1_; have GW494 := n2_; have GE494 := n3_; clear n0_ n1_ n2_ n3_; clear hb hbox hg; have hcz6_0 : w5.cell? ⟨gb494, 0, none⟩ = some (.int .i64 a1_0) := (blk_cell BK494.out 0).trans rfl; have hcz6_1 : w5.cell? ⟨gb494, 1, none⟩ = some (.int .i64 a1_1) := (blk_cell BK494.out 1).trans rfl; have hfz6_0 := blk_frozen BK494.out 0; have hfz6_1 := blk_frozen BK494.out 1) | (go_at_call 79; (with_reducible refine (speculumref06_Judge.calls k _ _ l0 a1_0 a1_1 t495 t496 t497 _ ?side1 ?side2 A3.out).mono ?_); (case side1 => repeat (first | exact (Kd.C_below HR0.out HB.out) | (with_reducible refine Kd.C_alloc ?_ _) | (with_reducible refine Kd.C_drewN ?_ _) | (with_reducible refine Kd.C_drew ?_))); (case side2 => exact HC0.out); rintro e w7 ⟨rfl, hb⟩; have n0_ := Aside0.mk (bb_ BK494 hb); have n1_ := Aside0.mk (below_step (hb_ HB) hb); clear BK494; clear HB; have BK494 := n0_; have HB := n1_; clear n0_ n1_; (try clear hb); (try clear hb2); (try clear hk); (try clear hi)) | ((with_reducible refine gate_dst (N := 7) rfl ?_); refine box_event ?hg (N := 7) ?hd (cs := #[.int .i64 0, .int .i64 0]) (t := 48) ?hr ?_; (case hd => rfl); (case hg => rfl); (case hr => exact gr_); intro gb498 hg w8 hbox hb; have n0_ := Aside0.mk (bb_ BK494 hb); have n1_ := Aside0.mk (below_step (hb_ HB) hb); have n2_ := Aside0.mk (hbox); have n3_ := Aside0.mk ((hz_ HB hg)); have n4_ := Aside0.mk ((hz_ HB hg)); have n5_ := Aside0.mk ((nl_ BK494 hg)); have n6_ := Aside0.mk ((ng_ BK494 hg)); clear BK494; clear HB; have BK494 := n0_; have HB := n1_; have BK498 := n2_; have GW498 := n3_; have GE498 := n4_; have NB494_498 := n5_; have NB498_494 := n6_; clear n0_ n1_ n2_ n3_ n4_ n5_ n6_; clear hb hbox hg; have hnb9 := NB498_494.out; have hnc9 := NB494_498.out; have hcz10_0 : w8.cell? ⟨gb498, 0, none⟩ = some (.int .i64 0) := (blk_cell BK498.out 0).trans rfl; have hcz10_1 : w8.cell? ⟨gb498, 1, none⟩ = some (.int .i64 0) := (blk_cell BK498.out 1).trans rfl; have hfz10_0 := blk_frozen BK498.out 0; have hfz10_1 := blk_frozen BK498.out 1))
  repeat (go_quiet (first | ((with_reducible refine gate_dst (N := 3) rfl ?_); refine box_event ?hg (N := 3) ?hd (cs := #[.int .i64 a1_0, .int .i64 a1_1]) (t := 59) ?hr ?_; (case hd => rfl); (case hg => rfl); (case hr => exact gr_); intro gb494 hg w5 hbox hb; have n0_ := Aside0.mk (below_step (hb_ HB) hb); have n1_ := Aside0.mk (hbox); have n2_ := Aside0.mk ((hz_ HB hg)); have n3_ := Aside0.mk ((hz_ HB hg)); clear HB; have HB := n0_; have BK494 := n1_; have GW494 := n2_; have GE494 := n3_; clear n0_ n1_ n2_ n3_; clear hb hbox hg; have hcz6_0 : w5.cell? ⟨gb494, 0, none⟩ = some (.int .i64 a1_0) := (blk_cell BK494.out 0).trans rfl; have hcz6_1 : w5.cell? ⟨gb494, 1, none⟩ = some (.int .i64 a1_1) := (blk_cell BK494.out 1).trans rfl; have hfz6_0 := blk_frozen BK494.out 0; have hfz6_1 := blk_frozen BK494.out 1) | (go_at_call 79; (with_reducible refine (speculumref06_Judge.calls k _ _ l0 a1_0 a1_1 t495 t496 t497 _ ?side1 ?side2 A3.out).mono ?_); (case side1 => repeat (first | exact (Kd.C_below HR0.out HB.out) | (with_reducible refine Kd.C_alloc ?_ _) | (with_reducible refine Kd.C_drewN ?_ _) | (with_reducible refine Kd.C_drew ?_))); (case side2 => exact HC0.out); rintro e w7 ⟨rfl, hb⟩; have n0_ := Aside0.mk (bb_ BK494 hb); have n1_ := Aside0.mk (below_step (hb_ HB) hb); clear BK494; clear HB; have BK494 := n0_; have HB := n1_; clear n0_ n1_; (try clear hb); (try clear hb2); (try clear hk); (try clear hi)) | ((with_reducible refine gate_dst (N := 7) rfl ?_); refine box_event ?hg (N := 7) ?hd (cs := #[.int .i64 0, .int .i64 0]) (t := 48) ?hr ?_; (case hd => rfl); (case hg => rfl); (case hr => exact gr_); intro gb498 hg w8 hbox hb; have n0_ := Aside0.mk (bb_ BK494 hb); have n1_ := Aside0.mk (below_step (hb_ HB) hb); have n2_ := Aside0.mk (hbox); have n3_ := Aside0.mk ((hz_ HB hg)); have n4_ := Aside0.mk ((hz_ HB hg)); have n5_ := Aside0.mk ((nl_ BK494 hg)); have n6_ := Aside0.mk ((ng_ BK494 hg)); clear BK494; clear HB; have BK494 := n0_; have HB := n1_; have BK498 := n2_; have GW498 := n3_; have GE498 := n4_; have NB494_498 := n5_; have NB498_494 := n6_; clear n0_ n1_ n2_ n3_ n4_ n5_ n6_; clear hb hbox hg; have hnb9 := NB498_494.out; have hnc9 := NB494_498.out; have hcz10_0 : w8.cell? ⟨gb498, 0, none⟩ = some (.int .i64 0) := (blk_cell BK498.out 0).trans rfl; have hcz10_1 : w8.cell? ⟨gb498, 1, none⟩ = some (.int .i64 0) := (blk_cell BK498.out 1).trans rfl; have hfz10_0 := blk_frozen BK498.out 0; have hfz10_1 := blk_frozen BK498.out 1)); try go_wp2_with (first | ((with_reducible refine gate_dst (N := 3) rfl ?_); refine box_event ?hg (N := 3) ?hd (cs := #[.int .i64 a1_0, .int .i64 a1_1]) (t := 59) ?hr ?_; (case hd => rfl); (case hg => rfl); (case hr => exact gr_); intro gb494 hg w5 hbox hb; have n0_ := Aside0.mk (below_step (hb_ HB) hb); have n1_ := Aside0.mk (hbox); have n2_ := Aside0.mk ((hz_ HB hg)); have n3_ := Aside0.mk ((hz_ HB hg)); clear HB; have HB := n0_; have BK494 := n1_; have GW494 := n2_; have GE494 := n3_; clear n0_ n1_ n2_ n3_; clear hb hbox hg; have hcz6_0 : w5.cell? ⟨gb494, 0, none⟩ = some (.int .i64 a1_0) := (blk_cell BK494.out 0).trans rfl; have hcz6_1 : w5.cell? ⟨gb494, 1, none⟩ = some (.int .i64 a1_1) := (blk_cell BK494.out 1).trans rfl; have hfz6_0 := blk_frozen BK494.out 0; have hfz6_1 := blk_frozen BK494.out 1) | (go_at_call 79; (with_reducible refine (speculumref06_Judge.calls k _ _ l0 a1_0 a1_1 t495 t496 t497 _ ?side1 ?side2 A3.out).mono ?_); (case side1 => repeat (first | exact (Kd.C_below HR0.out HB.out) | (with_reducible refine Kd.C_alloc ?_ _) | (with_reducible refine Kd.C_drewN ?_ _) | (with_reducible refine Kd.C_drew ?_))); (case side2 => exact HC0.out); rintro e w7 ⟨rfl, hb⟩; have n0_ := Aside0.mk (bb_ BK494 hb); have n1_ := Aside0.mk (below_step (hb_ HB) hb); clear BK494; clear HB; have BK494 := n0_; have HB := n1_; clear n0_ n1_; (try clear hb); (try clear hb2); (try clear hk); (try clear hi)) | ((with_reducible refine gate_dst (N := 7) rfl ?_); refine box_event ?hg (N := 7) ?hd (cs := #[.int .i64 0, .int .i64 0]) (t := 48) ?hr ?_; (case hd => rfl); (case hg => rfl); (case hr => exact gr_); intro gb498 hg w8 hbox hb; have n0_ := Aside0.mk (bb_ BK494 hb); have n1_ := Aside0.mk (below_step (hb_ HB) hb); have n2_ := Aside0.mk (hbox); have n3_ := Aside0.mk ((hz_ HB hg)); have n4_ := Aside0.mk ((hz_ HB hg)); have n5_ := Aside0.mk ((nl_ BK494 hg)); have n6_ := Aside0.mk ((ng_ BK494 hg)); clear BK494; clear HB; have BK494 := n0_; have HB := n1_; have BK498 := n2_; have GW498 := n3_; have GE498 := n4_; have NB494_498 := n5_; have NB498_494 := n6_; clear n0_ n1_ n2_ n3_ n4_ n5_ n6_; clear hb hbox hg; have hnb9 := NB498_494.out; have hnc9 := NB494_498.out; have hcz10_0 : w8.cell? ⟨gb498, 0, none⟩ = some (.int .i64 0) := (blk_cell BK498.out 0).trans rfl; have hcz10_1 : w8.cell? ⟨gb498, 1, none⟩ = some (.int .i64 0) := (blk_cell BK498.out 1).trans rfl; have hfz10_0 := blk_frozen BK498.out 0; have hfz10_1 := blk_frozen BK498.out 1)))
  go_loopg [8] k (fun kq v8 w' => ∃ (x8_1 : Int), v8 = .int .i64 x8_1 ∧ Aside0 (speculumref06_Deciding.l0 kq l0 x8_1 a1_0 a1_1 = some (r1, r2)) ∧ Aside0 (kq ≤ k) ∧ Aside0 (w'.heap[gb494]? = some (.cells #[.int .i64 a1_0, .int .i64 a1_1] 59 (0, 0))) ∧ Aside0 (w'.heap[gb498]? = some (.cells #[.int .i64 t496, .int .i64 t497] 48 (0, 0))) ∧ Aside0 (Below w.heap.size w w'))
  case atStart => exact ⟨(0), rs_, H', ⟨Nat.le_refl _⟩, ⟨by (with_reducible repeat (first | refine blk_drewN ?_ _ | refine blk_drew ?_ | refine blk_alloc ?_ _)); refine blk_far ?_ NB494_498.out _; (with_reducible repeat (first | refine blk_drewN ?_ _ | refine blk_drew ?_ | refine blk_alloc ?_ _)); refine blk_far ?_ NB494_498.out _; (with_reducible repeat (first | refine blk_drewN ?_ _ | refine blk_drew ?_ | refine blk_alloc ?_ _)); exact BK494.out⟩, ⟨by (with_reducible repeat (first | refine blk_drewN ?_ _ | refine blk_drew ?_ | refine blk_alloc ?_ _)); refine blk_put (cs := #[.int .i64 t496, .int .i64 0]) ?_ 1 _ rfl; (with_reducible repeat (first | refine blk_drewN ?_ _ | refine blk_drew ?_ | refine blk_alloc ?_ _)); refine blk_put (cs := #[.int .i64 0, .int .i64 0]) ?_ 0 _ rfl; (with_reducible repeat (first | refine blk_drewN ?_ _ | refine blk_drew ?_ | refine blk_alloc ?_ _)); exact BK498.out⟩, ⟨by repeat (first | (with_reducible first | exact HB.out | apply below_alloc | apply pw_below_drewN | apply below_drew1 | refine below_set ?_ GE494.out | refine below_set ?_ GE498.out) | exact HB.out)⟩⟩
  case round =>
   clear H'
   try clear p2
   try clear c3
   try clear c4
   try clear c4b0
   try clear c4b1
   try clear c9
   try clear hcz10_0
   try clear hcz10_1
   try clear hcz6_0
   try clear hcz6_1
   try clear hfz10_0
   try clear hfz10_1
   try clear hfz6_0
   try clear hfz6_1
   obtain ⟨x8_1, rfl, HA, HK1, BK494, BK498, HB⟩ := hrel
   cases gk with
   | zero => exact absurd HA.out (by simp [speculumref06_Deciding.l0])
   | succ k1 =>
    have H := HA.out
    clear HA
    simp only [speculumref06_Deciding.l0] at H
    by_cases c11 : x8_1 < (l0.length : Int)
    ·rw [if_pos c11] at H
     have c11b0 : decide (x8_1 < (l0.length : Int)) = true := decide_eq_true c11
     clear c11
     by_cases c12 : 0 ≤ x8_1
     ·rw [if_pos c12] at H
      have c12b0 : decide (0 ≤ x8_1) = true := decide_eq_true c12
      clear c12
      by_cases c13 : (wrap64 (((rd_T38 l0 x8_1).f1) - ((rd_T38 l0 x8_1).f0))) > 200
      ·rw [if_pos c13] at H
       have c13b0 : decide (200 < (wrap64 (((rd_T38 l0 x8_1).f1) - ((rd_T38 l0 x8_1).f0)))) = true := decide_eq_true c13
       clear c13
       simp only [Option.some.injEq, Prod.mk.injEq] at H
       obtain ⟨rfl, rfl⟩ := H
       have p499 : 0 ≤ (x8_1 : Int) := of_decide_eq_true as_
       have q499 : x8_1 < (l0.length : Int) := of_decide_eq_true as_
       obtain ⟨ad499, e499, hx499_0, hx499_1⟩ := at_T38 HR0.out x8_1 p499 q499
       cases e499
       replace hx499_0 := (HB.out.cell (World.block_lt_of_cell? w _ hx499_0)).trans hx499_0
       replace hx499_1 := (HB.out.cell (World.block_lt_of_cell? w _ hx499_1)).trans hx499_1
       replace p499 := eq_true p499
       replace q499 := eq_true q499
       have p500 : 0 ≤ (x8_1 : Int) := of_decide_eq_true as_
       have q500 : x8_1 < (l0.length : Int) := of_decide_eq_true as_
       obtain ⟨ad500, e500, hx500_0, hx500_1⟩ := at_T38 HR0.out x8_1 p500 q500
       obtain rfl : ad499 = ad500 := (by injection e500)
       replace hx500_0 := (HB.out.cell (World.block_lt_of_cell? w _ hx500_0)).trans hx500_0
       replace hx500_1 := (HB.out.cell (World.block_lt_of_cell? w _ hx500_1)).trans hx500_1
       replace p500 := eq_true p500
       replace q500 := eq_true q500
       go_wp2
       repeat (go_quiet (fail); try go_wp2)
       go_ret2
       exact ⟨by first | rfl | (simp [errW_none, errW_some] <;> rfl) | (simp [*, errW_none, errW_some] <;> rfl), by repeat (first | (with_reducible first | exact HB.out | apply below_alloc | apply pw_below_drewN | apply below_drew1 | refine below_set ?_ GE494.out | refine below_set ?_ GE498.out) | exact HB.out)⟩
      ·rw [if_neg c13] at H
       have c13b0 : decide (200 < (wrap64 (((rd_T38 l0 x8_1).f1) - ((rd_T38 l0 x8_1).f0)))) = false := decide_eq_false c13
       clear c13
       have H' := Aside0.mk H
       clear H
       have p499 : 0 ≤ (x8_1 : Int) := of_decide_eq_true as_
       have q499 : x8_1 < (l0.length : Int) := of_decide_eq_true as_
       obtain ⟨ad499, e499, hx499_0, hx499_1⟩ := at_T38 HR0.out x8_1 p499 q499
       cases e499
       replace hx499_0 := (HB.out.cell (World.block_lt_of_cell? w _ hx499_0)).trans hx499_0
       replace hx499_1 := (HB.out.cell (World.block_lt_of_cell? w _ hx499_1)).trans hx499_1
       replace p499 := eq_true p499
       replace q499 := eq_true q499
       have p500 : 0 ≤ (x8_1 : Int) := of_decide_eq_true as_
       have q500 : x8_1 < (l0.length : Int) := of_decide_eq_true as_
       obtain ⟨ad500, e500, hx500_0, hx500_1⟩ := at_T38 HR0.out x8_1 p500 q500
       obtain rfl : ad499 = ad500 := (by injection e500)
       replace hx500_0 := (HB.out.cell (World.block_lt_of_cell? w _ hx500_0)).trans hx500_0
       replace hx500_1 := (HB.out.cell (World.block_lt_of_cell? w _ hx500_1)).trans hx500_1
       replace p500 := eq_true p500
       replace q500 := eq_true q500
       go_wp2
       repeat (go_quiet (fail); try go_wp2)
       go_roundg k1
       case measure => have := HK1.out; omega
       case rel => exact ⟨(wrap64 (x8_1 + 1)), rs_, H', ⟨by have := HK1.out; omega⟩, ⟨by (with_reducible repeat (first | refine blk_drewN ?_ _ | refine blk_drew ?_ | refine blk_alloc ?_ _)); exact BK494.out⟩, ⟨by (with_reducible repeat (first | refine blk_drewN ?_ _ | refine blk_drew ?_ | refine blk_alloc ?_ _)); exact BK498.out⟩, ⟨by repeat (first | (with_reducible first | exact HB.out | apply below_alloc | apply pw_below_drewN | apply below_drew1 | refine below_set ?_ GE494.out | refine below_set ?_ GE498.out) | exact HB.out)⟩⟩
     ·rw [if_neg c12] at H
      exact absurd H (by simp)
    ·rw [if_neg c11] at H
     have c11b0 : decide (x8_1 < (l0.length : Int)) = false := decide_eq_false c11
     clear c11
     have H' := Aside0.mk H
     clear H
     go_wp2
     repeat (go_quiet (fail); try go_wp2)
     go_loopg [9] k1 (fun kq v9 w' => ∃ (x9_2 : Int), v9 = .int .i64 x9_2 ∧ Aside0 (speculumref06_Deciding.l1 kq l0 x9_2 a1_0 a1_1 = some (r1, r2)) ∧ Aside0 (kq ≤ k1) ∧ Aside0 (w'.heap[gb494]? = some (.cells #[.int .i64 a1_0, .int .i64 a1_1] 59 (0, 0))) ∧ Aside0 (w'.heap[gb498]? = some (.cells #[.int .i64 t496, .int .i64 t497] 48 (0, 0))) ∧ Aside0 (Below w.heap.size w w'))
     case atStart => exact ⟨(0), rs_, H', ⟨Nat.le_refl _⟩, ⟨by (with_reducible repeat (first | refine blk_drewN ?_ _ | refine blk_drew ?_ | refine blk_alloc ?_ _)); exact BK494.out⟩, ⟨by (with_reducible repeat (first | refine blk_drewN ?_ _ | refine blk_drew ?_ | refine blk_alloc ?_ _)); exact BK498.out⟩, ⟨by repeat (first | (with_reducible first | exact HB.out | apply below_alloc | apply pw_below_drewN | apply below_drew1 | refine below_set ?_ GE494.out | refine below_set ?_ GE498.out) | exact HB.out)⟩⟩
     case round =>
      clear H'
      try clear c1
      try clear p2
      try clear c3
      try clear c4
      try clear c4b0
      try clear c4b1
      try clear p4
      try clear q4
      try clear hx4
      try clear p5
      try clear q5
      try clear hx5
      try clear p6
      try clear c9
      try clear c11
      try clear c11b0
      try clear c12
      try clear c12b0
      try clear c13
      try clear c13b0
      try clear hcz10_0
      try clear hcz10_1
      try clear hcz6_0
      try clear hcz6_1
      try clear hfz10_0
      try clear hfz10_1
      try clear hfz6_0
      try clear hfz6_1
      try clear hx499_0
      try clear hx499_1
      try clear hx500_0
      try clear hx500_1
      try clear p2
      try clear p499
      try clear p500
      try clear q499
      try clear q500
      obtain ⟨x9_2, rfl, HA, HK2, BK494, BK498, HB⟩ := hrel
      cases gk with
      | zero => exact absurd HA.out (by simp [speculumref06_Deciding.l1])
      | succ k2 =>
       have H := HA.out
       clear HA
       simp only [speculumref06_Deciding.l1] at H
       by_cases c14 : x9_2 < (l0.length : Int)
       ·rw [if_pos c14] at H
        have c14b0 : decide (x9_2 < (l0.length : Int)) = true := decide_eq_true c14
        clear c14
        by_cases c15 : 0 ≤ x9_2
        ·rw [if_pos c15] at H
         have c15b0 : decide (0 ≤ x9_2) = true := decide_eq_true c15
         clear c15
         have H' := Aside0.mk H
         clear H
         have p501 : 0 ≤ (x9_2 : Int) := of_decide_eq_true as_
         have q501 : x9_2 < (l0.length : Int) := of_decide_eq_true as_
         obtain ⟨ad501, e501, hx501_0, hx501_1⟩ := at_T38 HR0.out x9_2 p501 q501
         cases e501
         replace hx501_0 := (HB.out.cell (World.block_lt_of_cell? w _ hx501_0)).trans hx501_0
         replace hx501_1 := (HB.out.cell (World.block_lt_of_cell? w _ hx501_1)).trans hx501_1
         replace p501 := eq_true p501
         replace q501 := eq_true q501
         go_wp2
         repeat (go_quiet (fail); try go_wp2)
         go_loopg [10, 11] k2 (fun kq v10 v11 w' => ∃ (x10_3 : Bool) (x11_3 : Int), v10 = .bool x10_3 ∧ v11 = .int .i64 x11_3 ∧ Aside0 (speculumref06_Deciding.l2 kq l0 x9_2 x10_3 x11_3 a1_0 a1_1 = some (r1, r2)) ∧ Aside0 (kq ≤ k2) ∧ Aside0 (w'.heap[gb494]? = some (.cells #[.int .i64 a1_0, .int .i64 a1_1] 59 (0, 0))) ∧ Aside0 (w'.heap[gb498]? = some (.cells #[.int .i64 t496, .int .i64 t497] 48 (0, 0))) ∧ Aside0 (Below w.heap.size w w'))
         case atStart => exact ⟨(true), ((rd_T38 l0 x9_2).f0), rs_, rs_, H', ⟨Nat.le_refl _⟩, ⟨by (with_reducible repeat (first | refine blk_drewN ?_ _ | refine blk_drew ?_ | refine blk_alloc ?_ _)); exact BK494.out⟩, ⟨by (with_reducible repeat (first | refine blk_drewN ?_ _ | refine blk_drew ?_ | refine blk_alloc ?_ _)); exact BK498.out⟩, ⟨by repeat (first | (with_reducible first | exact HB.out | apply below_alloc | apply pw_below_drewN | apply below_drew1 | refine below_set ?_ GE494.out | refine below_set ?_ GE498.out) | exact HB.out)⟩⟩
         case round =>
          clear H'
          try clear c1
          try clear p2
          try clear c3
          try clear c4
          try clear c4b0
          try clear c4b1
          try clear p4
          try clear q4
          try clear hx4
          try clear p5
          try clear q5
          try clear hx5
          try clear p6
          try clear c9
          try clear c11
          try clear c11b0
          try clear c12
          try clear c12b0
          try clear c13
          try clear c13b0
          try clear c14
          try clear c14b0
          try clear c15
          try clear c15b0
          try clear hcz10_0
          try clear hcz10_1
          try clear hcz6_0
          try clear hcz6_1
          try clear hfz10_0
          try clear hfz10_1
          try clear hfz6_0
          try clear hfz6_1
          try clear hx499_0
          try clear hx499_1
          try clear hx500_0
          try clear hx500_1
          try clear hx501_0
          try clear hx501_1
          try clear p2
          try clear p4
          try clear p499
          try clear p5
          try clear p500
          try clear p501
          try clear p6
          try clear q4
          try clear q499
          try clear q5
          try clear q500
          try clear q501
          obtain ⟨x10_3, x11_3, rfl, rfl, HA, HK3, BK494, BK498, HB⟩ := hrel
          cases gk with
          | zero => exact absurd HA.out (by simp [speculumref06_Deciding.l2])
          | succ k3 =>
           have H := HA.out
           clear HA
           simp only [speculumref06_Deciding.l2] at H
           have HC16 := Aside0.mk H
           clear H
           go_upto_region 14 with (fail)
           repeat (go_quiet (fail); go_upto_region 14 with (fail))
           go_cut [61] (fun v61 wc => ∃ (kq : Nat) (x61_15 : Bool), v61 = .bool x61_15 ∧ Aside0 (speculumref06_Deciding.j3 kq l0 x9_2 x10_3 x11_3 x61_15 a1_0 a1_1 = some (r1, r2)) ∧ Aside0 (kq ≤ k3) ∧ Aside0 (wc.heap[gb494]? = some (.cells #[.int .i64 a1_0, .int .i64 a1_1] 59 (0, 0))) ∧ Aside0 (wc.heap[gb498]? = some (.cells #[.int .i64 t496, .int .i64 t497] 48 (0, 0))) ∧ Aside0 (Below w.heap.size w wc))
           case first =>
            have H := HC16.out
            clear HC16
            by_cases c17 : 0 ≤ x9_2
            ·rw [if_pos c17] at H
             have c17b0 : decide (0 ≤ x9_2) = true := decide_eq_true c17
             clear c17
             (first | rw [c17b0] | (simp only [i64_w, i32_w]; rw [c17b0]) | skip)
             by_cases c18 : x9_2 < (l0.length : Int)
             ·rw [if_pos c18] at H
              have c18b0 : decide (x9_2 < (l0.length : Int)) = true := decide_eq_true c18
              clear c18
              by_cases c19 : x11_3 ≤ ((rd_T38 l0 x9_2).f1)
              ·rw [if_pos c19] at H
               have c19b0 : decide (x11_3 ≤ ((rd_T38 l0 x9_2).f1)) = true := decide_eq_true c19
               clear c19
               have H' := Aside0.mk H
               clear H
               have p502 : 0 ≤ (x9_2 : Int) := of_decide_eq_true as_
               have q502 : x9_2 < (l0.length : Int) := of_decide_eq_true as_
               obtain ⟨ad502, e502, hx502_0, hx502_1⟩ := at_T38 HR0.out x9_2 p502 q502
               obtain rfl : ad501 = ad502 := (by injection e502)
               replace hx502_0 := (HB.out.cell (World.block_lt_of_cell? w _ hx502_0)).trans hx502_0
               replace hx502_1 := (HB.out.cell (World.block_lt_of_cell? w _ hx502_1)).trans hx502_1
               replace p502 := eq_true p502
               replace q502 := eq_true q502
               go_wp2
               repeat (go_quiet (fail); try go_wp2)
               go_meet
               case rel => exact ⟨_, (x10_3), rs_, H', ⟨by have := HK1.out; have := HK2.out; have := HK3.out; first | omega | exact Nat.le_refl _⟩, ⟨by (with_reducible repeat (first | refine blk_drewN ?_ _ | refine blk_drew ?_ | refine blk_alloc ?_ _)); exact BK494.out⟩, ⟨by (with_reducible repeat (first | refine blk_drewN ?_ _ | refine blk_drew ?_ | refine blk_alloc ?_ _)); exact BK498.out⟩, ⟨by repeat (first | (with_reducible first | exact HB.out | apply below_alloc | apply pw_below_drewN | apply below_drew1 | refine below_set ?_ GE494.out | refine below_set ?_ GE498.out) | exact HB.out)⟩⟩
              ·rw [if_neg c19] at H
               have c19b0 : decide (x11_3 ≤ ((rd_T38 l0 x9_2).f1)) = false := decide_eq_false c19
               clear c19
               have H' := Aside0.mk H
               clear H
               have p502 : 0 ≤ (x9_2 : Int) := of_decide_eq_true as_
               have q502 : x9_2 < (l0.length : Int) := of_decide_eq_true as_
               obtain ⟨ad502, e502, hx502_0, hx502_1⟩ := at_T38 HR0.out x9_2 p502 q502
               obtain rfl : ad501 = ad502 := (by injection e502)
               replace hx502_0 := (HB.out.cell (World.block_lt_of_cell? w _ hx502_0)).trans hx502_0
               replace hx502_1 := (HB.out.cell (World.block_lt_of_cell? w _ hx502_1)).trans hx502_1
               replace p502 := eq_true p502
               replace q502 := eq_true q502
               go_wp2
               repeat (go_quiet (fail); try go_wp2)
               go_meet
               case rel => exact ⟨_, (false), rs_, H', ⟨by have := HK1.out; have := HK2.out; have := HK3.out; first | omega | exact Nat.le_refl _⟩, ⟨by (with_reducible repeat (first | refine blk_drewN ?_ _ | refine blk_drew ?_ | refine blk_alloc ?_ _)); exact BK494.out⟩, ⟨by (with_reducible repeat (first | refine blk_drewN ?_ _ | refine blk_drew ?_ | refine blk_alloc ?_ _)); exact BK498.out⟩, ⟨by repeat (first | (with_reducible first | exact HB.out | apply below_alloc | apply pw_below_drewN | apply below_drew1 | refine below_set ?_ GE494.out | refine below_set ?_ GE498.out) | exact HB.out)⟩⟩
             ·rw [if_neg c18] at H
              exact absurd H (by simp)
            ·rw [if_neg c17] at H
             exact absurd H (by simp)
           case rest =>
            clear HC16
            try clear c1
            try clear p2
            try clear c3
            try clear c4
            try clear c4b0
            try clear c4b1
            try clear p4
            try clear q4
            try clear hx4
            try clear p5
            try clear q5
            try clear hx5
            try clear p6
            try clear c9
            try clear c11
            try clear c11b0
            try clear c12
            try clear c12b0
            try clear c13
            try clear c13b0
            try clear c14
            try clear c14b0
            try clear c15
            try clear c15b0
            try clear c17
            try clear c17b0
            try clear c18
            try clear c18b0
            try clear c19
            try clear c19b0
            try clear hcz10_0
            try clear hcz10_1
            try clear hcz6_0
            try clear hcz6_1
            try clear hfz10_0
            try clear hfz10_1
            try clear hfz6_0
            try clear hfz6_1
            try clear hx499_0
            try clear hx499_1
            try clear hx500_0
            try clear hx500_1
            try clear hx501_0
            try clear hx501_1
            try clear hx502_0
            try clear hx502_1
            try clear p2
            try clear p4
            try clear p499
            try clear p5
            try clear p500
            try clear p501
            try clear p502
            try clear p6
            try clear q4
            try clear q499
            try clear q5
            try clear q500
            try clear q501
            try clear q502
            obtain ⟨kq, x61_15, rfl, HA, HJ15, BK494, BK498, HB⟩ := hcut
            cases kq with
            | zero => exact absurd HA.out (by simp [speculumref06_Deciding.j3])
            | succ kj15 =>
             have H := HA.out
             clear HA
             simp only [speculumref06_Deciding.j3] at H
             by_cases c20 : x61_15 = true
             ·subst c20
              have H1 : ((speculumbase_CopyRanges.f l0).bind fun t503 => (if 0 ≤ x9_2 then (if x9_2 < (t503.length : Int) then ((speculumref06_Judge.f kj15 (t503.set (x9_2 : Int).toNat (⟨x11_3, x11_3⟩ : S38)) a1_0 a1_1).bind fun bt507 => (speculumref06_Deciding.l2 kj15 l0 x9_2 (bt507.1 != 0) (wrap64 (x11_3 + 1)) a1_0 a1_1)) else (none)) else (none))) = some (r1, r2) := by rw [if_pos rfl] at H; exact H
              clear H
              have H := H1
              clear H1
              replace H := Option.bind_eq_some_iff.mp H
              obtain ⟨t503, A210, H⟩ := H
              replace H : (if 0 ≤ x9_2 then (if x9_2 < (t503.length : Int) then ((speculumref06_Judge.f kj15 (t503.set (x9_2 : Int).toNat (⟨x11_3, x11_3⟩ : S38)) a1_0 a1_1).bind fun bt507 => (speculumref06_Deciding.l2 kj15 l0 x9_2 (bt507.1 != 0) (wrap64 (x11_3 + 1)) a1_0 a1_1)) else (none)) else (none)) = some (r1, r2) := H
              have A21 := Aside0.mk A210
              clear A210
              by_cases c22 : 0 ≤ x9_2
              ·rw [if_pos c22] at H
               have c22b0 : decide (0 ≤ x9_2) = true := decide_eq_true c22
               clear c22
               by_cases c23 : x9_2 < (t503.length : Int)
               ·rw [if_pos c23] at H
                have c23b0 : decide (x9_2 < (t503.length : Int)) = true := decide_eq_true c23
                clear c23
                obtain ⟨y506, hy506⟩ : ∃ y_ : List (S38), y_ = (t503.set (x9_2 : Int).toNat (⟨x11_3, x11_3⟩ : S38)) := ⟨_, rfl⟩
                replace H : ((speculumref06_Judge.f kj15 y506 a1_0 a1_1).bind fun bt507 => (speculumref06_Deciding.l2 kj15 l0 x9_2 (bt507.1 != 0) (wrap64 (x11_3 + 1)) a1_0 a1_1)) = some (r1, r2) := by first | (rw [hy506]; with_reducible exact H) | (have H2_ := (Option.bind_some _ _).symm.trans H; rw [hy506]; with_reducible exact H2_) | (have H2_ := (Option.bind_some _ _).symm.trans H; with_reducible exact H2_) | with_reducible exact H | (rw [hy506]; exact H) | exact H
                have Ny506 := Aside0.mk hy506
                clear hy506
                replace H := Option.bind_eq_some_iff.mp H
                obtain ⟨⟨t507, t508, t509⟩, A250, H⟩ := H
                replace H : (speculumref06_Deciding.l2 kj15 l0 x9_2 (t507 != 0) (wrap64 (x11_3 + 1)) a1_0 a1_1) = some (r1, r2) := H
                have A25 := Aside0.mk A250
                clear A250
                have H' := Aside0.mk H
                clear H
                go_wp2_with (first | (go_at_call 80; (with_reducible refine (speculumbase_CopyRanges.calls _ _ l0 t503 _ ?side1 ?side2 A21.out).mono ?_); (case side1 => repeat (first | exact (Kd.C_below HR0.out HB.out) | (with_reducible refine Kd.C_alloc ?_ _) | (with_reducible refine Kd.C_drewN ?_ _) | (with_reducible refine Kd.C_drew ?_))); (case side2 => exact HC0.out); rintro e w26 ⟨v504, rfl, ho0, hb⟩; have n0_ := Aside0.mk (Kd.R_lower ho0 (below_size (hb_ HB))); have n1_ := Aside0.mk (bb_ BK494 hb); have n2_ := Aside0.mk (bb_ BK498 hb); have n3_ := Aside0.mk (below_step (hb_ HB) hb); clear BK494; clear BK498; clear HB; have HO505 := n0_; have BK494 := n1_; have BK498 := n2_; have HB := n3_; clear n0_ n1_ n2_ n3_; (try clear hb); (try clear hb2); (try clear hk); (try clear hi); (try clear ho0); have p24 : 0 ≤ (x9_2 : Int) := of_decide_eq_true as_; have q24 : (x9_2 : Int) < ((t503.length : Int) : Int) := of_decide_eq_true as_; obtain ⟨go24, co24, eo24, gb24, gl24, cl24, HG24⟩ := Kd.R_form HO505.out (by omega); (first | cases eo24 | (injection eo24 with ea_ en_ ec_; (first | subst ea_ | (injection ea_ with ea_; subst ea_)); subst ec_; clear en_)); have GB24 := Aside0.mk gb24; have GG24 := Aside0.mk HG24; clear gb24 gl24 HG24; obtain ⟨ce24, hcl24, hM24, hcc24, hfr24⟩ := Kd.R_elem HO505.out z38 (x9_2 : Int) p24 q24; obtain rfl := k38_openM hM24; have hx24_0 : w26.cell? ⟨go24, (x9_2 : Int).toNat * 2, none⟩ = some (.int .i64 ((rd_T38 t503 x9_2).f0)) := hcc24 0 _ rfl; have hx24_1 : w26.cell? ⟨go24, (x9_2 : Int).toNat * 2 + 1, none⟩ = some (.int .i64 ((rd_T38 t503 x9_2).f1)) := hcc24 1 _ rfl; have hf24_0 : w26.frozen? ⟨go24, (x9_2 : Int).toNat * 2, none⟩ = false := hfr24 0; have hf24_1 : w26.frozen? ⟨go24, (x9_2 : Int).toNat * 2 + 1, none⟩ = false := hfr24 1; clear hcl24 hcc24 hfr24; (try clear hM24); replace p24 := eq_true p24; replace q24 := eq_true q24; have HX27 := Aside0.mk (show Kd.R k38 38 w26 w.heap.size (fun _ => True) (.slice (some ⟨go24, 0, none⟩) t503.length co24) t503 from (rk_ HO505)); obtain ⟨ce27, hcl27, hM27, hcc27, hfr27⟩ := Kd.R_elem HX27.out z38 (x9_2 : Int) (of_decide_eq_true as_) (by have h_ : (x9_2 : Int) < ((t503.length : Int) : Int) := of_decide_eq_true as_; first | exact h_ | (have e_ := (Kd.R_reads' HO505.out).1; omega) | simpa using h_); obtain rfl := k38_openM hM27; have HP27 := Kd.R_seg HX27.out (x9_2 : Int) (of_decide_eq_true as_) (by have h_ : (x9_2 : Int) < ((t503.length : Int) : Int) := of_decide_eq_true as_; first | exact h_ | (have e_ := (Kd.R_reads' HO505.out).1; omega) | simpa using h_) (seg := [.int .i64 x11_3, .int .i64 x11_3]) (j := 0) hcl27 hcc27 (show 2 ≤ 2 from by decide) (x' := (⟨x11_3, x11_3⟩ : S38)) (k38_mkM _ _ _ (⟨x11_3, x11_3⟩ : S38) ) (fun _ hk => hk); have hx27_0 := hcc27 0 _ rfl; (try simp only [show (k38).sz = 2 from rfl, Nat.mul_one, Nat.add_zero] at hx27_0); have hf27_0 := hfr27 0; (try simp only [show (k38).sz = 2 from rfl, Nat.mul_one, Nat.add_zero] at hf27_0); have hx27_1 := hcc27 1 _ rfl; (try simp only [show (k38).sz = 2 from rfl, Nat.mul_one, Nat.add_zero] at hx27_1); have hf27_1 := hfr27 1; (try simp only [show (k38).sz = 2 from rfl, Nat.mul_one, Nat.add_zero] at hf27_1); clear hcl27 hcc27 hfr27; (try clear hM27)) | ((with_reducible refine gate_store (t := 38) (p := 71) rfl ?_); (try (rw [drewN_self w26]; generalize hq_ : World.drewN w26 _ = w26; have n0_ := Aside0.mk (Kd.R_at hq_ HO505.out); have n1_ := Aside0.mk (blk_at hq_ BK494.out); have n2_ := Aside0.mk (blk_at hq_ BK498.out); have n3_ := Aside0.mk (below_at hq_ HB.out); clear hq_ HO505 BK494 BK498 HB; have HO505 := n0_; have BK494 := n1_; have BK498 := n2_; have HB := n3_; clear n0_ n1_ n2_ n3_; (try (have HX27 := Aside0.mk (show Kd.R k38 38 w26 w.heap.size (fun _ => True) (.slice (some ⟨go24, 0, none⟩) t503.length co24) t503 from (rk_ HO505)))); (try (obtain ⟨ce27, hcl27, hM27, hcc27, hfr27⟩ := Kd.R_elem HX27.out z38 (x9_2 : Int) (of_decide_eq_true as_) (by have h_ : (x9_2 : Int) < ((t503.length : Int) : Int) := of_decide_eq_true as_; first | exact h_ | (have e_ := (Kd.R_reads' HO505.out).1; omega) | simpa using h_))); (try (obtain rfl := k38_openM hM27)); (try (have HP27 := Kd.R_seg HX27.out (x9_2 : Int) (of_decide_eq_true as_) (by have h_ : (x9_2 : Int) < ((t503.length : Int) : Int) := of_decide_eq_true as_; first | exact h_ | (have e_ := (Kd.R_reads' HO505.out).1; omega) | simpa using h_) (seg := [.int .i64 x11_3, .int .i64 x11_3]) (j := 0) hcl27 hcc27 (show 2 ≤ 2 from by decide) (x' := (⟨x11_3, x11_3⟩ : S38)) (k38_mkM _ _ _ (⟨x11_3, x11_3⟩ : S38) ) (fun _ hk => hk))); (try (have hx27_0 := hcc27 0 _ rfl)); (try (try simp only [show (k38).sz = 2 from rfl, Nat.mul_one, Nat.add_zero] at hx27_0)); (try (have hf27_0 := hfr27 0)); (try (try simp only [show (k38).sz = 2 from rfl, Nat.mul_one, Nat.add_zero] at hf27_0)); (try (have hx27_1 := hcc27 1 _ rfl)); (try (try simp only [show (k38).sz = 2 from rfl, Nat.mul_one, Nat.add_zero] at hx27_1)); (try (have hf27_1 := hfr27 1)); (try (try simp only [show (k38).sz = 2 from rfl, Nat.mul_one, Nat.add_zero] at hf27_1)); (try (clear hcl27 hcc27 hfr27; (try clear hM27))))); refine store_event (t := 38) (p := 71) (v := ?vo_w28) (w1 := ((w26.setCell ⟨go24, (x9_2 : Int).toNat * 2, none⟩ (.int .i64 x11_3)).setCell ⟨go24, (x9_2 : Int).toNat * 2 + 1, none⟩ (.int .i64 x11_3))) ?hg ?ho ?hn ?hr ?_; (case ho => rfl); (case hg => rfl); (case hn => rfl); (case hr => exact gr_); intro w28 hw; have hg : w26.grownBy w28 (some go24) := (by rw [hw]; exact HP27.2); have hp_ : Kd.R k38 38 w28 w.heap.size (fun _ => True) (.slice (some ⟨go24, 0, none⟩) t503.length co24) y506 := (by rw [hw, Ny506.out]; exact HP27.1); clear HP27; have n0_ := Aside0.mk (blk_grown (g := gb494) (o := .cells #[.int .i64 a1_0, .int .i64 a1_1] 59 (0, 0)) (bk_ BK494) hg (Kd.R_ne HO505.out BK494.out di_)); have n1_ := Aside0.mk (blk_grown (g := gb498) (o := .cells #[.int .i64 t496, .int .i64 t497] 48 (0, 0)) (bk_ BK498) hg (Kd.R_ne HO505.out BK498.out di_)); have n2_ := Aside0.mk (hp_); have n3_ := Aside0.mk ((by rw [hw]; exact below_set (below_set (HB.out) GB24.out) GB24.out : Below w.heap.size w w28)); clear BK494; clear BK498; clear HO505; clear HB; have BK494 := n0_; have BK498 := n1_; have HO505 := n2_; have HB := n3_; clear n0_ n1_ n2_ n3_; clear hg hw hp_; have hnb29 := NB494_498.out; have hnc29 := NB498_494.out; have hcz30_0 : w28.cell? ⟨gb494, 0, none⟩ = some (.int .i64 a1_0) := (blk_cell BK494.out 0).trans rfl; have hcz30_1 : w28.cell? ⟨gb494, 1, none⟩ = some (.int .i64 a1_1) := (blk_cell BK494.out 1).trans rfl; have hfz30_0 := blk_frozen BK494.out 0; have hfz30_1 := blk_frozen BK494.out 1) | (go_at_call 79; refine calls_of_args (args' := #[.slice (some ⟨go24, 0, none⟩) y506.length co24, .agg #[.int .i64 a1_0, .int .i64 a1_1]]) (by first | (rw [show y506.length = t503.length from (Kd.R_reads' HO505.out).1.symm] <;> rfl) | rfl) ?_; (with_reducible refine (speculumref06_Judge.calls kj15 _ _ y506 a1_0 a1_1 t507 t508 t509 _ ?side1 ?side2 A25.out).mono ?_); (case side1 => repeat (first | exact (Kd.R_reads' HO505.out).2.2 | (with_reducible refine Kd.C_alloc ?_ _) | (with_reducible refine Kd.C_drewN ?_ _) | (with_reducible refine Kd.C_drew ?_))); (case side2 => rw [show y506.length = t503.length from (Kd.R_reads' HO505.out).1.symm]; exact (Kd.R_reads' HO505.out).2.1); rintro e w31 ⟨rfl, hb⟩; have n0_ := Aside0.mk (Kd.R_below (rk_ HO505) hb); have n1_ := Aside0.mk (bb_ BK494 hb); have n2_ := Aside0.mk (bb_ BK498 hb); have n3_ := Aside0.mk (below_step (hb_ HB) hb); clear HO505; clear BK494; clear BK498; clear HB; have HO505 := n0_; have BK494 := n1_; have BK498 := n2_; have HB := n3_; clear n0_ n1_ n2_ n3_; (try clear hb); (try clear hb2); (try clear hk); (try clear hi)) | ((with_reducible refine gate_dst (N := 14) rfl ?_); refine box_event ?hg (N := 14) ?hd (cs := #[.int .i64 0, .int .i64 0]) (t := 48) ?hr ?_; (case hd => rfl); (case hg => rfl); (case hr => exact gr_); intro gb510 hg w32 hbox hb; have n0_ := Aside0.mk (Kd.R_below (rk_ HO505) hb); have n1_ := Aside0.mk (bb_ BK494 hb); have n2_ := Aside0.mk (bb_ BK498 hb); have n3_ := Aside0.mk (below_step (hb_ HB) hb); have n4_ := Aside0.mk (hbox); have n5_ := Aside0.mk ((hz_ HB hg)); have n6_ := Aside0.mk ((hz_ HB hg)); have n7_ := Aside0.mk ((nl_ BK494 hg)); have n8_ := Aside0.mk ((ng_ BK494 hg)); have n9_ := Aside0.mk ((nl_ BK498 hg)); have n10_ := Aside0.mk ((ng_ BK498 hg)); clear HO505; clear BK494; clear BK498; clear HB; have HO505 := n0_; have BK494 := n1_; have BK498 := n2_; have HB := n3_; have BK510 := n4_; have GW510 := n5_; have GE510 := n6_; have NB494_510 := n7_; have NB510_494 := n8_; have NB498_510 := n9_; have NB510_498 := n10_; clear n0_ n1_ n2_ n3_ n4_ n5_ n6_ n7_ n8_ n9_ n10_; clear hb hbox hg; have hnb33 := NB510_494.out; have hnc33 := NB494_510.out; have hnb34 := NB510_498.out; have hnc34 := NB498_510.out; have hcz35_0 : w32.cell? ⟨gb510, 0, none⟩ = some (.int .i64 0) := (blk_cell BK510.out 0).trans rfl; have hcz35_1 : w32.cell? ⟨gb510, 1, none⟩ = some (.int .i64 0) := (blk_cell BK510.out 1).trans rfl; have hfz35_0 := blk_frozen BK510.out 0; have hfz35_1 := blk_frozen BK510.out 1))
                repeat (go_quiet (first | (go_at_call 80; (with_reducible refine (speculumbase_CopyRanges.calls _ _ l0 t503 _ ?side1 ?side2 A21.out).mono ?_); (case side1 => repeat (first | exact (Kd.C_below HR0.out HB.out) | (with_reducible refine Kd.C_alloc ?_ _) | (with_reducible refine Kd.C_drewN ?_ _) | (with_reducible refine Kd.C_drew ?_))); (case side2 => exact HC0.out); rintro e w26 ⟨v504, rfl, ho0, hb⟩; have n0_ := Aside0.mk (Kd.R_lower ho0 (below_size (hb_ HB))); have n1_ := Aside0.mk (bb_ BK494 hb); have n2_ := Aside0.mk (bb_ BK498 hb); have n3_ := Aside0.mk (below_step (hb_ HB) hb); clear BK494; clear BK498; clear HB; have HO505 := n0_; have BK494 := n1_; have BK498 := n2_; have HB := n3_; clear n0_ n1_ n2_ n3_; (try clear hb); (try clear hb2); (try clear hk); (try clear hi); (try clear ho0); have p24 : 0 ≤ (x9_2 : Int) := of_decide_eq_true as_; have q24 : (x9_2 : Int) < ((t503.length : Int) : Int) := of_decide_eq_true as_; obtain ⟨go24, co24, eo24, gb24, gl24, cl24, HG24⟩ := Kd.R_form HO505.out (by omega); (first | cases eo24 | (injection eo24 with ea_ en_ ec_; (first | subst ea_ | (injection ea_ with ea_; subst ea_)); subst ec_; clear en_)); have GB24 := Aside0.mk gb24; have GG24 := Aside0.mk HG24; clear gb24 gl24 HG24; obtain ⟨ce24, hcl24, hM24, hcc24, hfr24⟩ := Kd.R_elem HO505.out z38 (x9_2 : Int) p24 q24; obtain rfl := k38_openM hM24; have hx24_0 : w26.cell? ⟨go24, (x9_2 : Int).toNat * 2, none⟩ = some (.int .i64 ((rd_T38 t503 x9_2).f0)) := hcc24 0 _ rfl; have hx24_1 : w26.cell? ⟨go24, (x9_2 : Int).toNat * 2 + 1, none⟩ = some (.int .i64 ((rd_T38 t503 x9_2).f1)) := hcc24 1 _ rfl; have hf24_0 : w26.frozen? ⟨go24, (x9_2 : Int).toNat * 2, none⟩ = false := hfr24 0; have hf24_1 : w26.frozen? ⟨go24, (x9_2 : Int).toNat * 2 + 1, none⟩ = false := hfr24 1; clear hcl24 hcc24 hfr24; (try clear hM24); replace p24 := eq_true p24; replace q24 := eq_true q24; have HX27 := Aside0.mk (show Kd.R k38 38 w26 w.heap.size (fun _ => True) (.slice (some ⟨go24, 0, none⟩) t503.length co24) t503 from (rk_ HO505)); obtain ⟨ce27, hcl27, hM27, hcc27, hfr27⟩ := Kd.R_elem HX27.out z38 (x9_2 : Int) (of_decide_eq_true as_) (by have h_ : (x9_2 : Int) < ((t503.length : Int) : Int) := of_decide_eq_true as_; first | exact h_ | (have e_ := (Kd.R_reads' HO505.out).1; omega) | simpa using h_); obtain rfl := k38_openM hM27; have HP27 := Kd.R_seg HX27.out (x9_2 : Int) (of_decide_eq_true as_) (by have h_ : (x9_2 : Int) < ((t503.length : Int) : Int) := of_decide_eq_true as_; first | exact h_ | (have e_ := (Kd.R_reads' HO505.out).1; omega) | simpa using h_) (seg := [.int .i64 x11_3, .int .i64 x11_3]) (j := 0) hcl27 hcc27 (show 2 ≤ 2 from by decide) (x' := (⟨x11_3, x11_3⟩ : S38)) (k38_mkM _ _ _ (⟨x11_3, x11_3⟩ : S38) ) (fun _ hk => hk); have hx27_0 := hcc27 0 _ rfl; (try simp only [show (k38).sz = 2 from rfl, Nat.mul_one, Nat.add_zero] at hx27_0); have hf27_0 := hfr27 0; (try simp only [show (k38).sz = 2 from rfl, Nat.mul_one, Nat.add_zero] at hf27_0); have hx27_1 := hcc27 1 _ rfl; (try simp only [show (k38).sz = 2 from rfl, Nat.mul_one, Nat.add_zero] at hx27_1); have hf27_1 := hfr27 1; (try simp only [show (k38).sz = 2 from rfl, Nat.mul_one, Nat.add_zero] at hf27_1); clear hcl27 hcc27 hfr27; (try clear hM27)) | ((with_reducible refine gate_store (t := 38) (p := 71) rfl ?_); (try (rw [drewN_self w26]; generalize hq_ : World.drewN w26 _ = w26; have n0_ := Aside0.mk (Kd.R_at hq_ HO505.out); have n1_ := Aside0.mk (blk_at hq_ BK494.out); have n2_ := Aside0.mk (blk_at hq_ BK498.out); have n3_ := Aside0.mk (below_at hq_ HB.out); clear hq_ HO505 BK494 BK498 HB; have HO505 := n0_; have BK494 := n1_; have BK498 := n2_; have HB := n3_; clear n0_ n1_ n2_ n3_; (try (have HX27 := Aside0.mk (show Kd.R k38 38 w26 w.heap.size (fun _ => True) (.slice (some ⟨go24, 0, none⟩) t503.length co24) t503 from (rk_ HO505)))); (try (obtain ⟨ce27, hcl27, hM27, hcc27, hfr27⟩ := Kd.R_elem HX27.out z38 (x9_2 : Int) (of_decide_eq_true as_) (by have h_ : (x9_2 : Int) < ((t503.length : Int) : Int) := of_decide_eq_true as_; first | exact h_ | (have e_ := (Kd.R_reads' HO505.out).1; omega) | simpa using h_))); (try (obtain rfl := k38_openM hM27)); (try (have HP27 := Kd.R_seg HX27.out (x9_2 : Int) (of_decide_eq_true as_) (by have h_ : (x9_2 : Int) < ((t503.length : Int) : Int) := of_decide_eq_true as_; first | exact h_ | (have e_ := (Kd.R_reads' HO505.out).1; omega) | simpa using h_) (seg := [.int .i64 x11_3, .int .i64 x11_3]) (j := 0) hcl27 hcc27 (show 2 ≤ 2 from by decide) (x' := (⟨x11_3, x11_3⟩ : S38)) (k38_mkM _ _ _ (⟨x11_3, x11_3⟩ : S38) ) (fun _ hk => hk))); (try (have hx27_0 := hcc27 0 _ rfl)); (try (try simp only [show (k38).sz = 2 from rfl, Nat.mul_one, Nat.add_zero] at hx27_0)); (try (have hf27_0 := hfr27 0)); (try (try simp only [show (k38).sz = 2 from rfl, Nat.mul_one, Nat.add_zero] at hf27_0)); (try (have hx27_1 := hcc27 1 _ rfl)); (try (try simp only [show (k38).sz = 2 from rfl, Nat.mul_one, Nat.add_zero] at hx27_1)); (try (have hf27_1 := hfr27 1)); (try (try simp only [show (k38).sz = 2 from rfl, Nat.mul_one, Nat.add_zero] at hf27_1)); (try (clear hcl27 hcc27 hfr27; (try clear hM27))))); refine store_event (t := 38) (p := 71) (v := ?vo_w28) (w1 := ((w26.setCell ⟨go24, (x9_2 : Int).toNat * 2, none⟩ (.int .i64 x11_3)).setCell ⟨go24, (x9_2 : Int).toNat * 2 + 1, none⟩ (.int .i64 x11_3))) ?hg ?ho ?hn ?hr ?_; (case ho => rfl); (case hg => rfl); (case hn => rfl); (case hr => exact gr_); intro w28 hw; have hg : w26.grownBy w28 (some go24) := (by rw [hw]; exact HP27.2); have hp_ : Kd.R k38 38 w28 w.heap.size (fun _ => True) (.slice (some ⟨go24, 0, none⟩) t503.length co24) y506 := (by rw [hw, Ny506.out]; exact HP27.1); clear HP27; have n0_ := Aside0.mk (blk_grown (g := gb494) (o := .cells #[.int .i64 a1_0, .int .i64 a1_1] 59 (0, 0)) (bk_ BK494) hg (Kd.R_ne HO505.out BK494.out di_)); have n1_ := Aside0.mk (blk_grown (g := gb498) (o := .cells #[.int .i64 t496, .int .i64 t497] 48 (0, 0)) (bk_ BK498) hg (Kd.R_ne HO505.out BK498.out di_)); have n2_ := Aside0.mk (hp_); have n3_ := Aside0.mk ((by rw [hw]; exact below_set (below_set (HB.out) GB24.out) GB24.out : Below w.heap.size w w28)); clear BK494; clear BK498; clear HO505; clear HB; have BK494 := n0_; have BK498 := n1_; have HO505 := n2_; have HB := n3_; clear n0_ n1_ n2_ n3_; clear hg hw hp_; have hnb29 := NB494_498.out; have hnc29 := NB498_494.out; have hcz30_0 : w28.cell? ⟨gb494, 0, none⟩ = some (.int .i64 a1_0) := (blk_cell BK494.out 0).trans rfl; have hcz30_1 : w28.cell? ⟨gb494, 1, none⟩ = some (.int .i64 a1_1) := (blk_cell BK494.out 1).trans rfl; have hfz30_0 := blk_frozen BK494.out 0; have hfz30_1 := blk_frozen BK494.out 1) | (go_at_call 79; refine calls_of_args (args' := #[.slice (some ⟨go24, 0, none⟩) y506.length co24, .agg #[.int .i64 a1_0, .int .i64 a1_1]]) (by first | (rw [show y506.length = t503.length from (Kd.R_reads' HO505.out).1.symm] <;> rfl) | rfl) ?_; (with_reducible refine (speculumref06_Judge.calls kj15 _ _ y506 a1_0 a1_1 t507 t508 t509 _ ?side1 ?side2 A25.out).mono ?_); (case side1 => repeat (first | exact (Kd.R_reads' HO505.out).2.2 | (with_reducible refine Kd.C_alloc ?_ _) | (with_reducible refine Kd.C_drewN ?_ _) | (with_reducible refine Kd.C_drew ?_))); (case side2 => rw [show y506.length = t503.length from (Kd.R_reads' HO505.out).1.symm]; exact (Kd.R_reads' HO505.out).2.1); rintro e w31 ⟨rfl, hb⟩; have n0_ := Aside0.mk (Kd.R_below (rk_ HO505) hb); have n1_ := Aside0.mk (bb_ BK494 hb); have n2_ := Aside0.mk (bb_ BK498 hb); have n3_ := Aside0.mk (below_step (hb_ HB) hb); clear HO505; clear BK494; clear BK498; clear HB; have HO505 := n0_; have BK494 := n1_; have BK498 := n2_; have HB := n3_; clear n0_ n1_ n2_ n3_; (try clear hb); (try clear hb2); (try clear hk); (try clear hi)) | ((with_reducible refine gate_dst (N := 14) rfl ?_); refine box_event ?hg (N := 14) ?hd (cs := #[.int .i64 0, .int .i64 0]) (t := 48) ?hr ?_; (case hd => rfl); (case hg => rfl); (case hr => exact gr_); intro gb510 hg w32 hbox hb; have n0_ := Aside0.mk (Kd.R_below (rk_ HO505) hb); have n1_ := Aside0.mk (bb_ BK494 hb); have n2_ := Aside0.mk (bb_ BK498 hb); have n3_ := Aside0.mk (below_step (hb_ HB) hb); have n4_ := Aside0.mk (hbox); have n5_ := Aside0.mk ((hz_ HB hg)); have n6_ := Aside0.mk ((hz_ HB hg)); have n7_ := Aside0.mk ((nl_ BK494 hg)); have n8_ := Aside0.mk ((ng_ BK494 hg)); have n9_ := Aside0.mk ((nl_ BK498 hg)); have n10_ := Aside0.mk ((ng_ BK498 hg)); clear HO505; clear BK494; clear BK498; clear HB; have HO505 := n0_; have BK494 := n1_; have BK498 := n2_; have HB := n3_; have BK510 := n4_; have GW510 := n5_; have GE510 := n6_; have NB494_510 := n7_; have NB510_494 := n8_; have NB498_510 := n9_; have NB510_498 := n10_; clear n0_ n1_ n2_ n3_ n4_ n5_ n6_ n7_ n8_ n9_ n10_; clear hb hbox hg; have hnb33 := NB510_494.out; have hnc33 := NB494_510.out; have hnb34 := NB510_498.out; have hnc34 := NB498_510.out; have hcz35_0 : w32.cell? ⟨gb510, 0, none⟩ = some (.int .i64 0) := (blk_cell BK510.out 0).trans rfl; have hcz35_1 : w32.cell? ⟨gb510, 1, none⟩ = some (.int .i64 0) := (blk_cell BK510.out 1).trans rfl; have hfz35_0 := blk_frozen BK510.out 0; have hfz35_1 := blk_frozen BK510.out 1)); try go_wp2_with (first | (go_at_call 80; (with_reducible refine (speculumbase_CopyRanges.calls _ _ l0 t503 _ ?side1 ?side2 A21.out).mono ?_); (case side1 => repeat (first | exact (Kd.C_below HR0.out HB.out) | (with_reducible refine Kd.C_alloc ?_ _) | (with_reducible refine Kd.C_drewN ?_ _) | (with_reducible refine Kd.C_drew ?_))); (case side2 => exact HC0.out); rintro e w26 ⟨v504, rfl, ho0, hb⟩; have n0_ := Aside0.mk (Kd.R_lower ho0 (below_size (hb_ HB))); have n1_ := Aside0.mk (bb_ BK494 hb); have n2_ := Aside0.mk (bb_ BK498 hb); have n3_ := Aside0.mk (below_step (hb_ HB) hb); clear BK494; clear BK498; clear HB; have HO505 := n0_; have BK494 := n1_; have BK498 := n2_; have HB := n3_; clear n0_ n1_ n2_ n3_; (try clear hb); (try clear hb2); (try clear hk); (try clear hi); (try clear ho0); have p24 : 0 ≤ (x9_2 : Int) := of_decide_eq_true as_; have q24 : (x9_2 : Int) < ((t503.length : Int) : Int) := of_decide_eq_true as_; obtain ⟨go24, co24, eo24, gb24, gl24, cl24, HG24⟩ := Kd.R_form HO505.out (by omega); (first | cases eo24 | (injection eo24 with ea_ en_ ec_; (first | subst ea_ | (injection ea_ with ea_; subst ea_)); subst ec_; clear en_)); have GB24 := Aside0.mk gb24; have GG24 := Aside0.mk HG24; clear gb24 gl24 HG24; obtain ⟨ce24, hcl24, hM24, hcc24, hfr24⟩ := Kd.R_elem HO505.out z38 (x9_2 : Int) p24 q24; obtain rfl := k38_openM hM24; have hx24_0 : w26.cell? ⟨go24, (x9_2 : Int).toNat * 2, none⟩ = some (.int .i64 ((rd_T38 t503 x9_2).f0)) := hcc24 0 _ rfl; have hx24_1 : w26.cell? ⟨go24, (x9_2 : Int).toNat * 2 + 1, none⟩ = some (.int .i64 ((rd_T38 t503 x9_2).f1)) := hcc24 1 _ rfl; have hf24_0 : w26.frozen? ⟨go24, (x9_2 : Int).toNat * 2, none⟩ = false := hfr24 0; have hf24_1 : w26.frozen? ⟨go24, (x9_2 : Int).toNat * 2 + 1, none⟩ = false := hfr24 1; clear hcl24 hcc24 hfr24; (try clear hM24); replace p24 := eq_true p24; replace q24 := eq_true q24; have HX27 := Aside0.mk (show Kd.R k38 38 w26 w.heap.size (fun _ => True) (.slice (some ⟨go24, 0, none⟩) t503.length co24) t503 from (rk_ HO505)); obtain ⟨ce27, hcl27, hM27, hcc27, hfr27⟩ := Kd.R_elem HX27.out z38 (x9_2 : Int) (of_decide_eq_true as_) (by have h_ : (x9_2 : Int) < ((t503.length : Int) : Int) := of_decide_eq_true as_; first | exact h_ | (have e_ := (Kd.R_reads' HO505.out).1; omega) | simpa using h_); obtain rfl := k38_openM hM27; have HP27 := Kd.R_seg HX27.out (x9_2 : Int) (of_decide_eq_true as_) (by have h_ : (x9_2 : Int) < ((t503.length : Int) : Int) := of_decide_eq_true as_; first | exact h_ | (have e_ := (Kd.R_reads' HO505.out).1; omega) | simpa using h_) (seg := [.int .i64 x11_3, .int .i64 x11_3]) (j := 0) hcl27 hcc27 (show 2 ≤ 2 from by decide) (x' := (⟨x11_3, x11_3⟩ : S38)) (k38_mkM _ _ _ (⟨x11_3, x11_3⟩ : S38) ) (fun _ hk => hk); have hx27_0 := hcc27 0 _ rfl; (try simp only [show (k38).sz = 2 from rfl, Nat.mul_one, Nat.add_zero] at hx27_0); have hf27_0 := hfr27 0; (try simp only [show (k38).sz = 2 from rfl, Nat.mul_one, Nat.add_zero] at hf27_0); have hx27_1 := hcc27 1 _ rfl; (try simp only [show (k38).sz = 2 from rfl, Nat.mul_one, Nat.add_zero] at hx27_1); have hf27_1 := hfr27 1; (try simp only [show (k38).sz = 2 from rfl, Nat.mul_one, Nat.add_zero] at hf27_1); clear hcl27 hcc27 hfr27; (try clear hM27)) | ((with_reducible refine gate_store (t := 38) (p := 71) rfl ?_); (try (rw [drewN_self w26]; generalize hq_ : World.drewN w26 _ = w26; have n0_ := Aside0.mk (Kd.R_at hq_ HO505.out); have n1_ := Aside0.mk (blk_at hq_ BK494.out); have n2_ := Aside0.mk (blk_at hq_ BK498.out); have n3_ := Aside0.mk (below_at hq_ HB.out); clear hq_ HO505 BK494 BK498 HB; have HO505 := n0_; have BK494 := n1_; have BK498 := n2_; have HB := n3_; clear n0_ n1_ n2_ n3_; (try (have HX27 := Aside0.mk (show Kd.R k38 38 w26 w.heap.size (fun _ => True) (.slice (some ⟨go24, 0, none⟩) t503.length co24) t503 from (rk_ HO505)))); (try (obtain ⟨ce27, hcl27, hM27, hcc27, hfr27⟩ := Kd.R_elem HX27.out z38 (x9_2 : Int) (of_decide_eq_true as_) (by have h_ : (x9_2 : Int) < ((t503.length : Int) : Int) := of_decide_eq_true as_; first | exact h_ | (have e_ := (Kd.R_reads' HO505.out).1; omega) | simpa using h_))); (try (obtain rfl := k38_openM hM27)); (try (have HP27 := Kd.R_seg HX27.out (x9_2 : Int) (of_decide_eq_true as_) (by have h_ : (x9_2 : Int) < ((t503.length : Int) : Int) := of_decide_eq_true as_; first | exact h_ | (have e_ := (Kd.R_reads' HO505.out).1; omega) | simpa using h_) (seg := [.int .i64 x11_3, .int .i64 x11_3]) (j := 0) hcl27 hcc27 (show 2 ≤ 2 from by decide) (x' := (⟨x11_3, x11_3⟩ : S38)) (k38_mkM _ _ _ (⟨x11_3, x11_3⟩ : S38) ) (fun _ hk => hk))); (try (have hx27_0 := hcc27 0 _ rfl)); (try (try simp only [show (k38).sz = 2 from rfl, Nat.mul_one, Nat.add_zero] at hx27_0)); (try (have hf27_0 := hfr27 0)); (try (try simp only [show (k38).sz = 2 from rfl, Nat.mul_one, Nat.add_zero] at hf27_0)); (try (have hx27_1 := hcc27 1 _ rfl)); (try (try simp only [show (k38).sz = 2 from rfl, Nat.mul_one, Nat.add_zero] at hx27_1)); (try (have hf27_1 := hfr27 1)); (try (try simp only [show (k38).sz = 2 from rfl, Nat.mul_one, Nat.add_zero] at hf27_1)); (try (clear hcl27 hcc27 hfr27; (try clear hM27))))); refine store_event (t := 38) (p := 71) (v := ?vo_w28) (w1 := ((w26.setCell ⟨go24, (x9_2 : Int).toNat * 2, none⟩ (.int .i64 x11_3)).setCell ⟨go24, (x9_2 : Int).toNat * 2 + 1, none⟩ (.int .i64 x11_3))) ?hg ?ho ?hn ?hr ?_; (case ho => rfl); (case hg => rfl); (case hn => rfl); (case hr => exact gr_); intro w28 hw; have hg : w26.grownBy w28 (some go24) := (by rw [hw]; exact HP27.2); have hp_ : Kd.R k38 38 w28 w.heap.size (fun _ => True) (.slice (some ⟨go24, 0, none⟩) t503.length co24) y506 := (by rw [hw, Ny506.out]; exact HP27.1); clear HP27; have n0_ := Aside0.mk (blk_grown (g := gb494) (o := .cells #[.int .i64 a1_0, .int .i64 a1_1] 59 (0, 0)) (bk_ BK494) hg (Kd.R_ne HO505.out BK494.out di_)); have n1_ := Aside0.mk (blk_grown (g := gb498) (o := .cells #[.int .i64 t496, .int .i64 t497] 48 (0, 0)) (bk_ BK498) hg (Kd.R_ne HO505.out BK498.out di_)); have n2_ := Aside0.mk (hp_); have n3_ := Aside0.mk ((by rw [hw]; exact below_set (below_set (HB.out) GB24.out) GB24.out : Below w.heap.size w w28)); clear BK494; clear BK498; clear HO505; clear HB; have BK494 := n0_; have BK498 := n1_; have HO505 := n2_; have HB := n3_; clear n0_ n1_ n2_ n3_; clear hg hw hp_; have hnb29 := NB494_498.out; have hnc29 := NB498_494.out; have hcz30_0 : w28.cell? ⟨gb494, 0, none⟩ = some (.int .i64 a1_0) := (blk_cell BK494.out 0).trans rfl; have hcz30_1 : w28.cell? ⟨gb494, 1, none⟩ = some (.int .i64 a1_1) := (blk_cell BK494.out 1).trans rfl; have hfz30_0 := blk_frozen BK494.out 0; have hfz30_1 := blk_frozen BK494.out 1) | (go_at_call 79; refine calls_of_args (args' := #[.slice (some ⟨go24, 0, none⟩) y506.length co24, .agg #[.int .i64 a1_0, .int .i64 a1_1]]) (by first | (rw [show y506.length = t503.length from (Kd.R_reads' HO505.out).1.symm] <;> rfl) | rfl) ?_; (with_reducible refine (speculumref06_Judge.calls kj15 _ _ y506 a1_0 a1_1 t507 t508 t509 _ ?side1 ?side2 A25.out).mono ?_); (case side1 => repeat (first | exact (Kd.R_reads' HO505.out).2.2 | (with_reducible refine Kd.C_alloc ?_ _) | (with_reducible refine Kd.C_drewN ?_ _) | (with_reducible refine Kd.C_drew ?_))); (case side2 => rw [show y506.length = t503.length from (Kd.R_reads' HO505.out).1.symm]; exact (Kd.R_reads' HO505.out).2.1); rintro e w31 ⟨rfl, hb⟩; have n0_ := Aside0.mk (Kd.R_below (rk_ HO505) hb); have n1_ := Aside0.mk (bb_ BK494 hb); have n2_ := Aside0.mk (bb_ BK498 hb); have n3_ := Aside0.mk (below_step (hb_ HB) hb); clear HO505; clear BK494; clear BK498; clear HB; have HO505 := n0_; have BK494 := n1_; have BK498 := n2_; have HB := n3_; clear n0_ n1_ n2_ n3_; (try clear hb); (try clear hb2); (try clear hk); (try clear hi)) | ((with_reducible refine gate_dst (N := 14) rfl ?_); refine box_event ?hg (N := 14) ?hd (cs := #[.int .i64 0, .int .i64 0]) (t := 48) ?hr ?_; (case hd => rfl); (case hg => rfl); (case hr => exact gr_); intro gb510 hg w32 hbox hb; have n0_ := Aside0.mk (Kd.R_below (rk_ HO505) hb); have n1_ := Aside0.mk (bb_ BK494 hb); have n2_ := Aside0.mk (bb_ BK498 hb); have n3_ := Aside0.mk (below_step (hb_ HB) hb); have n4_ := Aside0.mk (hbox); have n5_ := Aside0.mk ((hz_ HB hg)); have n6_ := Aside0.mk ((hz_ HB hg)); have n7_ := Aside0.mk ((nl_ BK494 hg)); have n8_ := Aside0.mk ((ng_ BK494 hg)); have n9_ := Aside0.mk ((nl_ BK498 hg)); have n10_ := Aside0.mk ((ng_ BK498 hg)); clear HO505; clear BK494; clear BK498; clear HB; have HO505 := n0_; have BK494 := n1_; have BK498 := n2_; have HB := n3_; have BK510 := n4_; have GW510 := n5_; have GE510 := n6_; have NB494_510 := n7_; have NB510_494 := n8_; have NB498_510 := n9_; have NB510_498 := n10_; clear n0_ n1_ n2_ n3_ n4_ n5_ n6_ n7_ n8_ n9_ n10_; clear hb hbox hg; have hnb33 := NB510_494.out; have hnc33 := NB494_510.out; have hnb34 := NB510_498.out; have hnc34 := NB498_510.out; have hcz35_0 : w32.cell? ⟨gb510, 0, none⟩ = some (.int .i64 0) := (blk_cell BK510.out 0).trans rfl; have hcz35_1 : w32.cell? ⟨gb510, 1, none⟩ = some (.int .i64 0) := (blk_cell BK510.out 1).trans rfl; have hfz35_0 := blk_frozen BK510.out 0; have hfz35_1 := blk_frozen BK510.out 1)))
                go_roundg kj15
                case measure => have := HK1.out; have := HK2.out; have := HK3.out; have := HJ15.out; omega
                case rel => exact ⟨((t507 != 0)), (wrap64 (x11_3 + 1)), rs_, rs_, H', ⟨by have := HK1.out; have := HK2.out; have := HK3.out; have := HJ15.out; omega⟩, ⟨by (with_reducible repeat (first | refine blk_drewN ?_ _ | refine blk_drew ?_ | refine blk_alloc ?_ _)); refine blk_far ?_ NB494_510.out _; (with_reducible repeat (first | refine blk_drewN ?_ _ | refine blk_drew ?_ | refine blk_alloc ?_ _)); refine blk_far ?_ NB494_510.out _; (with_reducible repeat (first | refine blk_drewN ?_ _ | refine blk_drew ?_ | refine blk_alloc ?_ _)); exact BK494.out⟩, ⟨by (with_reducible repeat (first | refine blk_drewN ?_ _ | refine blk_drew ?_ | refine blk_alloc ?_ _)); refine blk_far ?_ NB498_510.out _; (with_reducible repeat (first | refine blk_drewN ?_ _ | refine blk_drew ?_ | refine blk_alloc ?_ _)); refine blk_far ?_ NB498_510.out _; (with_reducible repeat (first | refine blk_drewN ?_ _ | refine blk_drew ?_ | refine blk_alloc ?_ _)); exact BK498.out⟩, ⟨by repeat (first | (with_reducible first | exact HB.out | apply below_alloc | apply pw_below_drewN | apply below_drew1 | refine below_set ?_ GE494.out | refine below_set ?_ GE498.out | refine below_set ?_ GE510.out) | exact HB.out)⟩⟩
               ·rw [if_neg c23] at H
                exact absurd H (by simp)
              ·rw [if_neg c22] at H
               exact absurd H (by simp)
             ·replace c20 := Bool.eq_false_iff.mpr c20
              subst c20
              have H1 : (if x10_3 = true then (some (x9_2, 0)) else (speculumref06_Deciding.l1 kj15 l0 (wrap64 (x9_2 + 1)) a1_0 a1_1)) = some (r1, r2) := by rw [if_neg (show ¬ (false = true) by decide)] at H; exact H
              clear H
              have H := H1
              clear H1
              by_cases c36 : x10_3 = true
              ·subst c36
               have H1 : (some (x9_2, 0)) = some (r1, r2) := by rw [if_pos rfl] at H; exact H
               clear H
               have H := H1
               clear H1
               simp only [Option.some.injEq, Prod.mk.injEq] at H
               obtain ⟨rfl, rfl⟩ := H
               go_wp2
               repeat (go_quiet (fail); try go_wp2)
               go_ret2
               exact ⟨by first | rfl | (simp [errW_none, errW_some] <;> rfl) | (simp [*, errW_none, errW_some] <;> rfl), by repeat (first | (with_reducible first | exact HB.out | apply below_alloc | apply pw_below_drewN | apply below_drew1 | refine below_set ?_ GE494.out | refine below_set ?_ GE498.out) | exact HB.out)⟩
              ·replace c36 := Bool.eq_false_iff.mpr c36
               subst c36
               have H1 : (speculumref06_Deciding.l1 kj15 l0 (wrap64 (x9_2 + 1)) a1_0 a1_1) = some (r1, r2) := by rw [if_neg (show ¬ (false = true) by decide)] at H; exact H
               clear H
               have H := H1
               clear H1
               have H' := Aside0.mk H
               clear H
               go_wp2
               repeat (go_quiet (fail); try go_wp2)
               go_roundg kj15
               case measure => have := HK1.out; have := HK2.out; have := HK3.out; have := HJ15.out; omega
               case rel => exact ⟨(wrap64 (x9_2 + 1)), rs_, H', ⟨by have := HK1.out; have := HK2.out; have := HK3.out; have := HJ15.out; omega⟩, ⟨by (with_reducible repeat (first | refine blk_drewN ?_ _ | refine blk_drew ?_ | refine blk_alloc ?_ _)); exact BK494.out⟩, ⟨by (with_reducible repeat (first | refine blk_drewN ?_ _ | refine blk_drew ?_ | refine blk_alloc ?_ _)); exact BK498.out⟩, ⟨by repeat (first | (with_reducible first | exact HB.out | apply below_alloc | apply pw_below_drewN | apply below_drew1 | refine below_set ?_ GE494.out | refine below_set ?_ GE498.out) | exact HB.out)⟩⟩
        ·rw [if_neg c15] at H
         exact absurd H (by simp)
       ·rw [if_neg c14] at H
        have c14b0 : decide (x9_2 < (l0.length : Int)) = false := decide_eq_false c14
        clear c14
        simp only [Option.some.injEq, Prod.mk.injEq] at H
        obtain ⟨rfl, rfl⟩ := H
        go_wp2
        repeat (go_quiet (fail); try go_wp2)
        go_ret2
        exact ⟨by first | rfl | (simp [errW_none, errW_some] <;> rfl) | (simp [*, errW_none, errW_some] <;> rfl), by repeat (first | (with_reducible first | exact HB.out | apply below_alloc | apply pw_below_drewN | apply below_drew1 | refine below_set ?_ GE494.out | refine below_set ?_ GE498.out) | exact HB.out)⟩
 ·rw [if_neg c4] at H
  have c4b0 : (t495 == 0) = false := beq_eq_false_iff_ne.mpr c4
  have c4b1 : (t495 != 0) = true := bne_iff_ne.mpr c4
  simp only [Option.some.injEq, Prod.mk.injEq] at H
  obtain ⟨rfl, rfl⟩ := H
  go_enter Try.func37, Try.ntmps37
  go_wp2_with (first | ((with_reducible refine gate_dst (N := 3) rfl ?_); refine box_event ?hg (N := 3) ?hd (cs := #[.int .i64 a1_0, .int .i64 a1_1]) (t := 59) ?hr ?_; (case hd => rfl); (case hg => rfl); (case hr => exact gr_); intro gb494 hg w37 hbox hb; have n0_ := Aside0.mk (below_step (hb_ HB) hb); have n1_ := Aside0.mk (hbox); have n2_ := Aside0.mk ((hz_ HB hg)); have n3_ := Aside0.mk ((hz_ HB hg)); clear HB; have HB := n0_; have BK494 := n1_; have GW494 := n2_; have GE494 := n3_; clear n0_ n1_ n2_ n3_; clear hb hbox hg; have hcz38_0 : w37.cell? ⟨gb494, 0, none⟩ = some (.int .i64 a1_0) := (blk_cell BK494.out 0).trans rfl; have hcz38_1 : w37.cell? ⟨gb494, 1, none⟩ = some (.int .i64 a1_1) := (blk_cell BK494.out 1).trans rfl; have hfz38_0 := blk_frozen BK494.out 0; have hfz38_1 := blk_frozen BK494.out 1) | (go_at_call 79; (with_reducible refine (speculumref06_Judge.calls k _ _ l0 a1_0 a1_1 t495 t496 t497 _ ?side1 ?side2 A3.out).mono ?_); (case side1 => repeat (first | exact (Kd.C_below HR0.out HB.out) | (with_reducible refine Kd.C_alloc ?_ _) | (with_reducible refine Kd.C_drewN ?_ _) | (with_reducible refine Kd.C_drew ?_))); (case side2 => exact HC0.out); rintro e w39 ⟨rfl, hb⟩; have n0_ := Aside0.mk (bb_ BK494 hb); have n1_ := Aside0.mk (below_step (hb_ HB) hb); clear BK494; clear HB; have BK494 := n0_; have HB := n1_; clear n0_ n1_; (try clear hb); (try clear hb2); (try clear hk); (try clear hi)) | ((with_reducible refine gate_dst (N := 7) rfl ?_); refine box_event ?hg (N := 7) ?hd (cs := #[.int .i64 0, .int .i64 0]) (t := 48) ?hr ?_; (case hd => rfl); (case hg => rfl); (case hr => exact gr_); intro gb498 hg w40 hbox hb; have n0_ := Aside0.mk (bb_ BK494 hb); have n1_ := Aside0.mk (below_step (hb_ HB) hb); have n2_ := Aside0.mk (hbox); have n3_ := Aside0.mk ((hz_ HB hg)); have n4_ := Aside0.mk ((hz_ HB hg)); have n5_ := Aside0.mk ((nl_ BK494 hg)); have n6_ := Aside0.mk ((ng_ BK494 hg)); clear BK494; clear HB; have BK494 := n0_; have HB := n1_; have BK498 := n2_; have GW498 := n3_; have GE498 := n4_; have NB494_498 := n5_; have NB498_494 := n6_; clear n0_ n1_ n2_ n3_ n4_ n5_ n6_; clear hb hbox hg; have hnb41 := NB498_494.out; have hnc41 := NB494_498.out; have hcz42_0 : w40.cell? ⟨gb498, 0, none⟩ = some (.int .i64 0) := (blk_cell BK498.out 0).trans rfl; have hcz42_1 : w40.cell? ⟨gb498, 1, none⟩ = some (.int .i64 0) := (blk_cell BK498.out 1).trans rfl; have hfz42_0 := blk_frozen BK498.out 0; have hfz42_1 := blk_frozen BK498.out 1))
  repeat (go_quiet (first | ((with_reducible refine gate_dst (N := 3) rfl ?_); refine box_event ?hg (N := 3) ?hd (cs := #[.int .i64 a1_0, .int .i64 a1_1]) (t := 59) ?hr ?_; (case hd => rfl); (case hg => rfl); (case hr => exact gr_); intro gb494 hg w37 hbox hb; have n0_ := Aside0.mk (below_step (hb_ HB) hb); have n1_ := Aside0.mk (hbox); have n2_ := Aside0.mk ((hz_ HB hg)); have n3_ := Aside0.mk ((hz_ HB hg)); clear HB; have HB := n0_; have BK494 := n1_; have GW494 := n2_; have GE494 := n3_; clear n0_ n1_ n2_ n3_; clear hb hbox hg; have hcz38_0 : w37.cell? ⟨gb494, 0, none⟩ = some (.int .i64 a1_0) := (blk_cell BK494.out 0).trans rfl; have hcz38_1 : w37.cell? ⟨gb494, 1, none⟩ = some (.int .i64 a1_1) := (blk_cell BK494.out 1).trans rfl; have hfz38_0 := blk_frozen BK494.out 0; have hfz38_1 := blk_frozen BK494.out 1) | (go_at_call 79; (with_reducible refine (speculumref06_Judge.calls k _ _ l0 a1_0 a1_1 t495 t496 t497 _ ?side1 ?side2 A3.out).mono ?_); (case side1 => repeat (first | exact (Kd.C_below HR0.out HB.out) | (with_reducible refine Kd.C_alloc ?_ _) | (with_reducible refine Kd.C_drewN ?_ _) | (with_reducible refine Kd.C_drew ?_))); (case side2 => exact HC0.out); rintro e w39 ⟨rfl, hb⟩; have n0_ := Aside0.mk (bb_ BK494 hb); have n1_ := Aside0.mk (below_step (hb_ HB) hb); clear BK494; clear HB; have BK494 := n0_; have HB := n1_; clear n0_ n1_; (try clear hb); (try clear hb2); (try clear hk); (try clear hi)) | ((with_reducible refine gate_dst (N := 7) rfl ?_); refine box_event ?hg (N := 7) ?hd (cs := #[.int .i64 0, .int .i64 0]) (t := 48) ?hr ?_; (case hd => rfl); (case hg => rfl); (case hr => exact gr_); intro gb498 hg w40 hbox hb; have n0_ := Aside0.mk (bb_ BK494 hb); have n1_ := Aside0.mk (below_step (hb_ HB) hb); have n2_ := Aside0.mk (hbox); have n3_ := Aside0.mk ((hz_ HB hg)); have n4_ := Aside0.mk ((hz_ HB hg)); have n5_ := Aside0.mk ((nl_ BK494 hg)); have n6_ := Aside0.mk ((ng_ BK494 hg)); clear BK494; clear HB; have BK494 := n0_; have HB := n1_; have BK498 := n2_; have GW498 := n3_; have GE498 := n4_; have NB494_498 := n5_; have NB498_494 := n6_; clear n0_ n1_ n2_ n3_ n4_ n5_ n6_; clear hb hbox hg; have hnb41 := NB498_494.out; have hnc41 := NB494_498.out; have hcz42_0 : w40.cell? ⟨gb498, 0, none⟩ = some (.int .i64 0) := (blk_cell BK498.out 0).trans rfl; have hcz42_1 : w40.cell? ⟨gb498, 1, none⟩ = some (.int .i64 0) := (blk_cell BK498.out 1).trans rfl; have hfz42_0 := blk_frozen BK498.out 0; have hfz42_1 := blk_frozen BK498.out 1)); try go_wp2_with (first | ((with_reducible refine gate_dst (N := 3) rfl ?_); refine box_event ?hg (N := 3) ?hd (cs := #[.int .i64 a1_0, .int .i64 a1_1]) (t := 59) ?hr ?_; (case hd => rfl); (case hg => rfl); (case hr => exact gr_); intro gb494 hg w37 hbox hb; have n0_ := Aside0.mk (below_step (hb_ HB) hb); have n1_ := Aside0.mk (hbox); have n2_ := Aside0.mk ((hz_ HB hg)); have n3_ := Aside0.mk ((hz_ HB hg)); clear HB; have HB := n0_; have BK494 := n1_; have GW494 := n2_; have GE494 := n3_; clear n0_ n1_ n2_ n3_; clear hb hbox hg; have hcz38_0 : w37.cell? ⟨gb494, 0, none⟩ = some (.int .i64 a1_0) := (blk_cell BK494.out 0).trans rfl; have hcz38_1 : w37.cell? ⟨gb494, 1, none⟩ = some (.int .i64 a1_1) := (blk_cell BK494.out 1).trans rfl; have hfz38_0 := blk_frozen BK494.out 0; have hfz38_1 := blk_frozen BK494.out 1) | (go_at_call 79; (with_reducible refine (speculumref06_Judge.calls k _ _ l0 a1_0 a1_1 t495 t496 t497 _ ?side1 ?side2 A3.out).mono ?_); (case side1 => repeat (first | exact (Kd.C_below HR0.out HB.out) | (with_reducible refine Kd.C_alloc ?_ _) | (with_reducible refine Kd.C_drewN ?_ _) | (with_reducible refine Kd.C_drew ?_))); (case side2 => exact HC0.out); rintro e w39 ⟨rfl, hb⟩; have n0_ := Aside0.mk (bb_ BK494 hb); have n1_ := Aside0.mk (below_step (hb_ HB) hb); clear BK494; clear HB; have BK494 := n0_; have HB := n1_; clear n0_ n1_; (try clear hb); (try clear hb2); (try clear hk); (try clear hi)) | ((with_reducible refine gate_dst (N := 7) rfl ?_); refine box_event ?hg (N := 7) ?hd (cs := #[.int .i64 0, .int .i64 0]) (t := 48) ?hr ?_; (case hd => rfl); (case hg => rfl); (case hr => exact gr_); intro gb498 hg w40 hbox hb; have n0_ := Aside0.mk (bb_ BK494 hb); have n1_ := Aside0.mk (below_step (hb_ HB) hb); have n2_ := Aside0.mk (hbox); have n3_ := Aside0.mk ((hz_ HB hg)); have n4_ := Aside0.mk ((hz_ HB hg)); have n5_ := Aside0.mk ((nl_ BK494 hg)); have n6_ := Aside0.mk ((ng_ BK494 hg)); clear BK494; clear HB; have BK494 := n0_; have HB := n1_; have BK498 := n2_; have GW498 := n3_; have GE498 := n4_; have NB494_498 := n5_; have NB498_494 := n6_; clear n0_ n1_ n2_ n3_ n4_ n5_ n6_; clear hb hbox hg; have hnb41 := NB498_494.out; have hnc41 := NB494_498.out; have hcz42_0 : w40.cell? ⟨gb498, 0, none⟩ = some (.int .i64 0) := (blk_cell BK498.out 0).trans rfl; have hcz42_1 : w40.cell? ⟨gb498, 1, none⟩ = some (.int .i64 0) := (blk_cell BK498.out 1).trans rfl; have hfz42_0 := blk_frozen BK498.out 0; have hfz42_1 := blk_frozen BK498.out 1)))
  go_ret2
  exact ⟨by first | rfl | (simp [errW_none, errW_some] <;> rfl) | (simp [*, errW_none, errW_some] <;> rfl), by repeat (first | (with_reducible first | exact HB.out | apply below_alloc | apply pw_below_drewN | apply below_drew1 | refine below_set ?_ GE494.out | refine below_set ?_ GE498.out) | exact HB.out)⟩
end Go.Proofs.Ytdkahcolfcmmpaa.Pr
namespace Go.Proofs.Ytdkahcolfcmmpaa.RowB
open Go.ChangeShapes Go.WideShapes Go.ChangeAt Go.RowKit Go.Deep Go.Proofs.YtdkahcolfcmmpaaW.PrintWords Go.Proofs.Ytdkahcolfcmmpaa.Pr
set_option linter.unusedVariables false
theorem own : ownKnob Try.prog.godebug = none := by kernel_rfl
theorem laidOut : laidOutB Try.prog = true := by kernel_rfl
theorem isRanges {H : Type} {enc : TypeId × Value → H} {W : World} {base n : Nat} {cs : List Value} {x : DataW H × List MemPlace} (h : DataW.trod enc Try.prog W base (fun _ => true) true n 36 cs = some x) :
    ∃ a c, ∃ l : List S38, cs = [.slice a l.length c] ∧ Kd.C k38 W a l.length l ∧ l.length ≤ c := by
  rcases open_slice_pairs Try.underlying36 Try.underlying38 (by kernel_rfl) rfl rfl (by kernel_rfl) (by kernel_rfl) h with ⟨rfl, _⟩ | ⟨a, len, cap, m, n, V0, V1, D0, D1, P0, P1, rfl, _, hl, hm, hmm, _, hr⟩
  · exact ⟨none, 0, [], rfl, Kd.C_nil _ _, Nat.le_refl _⟩
  · simp only [if_true] at hmm
    subst hmm
    have each : ∀ r, r < m → ∃ y : Int × Int, V0 r = .int .i64 y.1 ∧ V1 r = .int .i64 y.2 := fun r hr' => by
      obtain ⟨_, _, t0, t1⟩ := hr r hr'
      obtain ⟨n0, e0, _, _⟩ := DataW.trod_int (k := .i64) Try.underlying3 t0
      obtain ⟨n1, e1, _, _⟩ := DataW.trod_int (k := .i64) Try.underlying3 t1
      exact ⟨(n0, n1), by simpa using e0, by simpa using e1⟩
    obtain ⟨y, hy⟩ := choose_lt each
    refine ⟨some a, m, (List.range len).map fun r => ⟨(y r).1, (y r).2⟩, by simp, ⟨rfl, by simp; unfold maxLen at hm; omega, fun _ => ⟨a, rfl, fun j p hj => ?_⟩⟩, by simpa using hl⟩
    have hjl : j < len := by
      rcases Nat.lt_or_ge j len with h | h
      · exact h
      · rw [List.getElem?_eq_none (by simpa using h)] at hj; cases hj
    obtain rfl : (⟨(y j).1, (y j).2⟩ : S38) = p := by
      rw [List.getElem?_map, List.getElem?_range hjl] at hj
      exact Option.some.inj hj
    obtain ⟨c0, c1, _, _⟩ := hr j (by omega)
    obtain ⟨v0, v1⟩ := hy j (by omega)
    refine ⟨_, rfl, k38_mk W _, fun i u hu => ?_⟩
    match i, hu with
    | 0, hu =>
      obtain rfl : Value.int .i64 (y j).1 = u := by simpa using hu
      rw [← v0]; exact c0
    | 1, hu =>
      obtain rfl : Value.int .i64 (y j).2 = u := by simpa using hu
      rw [← v1]; exact c1
    | i + 2, hu => simp at hu
theorem isInt {H : Type} {enc : TypeId × Value → H} {W : World} {base n : Nat} {v : Value} {x : DataW H × List MemPlace} (h : DataW.trod enc Try.prog W base (fun _ => true) true n 3 [v] = some x) :
    ∃ m : Int, v = .int .i64 m ∧ (Lit.int .i64 m).wf = true := by
  obtain ⟨m, e, _, hw⟩ := DataW.trod_int (k := .i64) Try.underlying3 h
  exact ⟨m, by simpa using e, hw⟩
end Go.Proofs.Ytdkahcolfcmmpaa.RowB
