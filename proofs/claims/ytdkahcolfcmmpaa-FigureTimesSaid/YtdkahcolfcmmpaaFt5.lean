import Derived.Below
import Derived.ChangeOld
import Derived.Deep.Matrix
import Derived.Deep.SlicePairs
import Derived.Lib.SmallJoins
import Derived.OpenShut
import Derived.ProofKit
import Derived.ShutString
import Derived.SizedLaws
import Derived.Test.YtdkahcolfcmmpaaFt1
import Derived.Test.YtdkahcolfcmmpaaFt2
import Derived.WalkKit
import Derived.WalkSpells
namespace Go.Proofs.Ytdkahcolfcmmpaa.Pr
open Go.RowKit Go.Proofs.YtdkahcolfcmmpaaW.PrintWords Go.Proofs.YtdkahcolfcmmpaaW.PrintLast Go.Proofs.YtdkahcolfcmmpaaW.PrintMore
attribute [local go_sem] max2_int min2_int max_two min_two max_three min_three max_four min_four   -- for this text's walks alone
set_option linter.unusedVariables false
set_option linter.unusedSimpArgs false
def speculumlaw06_Known.f  : Option ((List (S38))) := some (([(⟨0, 2⟩ : S38), (⟨1, 4⟩ : S38), (⟨3, 5⟩ : S38)] : List (S38)))
set_option maxHeartbeats 8000000 in
set_option maxRecDepth 100000 in
theorem speculumlaw06_Known.calls  (r : List (S38)) (w : World) (h : speculumlaw06_Known.f  = some r) :
  Calls Try.prog 60 #[] w fun e w' => ∃ v0_ : Value, e = .returned (v0_) ∧ Kd.R k38 38 w' w.heap.size (fun _ => True) v0_ r ∧ Below w.heap.size w w' := by
 have hu38 := Try.underlying38
 have HB := Aside0.mk (Below.refl w.heap.size w)
 have H : (some (([(⟨0, 2⟩ : S38), (⟨1, 4⟩ : S38), (⟨3, 5⟩ : S38)] : List (S38)))) = some r := h
 clear h
 obtain ⟨y194, hy194⟩ : ∃ y_ : List (S38), y_ = (([(⟨0, 2⟩ : S38), (⟨1, 4⟩ : S38), (⟨3, 5⟩ : S38)] : List (S38))) := ⟨_, rfl⟩
 replace H : (some y194) = some r := by first | (rw [hy194]; with_reducible exact H) | (have H2_ := (Option.bind_some _ _).symm.trans H; rw [hy194]; with_reducible exact H2_) | (have H2_ := (Option.bind_some _ _).symm.trans H; with_reducible exact H2_) | with_reducible exact H | (rw [hy194]; exact H) | exact H
 have Ny194 := Aside0.mk hy194
 clear hy194
 obtain rfl := Option.some.inj H
 go_enter Try.func60, Try.ntmps60
 go_wp2_with (first | ((with_reducible refine gate_dst (N := 4) rfl ?_); refine Kd.R_lit k38 _ 38 ?hg (N := 4) ?hd (xs := ([(⟨0, 2⟩ : S38), (⟨1, 4⟩ : S38), (⟨3, 5⟩ : S38)] : List (S38))) (inner := [.int .i64 0, .int .i64 2, .int .i64 1, .int .i64 4, .int .i64 3, .int .i64 5]) (ok := fun _ => True) (okp := fun _ => True) ?hr ?hp (fun _ hk => hk) trivial (Below.refl _ _) (Nat.le_refl _) (by simp) ?_; (case hd => rfl); (case hg => rfl); (case hr => exact gr_); (case hp => exact (Reps.c2 (show Kd.M k38 _ _ _ (⟨0, 2⟩ : S38) [.int .i64 0, .int .i64 2] from (k38_mkM _ _ _ (⟨0, 2⟩ : S38) )) (Reps.c2 (show Kd.M k38 _ _ _ (⟨1, 4⟩ : S38) [.int .i64 1, .int .i64 4] from (k38_mkM _ _ _ (⟨1, 4⟩ : S38) )) (Reps.c2 (show Kd.M k38 _ _ _ (⟨3, 5⟩ : S38) [.int .i64 3, .int .i64 5] from (k38_mkM _ _ _ (⟨3, 5⟩ : S38) )) (Reps.none _ _))))); intro v195 w1 ho2 hb hg_ hnew_; clear hg_ hnew_; (first | rw [← Ny194.out] at ho2 | (simp only [Int.reduceToNat] at ho2; rw [← Ny194.out] at ho2)); have n0_ := Aside0.mk (Kd.R_lower ho2 (below_size (hb_ HB))); have n1_ := Aside0.mk (below_step (hb_ HB) hb); clear HB; have HO196 := n0_; have HB := n1_; clear n0_ n1_; clear hb ho2))
 go_ret
 exact ⟨_, by first | rfl | (simp [errW_none, errW_some] <;> rfl) | (simp [*, errW_none, errW_some] <;> rfl), by (with_reducible repeat (first | apply Kd.R_alloc | apply Kd.R_drewN | apply Kd.R_drew)); exact HO196.out, by repeat (first | (with_reducible first | exact HB.out | apply below_alloc | apply pw_below_drewN | apply below_drew1) | exact HB.out)⟩
end Go.Proofs.Ytdkahcolfcmmpaa.Pr
namespace Go.Proofs.Ytdkahcolfcmmpaa.Pr
open Go.RowKit Go.Proofs.YtdkahcolfcmmpaaW.PrintWords Go.Proofs.YtdkahcolfcmmpaaW.PrintLast Go.Proofs.YtdkahcolfcmmpaaW.PrintMore
attribute [local go_sem] max2_int min2_int max_two min_two max_three min_three max_four min_four   -- for this text's walks alone
set_option linter.unusedVariables false
set_option linter.unusedSimpArgs false
def speculumbase_CopyInts.f (l0 : List Int) : Option (List Int) := (some (([] : List Int) : List Int)).bind fun y252 => (if y252.length + l0.length < 17592186044416 then (some (y252 ++ l0)) else (none))
set_option maxHeartbeats 8000000 in
set_option maxRecDepth 100000 in
theorem speculumbase_CopyInts.calls (A0 : Option Addr) (c0 : Nat) (l0 : List Int) (r : List Int) (w : World) (hr0 : Kd.C (Kd.int .i64) w A0 l0.length l0) (hc0 : l0.length ≤ c0) (h : speculumbase_CopyInts.f l0 = some r) :
  Calls Try.prog 46 #[.slice A0 l0.length c0] w fun e w' => ∃ v0_ : Value, e = .returned (v0_) ∧ Kd.R (Kd.int .i64) 3 w' w.heap.size (fun _ => True) v0_ r ∧ Below w.heap.size w w' := by
 have HR0 := Aside0.mk hr0
 have HC0 := Aside0.mk hc0
 clear hr0 hc0
 have HB := Aside0.mk (Below.refl w.heap.size w)
 have H : ((some (([] : List Int) : List Int)).bind fun y252 => (if y252.length + l0.length < 17592186044416 then (some (y252 ++ l0)) else (none))) = some r := h
 clear h
 obtain ⟨y252, hy252⟩ : ∃ y_ : List Int, y_ = (([] : List Int)) := ⟨_, rfl⟩
 replace H : (if y252.length + l0.length < 17592186044416 then (some (y252 ++ l0)) else (none)) = some r := by first | (rw [hy252]; with_reducible exact H) | (have H2_ := (Option.bind_some _ _).symm.trans H; rw [hy252]; with_reducible exact H2_) | (have H2_ := (Option.bind_some _ _).symm.trans H; with_reducible exact H2_) | with_reducible exact H | (rw [hy252]; exact H) | exact H
 have Ny252 := Aside0.mk hy252
 clear hy252
 by_cases c2 : y252.length + l0.length < 17592186044416
 ·rw [if_pos c2] at H
  have LMc2 := Aside0.mk c2
  clear c2
  obtain ⟨y255, hy255⟩ : ∃ y_ : List Int, y_ = (y252 ++ l0) := ⟨_, rfl⟩
  replace H : (some y255) = some r := by first | (rw [hy255]; with_reducible exact H) | (have H2_ := (Option.bind_some _ _).symm.trans H; rw [hy255]; with_reducible exact H2_) | (have H2_ := (Option.bind_some _ _).symm.trans H; with_reducible exact H2_) | with_reducible exact H | (rw [hy255]; exact H) | exact H
  have Ny255 := Aside0.mk hy255
  clear hy255
  obtain rfl := Option.some.inj H
  go_enter Try.func46, Try.ntmps46
  go_wp2_with (first | ((with_reducible refine gate_dst (N := 3) rfl ?_); refine Kd.R_lit (Kd.int .i64) _ 3 ?hg (N := 3) ?hd (xs := ([] : List Int)) (inner := []) (ok := fun _ => True) (okp := fun _ => True) ?hr ?hp (fun _ hk => hk) trivial (Below.refl _ _) (Nat.le_refl _) (by simp) ?_; (case hd => rfl); (case hg => rfl); (case hr => exact gr_); (case hp => exact (Reps.none _ _)); intro v253 w3 ho4 hb hg_ hnew_; clear hg_ hnew_; (first | rw [← Ny252.out] at ho4 | (simp only [Int.reduceToNat] at ho4; rw [← Ny252.out] at ho4)); have n0_ := Aside0.mk (Kd.R_lower ho4 (below_size (hb_ HB))); have n1_ := Aside0.mk (below_step (hb_ HB) hb); clear HB; have HO254 := n0_; have HB := n1_; clear n0_ n1_; clear hb ho4) | ((with_reducible refine gate_builtin (b := .append) (xs := #[.tmp 3, .tmp 4]) rfl ?_); at_builtin; refine Kd.R_append_rows (Kd.int .i64) (w0 := w) w.heap.size rfl (.tmp 3) (.tmp 4) 22 3 (.int .i64 0) 8 rfl Try.underlying22 info3 rfl di_ (by omega) v253 y252 l0 _ _ _ (fun _ => True) (fun _ => False) rfl rfl ?aO ?aR (fun _ _ h => h) (fun _ h => h.elim) ?aF ?aB ?aS ?aL ?_; (case aR => repeat (first | exact (Kd.C_below HR0.out HB.out) | (with_reducible refine Kd.C_alloc ?_ _) | (with_reducible refine Kd.C_drewN ?_ _) | (with_reducible refine Kd.C_drew ?_))); (case aB => exact (hb_ HB)); (case aF => exact (fun _ _ => trivial)); (case aO => exact (rk_ HO254)); (case aS => exact (below_size (hb_ HB))); (case aL => have := LMc2.out; omega); intro v256 w5 ho hb hg hat; rw [← Ny255.out] at ho; have n0_ := Aside0.mk (hb); have n1_ := Aside0.mk (ho); clear HB; clear HO254; have HB := n0_; have HO257 := n1_; clear n0_ n1_; clear ho hb hg hat))
  go_ret
  exact ⟨_, by first | rfl | (simp [errW_none, errW_some] <;> rfl) | (simp [*, errW_none, errW_some] <;> rfl), by (with_reducible repeat (first | apply Kd.R_alloc | apply Kd.R_drewN | apply Kd.R_drew)); exact HO257.out, by repeat (first | (with_reducible first | exact HB.out | apply below_alloc | apply pw_below_drewN | apply below_drew1) | exact HB.out)⟩
 ·rw [if_neg c2] at H
  exact absurd H (by simp)
end Go.Proofs.Ytdkahcolfcmmpaa.Pr
namespace Go.Proofs.Ytdkahcolfcmmpaa.Pr
open Go.RowKit Go.Proofs.YtdkahcolfcmmpaaW.PrintWords Go.Proofs.YtdkahcolfcmmpaaW.PrintLast Go.Proofs.YtdkahcolfcmmpaaW.PrintMore
attribute [local go_sem] max2_int min2_int max_two min_two max_three min_three max_four min_four   -- for this text's walks alone
set_option linter.unusedVariables false
set_option linter.unusedSimpArgs false
def figure_checkWear_1.f (a0 : Int) : Option (Bool) := (figure_within.f a0 0 100000).bind fun t591 => (some (!t591))
set_option maxHeartbeats 8000000 in
set_option maxRecDepth 100000 in
theorem figure_checkWear_1.calls (a0 : Int) (r : Bool) (w : World) (h : figure_checkWear_1.f a0 = some r) :
  Calls Try.prog 118 #[.int .i64 a0] w fun e w' => e = .returned (.bool r) ∧ Drawn0 w w' := by
 have H : ((figure_within.f a0 0 100000).bind fun t591 => (some (!t591))) = some r := h
 clear h
 replace H := Option.bind_eq_some_iff.mp H
 obtain ⟨t591, A20, H⟩ := H
 replace H : (some (!t591)) = some r := H
 have A2 := Aside0.mk A20
 clear A20
 obtain rfl := Option.some.inj H
 go_enter Try.func118, Try.ntmps118
 go_wp2_with (first | ((with_reducible refine gate_callee (f := 66) rfl ?_); refine goesL_ (some 4) rfl rfl Try.func66 (by kernel_rfl) rfl #[.int .i64 a0, .int .i64 0, .int .i64 100000] rfl ma_ ?_; (with_reducible refine (figure_within.calls a0 0 100000 t591 _ A2.out).mono ?_); rintro e w' ⟨rfl, ⟨nd, rfl⟩⟩; refine ⟨_, rfl, ?_⟩))
 go_ret
 exact ⟨by first | rfl | (simp; done) | (simp [*]; done), by repeat (first | exact Drawn0.refl _ | apply Drawn0.step)⟩
end Go.Proofs.Ytdkahcolfcmmpaa.Pr
namespace Go.Proofs.Ytdkahcolfcmmpaa.Pr
open Go.RowKit Go.Proofs.YtdkahcolfcmmpaaW.PrintWords Go.Proofs.YtdkahcolfcmmpaaW.PrintLast Go.Proofs.YtdkahcolfcmmpaaW.PrintMore
attribute [local go_sem] max2_int min2_int max_two min_two max_three min_three max_four min_four   -- for this text's walks alone
set_option linter.unusedVariables false
set_option linter.unusedSimpArgs false
def slices_IndexFunc_int_int__figure_checkWear_1.l0 : Nat → List Int → Int → Int → Option (Int)
 | 0, _, _, _ => none
 | k + 1, x0, x7, x8 => if x8 < x7 then (if 0 ≤ x8 then (if x8 < (x0.length : Int) then ((figure_checkWear_1.f (rd x0 x8)).bind fun t593 => (if t593 = true then (some x8) else (slices_IndexFunc_int_int__figure_checkWear_1.l0 k x0 x7 (wrap64 (x8 + 1))))) else (none)) else (none)) else (some (-1))
def slices_IndexFunc_int_int__figure_checkWear_1.f (k : Nat) (l0 : List Int)  : Option (Int) := slices_IndexFunc_int_int__figure_checkWear_1.l0 k l0 (l0.length : Int) 0
set_option maxHeartbeats 8000000 in
set_option maxRecDepth 100000 in
theorem slices_IndexFunc_int_int__figure_checkWear_1.calls (k : Nat) (A0 : Option Addr) (c0 : Nat) (l0 : List Int)  (r : Int) (w : World) (hr0 : Kd.C (Kd.int .i64) w A0 l0.length l0) (hc0 : l0.length ≤ c0) (h : slices_IndexFunc_int_int__figure_checkWear_1.f k l0 = some r) :
  Calls Try.prog 108 #[.slice A0 l0.length c0, .func (.func 118) #[] #[]] w fun e w' => e = .returned (.int .i64 r) ∧ Drawn0 w w' := by
 have HR0 := Aside0.mk hr0
 have HC0 := Aside0.mk hc0
 clear hr0 hc0
 have H : (slices_IndexFunc_int_int__figure_checkWear_1.l0 k l0 (l0.length : Int) 0) = some r := h
 clear h
 have H' := Aside0.mk H
 clear H
 go_enter Try.func108, Try.ntmps108
 go_wp2
 go_loopg [8] k (fun kq v8 w' => ∃ (x8_1 : Int), v8 = .int .i64 x8_1 ∧ Aside0 (slices_IndexFunc_int_int__figure_checkWear_1.l0 kq l0 (l0.length : Int) x8_1 = some r) ∧ Aside0 (kq ≤ k) ∧ Drawn0 w w')
 case atStart => exact ⟨(0), rs_, H', ⟨Nat.le_refl _⟩, by repeat (first | exact Drawn0.refl _ | apply Drawn0.step)⟩
 case round =>
  clear H'
  try clear c1
  try clear p2
  obtain ⟨x8_1, rfl, HA, HK1, ⟨m1, rfl⟩⟩ := hrel
  cases gk with
  | zero => exact absurd HA.out (by simp [slices_IndexFunc_int_int__figure_checkWear_1.l0])
  | succ k1 =>
   have H := HA.out
   clear HA
   simp only [slices_IndexFunc_int_int__figure_checkWear_1.l0] at H
   by_cases c3 : x8_1 < (l0.length : Int)
   ·rw [if_pos c3] at H
    have c3b0 : decide (x8_1 < (l0.length : Int)) = true := decide_eq_true c3
    clear c3
    by_cases c4 : 0 ≤ x8_1
    ·rw [if_pos c4] at H
     have c4b0 : decide (0 ≤ x8_1) = true := decide_eq_true c4
     clear c4
     by_cases c5 : x8_1 < (l0.length : Int)
     ·rw [if_pos c5] at H
      have c5b0 : decide (x8_1 < (l0.length : Int)) = true := decide_eq_true c5
      clear c5
      replace H := Option.bind_eq_some_iff.mp H
      obtain ⟨t593, A60, H⟩ := H
      replace H : (if t593 = true then (some x8_1) else (slices_IndexFunc_int_int__figure_checkWear_1.l0 k1 l0 (l0.length : Int) (wrap64 (x8_1 + 1)))) = some r := H
      have A6 := Aside0.mk A60
      clear A60
      by_cases c7 : t593 = true
      ·subst c7
       have H1 : (some x8_1) = some r := by rw [if_pos rfl] at H; exact H
       clear H
       have H := H1
       clear H1
       obtain rfl := Option.some.inj H
       have p592 : 0 ≤ (x8_1 : Int) := of_decide_eq_true as_
       have q592 : x8_1 < (l0.length : Int) := of_decide_eq_true as_
       obtain ⟨ad592, e592, hx592_0⟩ := Kd.at_int HR0.out x8_1 p592 q592
       cases e592
       replace p592 := eq_true p592
       replace q592 := eq_true q592
       go_wp2_with (first | (go_at_call 118; (with_reducible refine (figure_checkWear_1.calls (rd l0 x8_1) true _ A6.out).mono ?_); rintro e w' ⟨rfl, ⟨nd, rfl⟩⟩))
       go_ret
       exact ⟨by first | rfl | (simp; done) | (simp [*]; done), by repeat (first | exact Drawn0.refl _ | apply Drawn0.step)⟩
      ·replace c7 := Bool.eq_false_iff.mpr c7
       subst c7
       have H1 : (slices_IndexFunc_int_int__figure_checkWear_1.l0 k1 l0 (l0.length : Int) (wrap64 (x8_1 + 1))) = some r := by rw [if_neg (show ¬ (false = true) by decide)] at H; exact H
       clear H
       have H := H1
       clear H1
       have H' := Aside0.mk H
       clear H
       have p592 : 0 ≤ (x8_1 : Int) := of_decide_eq_true as_
       have q592 : x8_1 < (l0.length : Int) := of_decide_eq_true as_
       obtain ⟨ad592, e592, hx592_0⟩ := Kd.at_int HR0.out x8_1 p592 q592
       cases e592
       replace p592 := eq_true p592
       replace q592 := eq_true q592
       go_wp2_with (first | (go_at_call 118; (with_reducible refine (figure_checkWear_1.calls (rd l0 x8_1) false _ A6.out).mono ?_); rintro e w' ⟨rfl, ⟨nd, rfl⟩⟩))
       go_roundg k1
       case measure => have := HK1.out; omega
       case rel => exact ⟨(wrap64 (x8_1 + 1)), rs_, H', ⟨by have := HK1.out; omega⟩, by repeat (first | exact Drawn0.refl _ | apply Drawn0.step)⟩
     ·rw [if_neg c5] at H
      exact absurd H (by simp)
    ·rw [if_neg c4] at H
     exact absurd H (by simp)
   ·rw [if_neg c3] at H
    have c3b0 : decide (x8_1 < (l0.length : Int)) = false := decide_eq_false c3
    clear c3
    obtain rfl := Option.some.inj H
    go_wp2
    go_ret
    exact ⟨by first | rfl | (simp; done) | (simp [*]; done), by repeat (first | exact Drawn0.refl _ | apply Drawn0.step)⟩
end Go.Proofs.Ytdkahcolfcmmpaa.Pr
namespace Go.Proofs.Ytdkahcolfcmmpaa.Pr
open Go.RowKit Go.Proofs.YtdkahcolfcmmpaaW.PrintWords Go.Proofs.YtdkahcolfcmmpaaW.PrintLast Go.Proofs.YtdkahcolfcmmpaaW.PrintMore
attribute [local go_sem] max2_int min2_int max_two min_two max_three min_three max_four min_four   -- for this text's walks alone
set_option linter.unusedVariables false
set_option linter.unusedSimpArgs false
def slices_ContainsFunc_int_int__figure_checkWear_1.f (k : Nat) (l0 : List Int)  : Option (Bool) := (slices_IndexFunc_int_int__figure_checkWear_1.f k l0).bind fun t594 => (some (decide (t594 ≥ 0)))
set_option maxHeartbeats 8000000 in
set_option maxRecDepth 100000 in
theorem slices_ContainsFunc_int_int__figure_checkWear_1.calls (k : Nat) (A0 : Option Addr) (c0 : Nat) (l0 : List Int)  (r : Bool) (w : World) (hr0 : Kd.C (Kd.int .i64) w A0 l0.length l0) (hc0 : l0.length ≤ c0) (h : slices_ContainsFunc_int_int__figure_checkWear_1.f k l0 = some r) :
  Calls Try.prog 116 #[.slice A0 l0.length c0, .func (.func 118) #[] #[]] w fun e w' => e = .returned (.bool r) ∧ Drawn0 w w' := by
 have HR0 := Aside0.mk hr0
 have HC0 := Aside0.mk hc0
 clear hr0 hc0
 have H : ((slices_IndexFunc_int_int__figure_checkWear_1.f k l0).bind fun t594 => (some (decide (t594 ≥ 0)))) = some r := h
 clear h
 replace H := Option.bind_eq_some_iff.mp H
 obtain ⟨t594, A30, H⟩ := H
 replace H : (some (decide (t594 ≥ 0))) = some r := H
 have A3 := Aside0.mk A30
 clear A30
 obtain rfl := Option.some.inj H
 go_enter Try.func116, Try.ntmps116
 go_wp2_with (first | ((with_reducible refine gate_callee (f := 108) rfl ?_); refine goesL_ (some 7) rfl rfl Try.func108 (by kernel_rfl) rfl #[.slice A0 l0.length c0, .func (.func 118) #[] #[]] rfl ma_ ?_; (with_reducible refine (slices_IndexFunc_int_int__figure_checkWear_1.calls k _ _ l0  t594 _ ?side1 ?side2 A3.out).mono ?_); (case side1 => repeat (first | exact HR0.out | (with_reducible refine Kd.C_alloc ?_ _) | (with_reducible refine Kd.C_drewN ?_ _) | (with_reducible refine Kd.C_drew ?_))); (case side2 => exact HC0.out); rintro e w' ⟨rfl, ⟨nd, rfl⟩⟩; refine ⟨_, rfl, ?_⟩))
 go_ret
 exact ⟨by first | rfl | (simp; done) | (simp [*]; done), by repeat (first | exact Drawn0.refl _ | apply Drawn0.step)⟩
end Go.Proofs.Ytdkahcolfcmmpaa.Pr
namespace Go.Proofs.Ytdkahcolfcmmpaa.Pr
open Go.RowKit Go.Proofs.YtdkahcolfcmmpaaW.PrintWords Go.Proofs.YtdkahcolfcmmpaaW.PrintLast Go.Proofs.YtdkahcolfcmmpaaW.PrintMore
attribute [local go_sem] max2_int min2_int max_two min_two max_three min_three max_four min_four   -- for this text's walks alone
set_option linter.unusedVariables false
set_option linter.unusedSimpArgs false
def figure_checkWear.f (k : Nat) (l0 : List Int) (a1 : Int) : Option (Int) := if (l0.length : Int) = a1 then ((slices_ContainsFunc_int_int__figure_checkWear_1.f k l0).bind fun t595 => (if t595 = true then (some 2) else (some 0))) else (some 10)
set_option maxHeartbeats 8000000 in
set_option maxRecDepth 100000 in
theorem figure_checkWear.calls (k : Nat) (A0 : Option Addr) (c0 : Nat) (l0 : List Int) (a1 : Int) (r : Int) (w : World) (hr0 : Kd.C (Kd.int .i64) w A0 l0.length l0) (hc0 : l0.length ≤ c0) (h : figure_checkWear.f k l0 a1 = some r) :
  Calls Try.prog 86 #[.slice A0 l0.length c0, .int .i64 a1] w fun e w' => e = .returned (.int .i64 r) ∧ Drawn0 w w' := by
 have HR0 := Aside0.mk hr0
 have HC0 := Aside0.mk hc0
 clear hr0 hc0
 have H : (if (l0.length : Int) = a1 then ((slices_ContainsFunc_int_int__figure_checkWear_1.f k l0).bind fun t595 => (if t595 = true then (some 2) else (some 0))) else (some 10)) = some r := h
 clear h
 by_cases c3 : (l0.length : Int) = a1
 ·rw [if_pos c3] at H
  have c3b0 : ((l0.length : Int) == a1) = true := beq_iff_eq.mpr c3
  have c3b1 : ((l0.length : Int) != a1) = false := bne_eq_false_iff_eq.mpr c3
  clear c3
  replace H := Option.bind_eq_some_iff.mp H
  obtain ⟨t595, A40, H⟩ := H
  replace H : (if t595 = true then (some 2) else (some 0)) = some r := H
  have A4 := Aside0.mk A40
  clear A40
  by_cases c5 : t595 = true
  ·subst c5
   have H1 : (some 2) = some r := by rw [if_pos rfl] at H; exact H
   clear H
   have H := H1
   clear H1
   obtain rfl := Option.some.inj H
   go_enter Try.func86, Try.ntmps86
   go_wp2_with (first | ((with_reducible refine gate_callee (f := 116) rfl ?_); refine goesL_ (some 10) rfl rfl Try.func116 (by kernel_rfl) rfl #[.slice A0 l0.length c0, .func (.func 118) #[] #[]] rfl ma_ ?_; (with_reducible refine (slices_ContainsFunc_int_int__figure_checkWear_1.calls k _ _ l0  true _ ?side1 ?side2 A4.out).mono ?_); (case side1 => repeat (first | exact HR0.out | (with_reducible refine Kd.C_alloc ?_ _) | (with_reducible refine Kd.C_drewN ?_ _) | (with_reducible refine Kd.C_drew ?_))); (case side2 => exact HC0.out); rintro e w' ⟨rfl, ⟨nd, rfl⟩⟩; refine ⟨_, rfl, ?_⟩))
   go_ret
   exact ⟨by first | rfl | (simp; done) | (simp [*]; done), by repeat (first | exact Drawn0.refl _ | apply Drawn0.step)⟩
  ·replace c5 := Bool.eq_false_iff.mpr c5
   subst c5
   have H1 : (some 0) = some r := by rw [if_neg (show ¬ (false = true) by decide)] at H; exact H
   clear H
   have H := H1
   clear H1
   obtain rfl := Option.some.inj H
   go_enter Try.func86, Try.ntmps86
   go_wp2_with (first | ((with_reducible refine gate_callee (f := 116) rfl ?_); refine goesL_ (some 10) rfl rfl Try.func116 (by kernel_rfl) rfl #[.slice A0 l0.length c0, .func (.func 118) #[] #[]] rfl ma_ ?_; (with_reducible refine (slices_ContainsFunc_int_int__figure_checkWear_1.calls k _ _ l0  false _ ?side1 ?side2 A4.out).mono ?_); (case side1 => repeat (first | exact HR0.out | (with_reducible refine Kd.C_alloc ?_ _) | (with_reducible refine Kd.C_drewN ?_ _) | (with_reducible refine Kd.C_drew ?_))); (case side2 => exact HC0.out); rintro e w' ⟨rfl, ⟨nd, rfl⟩⟩; refine ⟨_, rfl, ?_⟩))
   go_ret
   exact ⟨by first | rfl | (simp; done) | (simp [*]; done), by repeat (first | exact Drawn0.refl _ | apply Drawn0.step)⟩
 ·rw [if_neg c3] at H
  have c3b0 : ((l0.length : Int) == a1) = false := beq_eq_false_iff_ne.mpr c3
  have c3b1 : ((l0.length : Int) != a1) = true := bne_iff_ne.mpr c3
  obtain rfl := Option.some.inj H
  go_enter Try.func86, Try.ntmps86
  go_wp2
  go_ret
  exact ⟨by first | rfl | (simp; done) | (simp [*]; done), by repeat (first | exact Drawn0.refl _ | apply Drawn0.step)⟩
end Go.Proofs.Ytdkahcolfcmmpaa.Pr
namespace Go.Proofs.Ytdkahcolfcmmpaa.Pr
open Go.RowKit Go.Proofs.YtdkahcolfcmmpaaW.PrintWords Go.Proofs.YtdkahcolfcmmpaaW.PrintLast Go.Proofs.YtdkahcolfcmmpaaW.PrintMore
attribute [local go_sem] max2_int min2_int max_two min_two max_three min_three max_four min_four   -- for this text's walks alone
set_option linter.unusedVariables false
set_option linter.unusedSimpArgs false
def figure_checkHeights_1.f (a0 : Int) : Option (Bool) := (figure_within.f a0 (-100000) 100000).bind fun t585 => (some (!t585))
set_option maxHeartbeats 8000000 in
set_option maxRecDepth 100000 in
theorem figure_checkHeights_1.calls (a0 : Int) (r : Bool) (w : World) (h : figure_checkHeights_1.f a0 = some r) :
  Calls Try.prog 117 #[.int .i64 a0] w fun e w' => e = .returned (.bool r) ∧ Drawn0 w w' := by
 have H : ((figure_within.f a0 (-100000) 100000).bind fun t585 => (some (!t585))) = some r := h
 clear h
 replace H := Option.bind_eq_some_iff.mp H
 obtain ⟨t585, A20, H⟩ := H
 replace H : (some (!t585)) = some r := H
 have A2 := Aside0.mk A20
 clear A20
 obtain rfl := Option.some.inj H
 go_enter Try.func117, Try.ntmps117
 go_wp2_with (first | ((with_reducible refine gate_callee (f := 66) rfl ?_); refine goesL_ (some 4) rfl rfl Try.func66 (by kernel_rfl) rfl #[.int .i64 a0, .int .i64 (-100000), .int .i64 100000] rfl ma_ ?_; (with_reducible refine (figure_within.calls a0 (-100000) 100000 t585 _ A2.out).mono ?_); rintro e w' ⟨rfl, ⟨nd, rfl⟩⟩; refine ⟨_, rfl, ?_⟩))
 go_ret
 exact ⟨by first | rfl | (simp; done) | (simp [*]; done), by repeat (first | exact Drawn0.refl _ | apply Drawn0.step)⟩
end Go.Proofs.Ytdkahcolfcmmpaa.Pr
namespace Go.Proofs.Ytdkahcolfcmmpaa.Pr
open Go.RowKit Go.Proofs.YtdkahcolfcmmpaaW.PrintWords Go.Proofs.YtdkahcolfcmmpaaW.PrintLast Go.Proofs.YtdkahcolfcmmpaaW.PrintMore
attribute [local go_sem] max2_int min2_int max_two min_two max_three min_three max_four min_four   -- for this text's walks alone
set_option linter.unusedVariables false
set_option linter.unusedSimpArgs false
def slices_IndexFunc_int_int__figure_checkHeights_1.l0 : Nat → List Int → Int → Int → Option (Int)
 | 0, _, _, _ => none
 | k + 1, x0, x7, x8 => if x8 < x7 then (if 0 ≤ x8 then (if x8 < (x0.length : Int) then ((figure_checkHeights_1.f (rd x0 x8)).bind fun t587 => (if t587 = true then (some x8) else (slices_IndexFunc_int_int__figure_checkHeights_1.l0 k x0 x7 (wrap64 (x8 + 1))))) else (none)) else (none)) else (some (-1))
def slices_IndexFunc_int_int__figure_checkHeights_1.f (k : Nat) (l0 : List Int)  : Option (Int) := slices_IndexFunc_int_int__figure_checkHeights_1.l0 k l0 (l0.length : Int) 0
set_option maxHeartbeats 8000000 in
set_option maxRecDepth 100000 in
theorem slices_IndexFunc_int_int__figure_checkHeights_1.calls (k : Nat) (A0 : Option Addr) (c0 : Nat) (l0 : List Int)  (r : Int) (w : World) (hr0 : Kd.C (Kd.int .i64) w A0 l0.length l0) (hc0 : l0.length ≤ c0) (h : slices_IndexFunc_int_int__figure_checkHeights_1.f k l0 = some r) :
  Calls Try.prog 108 #[.slice A0 l0.length c0, .func (.func 117) #[] #[]] w fun e w' => e = .returned (.int .i64 r) ∧ Drawn0 w w' := by
 have HR0 := Aside0.mk hr0
 have HC0 := Aside0.mk hc0
 clear hr0 hc0
 have H : (slices_IndexFunc_int_int__figure_checkHeights_1.l0 k l0 (l0.length : Int) 0) = some r := h
 clear h
 have H' := Aside0.mk H
 clear H
 go_enter Try.func108, Try.ntmps108
 go_wp2
 go_loopg [8] k (fun kq v8 w' => ∃ (x8_1 : Int), v8 = .int .i64 x8_1 ∧ Aside0 (slices_IndexFunc_int_int__figure_checkHeights_1.l0 kq l0 (l0.length : Int) x8_1 = some r) ∧ Aside0 (kq ≤ k) ∧ Drawn0 w w')
 case atStart => exact ⟨(0), rs_, H', ⟨Nat.le_refl _⟩, by repeat (first | exact Drawn0.refl _ | apply Drawn0.step)⟩
 case round =>
  clear H'
  try clear c1
  try clear p2
  obtain ⟨x8_1, rfl, HA, HK1, ⟨m1, rfl⟩⟩ := hrel
  cases gk with
  | zero => exact absurd HA.out (by simp [slices_IndexFunc_int_int__figure_checkHeights_1.l0])
  | succ k1 =>
   have H := HA.out
   clear HA
   simp only [slices_IndexFunc_int_int__figure_checkHeights_1.l0] at H
   by_cases c3 : x8_1 < (l0.length : Int)
   ·rw [if_pos c3] at H
    have c3b0 : decide (x8_1 < (l0.length : Int)) = true := decide_eq_true c3
    clear c3
    by_cases c4 : 0 ≤ x8_1
    ·rw [if_pos c4] at H
     have c4b0 : decide (0 ≤ x8_1) = true := decide_eq_true c4
     clear c4
     by_cases c5 : x8_1 < (l0.length : Int)
     ·rw [if_pos c5] at H
      have c5b0 : decide (x8_1 < (l0.length : Int)) = true := decide_eq_true c5
      clear c5
      replace H := Option.bind_eq_some_iff.mp H
      obtain ⟨t587, A60, H⟩ := H
      replace H : (if t587 = true then (some x8_1) else (slices_IndexFunc_int_int__figure_checkHeights_1.l0 k1 l0 (l0.length : Int) (wrap64 (x8_1 + 1)))) = some r := H
      have A6 := Aside0.mk A60
      clear A60
      by_cases c7 : t587 = true
      ·subst c7
       have H1 : (some x8_1) = some r := by rw [if_pos rfl] at H; exact H
       clear H
       have H := H1
       clear H1
       obtain rfl := Option.some.inj H
       have p586 : 0 ≤ (x8_1 : Int) := of_decide_eq_true as_
       have q586 : x8_1 < (l0.length : Int) := of_decide_eq_true as_
       obtain ⟨ad586, e586, hx586_0⟩ := Kd.at_int HR0.out x8_1 p586 q586
       cases e586
       replace p586 := eq_true p586
       replace q586 := eq_true q586
       go_wp2_with (first | (go_at_call 117; (with_reducible refine (figure_checkHeights_1.calls (rd l0 x8_1) true _ A6.out).mono ?_); rintro e w' ⟨rfl, ⟨nd, rfl⟩⟩))
       go_ret
       exact ⟨by first | rfl | (simp; done) | (simp [*]; done), by repeat (first | exact Drawn0.refl _ | apply Drawn0.step)⟩
      ·replace c7 := Bool.eq_false_iff.mpr c7
       subst c7
       have H1 : (slices_IndexFunc_int_int__figure_checkHeights_1.l0 k1 l0 (l0.length : Int) (wrap64 (x8_1 + 1))) = some r := by rw [if_neg (show ¬ (false = true) by decide)] at H; exact H
       clear H
       have H := H1
       clear H1
       have H' := Aside0.mk H
       clear H
       have p586 : 0 ≤ (x8_1 : Int) := of_decide_eq_true as_
       have q586 : x8_1 < (l0.length : Int) := of_decide_eq_true as_
       obtain ⟨ad586, e586, hx586_0⟩ := Kd.at_int HR0.out x8_1 p586 q586
       cases e586
       replace p586 := eq_true p586
       replace q586 := eq_true q586
       go_wp2_with (first | (go_at_call 117; (with_reducible refine (figure_checkHeights_1.calls (rd l0 x8_1) false _ A6.out).mono ?_); rintro e w' ⟨rfl, ⟨nd, rfl⟩⟩))
       go_roundg k1
       case measure => have := HK1.out; omega
       case rel => exact ⟨(wrap64 (x8_1 + 1)), rs_, H', ⟨by have := HK1.out; omega⟩, by repeat (first | exact Drawn0.refl _ | apply Drawn0.step)⟩
     ·rw [if_neg c5] at H
      exact absurd H (by simp)
    ·rw [if_neg c4] at H
     exact absurd H (by simp)
   ·rw [if_neg c3] at H
    have c3b0 : decide (x8_1 < (l0.length : Int)) = false := decide_eq_false c3
    clear c3
    obtain rfl := Option.some.inj H
    go_wp2
    go_ret
    exact ⟨by first | rfl | (simp; done) | (simp [*]; done), by repeat (first | exact Drawn0.refl _ | apply Drawn0.step)⟩
end Go.Proofs.Ytdkahcolfcmmpaa.Pr
namespace Go.Proofs.Ytdkahcolfcmmpaa.Pr
open Go.RowKit Go.Proofs.YtdkahcolfcmmpaaW.PrintWords Go.Proofs.YtdkahcolfcmmpaaW.PrintLast Go.Proofs.YtdkahcolfcmmpaaW.PrintMore
attribute [local go_sem] max2_int min2_int max_two min_two max_three min_three max_four min_four   -- for this text's walks alone
set_option linter.unusedVariables false
set_option linter.unusedSimpArgs false
def slices_ContainsFunc_int_int__figure_checkHeights_1.f (k : Nat) (l0 : List Int)  : Option (Bool) := (slices_IndexFunc_int_int__figure_checkHeights_1.f k l0).bind fun t588 => (some (decide (t588 ≥ 0)))
set_option maxHeartbeats 8000000 in
set_option maxRecDepth 100000 in
theorem slices_ContainsFunc_int_int__figure_checkHeights_1.calls (k : Nat) (A0 : Option Addr) (c0 : Nat) (l0 : List Int)  (r : Bool) (w : World) (hr0 : Kd.C (Kd.int .i64) w A0 l0.length l0) (hc0 : l0.length ≤ c0) (h : slices_ContainsFunc_int_int__figure_checkHeights_1.f k l0 = some r) :
  Calls Try.prog 116 #[.slice A0 l0.length c0, .func (.func 117) #[] #[]] w fun e w' => e = .returned (.bool r) ∧ Drawn0 w w' := by
 have HR0 := Aside0.mk hr0
 have HC0 := Aside0.mk hc0
 clear hr0 hc0
 have H : ((slices_IndexFunc_int_int__figure_checkHeights_1.f k l0).bind fun t588 => (some (decide (t588 ≥ 0)))) = some r := h
 clear h
 replace H := Option.bind_eq_some_iff.mp H
 obtain ⟨t588, A30, H⟩ := H
 replace H : (some (decide (t588 ≥ 0))) = some r := H
 have A3 := Aside0.mk A30
 clear A30
 obtain rfl := Option.some.inj H
 go_enter Try.func116, Try.ntmps116
 go_wp2_with (first | ((with_reducible refine gate_callee (f := 108) rfl ?_); refine goesL_ (some 7) rfl rfl Try.func108 (by kernel_rfl) rfl #[.slice A0 l0.length c0, .func (.func 117) #[] #[]] rfl ma_ ?_; (with_reducible refine (slices_IndexFunc_int_int__figure_checkHeights_1.calls k _ _ l0  t588 _ ?side1 ?side2 A3.out).mono ?_); (case side1 => repeat (first | exact HR0.out | (with_reducible refine Kd.C_alloc ?_ _) | (with_reducible refine Kd.C_drewN ?_ _) | (with_reducible refine Kd.C_drew ?_))); (case side2 => exact HC0.out); rintro e w' ⟨rfl, ⟨nd, rfl⟩⟩; refine ⟨_, rfl, ?_⟩))
 go_ret
 exact ⟨by first | rfl | (simp; done) | (simp [*]; done), by repeat (first | exact Drawn0.refl _ | apply Drawn0.step)⟩
end Go.Proofs.Ytdkahcolfcmmpaa.Pr
namespace Go.Proofs.Ytdkahcolfcmmpaa.Pr
open Go.RowKit Go.Proofs.YtdkahcolfcmmpaaW.PrintWords Go.Proofs.YtdkahcolfcmmpaaW.PrintLast Go.Proofs.YtdkahcolfcmmpaaW.PrintMore
attribute [local go_sem] max2_int min2_int max_two min_two max_three min_three max_four min_four   -- for this text's walks alone
set_option linter.unusedVariables false
set_option linter.unusedSimpArgs false
def figure_checkHeights.f (k : Nat) (l0 : List Int) : Option (Int) := (figure_isZones.f (l0.length : Int)).bind fun t589 => (if t589 = true then ((slices_ContainsFunc_int_int__figure_checkHeights_1.f k l0).bind fun t590 => (if t590 = true then (some 2) else (some 0))) else (some 10))
set_option maxHeartbeats 8000000 in
set_option maxRecDepth 100000 in
theorem figure_checkHeights.calls (k : Nat) (A0 : Option Addr) (c0 : Nat) (l0 : List Int) (r : Int) (w : World) (hr0 : Kd.C (Kd.int .i64) w A0 l0.length l0) (hc0 : l0.length ≤ c0) (h : figure_checkHeights.f k l0 = some r) :
  Calls Try.prog 84 #[.slice A0 l0.length c0] w fun e w' => e = .returned (.int .i64 r) ∧ Drawn0 w w' := by
 have HR0 := Aside0.mk hr0
 have HC0 := Aside0.mk hc0
 clear hr0 hc0
 have H : ((figure_isZones.f (l0.length : Int)).bind fun t589 => (if t589 = true then ((slices_ContainsFunc_int_int__figure_checkHeights_1.f k l0).bind fun t590 => (if t590 = true then (some 2) else (some 0))) else (some 10))) = some r := h
 clear h
 replace H := Option.bind_eq_some_iff.mp H
 obtain ⟨t589, A20, H⟩ := H
 replace H : (if t589 = true then ((slices_ContainsFunc_int_int__figure_checkHeights_1.f k l0).bind fun t590 => (if t590 = true then (some 2) else (some 0))) else (some 10)) = some r := H
 have A2 := Aside0.mk A20
 clear A20
 by_cases c3 : t589 = true
 ·subst c3
  have H1 : ((slices_ContainsFunc_int_int__figure_checkHeights_1.f k l0).bind fun t590 => (if t590 = true then (some 2) else (some 0))) = some r := by rw [if_pos rfl] at H; exact H
  clear H
  have H := H1
  clear H1
  replace H := Option.bind_eq_some_iff.mp H
  obtain ⟨t590, A40, H⟩ := H
  replace H : (if t590 = true then (some 2) else (some 0)) = some r := H
  have A4 := Aside0.mk A40
  clear A40
  by_cases c5 : t590 = true
  ·subst c5
   have H1 : (some 2) = some r := by rw [if_pos rfl] at H; exact H
   clear H
   have H := H1
   clear H1
   obtain rfl := Option.some.inj H
   go_enter Try.func84, Try.ntmps84
   go_wp2_with (first | ((with_reducible refine gate_callee (f := 65) rfl ?_); refine goesL_ (some 5) rfl rfl Try.func65 (by kernel_rfl) rfl #[.int .i64 (l0.length : Int)] rfl ma_ ?_; (with_reducible refine (figure_isZones.calls (l0.length : Int) true _ A2.out).mono ?_); rintro e w' ⟨rfl, ⟨nd, rfl⟩⟩; refine ⟨_, rfl, ?_⟩) | ((with_reducible refine gate_callee (f := 116) rfl ?_); refine goesL_ (some 8) rfl rfl Try.func116 (by kernel_rfl) rfl #[.slice A0 l0.length c0, .func (.func 117) #[] #[]] rfl ma_ ?_; (with_reducible refine (slices_ContainsFunc_int_int__figure_checkHeights_1.calls k _ _ l0  true _ ?side1 ?side2 A4.out).mono ?_); (case side1 => repeat (first | exact HR0.out | (with_reducible refine Kd.C_alloc ?_ _) | (with_reducible refine Kd.C_drewN ?_ _) | (with_reducible refine Kd.C_drew ?_))); (case side2 => exact HC0.out); rintro e w' ⟨rfl, ⟨nd, rfl⟩⟩; refine ⟨_, rfl, ?_⟩))
   go_ret
   exact ⟨by first | rfl | (simp; done) | (simp [*]; done), by repeat (first | exact Drawn0.refl _ | apply Drawn0.step)⟩
  ·replace c5 := Bool.eq_false_iff.mpr c5
   subst c5
   have H1 : (some 0) = some r := by rw [if_neg (show ¬ (false = true) by decide)] at H; exact H
   clear H
   have H := H1
   clear H1
   obtain rfl := Option.some.inj H
   go_enter Try.func84, Try.ntmps84
   go_wp2_with (first | ((with_reducible refine gate_callee (f := 65) rfl ?_); refine goesL_ (some 5) rfl rfl Try.func65 (by kernel_rfl) rfl #[.int .i64 (l0.length : Int)] rfl ma_ ?_; (with_reducible refine (figure_isZones.calls (l0.length : Int) true _ A2.out).mono ?_); rintro e w' ⟨rfl, ⟨nd, rfl⟩⟩; refine ⟨_, rfl, ?_⟩) | ((with_reducible refine gate_callee (f := 116) rfl ?_); refine goesL_ (some 8) rfl rfl Try.func116 (by kernel_rfl) rfl #[.slice A0 l0.length c0, .func (.func 117) #[] #[]] rfl ma_ ?_; (with_reducible refine (slices_ContainsFunc_int_int__figure_checkHeights_1.calls k _ _ l0  false _ ?side1 ?side2 A4.out).mono ?_); (case side1 => repeat (first | exact HR0.out | (with_reducible refine Kd.C_alloc ?_ _) | (with_reducible refine Kd.C_drewN ?_ _) | (with_reducible refine Kd.C_drew ?_))); (case side2 => exact HC0.out); rintro e w' ⟨rfl, ⟨nd, rfl⟩⟩; refine ⟨_, rfl, ?_⟩))
   go_ret
   exact ⟨by first | rfl | (simp; done) | (simp [*]; done), by repeat (first | exact Drawn0.refl _ | apply Drawn0.step)⟩
 ·replace c3 := Bool.eq_false_iff.mpr c3
  subst c3
  have H1 : (some 10) = some r := by rw [if_neg (show ¬ (false = true) by decide)] at H; exact H
  clear H
  have H := H1
  clear H1
  obtain rfl := Option.some.inj H
  go_enter Try.func84, Try.ntmps84
  go_wp2_with (first | ((with_reducible refine gate_callee (f := 65) rfl ?_); refine goesL_ (some 5) rfl rfl Try.func65 (by kernel_rfl) rfl #[.int .i64 (l0.length : Int)] rfl ma_ ?_; (with_reducible refine (figure_isZones.calls (l0.length : Int) false _ A2.out).mono ?_); rintro e w' ⟨rfl, ⟨nd, rfl⟩⟩; refine ⟨_, rfl, ?_⟩))
  go_ret
  exact ⟨by first | rfl | (simp; done) | (simp [*]; done), by repeat (first | exact Drawn0.refl _ | apply Drawn0.step)⟩
end Go.Proofs.Ytdkahcolfcmmpaa.Pr
namespace Go.Proofs.Ytdkahcolfcmmpaa.Pr
open Go.RowKit Go.Proofs.YtdkahcolfcmmpaaW.PrintWords Go.Proofs.YtdkahcolfcmmpaaW.PrintLast Go.Proofs.YtdkahcolfcmmpaaW.PrintMore
attribute [local go_sem] max2_int min2_int max_two min_two max_three min_three max_four min_four   -- for this text's walks alone
set_option linter.unusedVariables false
set_option linter.unusedSimpArgs false
def figure_checkBoth.f (k : Nat) (l0 : List Int) (l1 : List Int) : Option (Int) := (figure_checkHeights.f k l0).bind fun t685 => (if t685 = 0 then (if (l1.length : Int) = (l0.length : Int) then ((figure_checkHeights.f k l1).bind fun t686 => (some t686)) else (some 10)) else (some t685))
set_option maxHeartbeats 8000000 in
set_option maxRecDepth 100000 in
theorem figure_checkBoth.calls (k : Nat) (A0 : Option Addr) (c0 : Nat) (l0 : List Int) (A1 : Option Addr) (c1 : Nat) (l1 : List Int) (r : Int) (w : World) (hr0 : Kd.C (Kd.int .i64) w A0 l0.length l0) (hc0 : l0.length ≤ c0) (hr1 : Kd.C (Kd.int .i64) w A1 l1.length l1) (hc1 : l1.length ≤ c1) (h : figure_checkBoth.f k l0 l1 = some r) :
  Calls Try.prog 90 #[.slice A0 l0.length c0, .slice A1 l1.length c1] w fun e w' => e = .returned (.int .i64 r) ∧ Drawn0 w w' := by
 have HR0 := Aside0.mk hr0
 have HC0 := Aside0.mk hc0
 clear hr0 hc0
 have HR1 := Aside0.mk hr1
 have HC1 := Aside0.mk hc1
 clear hr1 hc1
 have H : ((figure_checkHeights.f k l0).bind fun t685 => (if t685 = 0 then (if (l1.length : Int) = (l0.length : Int) then ((figure_checkHeights.f k l1).bind fun t686 => (some t686)) else (some 10)) else (some t685))) = some r := h
 clear h
 replace H := Option.bind_eq_some_iff.mp H
 obtain ⟨t685, A30, H⟩ := H
 replace H : (if t685 = 0 then (if (l1.length : Int) = (l0.length : Int) then ((figure_checkHeights.f k l1).bind fun t686 => (some t686)) else (some 10)) else (some t685)) = some r := H
 have A3 := Aside0.mk A30
 clear A30
 by_cases c4 : t685 = 0
 ·rw [if_pos c4] at H
  have c4b0 : (t685 == 0) = true := beq_iff_eq.mpr c4
  have c4b1 : (t685 != 0) = false := bne_eq_false_iff_eq.mpr c4
  clear c4
  by_cases c5 : (l1.length : Int) = (l0.length : Int)
  ·rw [if_pos c5] at H
   have c5b0 : ((l1.length : Int) == (l0.length : Int)) = true := beq_iff_eq.mpr c5
   have c5b1 : ((l1.length : Int) != (l0.length : Int)) = false := bne_eq_false_iff_eq.mpr c5
   have c5b2 : (l1.length == l0.length) = true := by first | simpa using c5 | (simp at c5 ⊢; omega)
   clear c5
   replace H := Option.bind_eq_some_iff.mp H
   obtain ⟨t686, A60, H⟩ := H
   replace H : (some t686) = some r := H
   have A6 := Aside0.mk A60
   clear A60
   obtain rfl := Option.some.inj H
   go_enter Try.func90, Try.ntmps90
   go_wp2_with (first | ((with_reducible refine gate_callee (f := 84) rfl ?_); refine goesL_ (some 7) rfl rfl Try.func84 (by kernel_rfl) rfl #[.slice A0 l0.length c0] rfl ma_ ?_; (with_reducible refine (figure_checkHeights.calls k _ _ l0 t685 _ ?side1 ?side2 A3.out).mono ?_); (case side1 => repeat (first | exact HR0.out | (with_reducible refine Kd.C_alloc ?_ _) | (with_reducible refine Kd.C_drewN ?_ _) | (with_reducible refine Kd.C_drew ?_))); (case side2 => exact HC0.out); rintro e w' ⟨rfl, ⟨nd, rfl⟩⟩; refine ⟨_, rfl, ?_⟩) | ((with_reducible refine gate_callee (f := 84) rfl ?_); refine goesL_ (some 17) rfl rfl Try.func84 (by kernel_rfl) rfl #[.slice A1 l1.length c1] rfl ma_ ?_; (with_reducible refine (figure_checkHeights.calls k _ _ l1 t686 _ ?side1 ?side2 A6.out).mono ?_); (case side1 => repeat (first | exact HR1.out | (with_reducible refine Kd.C_alloc ?_ _) | (with_reducible refine Kd.C_drewN ?_ _) | (with_reducible refine Kd.C_drew ?_))); (case side2 => exact HC1.out); rintro e w' ⟨rfl, ⟨nd, rfl⟩⟩; refine ⟨_, rfl, ?_⟩))
   go_ret
   exact ⟨by first | rfl | (simp; done) | (simp [*]; done), by repeat (first | exact Drawn0.refl _ | apply Drawn0.step)⟩
  ·rw [if_neg c5] at H
   have c5b0 : ((l1.length : Int) == (l0.length : Int)) = false := beq_eq_false_iff_ne.mpr c5
   have c5b1 : ((l1.length : Int) != (l0.length : Int)) = true := bne_iff_ne.mpr c5
   have c5b2 : (l1.length == l0.length) = false := by first | simpa using c5 | (simp at c5 ⊢; omega)
   obtain rfl := Option.some.inj H
   go_enter Try.func90, Try.ntmps90
   go_wp2_with (first | ((with_reducible refine gate_callee (f := 84) rfl ?_); refine goesL_ (some 7) rfl rfl Try.func84 (by kernel_rfl) rfl #[.slice A0 l0.length c0] rfl ma_ ?_; (with_reducible refine (figure_checkHeights.calls k _ _ l0 t685 _ ?side1 ?side2 A3.out).mono ?_); (case side1 => repeat (first | exact HR0.out | (with_reducible refine Kd.C_alloc ?_ _) | (with_reducible refine Kd.C_drewN ?_ _) | (with_reducible refine Kd.C_drew ?_))); (case side2 => exact HC0.out); rintro e w' ⟨rfl, ⟨nd, rfl⟩⟩; refine ⟨_, rfl, ?_⟩))
   go_ret
   exact ⟨by first | rfl | (simp; done) | (simp [*]; done), by repeat (first | exact Drawn0.refl _ | apply Drawn0.step)⟩
 ·rw [if_neg c4] at H
  have c4b0 : (t685 == 0) = false := beq_eq_false_iff_ne.mpr c4
  have c4b1 : (t685 != 0) = true := bne_iff_ne.mpr c4
  obtain rfl := Option.some.inj H
  go_enter Try.func90, Try.ntmps90
  go_wp2_with (first | ((with_reducible refine gate_callee (f := 84) rfl ?_); refine goesL_ (some 7) rfl rfl Try.func84 (by kernel_rfl) rfl #[.slice A0 l0.length c0] rfl ma_ ?_; (with_reducible refine (figure_checkHeights.calls k _ _ l0 t685 _ ?side1 ?side2 A3.out).mono ?_); (case side1 => repeat (first | exact HR0.out | (with_reducible refine Kd.C_alloc ?_ _) | (with_reducible refine Kd.C_drewN ?_ _) | (with_reducible refine Kd.C_drew ?_))); (case side2 => exact HC0.out); rintro e w' ⟨rfl, ⟨nd, rfl⟩⟩; refine ⟨_, rfl, ?_⟩))
  go_ret
  exact ⟨by first | rfl | (simp; done) | (simp [*]; done), by repeat (first | exact Drawn0.refl _ | apply Drawn0.step)⟩
end Go.Proofs.Ytdkahcolfcmmpaa.Pr
namespace Go.Proofs.Ytdkahcolfcmmpaa.Pr
open Go.RowKit Go.Proofs.YtdkahcolfcmmpaaW.PrintWords Go.Proofs.YtdkahcolfcmmpaaW.PrintLast Go.Proofs.YtdkahcolfcmmpaaW.PrintMore
attribute [local go_sem] max2_int min2_int max_two min_two max_three min_three max_four min_four   -- for this text's walks alone
set_option linter.unusedVariables false
set_option linter.unusedSimpArgs false
def figure_digs.l0 : Nat → List Int → List Int → Int → Int → Option (Bool)
 | 0, _, _, _, _ => none
 | k + 1, x1, x7, x8, x9 => if x9 < x8 then (if 0 ≤ x9 then (if x9 < (x7.length : Int) then (if x9 < (x1.length : Int) then (if (rd x7 x9) < (rd x1 x9) then (some true) else (figure_digs.l0 k x1 x7 x8 (wrap64 (x9 + 1)))) else (none)) else (none)) else (none)) else (some false)
def figure_digs.f (k : Nat) (l0 : List Int) (l1 : List Int) : Option (Bool) := figure_digs.l0 k l1 l0 (l0.length : Int) 0
set_option maxHeartbeats 8000000 in
set_option maxRecDepth 100000 in
theorem figure_digs.calls (k : Nat) (A0 : Option Addr) (c0 : Nat) (l0 : List Int) (A1 : Option Addr) (c1 : Nat) (l1 : List Int) (r : Bool) (w : World) (hr0 : Kd.C (Kd.int .i64) w A0 l0.length l0) (hc0 : l0.length ≤ c0) (hr1 : Kd.C (Kd.int .i64) w A1 l1.length l1) (hc1 : l1.length ≤ c1) (h : figure_digs.f k l0 l1 = some r) :
  Calls Try.prog 91 #[.slice A0 l0.length c0, .slice A1 l1.length c1] w fun e w' => e = .returned (.bool r) ∧ Drawn0 w w' := by
 have HR0 := Aside0.mk hr0
 have HC0 := Aside0.mk hc0
 clear hr0 hc0
 have HR1 := Aside0.mk hr1
 have HC1 := Aside0.mk hc1
 clear hr1 hc1
 have H : (figure_digs.l0 k l1 l0 (l0.length : Int) 0) = some r := h
 clear h
 have H' := Aside0.mk H
 clear H
 go_enter Try.func91, Try.ntmps91
 go_wp2
 go_loopg [9] k (fun kq v9 w' => ∃ (x9_1 : Int), v9 = .int .i64 x9_1 ∧ Aside0 (figure_digs.l0 kq l1 l0 (l0.length : Int) x9_1 = some r) ∧ Aside0 (kq ≤ k) ∧ Drawn0 w w')
 case atStart => exact ⟨(0), rs_, H', ⟨Nat.le_refl _⟩, by repeat (first | exact Drawn0.refl _ | apply Drawn0.step)⟩
 case round =>
  clear H'
  try clear c1
  try clear p2
  obtain ⟨x9_1, rfl, HA, HK1, ⟨m1, rfl⟩⟩ := hrel
  cases gk with
  | zero => exact absurd HA.out (by simp [figure_digs.l0])
  | succ k1 =>
   have H := HA.out
   clear HA
   simp only [figure_digs.l0] at H
   by_cases c3 : x9_1 < (l0.length : Int)
   ·rw [if_pos c3] at H
    have c3b0 : decide (x9_1 < (l0.length : Int)) = true := decide_eq_true c3
    clear c3
    by_cases c4 : 0 ≤ x9_1
    ·rw [if_pos c4] at H
     have c4b0 : decide (0 ≤ x9_1) = true := decide_eq_true c4
     clear c4
     by_cases c5 : x9_1 < (l0.length : Int)
     ·rw [if_pos c5] at H
      have c5b0 : decide (x9_1 < (l0.length : Int)) = true := decide_eq_true c5
      clear c5
      by_cases c6 : x9_1 < (l1.length : Int)
      ·rw [if_pos c6] at H
       have c6b0 : decide (x9_1 < (l1.length : Int)) = true := decide_eq_true c6
       clear c6
       by_cases c7 : (rd l0 x9_1) < (rd l1 x9_1)
       ·rw [if_pos c7] at H
        have c7b0 : decide ((rd l0 x9_1) < (rd l1 x9_1)) = true := decide_eq_true c7
        clear c7
        obtain rfl := Option.some.inj H
        have p687 : 0 ≤ (x9_1 : Int) := of_decide_eq_true as_
        have q687 : x9_1 < (l0.length : Int) := of_decide_eq_true as_
        obtain ⟨ad687, e687, hx687_0⟩ := Kd.at_int HR0.out x9_1 p687 q687
        cases e687
        replace p687 := eq_true p687
        replace q687 := eq_true q687
        have p688 : 0 ≤ (x9_1 : Int) := of_decide_eq_true as_
        have q688 : x9_1 < (l1.length : Int) := of_decide_eq_true as_
        obtain ⟨ad688, e688, hx688_0⟩ := Kd.at_int HR1.out x9_1 p688 q688
        cases e688
        replace p688 := eq_true p688
        replace q688 := eq_true q688
        go_wp2
        go_ret
        exact ⟨by first | rfl | (simp; done) | (simp [*]; done), by repeat (first | exact Drawn0.refl _ | apply Drawn0.step)⟩
       ·rw [if_neg c7] at H
        have c7b0 : decide ((rd l0 x9_1) < (rd l1 x9_1)) = false := decide_eq_false c7
        clear c7
        have H' := Aside0.mk H
        clear H
        have p687 : 0 ≤ (x9_1 : Int) := of_decide_eq_true as_
        have q687 : x9_1 < (l0.length : Int) := of_decide_eq_true as_
        obtain ⟨ad687, e687, hx687_0⟩ := Kd.at_int HR0.out x9_1 p687 q687
        cases e687
        replace p687 := eq_true p687
        replace q687 := eq_true q687
        have p688 : 0 ≤ (x9_1 : Int) := of_decide_eq_true as_
        have q688 : x9_1 < (l1.length : Int) := of_decide_eq_true as_
        obtain ⟨ad688, e688, hx688_0⟩ := Kd.at_int HR1.out x9_1 p688 q688
        cases e688
        replace p688 := eq_true p688
        replace q688 := eq_true q688
        go_wp2
        go_roundg k1
        case measure => have := HK1.out; omega
        case rel => exact ⟨(wrap64 (x9_1 + 1)), rs_, H', ⟨by have := HK1.out; omega⟩, by repeat (first | exact Drawn0.refl _ | apply Drawn0.step)⟩
      ·rw [if_neg c6] at H
       exact absurd H (by simp)
     ·rw [if_neg c5] at H
      exact absurd H (by simp)
    ·rw [if_neg c4] at H
     exact absurd H (by simp)
   ·rw [if_neg c3] at H
    have c3b0 : decide (x9_1 < (l0.length : Int)) = false := decide_eq_false c3
    clear c3
    obtain rfl := Option.some.inj H
    go_wp2
    go_ret
    exact ⟨by first | rfl | (simp; done) | (simp [*]; done), by repeat (first | exact Drawn0.refl _ | apply Drawn0.step)⟩
end Go.Proofs.Ytdkahcolfcmmpaa.Pr
namespace Go.Proofs.Ytdkahcolfcmmpaa.Pr
open Go.RowKit Go.Proofs.YtdkahcolfcmmpaaW.PrintWords Go.Proofs.YtdkahcolfcmmpaaW.PrintLast Go.Proofs.YtdkahcolfcmmpaaW.PrintMore
attribute [local go_sem] max2_int min2_int max_two min_two max_three min_three max_four min_four
set_option linter.unusedVariables false
set_option linter.unusedSimpArgs false
def slices_Clone_int_int.f (l0 : List Int) : Option (List Int) := (some (([] : List Int) : List Int)).bind fun y252 => (if y252.length + l0.length < 17592186044416 then (some (y252 ++ l0)) else (none))
set_option maxHeartbeats 8000000 in
set_option maxRecDepth 100000 in
theorem slices_Clone_int_int.calls_some (ad0 : Addr) (c0 : Nat) (l0 : List Int) (r : List Int) (w : World) (hr0 : Kd.C (Kd.int .i64) w (some ad0) l0.length l0) (hc0 : l0.length ≤ c0) (h : slices_Clone_int_int.f l0 = some r) :
  Calls Try.prog 85 #[.slice (some ad0) l0.length c0] w fun e w' => ∃ v0_ : Value, e = .returned (v0_) ∧ Kd.R (Kd.int .i64) 3 w' w.heap.size (fun _ => True) v0_ r ∧ Below w.heap.size w w' := by
 have HR0 := Aside0.mk hr0
 have HC0 := Aside0.mk hc0
 clear hr0 hc0
 have HB := Aside0.mk (Below.refl w.heap.size w)
 have H : ((some (([] : List Int) : List Int)).bind fun y252 => (if y252.length + l0.length < 17592186044416 then (some (y252 ++ l0)) else (none))) = some r := h
 clear h
 obtain ⟨y252, hy252⟩ : ∃ y_ : List Int, y_ = (([] : List Int)) := ⟨_, rfl⟩
 replace H : (if y252.length + l0.length < 17592186044416 then (some (y252 ++ l0)) else (none)) = some r := by first | (rw [hy252]; with_reducible exact H) | (have H2_ := (Option.bind_some _ _).symm.trans H; rw [hy252]; with_reducible exact H2_) | (have H2_ := (Option.bind_some _ _).symm.trans H; with_reducible exact H2_) | with_reducible exact H | (rw [hy252]; exact H) | exact H
 have Ny252 := Aside0.mk hy252
 clear hy252
 by_cases c2 : y252.length + l0.length < 17592186044416
 ·rw [if_pos c2] at H
  have LMc2 := Aside0.mk c2
  clear c2
  obtain ⟨y255, hy255⟩ : ∃ y_ : List Int, y_ = (y252 ++ l0) := ⟨_, rfl⟩
  replace H : (some y255) = some r := by first | (rw [hy255]; with_reducible exact H) | (have H2_ := (Option.bind_some _ _).symm.trans H; rw [hy255]; with_reducible exact H2_) | (have H2_ := (Option.bind_some _ _).symm.trans H; with_reducible exact H2_) | with_reducible exact H | (rw [hy255]; exact H) | exact H
  have Ny255 := Aside0.mk hy255
  clear hy255
  obtain rfl := Option.some.inj H
  have hnil_ : ∀ (W : World) (n c : Nat), (binOp .eql 22 (.slice (some ad0) n c) (.slice none 0 0)).run Try.prog W = .ok (.bool false) W := fun W n c => Lib.run_eql_slice_nil W 22 _ (some ad0) n c 0 0 Try.underlying22
  go_enter Try.func85, Try.ntmps85
  go_wp2_with (first | ((with_reducible refine gate_dst (N := 5) rfl ?_); refine Kd.R_lit (Kd.int .i64) _ 3 ?hg (N := 5) ?hd (xs := ([] : List Int)) (inner := []) (ok := fun _ => True) (okp := fun _ => True) ?hr ?hp (fun _ hk => hk) trivial (Below.refl _ _) (Nat.le_refl _) (by simp) ?_; (case hd => rfl); (case hg => rfl); (case hr => exact gr_); (case hp => exact (Reps.none _ _)); intro v253 w3 ho4 hb hg_ hnew_; clear hg_ hnew_; (first | rw [← Ny252.out] at ho4 | (simp only [Int.reduceToNat] at ho4; rw [← Ny252.out] at ho4)); have n0_ := Aside0.mk (Kd.R_lower ho4 (below_size (hb_ HB))); have n1_ := Aside0.mk (below_step (hb_ HB) hb); clear HB; have HO254 := n0_; have HB := n1_; clear n0_ n1_; clear hb ho4) | ((with_reducible refine gate_builtin (b := .append) (xs := #[.tmp 5, .tmp 6]) rfl ?_); at_builtin; refine Kd.R_append_rows (Kd.int .i64) (w0 := w) w.heap.size rfl (.tmp 5) (.tmp 6) 22 3 (.int .i64 0) 8 rfl Try.underlying22 info3 rfl di_ (by omega) v253 y252 l0 _ _ _ (fun _ => True) (fun _ => False) rfl rfl ?aO ?aR (fun _ _ h => h) (fun _ h => h.elim) ?aF ?aB ?aS ?aL ?_; (case aR => repeat (first | exact (Kd.C_below HR0.out HB.out) | (with_reducible refine Kd.C_alloc ?_ _) | (with_reducible refine Kd.C_drewN ?_ _) | (with_reducible refine Kd.C_drew ?_))); (case aB => exact (hb_ HB)); (case aF => exact (fun _ _ => trivial)); (case aO => exact (rk_ HO254)); (case aS => exact (below_size (hb_ HB))); (case aL => have := LMc2.out; omega); intro v256 w5 ho hb hg hat; rw [← Ny255.out] at ho; have n0_ := Aside0.mk (hb); have n1_ := Aside0.mk (ho); clear HB; clear HO254; have HB := n0_; have HO257 := n1_; clear n0_ n1_; clear ho hb hg hat))
  go_ret
  exact ⟨_, by first | rfl | (simp [errW_none, errW_some] <;> rfl) | (simp [*, errW_none, errW_some] <;> rfl), by (with_reducible repeat (first | apply Kd.R_alloc | apply Kd.R_drewN | apply Kd.R_drew)); exact HO257.out, by repeat (first | (with_reducible first | exact HB.out | apply below_alloc | apply pw_below_drewN | apply below_drew1) | exact HB.out)⟩
 ·rw [if_neg c2] at H
  exact absurd H (by simp)
set_option maxHeartbeats 8000000 in
set_option maxRecDepth 100000 in
theorem slices_Clone_int_int.calls (A0 : Option Addr) (c0 : Nat) (l0 : List Int) (r : List Int) (w : World) (hr0 : Kd.C (Kd.int .i64) w A0 l0.length l0) (hc0 : l0.length ≤ c0) (h : slices_Clone_int_int.f l0 = some r) :
  Calls Try.prog 85 #[.slice A0 l0.length c0] w fun e w' => ∃ v0_ : Value, e = .returned (v0_) ∧ Kd.R (Kd.int .i64) 3 w' w.heap.size (fun _ => True) v0_ r ∧ Below w.heap.size w w' := by
 rcases A0 with _ | ad0
 ·have hl0 : l0 = [] := by
   rcases l0 with _ | ⟨x, l⟩
   ·rfl
   ·exact absurd (hr0.2.2 (by simp)) (by simp)
  subst hl0
  have hr_ : r = [] := by
   have h' := h
   unfold slices_Clone_int_int.f at h'
   rw [Option.bind_some, if_pos di_] at h'
   exact (Option.some.inj h').symm
  subst hr_
  have hnil_ : ∀ (W : World) (n c : Nat), (binOp .eql 22 (.slice none n c) (.slice none 0 0)).run Try.prog W = .ok (.bool true) W := fun W n c => Lib.run_eql_slice_nil W 22 _ none n c 0 0 Try.underlying22
  clear hr0 hc0 h
  go_enter Try.func85, Try.ntmps85
  go_wp2
  go_ret
  exact ⟨_, rfl, Kd.R_nil _ _ _ _ _, Below.refl _ _⟩
 ·exact slices_Clone_int_int.calls_some ad0 c0 l0 r w hr0 hc0 h
end Go.Proofs.Ytdkahcolfcmmpaa.Pr
namespace Go.Proofs.Ytdkahcolfcmmpaa.Pr
open Go.RowKit Go.Proofs.YtdkahcolfcmmpaaW.PrintWords Go.Proofs.YtdkahcolfcmmpaaW.PrintLast Go.Proofs.YtdkahcolfcmmpaaW.PrintMore
attribute [local go_sem] max2_int min2_int max_two min_two max_three min_three max_four min_four   -- for this text's walks alone
set_option linter.unusedVariables false
set_option linter.unusedSimpArgs false
mutual
def figure_CheckSessions.l0 : Nat → List Int → List Int → List Int → List (List Int) → Int → Int → Option (Int × Int)
 | 0, _, _, _, _, _, _ => none
 | k + 1, x0, x1, x9, x29, x30, x31 => if x31 < x30 then (if 0 ≤ x31 then (if x31 < (x29.length : Int) then ((figure_checkWear.f k (rd_L1 x29 x31) (x0.length : Int)).bind fun t695 => (if t695 = 0 then (figure_CheckSessions.l1 k x0 x1 x9 x31 x29 x30 x31 (rd_L1 x29 x31) ((rd_L1 x29 x31).length : Int) 0) else (some (x31, t695)))) else (none)) else (none)) else (some (0, 0))
def figure_CheckSessions.l1 : Nat → List Int → List Int → List Int → Int → List (List Int) → Int → Int → List Int → Int → Int → Option (Int × Int)
 | 0, _, _, _, _, _, _, _, _, _, _ => none
 | k + 1, x0, x1, x9, x10, x29, x30, x31, x44, x45, x46 => if x46 < x45 then (if 0 ≤ x46 then (if x46 < (x44.length : Int) then (if x46 < (x9.length : Int) then (figure_CheckSessions.l1 k x0 x1 (x9.set (x46 : Int).toNat (wrap64 ((rd x9 x46) - (rd x44 x46)))) x10 x29 x30 x31 x44 x45 (wrap64 (x46 + 1))) else (none)) else (none)) else (none)) else ((figure_digs.f k x9 x1).bind fun t699 => (if t699 = true then (some (x10, 26)) else (figure_CheckSessions.l0 k x0 x1 x9 x29 x30 (wrap64 (x31 + 1)))))
end
def figure_CheckSessions.f (k : Nat) (l0 : List Int) (l1 : List Int) (l2 : List (List Int)) : Option (Int × Int) := (figure_checkBoth.f k l0 l1).bind fun t689 => (if t689 = 0 then (if (l2.length : Int) > 100 then (some (0, 8)) else ((figure_digs.f k l0 l1).bind fun t690 => (if t690 = true then (some ((-1), 26)) else ((slices_Clone_int_int.f l0).bind fun t691 => (figure_CheckSessions.l0 k l0 l1 t691 l2 (l2.length : Int) 0))))) else (some (0, t689)))
set_option maxHeartbeats 8000000 in
set_option maxRecDepth 100000 in
theorem figure_CheckSessions.calls (k : Nat) (A0 : Option Addr) (c0 : Nat) (l0 : List Int) (A1 : Option Addr) (c1 : Nat) (l1 : List Int) (A2 : Option Addr) (c2 : Nat) (l2 : List (List Int)) (r1 : Int) (r2 : Int) (w : World) (hr0 : Kd.C (Kd.int .i64) w A0 l0.length l0) (hc0 : l0.length ≤ c0) (hr1 : Kd.C (Kd.int .i64) w A1 l1.length l1) (hc1 : l1.length ≤ c1) (hr2 : Kd.C (Kd.slice 3 (Kd.int .i64)) w A2 l2.length l2) (hc2 : l2.length ≤ c2) (h : figure_CheckSessions.f k l0 l1 l2 = some (r1, r2)) :
  Calls Try.prog 50 #[.slice A0 l0.length c0, .slice A1 l1.length c1, .slice A2 l2.length c2] w fun e w' => e = .returned (.tuple #[.int .i64 r1, .int .i64 r2]) ∧ Below w.heap.size w w' := by
 have HR0 := Aside0.mk hr0
 have HC0 := Aside0.mk hc0
 clear hr0 hc0
 have HR1 := Aside0.mk hr1
 have HC1 := Aside0.mk hc1
 clear hr1 hc1
 have HR2 := Aside0.mk hr2
 have HC2 := Aside0.mk hc2
 clear hr2 hc2
 have HB := Aside0.mk (Below.refl w.heap.size w)
 have H : ((figure_checkBoth.f k l0 l1).bind fun t689 => (if t689 = 0 then (if (l2.length : Int) > 100 then (some (0, 8)) else ((figure_digs.f k l0 l1).bind fun t690 => (if t690 = true then (some ((-1), 26)) else ((slices_Clone_int_int.f l0).bind fun t691 => (figure_CheckSessions.l0 k l0 l1 t691 l2 (l2.length : Int) 0))))) else (some (0, t689)))) = some (r1, r2) := h
 clear h
 replace H := Option.bind_eq_some_iff.mp H
 obtain ⟨t689, A40, H⟩ := H
 replace H : (if t689 = 0 then (if (l2.length : Int) > 100 then (some (0, 8)) else ((figure_digs.f k l0 l1).bind fun t690 => (if t690 = true then (some ((-1), 26)) else ((slices_Clone_int_int.f l0).bind fun t691 => (figure_CheckSessions.l0 k l0 l1 t691 l2 (l2.length : Int) 0))))) else (some (0, t689))) = some (r1, r2) := H
 have A4 := Aside0.mk A40
 clear A40
 by_cases c5 : t689 = 0
 ·rw [if_pos c5] at H
  have c5b0 : (t689 == 0) = true := beq_iff_eq.mpr c5
  have c5b1 : (t689 != 0) = false := bne_eq_false_iff_eq.mpr c5
  clear c5
  by_cases c6 : (l2.length : Int) > 100
  ·rw [if_pos c6] at H
   have c6b0 : decide (100 < (l2.length : Int)) = true := decide_eq_true c6
   have c6b1 : decide (100 < l2.length) = true := decide_eq_true (by omega)
   clear c6
   simp only [Option.some.injEq, Prod.mk.injEq] at H
   obtain ⟨rfl, rfl⟩ := H
   go_enter Try.func50, Try.ntmps50
   go_wp2_with (first | ((with_reducible refine gate_callee (f := 90) rfl ?_); refine goesL_ (some 17) rfl rfl Try.func90 (by kernel_rfl) rfl #[.slice A0 l0.length c0, .slice A1 l1.length c1] rfl ma_ ?_; (with_reducible refine (figure_checkBoth.calls k _ _ l0 _ _ l1 t689 _ ?side1 ?side2 ?side3 ?side4 A4.out).mono ?_); (case side1 => repeat (first | exact HR0.out | (with_reducible refine Kd.C_alloc ?_ _) | (with_reducible refine Kd.C_drewN ?_ _) | (with_reducible refine Kd.C_drew ?_))); (case side2 => exact HC0.out); (case side3 => repeat (first | exact HR1.out | (with_reducible refine Kd.C_alloc ?_ _) | (with_reducible refine Kd.C_drewN ?_ _) | (with_reducible refine Kd.C_drew ?_))); (case side4 => exact HC1.out); rintro e w' ⟨rfl, ⟨nd, rfl⟩⟩; refine ⟨_, rfl, ?_⟩))
   go_ret2
   exact ⟨by first | rfl | (simp [errW_none, errW_some] <;> rfl) | (simp [*, errW_none, errW_some] <;> rfl), by repeat (first | (with_reducible first | exact HB.out | apply below_alloc | apply pw_below_drewN | apply below_drew1) | exact HB.out)⟩
  ·rw [if_neg c6] at H
   have c6b0 : decide (100 < (l2.length : Int)) = false := decide_eq_false c6
   have c6b1 : decide (100 < l2.length) = false := decide_eq_false (by omega)
   clear c6
   replace H := Option.bind_eq_some_iff.mp H
   obtain ⟨t690, A70, H⟩ := H
   replace H : (if t690 = true then (some ((-1), 26)) else ((slices_Clone_int_int.f l0).bind fun t691 => (figure_CheckSessions.l0 k l0 l1 t691 l2 (l2.length : Int) 0))) = some (r1, r2) := H
   have A7 := Aside0.mk A70
   clear A70
   by_cases c8 : t690 = true
   ·subst c8
    have H1 : (some ((-1), 26)) = some (r1, r2) := by rw [if_pos rfl] at H; exact H
    clear H
    have H := H1
    clear H1
    simp only [Option.some.injEq, Prod.mk.injEq] at H
    obtain ⟨rfl, rfl⟩ := H
    go_enter Try.func50, Try.ntmps50
    go_wp2_with (first | ((with_reducible refine gate_callee (f := 90) rfl ?_); refine goesL_ (some 17) rfl rfl Try.func90 (by kernel_rfl) rfl #[.slice A0 l0.length c0, .slice A1 l1.length c1] rfl ma_ ?_; (with_reducible refine (figure_checkBoth.calls k _ _ l0 _ _ l1 t689 _ ?side1 ?side2 ?side3 ?side4 A4.out).mono ?_); (case side1 => repeat (first | exact HR0.out | (with_reducible refine Kd.C_alloc ?_ _) | (with_reducible refine Kd.C_drewN ?_ _) | (with_reducible refine Kd.C_drew ?_))); (case side2 => exact HC0.out); (case side3 => repeat (first | exact HR1.out | (with_reducible refine Kd.C_alloc ?_ _) | (with_reducible refine Kd.C_drewN ?_ _) | (with_reducible refine Kd.C_drew ?_))); (case side4 => exact HC1.out); rintro e w' ⟨rfl, ⟨nd, rfl⟩⟩; refine ⟨_, rfl, ?_⟩) | ((with_reducible refine gate_callee (f := 91) rfl ?_); refine goesL_ (some 26) rfl rfl Try.func91 (by kernel_rfl) rfl #[.slice A0 l0.length c0, .slice A1 l1.length c1] rfl ma_ ?_; (with_reducible refine (figure_digs.calls k _ _ l0 _ _ l1 true _ ?side1 ?side2 ?side3 ?side4 A7.out).mono ?_); (case side1 => repeat (first | exact HR0.out | (with_reducible refine Kd.C_alloc ?_ _) | (with_reducible refine Kd.C_drewN ?_ _) | (with_reducible refine Kd.C_drew ?_))); (case side2 => exact HC0.out); (case side3 => repeat (first | exact HR1.out | (with_reducible refine Kd.C_alloc ?_ _) | (with_reducible refine Kd.C_drewN ?_ _) | (with_reducible refine Kd.C_drew ?_))); (case side4 => exact HC1.out); rintro e w' ⟨rfl, ⟨nd, rfl⟩⟩; refine ⟨_, rfl, ?_⟩))
    go_ret2
    exact ⟨by first | rfl | (simp [errW_none, errW_some] <;> rfl) | (simp [*, errW_none, errW_some] <;> rfl), by repeat (first | (with_reducible first | exact HB.out | apply below_alloc | apply pw_below_drewN | apply below_drew1) | exact HB.out)⟩
   ·replace c8 := Bool.eq_false_iff.mpr c8
    subst c8
    have H1 : ((slices_Clone_int_int.f l0).bind fun t691 => (figure_CheckSessions.l0 k l0 l1 t691 l2 (l2.length : Int) 0)) = some (r1, r2) := by rw [if_neg (show ¬ (false = true) by decide)] at H; exact H
    clear H
    have H := H1
    clear H1
    replace H := Option.bind_eq_some_iff.mp H
    obtain ⟨t691, A90, H⟩ := H
    replace H : (figure_CheckSessions.l0 k l0 l1 t691 l2 (l2.length : Int) 0) = some (r1, r2) := H
    have A9 := Aside0.mk A90
    clear A90
    have H' := Aside0.mk H
    clear H
    go_enter Try.func50, Try.ntmps50
    go_wp2_with (first | ((with_reducible refine gate_callee (f := 90) rfl ?_); refine goesL_ (some 17) rfl rfl Try.func90 (by kernel_rfl) rfl #[.slice A0 l0.length c0, .slice A1 l1.length c1] rfl ma_ ?_; (with_reducible refine (figure_checkBoth.calls k _ _ l0 _ _ l1 t689 _ ?side1 ?side2 ?side3 ?side4 A4.out).mono ?_); (case side1 => repeat (first | exact HR0.out | (with_reducible refine Kd.C_alloc ?_ _) | (with_reducible refine Kd.C_drewN ?_ _) | (with_reducible refine Kd.C_drew ?_))); (case side2 => exact HC0.out); (case side3 => repeat (first | exact HR1.out | (with_reducible refine Kd.C_alloc ?_ _) | (with_reducible refine Kd.C_drewN ?_ _) | (with_reducible refine Kd.C_drew ?_))); (case side4 => exact HC1.out); rintro e w' ⟨rfl, ⟨nd, rfl⟩⟩; refine ⟨_, rfl, ?_⟩) | ((with_reducible refine gate_callee (f := 91) rfl ?_); refine goesL_ (some 26) rfl rfl Try.func91 (by kernel_rfl) rfl #[.slice A0 l0.length c0, .slice A1 l1.length c1] rfl ma_ ?_; (with_reducible refine (figure_digs.calls k _ _ l0 _ _ l1 false _ ?side1 ?side2 ?side3 ?side4 A7.out).mono ?_); (case side1 => repeat (first | exact HR0.out | (with_reducible refine Kd.C_alloc ?_ _) | (with_reducible refine Kd.C_drewN ?_ _) | (with_reducible refine Kd.C_drew ?_))); (case side2 => exact HC0.out); (case side3 => repeat (first | exact HR1.out | (with_reducible refine Kd.C_alloc ?_ _) | (with_reducible refine Kd.C_drewN ?_ _) | (with_reducible refine Kd.C_drew ?_))); (case side4 => exact HC1.out); rintro e w' ⟨rfl, ⟨nd, rfl⟩⟩; refine ⟨_, rfl, ?_⟩) | ((with_reducible refine gate_callee (f := 85) rfl ?_); refine goesL_ (some 28) rfl rfl Try.func85 (by kernel_rfl) rfl #[.slice A0 l0.length c0] rfl ma_ ?_; (with_reducible refine (slices_Clone_int_int.calls _ _ l0 t691 _ ?side1 ?side2 A9.out).mono ?_); (case side1 => repeat (first | exact HR0.out | (with_reducible refine Kd.C_alloc ?_ _) | (with_reducible refine Kd.C_drewN ?_ _) | (with_reducible refine Kd.C_drew ?_))); (case side2 => exact HC0.out); rintro e w10 ⟨v692, rfl, ho0, hb⟩; refine ⟨_, rfl, ?_⟩; have n0_ := Aside0.mk (Kd.R_lower ho0 (below_size (hb_ HB))); have n1_ := Aside0.mk (below_step (hb_ HB) hb); clear HB; have HO693 := n0_; have HB := n1_; clear n0_ n1_; (try clear hb); (try clear hb2); (try clear hk); (try clear hi); (try clear ho0)))
    go_loopg [31] k (fun kq v31 w' => ∃ (x9_1 : List Int) (x31_1 : Int), v31 = .int .i64 x31_1 ∧ Aside0 (figure_CheckSessions.l0 kq l0 l1 x9_1 l2 (l2.length : Int) x31_1 = some (r1, r2)) ∧ Aside0 (kq ≤ k) ∧ Aside0 (Kd.R (Kd.int .i64) 3 w' w.heap.size (fun _ => True) v692 x9_1) ∧ Aside0 (Below w.heap.size w w'))
    case atStart => exact ⟨(t691), (0), rs_, H', ⟨Nat.le_refl _⟩, ⟨by (with_reducible repeat (first | apply Kd.R_alloc | apply Kd.R_drewN | apply Kd.R_drew)); exact HO693.out⟩, ⟨by repeat (first | (with_reducible first | exact HB.out | apply below_alloc | apply pw_below_drewN | apply below_drew1) | exact HB.out)⟩⟩
    case round =>
     clear H'
     try clear c1
     try clear c2
     try clear p2
     try clear c5
     try clear c5b0
     try clear c5b1
     try clear c6
     try clear c6b0
     try clear c6b1
     try clear c8
     try clear c9
     obtain ⟨x9_1, x31_1, rfl, HA, HK1, HO_9, HB⟩ := hrel
     cases gk with
     | zero => exact absurd HA.out (by simp [figure_CheckSessions.l0])
     | succ k1 =>
      have H := HA.out
      clear HA
      simp only [figure_CheckSessions.l0] at H
      by_cases c11 : x31_1 < (l2.length : Int)
      ·rw [if_pos c11] at H
       have c11b0 : decide (x31_1 < (l2.length : Int)) = true := decide_eq_true c11
       clear c11
       by_cases c12 : 0 ≤ x31_1
       ·rw [if_pos c12] at H
        have c12b0 : decide (0 ≤ x31_1) = true := decide_eq_true c12
        clear c12
        by_cases c13 : x31_1 < (l2.length : Int)
        ·rw [if_pos c13] at H
         have c13b0 : decide (x31_1 < (l2.length : Int)) = true := decide_eq_true c13
         clear c13
         replace H := Option.bind_eq_some_iff.mp H
         obtain ⟨t695, A140, H⟩ := H
         replace H : (if t695 = 0 then (figure_CheckSessions.l1 k1 l0 l1 x9_1 x31_1 l2 (l2.length : Int) x31_1 (rd_L1 l2 x31_1) ((rd_L1 l2 x31_1).length : Int) 0) else (some (x31_1, t695))) = some (r1, r2) := H
         have A14 := Aside0.mk A140
         clear A140
         by_cases c15 : t695 = 0
         ·rw [if_pos c15] at H
          have c15b0 : (t695 == 0) = true := beq_iff_eq.mpr c15
          have c15b1 : (t695 != 0) = false := bne_eq_false_iff_eq.mpr c15
          clear c15
          have H' := Aside0.mk H
          clear H
          have p694 : 0 ≤ (x31_1 : Int) := of_decide_eq_true as_
          have q694 : x31_1 < (l2.length : Int) := of_decide_eq_true as_
          obtain ⟨ad694, A694_0, c694_0, e694, hx694_0, hl694_0, hi694_0⟩ := at_L1 HR2.out x31_1 p694 q694
          cases e694
          replace hx694_0 := (HB.out.cell (World.block_lt_of_cell? w _ hx694_0)).trans hx694_0
          have HR694_0 := Aside0.mk hi694_0
          have HC694_0 := Aside0.mk hl694_0
          clear hi694_0 hl694_0
          replace p694 := eq_true p694
          replace q694 := eq_true q694
          go_wp2_with (first | ((with_reducible refine gate_callee (f := 86) rfl ?_); refine goesL_ (some 39) rfl rfl Try.func86 (by kernel_rfl) rfl #[.slice A694_0 (rd_L1 l2 x31_1).length c694_0, .int .i64 (l0.length : Int)] rfl ma_ ?_; (with_reducible refine (figure_checkWear.calls k1 _ _ (rd_L1 l2 x31_1) (l0.length : Int) t695 _ ?side1 ?side2 A14.out).mono ?_); (case side1 => repeat (first | exact (Kd.C_below HR694_0.out HB.out) | (with_reducible refine Kd.C_alloc ?_ _) | (with_reducible refine Kd.C_drewN ?_ _) | (with_reducible refine Kd.C_drew ?_))); (case side2 => exact HC694_0.out); rintro e w' ⟨rfl, ⟨nd, rfl⟩⟩; refine ⟨_, rfl, ?_⟩))
          go_loopg [46] k1 (fun kq v46 w' => ∃ (x9_2 : List Int) (x46_2 : Int), v46 = .int .i64 x46_2 ∧ Aside0 (figure_CheckSessions.l1 kq l0 l1 x9_2 x31_1 l2 (l2.length : Int) x31_1 (rd_L1 l2 x31_1) ((rd_L1 l2 x31_1).length : Int) x46_2 = some (r1, r2)) ∧ Aside0 (kq ≤ k1) ∧ Aside0 (Kd.R (Kd.int .i64) 3 w' w.heap.size (fun _ => True) v692 x9_2) ∧ Aside0 (Below w.heap.size w w'))
          case atStart => exact ⟨(x9_1), (0), rs_, H', ⟨Nat.le_refl _⟩, ⟨by (with_reducible repeat (first | apply Kd.R_alloc | apply Kd.R_drewN | apply Kd.R_drew)); exact HO_9.out⟩, ⟨by repeat (first | (with_reducible first | exact HB.out | apply below_alloc | apply pw_below_drewN | apply below_drew1) | exact HB.out)⟩⟩
          case round =>
           clear H'
           try clear c1
           try clear c2
           try clear p2
           try clear c5
           try clear c5b0
           try clear c5b1
           try clear c6
           try clear c6b0
           try clear c6b1
           try clear p6
           try clear q6
           try clear hx6
           try clear c8
           try clear c9
           try clear c11
           try clear c11b0
           try clear c12
           try clear c12b0
           try clear c13
           try clear c13b0
           try clear c15
           try clear c15b0
           try clear c15b1
           try clear hx694_0
           try clear p2
           try clear p694
           try clear q694
           obtain ⟨x9_2, x46_2, rfl, HA, HK2, HO_9, HB⟩ := hrel
           cases gk with
           | zero => exact absurd HA.out (by simp [figure_CheckSessions.l1])
           | succ k2 =>
            have H := HA.out
            clear HA
            simp only [figure_CheckSessions.l1] at H
            by_cases c16 : x46_2 < ((rd_L1 l2 x31_1).length : Int)
            ·rw [if_pos c16] at H
             have c16b0 : decide (x46_2 < ((rd_L1 l2 x31_1).length : Int)) = true := decide_eq_true c16
             clear c16
             by_cases c17 : 0 ≤ x46_2
             ·rw [if_pos c17] at H
              have c17b0 : decide (0 ≤ x46_2) = true := decide_eq_true c17
              clear c17
              by_cases c18 : x46_2 < ((rd_L1 l2 x31_1).length : Int)
              ·rw [if_pos c18] at H
               have c18b0 : decide (x46_2 < ((rd_L1 l2 x31_1).length : Int)) = true := decide_eq_true c18
               clear c18
               by_cases c19 : x46_2 < (x9_2.length : Int)
               ·rw [if_pos c19] at H
                have c19b0 : decide (x46_2 < (x9_2.length : Int)) = true := decide_eq_true c19
                clear c19
                obtain ⟨y698, hy698⟩ : ∃ y_ : List Int, y_ = (x9_2.set (x46_2 : Int).toNat (wrap64 ((rd x9_2 x46_2) - (rd (rd_L1 l2 x31_1) x46_2)))) := ⟨_, rfl⟩
                replace H : (figure_CheckSessions.l1 k2 l0 l1 y698 x31_1 l2 (l2.length : Int) x31_1 (rd_L1 l2 x31_1) ((rd_L1 l2 x31_1).length : Int) (wrap64 (x46_2 + 1))) = some (r1, r2) := by first | (rw [hy698]; with_reducible exact H) | (have H2_ := (Option.bind_some _ _).symm.trans H; rw [hy698]; with_reducible exact H2_) | (have H2_ := (Option.bind_some _ _).symm.trans H; with_reducible exact H2_) | with_reducible exact H | (rw [hy698]; exact H) | exact H
                have Ny698 := Aside0.mk hy698
                clear hy698
                have H' := Aside0.mk H
                clear H
                have p696 : 0 ≤ (x46_2 : Int) := of_decide_eq_true as_
                have q696 : x46_2 < ((rd_L1 l2 x31_1).length : Int) := of_decide_eq_true as_
                obtain ⟨ad696, e696, hx696_0⟩ := Kd.at_int HR694_0.out x46_2 p696 q696
                cases e696
                replace hx696_0 := (HB.out.cell (World.block_lt_of_cell? w _ hx696_0)).trans hx696_0
                replace p696 := eq_true p696
                replace q696 := eq_true q696
                obtain ⟨Ao21, co21, eo21⟩ := Kd.R_slice HO_9.out
                subst eo21
                have p697 : 0 ≤ (x46_2 : Int) := of_decide_eq_true as_
                have q697 : x46_2 < (x9_2.length : Int) := of_decide_eq_true as_
                obtain ⟨ad697, e697, hx697_0⟩ := Kd.at_int (Kd.R_reads' HO_9.out).2.2 x46_2 p697 q697
                cases e697
                replace p697 := eq_true p697
                replace q697 := eq_true q697
                have p20 : 0 ≤ (x46_2 : Int) := of_decide_eq_true as_
                have q20 : (x46_2 : Int) < ((x9_2.length : Int) : Int) := of_decide_eq_true as_
                obtain ⟨go20, co20, eo20, gb20, gl20, cl20, HG20⟩ := Kd.R_form HO_9.out (by omega)
                (first | cases eo20 | (injection eo20 with ea_ en_ ec_; (first | subst ea_ | (injection ea_ with ea_; subst ea_)); subst ec_; clear en_))
                have GB20 := Aside0.mk gb20
                have GG20 := Aside0.mk HG20
                clear gb20 gl20 HG20
                (first | simp only [add_plain] at hx697_0 | skip)
                obtain ⟨hx20_0, hf20_0⟩ := Kd.R_celln 0 HO_9.out (x46_2 : Int) p20 q20
                replace p20 := eq_true p20
                replace q20 := eq_true q20
                have HP22 := Kd.R_putg HO_9.out (x46_2 : Int) (wrap64 ((rd x9_2 x46_2) - (rd (rd_L1 l2 x31_1) x46_2)))
                go_wp2_with (first | ((with_reducible refine gate_store (t := 3) (p := 57) rfl ?_); refine store_event (t := 3) (p := 57) (v := ?vo_w23) (w1 := (wr.setCell ⟨go20, (x46_2 : Int).toNat, none⟩ (.int .i64 (wrap64 ((rd x9_2 x46_2) - (rd (rd_L1 l2 x31_1) x46_2)))))) ?hg ?ho ?hn ?hr ?_; (case ho => rfl); (case hg => rfl); (case hn => rfl); (case hr => exact gr_); intro w23 hw; have hg : wr.grownBy w23 (some go20) := (by rw [hw]; exact HP22.2); have hp_ : Kd.R (Kd.int .i64) 3 w23 w.heap.size (fun _ => True) (.slice (some ⟨go20, 0, none⟩) x9_2.length co21) y698 := (by rw [hw, Ny698.out]; exact HP22.1); clear HP22; have n0_ := Aside0.mk (hp_); have n1_ := Aside0.mk ((by rw [hw]; exact below_set (HB.out) GB20.out : Below w.heap.size w w23)); clear HO_9; clear HB; have HO_9 := n0_; have HB := n1_; clear n0_ n1_; clear hg hw hp_))
                go_roundg k2
                case measure => have := HK1.out; have := HK2.out; omega
                case rel => exact ⟨(y698), (wrap64 (x46_2 + 1)), rs_, H', ⟨by have := HK1.out; have := HK2.out; omega⟩, ⟨by (with_reducible repeat (first | apply Kd.R_alloc | apply Kd.R_drewN | apply Kd.R_drew)); exact HO_9.out⟩, ⟨by repeat (first | (with_reducible first | exact HB.out | apply below_alloc | apply pw_below_drewN | apply below_drew1) | exact HB.out)⟩⟩
               ·rw [if_neg c19] at H
                exact absurd H (by simp)
              ·rw [if_neg c18] at H
               exact absurd H (by simp)
             ·rw [if_neg c17] at H
              exact absurd H (by simp)
            ·rw [if_neg c16] at H
             have c16b0 : decide (x46_2 < ((rd_L1 l2 x31_1).length : Int)) = false := decide_eq_false c16
             clear c16
             replace H := Option.bind_eq_some_iff.mp H
             obtain ⟨t699, A240, H⟩ := H
             replace H : (if t699 = true then (some (x31_1, 26)) else (figure_CheckSessions.l0 k2 l0 l1 x9_2 l2 (l2.length : Int) (wrap64 (x31_1 + 1)))) = some (r1, r2) := H
             have A24 := Aside0.mk A240
             clear A240
             by_cases c25 : t699 = true
             ·subst c25
              have H1 : (some (x31_1, 26)) = some (r1, r2) := by rw [if_pos rfl] at H; exact H
              clear H
              have H := H1
              clear H1
              simp only [Option.some.injEq, Prod.mk.injEq] at H
              obtain ⟨rfl, rfl⟩ := H
              obtain ⟨Ao26, co26, eo26⟩ := Kd.R_slice HO_9.out
              subst eo26
              go_wp2_with (first | ((with_reducible refine gate_callee (f := 91) rfl ?_); refine goesL_ (some 61) rfl rfl Try.func91 (by kernel_rfl) rfl #[.slice Ao26 x9_2.length co26, .slice A1 l1.length c1] rfl ma_ ?_; (with_reducible refine (figure_digs.calls k2 _ _ x9_2 _ _ l1 true _ ?side1 ?side2 ?side3 ?side4 A24.out).mono ?_); (case side1 => repeat (first | exact (Kd.R_reads' HO_9.out).2.2 | (with_reducible refine Kd.C_alloc ?_ _) | (with_reducible refine Kd.C_drewN ?_ _) | (with_reducible refine Kd.C_drew ?_))); (case side2 => exact (Kd.R_reads' HO_9.out).2.1); (case side3 => repeat (first | exact (Kd.C_below HR1.out HB.out) | (with_reducible refine Kd.C_alloc ?_ _) | (with_reducible refine Kd.C_drewN ?_ _) | (with_reducible refine Kd.C_drew ?_))); (case side4 => exact HC1.out); rintro e w' ⟨rfl, ⟨nd, rfl⟩⟩; refine ⟨_, rfl, ?_⟩))
              go_ret2
              exact ⟨by first | rfl | (simp [errW_none, errW_some] <;> rfl) | (simp [*, errW_none, errW_some] <;> rfl), by repeat (first | (with_reducible first | exact HB.out | apply below_alloc | apply pw_below_drewN | apply below_drew1) | exact HB.out)⟩
             ·replace c25 := Bool.eq_false_iff.mpr c25
              subst c25
              have H1 : (figure_CheckSessions.l0 k2 l0 l1 x9_2 l2 (l2.length : Int) (wrap64 (x31_1 + 1))) = some (r1, r2) := by rw [if_neg (show ¬ (false = true) by decide)] at H; exact H
              clear H
              have H := H1
              clear H1
              have H' := Aside0.mk H
              clear H
              obtain ⟨Ao27, co27, eo27⟩ := Kd.R_slice HO_9.out
              subst eo27
              go_wp2_with (first | ((with_reducible refine gate_callee (f := 91) rfl ?_); refine goesL_ (some 61) rfl rfl Try.func91 (by kernel_rfl) rfl #[.slice Ao27 x9_2.length co27, .slice A1 l1.length c1] rfl ma_ ?_; (with_reducible refine (figure_digs.calls k2 _ _ x9_2 _ _ l1 false _ ?side1 ?side2 ?side3 ?side4 A24.out).mono ?_); (case side1 => repeat (first | exact (Kd.R_reads' HO_9.out).2.2 | (with_reducible refine Kd.C_alloc ?_ _) | (with_reducible refine Kd.C_drewN ?_ _) | (with_reducible refine Kd.C_drew ?_))); (case side2 => exact (Kd.R_reads' HO_9.out).2.1); (case side3 => repeat (first | exact (Kd.C_below HR1.out HB.out) | (with_reducible refine Kd.C_alloc ?_ _) | (with_reducible refine Kd.C_drewN ?_ _) | (with_reducible refine Kd.C_drew ?_))); (case side4 => exact HC1.out); rintro e w' ⟨rfl, ⟨nd, rfl⟩⟩; refine ⟨_, rfl, ?_⟩))
              go_roundg k2
              case measure => have := HK1.out; have := HK2.out; omega
              case rel => exact ⟨(x9_2), (wrap64 (x31_1 + 1)), rs_, H', ⟨by have := HK1.out; have := HK2.out; omega⟩, ⟨by (with_reducible repeat (first | apply Kd.R_alloc | apply Kd.R_drewN | apply Kd.R_drew)); exact HO_9.out⟩, ⟨by repeat (first | (with_reducible first | exact HB.out | apply below_alloc | apply pw_below_drewN | apply below_drew1) | exact HB.out)⟩⟩
         ·rw [if_neg c15] at H
          have c15b0 : (t695 == 0) = false := beq_eq_false_iff_ne.mpr c15
          have c15b1 : (t695 != 0) = true := bne_iff_ne.mpr c15
          simp only [Option.some.injEq, Prod.mk.injEq] at H
          obtain ⟨rfl, rfl⟩ := H
          have p694 : 0 ≤ (x31_1 : Int) := of_decide_eq_true as_
          have q694 : x31_1 < (l2.length : Int) := of_decide_eq_true as_
          obtain ⟨ad694, A694_0, c694_0, e694, hx694_0, hl694_0, hi694_0⟩ := at_L1 HR2.out x31_1 p694 q694
          cases e694
          replace hx694_0 := (HB.out.cell (World.block_lt_of_cell? w _ hx694_0)).trans hx694_0
          have HR694_0 := Aside0.mk hi694_0
          have HC694_0 := Aside0.mk hl694_0
          clear hi694_0 hl694_0
          replace p694 := eq_true p694
          replace q694 := eq_true q694
          go_wp2_with (first | ((with_reducible refine gate_callee (f := 86) rfl ?_); refine goesL_ (some 39) rfl rfl Try.func86 (by kernel_rfl) rfl #[.slice A694_0 (rd_L1 l2 x31_1).length c694_0, .int .i64 (l0.length : Int)] rfl ma_ ?_; (with_reducible refine (figure_checkWear.calls k1 _ _ (rd_L1 l2 x31_1) (l0.length : Int) t695 _ ?side1 ?side2 A14.out).mono ?_); (case side1 => repeat (first | exact (Kd.C_below HR694_0.out HB.out) | (with_reducible refine Kd.C_alloc ?_ _) | (with_reducible refine Kd.C_drewN ?_ _) | (with_reducible refine Kd.C_drew ?_))); (case side2 => exact HC694_0.out); rintro e w' ⟨rfl, ⟨nd, rfl⟩⟩; refine ⟨_, rfl, ?_⟩))
          go_ret2
          exact ⟨by first | rfl | (simp [errW_none, errW_some] <;> rfl) | (simp [*, errW_none, errW_some] <;> rfl), by repeat (first | (with_reducible first | exact HB.out | apply below_alloc | apply pw_below_drewN | apply below_drew1) | exact HB.out)⟩
        ·rw [if_neg c13] at H
         exact absurd H (by simp)
       ·rw [if_neg c12] at H
        exact absurd H (by simp)
      ·rw [if_neg c11] at H
       have c11b0 : decide (x31_1 < (l2.length : Int)) = false := decide_eq_false c11
       clear c11
       simp only [Option.some.injEq, Prod.mk.injEq] at H
       obtain ⟨rfl, rfl⟩ := H
       go_wp2
       go_ret2
       exact ⟨by first | rfl | (simp [errW_none, errW_some] <;> rfl) | (simp [*, errW_none, errW_some] <;> rfl), by repeat (first | (with_reducible first | exact HB.out | apply below_alloc | apply pw_below_drewN | apply below_drew1) | exact HB.out)⟩
 ·rw [if_neg c5] at H
  have c5b0 : (t689 == 0) = false := beq_eq_false_iff_ne.mpr c5
  have c5b1 : (t689 != 0) = true := bne_iff_ne.mpr c5
  simp only [Option.some.injEq, Prod.mk.injEq] at H
  obtain ⟨rfl, rfl⟩ := H
  go_enter Try.func50, Try.ntmps50
  go_wp2_with (first | ((with_reducible refine gate_callee (f := 90) rfl ?_); refine goesL_ (some 17) rfl rfl Try.func90 (by kernel_rfl) rfl #[.slice A0 l0.length c0, .slice A1 l1.length c1] rfl ma_ ?_; (with_reducible refine (figure_checkBoth.calls k _ _ l0 _ _ l1 t689 _ ?side1 ?side2 ?side3 ?side4 A4.out).mono ?_); (case side1 => repeat (first | exact HR0.out | (with_reducible refine Kd.C_alloc ?_ _) | (with_reducible refine Kd.C_drewN ?_ _) | (with_reducible refine Kd.C_drew ?_))); (case side2 => exact HC0.out); (case side3 => repeat (first | exact HR1.out | (with_reducible refine Kd.C_alloc ?_ _) | (with_reducible refine Kd.C_drewN ?_ _) | (with_reducible refine Kd.C_drew ?_))); (case side4 => exact HC1.out); rintro e w' ⟨rfl, ⟨nd, rfl⟩⟩; refine ⟨_, rfl, ?_⟩))
  go_ret2
  exact ⟨by first | rfl | (simp [errW_none, errW_some] <;> rfl) | (simp [*, errW_none, errW_some] <;> rfl), by repeat (first | (with_reducible first | exact HB.out | apply below_alloc | apply pw_below_drewN | apply below_drew1) | exact HB.out)⟩
end Go.Proofs.Ytdkahcolfcmmpaa.Pr
namespace Go.Proofs.Ytdkahcolfcmmpaa.Pr
open Go.RowKit Go.Proofs.YtdkahcolfcmmpaaW.PrintWords Go.Proofs.YtdkahcolfcmmpaaW.PrintLast Go.Proofs.YtdkahcolfcmmpaaW.PrintMore
attribute [local go_sem] max2_int min2_int max_two min_two max_three min_three max_four min_four   -- for this text's walks alone
set_option linter.unusedVariables false
set_option linter.unusedSimpArgs false
def figure_MostTimes.l0 : Nat → List Int → List Int → Int → List Int → Int → Int → Option (Int × Int)
 | 0, _, _, _, _, _, _ => none
 | k + 1, x0, x1, x10, x30, x31, x32 => if x32 < x31 then (if 0 ≤ x32 then (if x32 < (x30.length : Int) then (if (rd x30 x32) = 0 then (figure_MostTimes.l0 k x0 x1 x10 x30 x31 (wrap64 (x32 + 1))) else (if x32 < (x0.length : Int) then (if x32 < (x1.length : Int) then (if x10 < 0 then (figure_MostTimes.l0 k x0 x1 (wrap64 (Int.tdiv (wrap64 ((rd x0 x32) - (rd x1 x32))) (rd x30 x32))) x30 x31 (wrap64 (x32 + 1))) else (if (wrap64 (Int.tdiv (wrap64 ((rd x0 x32) - (rd x1 x32))) (rd x30 x32))) < x10 then (figure_MostTimes.l0 k x0 x1 (wrap64 (Int.tdiv (wrap64 ((rd x0 x32) - (rd x1 x32))) (rd x30 x32))) x30 x31 (wrap64 (x32 + 1))) else (figure_MostTimes.l0 k x0 x1 x10 x30 x31 (wrap64 (x32 + 1))))) else (none)) else (none))) else (none)) else (none)) else (if x10 < 0 then (some (0, 12)) else (some (x10, 0)))
def figure_MostTimes.f (k : Nat) (l0 : List Int) (l1 : List Int) (l2 : List Int) : Option (Int × Int) := (figure_checkBoth.f k l0 l1).bind fun t737 => (if t737 = 0 then ((figure_checkWear.f k l2 (l0.length : Int)).bind fun t738 => (if t738 = 0 then ((figure_digs.f k l0 l1).bind fun t739 => (if t739 = true then (some (0, 26)) else (figure_MostTimes.l0 k l0 l1 (-1) l2 (l2.length : Int) 0))) else (some (0, t738)))) else (some (0, t737)))
set_option maxHeartbeats 8000000 in
set_option maxRecDepth 100000 in
theorem figure_MostTimes.calls (k : Nat) (A0 : Option Addr) (c0 : Nat) (l0 : List Int) (A1 : Option Addr) (c1 : Nat) (l1 : List Int) (A2 : Option Addr) (c2 : Nat) (l2 : List Int) (r1 : Int) (r2 : Int) (w : World) (hr0 : Kd.C (Kd.int .i64) w A0 l0.length l0) (hc0 : l0.length ≤ c0) (hr1 : Kd.C (Kd.int .i64) w A1 l1.length l1) (hc1 : l1.length ≤ c1) (hr2 : Kd.C (Kd.int .i64) w A2 l2.length l2) (hc2 : l2.length ≤ c2) (h : figure_MostTimes.f k l0 l1 l2 = some (r1, r2)) :
  Calls Try.prog 52 #[.slice A0 l0.length c0, .slice A1 l1.length c1, .slice A2 l2.length c2] w fun e w' => e = .returned (.tuple #[.int .i64 r1, .int .i64 r2]) ∧ Drawn0 w w' := by
 have HR0 := Aside0.mk hr0
 have HC0 := Aside0.mk hc0
 clear hr0 hc0
 have HR1 := Aside0.mk hr1
 have HC1 := Aside0.mk hc1
 clear hr1 hc1
 have HR2 := Aside0.mk hr2
 have HC2 := Aside0.mk hc2
 clear hr2 hc2
 have H : ((figure_checkBoth.f k l0 l1).bind fun t737 => (if t737 = 0 then ((figure_checkWear.f k l2 (l0.length : Int)).bind fun t738 => (if t738 = 0 then ((figure_digs.f k l0 l1).bind fun t739 => (if t739 = true then (some (0, 26)) else (figure_MostTimes.l0 k l0 l1 (-1) l2 (l2.length : Int) 0))) else (some (0, t738)))) else (some (0, t737)))) = some (r1, r2) := h
 clear h
 replace H := Option.bind_eq_some_iff.mp H
 obtain ⟨t737, A40, H⟩ := H
 replace H : (if t737 = 0 then ((figure_checkWear.f k l2 (l0.length : Int)).bind fun t738 => (if t738 = 0 then ((figure_digs.f k l0 l1).bind fun t739 => (if t739 = true then (some (0, 26)) else (figure_MostTimes.l0 k l0 l1 (-1) l2 (l2.length : Int) 0))) else (some (0, t738)))) else (some (0, t737))) = some (r1, r2) := H
 have A4 := Aside0.mk A40
 clear A40
 by_cases c5 : t737 = 0
 ·rw [if_pos c5] at H
  have c5b0 : (t737 == 0) = true := beq_iff_eq.mpr c5
  have c5b1 : (t737 != 0) = false := bne_eq_false_iff_eq.mpr c5
  clear c5
  replace H := Option.bind_eq_some_iff.mp H
  obtain ⟨t738, A60, H⟩ := H
  replace H : (if t738 = 0 then ((figure_digs.f k l0 l1).bind fun t739 => (if t739 = true then (some (0, 26)) else (figure_MostTimes.l0 k l0 l1 (-1) l2 (l2.length : Int) 0))) else (some (0, t738))) = some (r1, r2) := H
  have A6 := Aside0.mk A60
  clear A60
  by_cases c7 : t738 = 0
  ·rw [if_pos c7] at H
   have c7b0 : (t738 == 0) = true := beq_iff_eq.mpr c7
   have c7b1 : (t738 != 0) = false := bne_eq_false_iff_eq.mpr c7
   clear c7
   replace H := Option.bind_eq_some_iff.mp H
   obtain ⟨t739, A80, H⟩ := H
   replace H : (if t739 = true then (some (0, 26)) else (figure_MostTimes.l0 k l0 l1 (-1) l2 (l2.length : Int) 0)) = some (r1, r2) := H
   have A8 := Aside0.mk A80
   clear A80
   by_cases c9 : t739 = true
   ·subst c9
    have H1 : (some (0, 26)) = some (r1, r2) := by rw [if_pos rfl] at H; exact H
    clear H
    have H := H1
    clear H1
    simp only [Option.some.injEq, Prod.mk.injEq] at H
    obtain ⟨rfl, rfl⟩ := H
    go_enter Try.func52, Try.ntmps52
    go_wp2_with (first | (go_at_call 90; (with_reducible refine (figure_checkBoth.calls k _ _ l0 _ _ l1 t737 _ ?side1 ?side2 ?side3 ?side4 A4.out).mono ?_); (case side1 => repeat (first | exact HR0.out | (with_reducible refine Kd.C_alloc ?_ _) | (with_reducible refine Kd.C_drewN ?_ _) | (with_reducible refine Kd.C_drew ?_))); (case side2 => exact HC0.out); (case side3 => repeat (first | exact HR1.out | (with_reducible refine Kd.C_alloc ?_ _) | (with_reducible refine Kd.C_drewN ?_ _) | (with_reducible refine Kd.C_drew ?_))); (case side4 => exact HC1.out); rintro e w' ⟨rfl, ⟨nd, rfl⟩⟩; (try first | exact ⟨rfl, _, World.drewN_drewN _ _ _⟩ | exact ⟨rfl, _, Eq.trans (World.drewN_drewN _ _ _) (congrArg (World.drewN _) (Nat.add_assoc _ _ _))⟩)) | (go_at_call 86; (with_reducible refine (figure_checkWear.calls k _ _ l2 (l0.length : Int) t738 _ ?side1 ?side2 A6.out).mono ?_); (case side1 => repeat (first | exact HR2.out | (with_reducible refine Kd.C_alloc ?_ _) | (with_reducible refine Kd.C_drewN ?_ _) | (with_reducible refine Kd.C_drew ?_))); (case side2 => exact HC2.out); rintro e w' ⟨rfl, ⟨nd, rfl⟩⟩; (try first | exact ⟨rfl, _, World.drewN_drewN _ _ _⟩ | exact ⟨rfl, _, Eq.trans (World.drewN_drewN _ _ _) (congrArg (World.drewN _) (Nat.add_assoc _ _ _))⟩)) | (go_at_call 91; (with_reducible refine (figure_digs.calls k _ _ l0 _ _ l1 true _ ?side1 ?side2 ?side3 ?side4 A8.out).mono ?_); (case side1 => repeat (first | exact HR0.out | (with_reducible refine Kd.C_alloc ?_ _) | (with_reducible refine Kd.C_drewN ?_ _) | (with_reducible refine Kd.C_drew ?_))); (case side2 => exact HC0.out); (case side3 => repeat (first | exact HR1.out | (with_reducible refine Kd.C_alloc ?_ _) | (with_reducible refine Kd.C_drewN ?_ _) | (with_reducible refine Kd.C_drew ?_))); (case side4 => exact HC1.out); rintro e w' ⟨rfl, ⟨nd, rfl⟩⟩; (try first | exact ⟨rfl, _, World.drewN_drewN _ _ _⟩ | exact ⟨rfl, _, Eq.trans (World.drewN_drewN _ _ _) (congrArg (World.drewN _) (Nat.add_assoc _ _ _))⟩)))
    repeat (go_quiet (first | (go_at_call 90; (with_reducible refine (figure_checkBoth.calls k _ _ l0 _ _ l1 t737 _ ?side1 ?side2 ?side3 ?side4 A4.out).mono ?_); (case side1 => repeat (first | exact HR0.out | (with_reducible refine Kd.C_alloc ?_ _) | (with_reducible refine Kd.C_drewN ?_ _) | (with_reducible refine Kd.C_drew ?_))); (case side2 => exact HC0.out); (case side3 => repeat (first | exact HR1.out | (with_reducible refine Kd.C_alloc ?_ _) | (with_reducible refine Kd.C_drewN ?_ _) | (with_reducible refine Kd.C_drew ?_))); (case side4 => exact HC1.out); rintro e w' ⟨rfl, ⟨nd, rfl⟩⟩; (try first | exact ⟨rfl, _, World.drewN_drewN _ _ _⟩ | exact ⟨rfl, _, Eq.trans (World.drewN_drewN _ _ _) (congrArg (World.drewN _) (Nat.add_assoc _ _ _))⟩)) | (go_at_call 86; (with_reducible refine (figure_checkWear.calls k _ _ l2 (l0.length : Int) t738 _ ?side1 ?side2 A6.out).mono ?_); (case side1 => repeat (first | exact HR2.out | (with_reducible refine Kd.C_alloc ?_ _) | (with_reducible refine Kd.C_drewN ?_ _) | (with_reducible refine Kd.C_drew ?_))); (case side2 => exact HC2.out); rintro e w' ⟨rfl, ⟨nd, rfl⟩⟩; (try first | exact ⟨rfl, _, World.drewN_drewN _ _ _⟩ | exact ⟨rfl, _, Eq.trans (World.drewN_drewN _ _ _) (congrArg (World.drewN _) (Nat.add_assoc _ _ _))⟩)) | (go_at_call 91; (with_reducible refine (figure_digs.calls k _ _ l0 _ _ l1 true _ ?side1 ?side2 ?side3 ?side4 A8.out).mono ?_); (case side1 => repeat (first | exact HR0.out | (with_reducible refine Kd.C_alloc ?_ _) | (with_reducible refine Kd.C_drewN ?_ _) | (with_reducible refine Kd.C_drew ?_))); (case side2 => exact HC0.out); (case side3 => repeat (first | exact HR1.out | (with_reducible refine Kd.C_alloc ?_ _) | (with_reducible refine Kd.C_drewN ?_ _) | (with_reducible refine Kd.C_drew ?_))); (case side4 => exact HC1.out); rintro e w' ⟨rfl, ⟨nd, rfl⟩⟩; (try first | exact ⟨rfl, _, World.drewN_drewN _ _ _⟩ | exact ⟨rfl, _, Eq.trans (World.drewN_drewN _ _ _) (congrArg (World.drewN _) (Nat.add_assoc _ _ _))⟩))); try go_wp2_with (first | (go_at_call 90; (with_reducible refine (figure_checkBoth.calls k _ _ l0 _ _ l1 t737 _ ?side1 ?side2 ?side3 ?side4 A4.out).mono ?_); (case side1 => repeat (first | exact HR0.out | (with_reducible refine Kd.C_alloc ?_ _) | (with_reducible refine Kd.C_drewN ?_ _) | (with_reducible refine Kd.C_drew ?_))); (case side2 => exact HC0.out); (case side3 => repeat (first | exact HR1.out | (with_reducible refine Kd.C_alloc ?_ _) | (with_reducible refine Kd.C_drewN ?_ _) | (with_reducible refine Kd.C_drew ?_))); (case side4 => exact HC1.out); rintro e w' ⟨rfl, ⟨nd, rfl⟩⟩; (try first | exact ⟨rfl, _, World.drewN_drewN _ _ _⟩ | exact ⟨rfl, _, Eq.trans (World.drewN_drewN _ _ _) (congrArg (World.drewN _) (Nat.add_assoc _ _ _))⟩)) | (go_at_call 86; (with_reducible refine (figure_checkWear.calls k _ _ l2 (l0.length : Int) t738 _ ?side1 ?side2 A6.out).mono ?_); (case side1 => repeat (first | exact HR2.out | (with_reducible refine Kd.C_alloc ?_ _) | (with_reducible refine Kd.C_drewN ?_ _) | (with_reducible refine Kd.C_drew ?_))); (case side2 => exact HC2.out); rintro e w' ⟨rfl, ⟨nd, rfl⟩⟩; (try first | exact ⟨rfl, _, World.drewN_drewN _ _ _⟩ | exact ⟨rfl, _, Eq.trans (World.drewN_drewN _ _ _) (congrArg (World.drewN _) (Nat.add_assoc _ _ _))⟩)) | (go_at_call 91; (with_reducible refine (figure_digs.calls k _ _ l0 _ _ l1 true _ ?side1 ?side2 ?side3 ?side4 A8.out).mono ?_); (case side1 => repeat (first | exact HR0.out | (with_reducible refine Kd.C_alloc ?_ _) | (with_reducible refine Kd.C_drewN ?_ _) | (with_reducible refine Kd.C_drew ?_))); (case side2 => exact HC0.out); (case side3 => repeat (first | exact HR1.out | (with_reducible refine Kd.C_alloc ?_ _) | (with_reducible refine Kd.C_drewN ?_ _) | (with_reducible refine Kd.C_drew ?_))); (case side4 => exact HC1.out); rintro e w' ⟨rfl, ⟨nd, rfl⟩⟩; (try first | exact ⟨rfl, _, World.drewN_drewN _ _ _⟩ | exact ⟨rfl, _, Eq.trans (World.drewN_drewN _ _ _) (congrArg (World.drewN _) (Nat.add_assoc _ _ _))⟩))))
    go_ret2
    exact ⟨by first | rfl | (simp; done) | (simp [*]; done), by repeat (first | exact Drawn0.refl _ | apply Drawn0.step)⟩
   ·replace c9 := Bool.eq_false_iff.mpr c9
    subst c9
    have H1 : (figure_MostTimes.l0 k l0 l1 (-1) l2 (l2.length : Int) 0) = some (r1, r2) := by rw [if_neg (show ¬ (false = true) by decide)] at H; exact H
    clear H
    have H := H1
    clear H1
    have H' := Aside0.mk H
    clear H
    go_enter Try.func52, Try.ntmps52
    go_wp2_with (first | (go_at_call 90; (with_reducible refine (figure_checkBoth.calls k _ _ l0 _ _ l1 t737 _ ?side1 ?side2 ?side3 ?side4 A4.out).mono ?_); (case side1 => repeat (first | exact HR0.out | (with_reducible refine Kd.C_alloc ?_ _) | (with_reducible refine Kd.C_drewN ?_ _) | (with_reducible refine Kd.C_drew ?_))); (case side2 => exact HC0.out); (case side3 => repeat (first | exact HR1.out | (with_reducible refine Kd.C_alloc ?_ _) | (with_reducible refine Kd.C_drewN ?_ _) | (with_reducible refine Kd.C_drew ?_))); (case side4 => exact HC1.out); rintro e w' ⟨rfl, ⟨nd, rfl⟩⟩; (try first | exact ⟨rfl, _, World.drewN_drewN _ _ _⟩ | exact ⟨rfl, _, Eq.trans (World.drewN_drewN _ _ _) (congrArg (World.drewN _) (Nat.add_assoc _ _ _))⟩)) | (go_at_call 86; (with_reducible refine (figure_checkWear.calls k _ _ l2 (l0.length : Int) t738 _ ?side1 ?side2 A6.out).mono ?_); (case side1 => repeat (first | exact HR2.out | (with_reducible refine Kd.C_alloc ?_ _) | (with_reducible refine Kd.C_drewN ?_ _) | (with_reducible refine Kd.C_drew ?_))); (case side2 => exact HC2.out); rintro e w' ⟨rfl, ⟨nd, rfl⟩⟩; (try first | exact ⟨rfl, _, World.drewN_drewN _ _ _⟩ | exact ⟨rfl, _, Eq.trans (World.drewN_drewN _ _ _) (congrArg (World.drewN _) (Nat.add_assoc _ _ _))⟩)) | (go_at_call 91; (with_reducible refine (figure_digs.calls k _ _ l0 _ _ l1 false _ ?side1 ?side2 ?side3 ?side4 A8.out).mono ?_); (case side1 => repeat (first | exact HR0.out | (with_reducible refine Kd.C_alloc ?_ _) | (with_reducible refine Kd.C_drewN ?_ _) | (with_reducible refine Kd.C_drew ?_))); (case side2 => exact HC0.out); (case side3 => repeat (first | exact HR1.out | (with_reducible refine Kd.C_alloc ?_ _) | (with_reducible refine Kd.C_drewN ?_ _) | (with_reducible refine Kd.C_drew ?_))); (case side4 => exact HC1.out); rintro e w' ⟨rfl, ⟨nd, rfl⟩⟩; (try first | exact ⟨rfl, _, World.drewN_drewN _ _ _⟩ | exact ⟨rfl, _, Eq.trans (World.drewN_drewN _ _ _) (congrArg (World.drewN _) (Nat.add_assoc _ _ _))⟩)))
    repeat (go_quiet (first | (go_at_call 90; (with_reducible refine (figure_checkBoth.calls k _ _ l0 _ _ l1 t737 _ ?side1 ?side2 ?side3 ?side4 A4.out).mono ?_); (case side1 => repeat (first | exact HR0.out | (with_reducible refine Kd.C_alloc ?_ _) | (with_reducible refine Kd.C_drewN ?_ _) | (with_reducible refine Kd.C_drew ?_))); (case side2 => exact HC0.out); (case side3 => repeat (first | exact HR1.out | (with_reducible refine Kd.C_alloc ?_ _) | (with_reducible refine Kd.C_drewN ?_ _) | (with_reducible refine Kd.C_drew ?_))); (case side4 => exact HC1.out); rintro e w' ⟨rfl, ⟨nd, rfl⟩⟩; (try first | exact ⟨rfl, _, World.drewN_drewN _ _ _⟩ | exact ⟨rfl, _, Eq.trans (World.drewN_drewN _ _ _) (congrArg (World.drewN _) (Nat.add_assoc _ _ _))⟩)) | (go_at_call 86; (with_reducible refine (figure_checkWear.calls k _ _ l2 (l0.length : Int) t738 _ ?side1 ?side2 A6.out).mono ?_); (case side1 => repeat (first | exact HR2.out | (with_reducible refine Kd.C_alloc ?_ _) | (with_reducible refine Kd.C_drewN ?_ _) | (with_reducible refine Kd.C_drew ?_))); (case side2 => exact HC2.out); rintro e w' ⟨rfl, ⟨nd, rfl⟩⟩; (try first | exact ⟨rfl, _, World.drewN_drewN _ _ _⟩ | exact ⟨rfl, _, Eq.trans (World.drewN_drewN _ _ _) (congrArg (World.drewN _) (Nat.add_assoc _ _ _))⟩)) | (go_at_call 91; (with_reducible refine (figure_digs.calls k _ _ l0 _ _ l1 false _ ?side1 ?side2 ?side3 ?side4 A8.out).mono ?_); (case side1 => repeat (first | exact HR0.out | (with_reducible refine Kd.C_alloc ?_ _) | (with_reducible refine Kd.C_drewN ?_ _) | (with_reducible refine Kd.C_drew ?_))); (case side2 => exact HC0.out); (case side3 => repeat (first | exact HR1.out | (with_reducible refine Kd.C_alloc ?_ _) | (with_reducible refine Kd.C_drewN ?_ _) | (with_reducible refine Kd.C_drew ?_))); (case side4 => exact HC1.out); rintro e w' ⟨rfl, ⟨nd, rfl⟩⟩; (try first | exact ⟨rfl, _, World.drewN_drewN _ _ _⟩ | exact ⟨rfl, _, Eq.trans (World.drewN_drewN _ _ _) (congrArg (World.drewN _) (Nat.add_assoc _ _ _))⟩))); try go_wp2_with (first | (go_at_call 90; (with_reducible refine (figure_checkBoth.calls k _ _ l0 _ _ l1 t737 _ ?side1 ?side2 ?side3 ?side4 A4.out).mono ?_); (case side1 => repeat (first | exact HR0.out | (with_reducible refine Kd.C_alloc ?_ _) | (with_reducible refine Kd.C_drewN ?_ _) | (with_reducible refine Kd.C_drew ?_))); (case side2 => exact HC0.out); (case side3 => repeat (first | exact HR1.out | (with_reducible refine Kd.C_alloc ?_ _) | (with_reducible refine Kd.C_drewN ?_ _) | (with_reducible refine Kd.C_drew ?_))); (case side4 => exact HC1.out); rintro e w' ⟨rfl, ⟨nd, rfl⟩⟩; (try first | exact ⟨rfl, _, World.drewN_drewN _ _ _⟩ | exact ⟨rfl, _, Eq.trans (World.drewN_drewN _ _ _) (congrArg (World.drewN _) (Nat.add_assoc _ _ _))⟩)) | (go_at_call 86; (with_reducible refine (figure_checkWear.calls k _ _ l2 (l0.length : Int) t738 _ ?side1 ?side2 A6.out).mono ?_); (case side1 => repeat (first | exact HR2.out | (with_reducible refine Kd.C_alloc ?_ _) | (with_reducible refine Kd.C_drewN ?_ _) | (with_reducible refine Kd.C_drew ?_))); (case side2 => exact HC2.out); rintro e w' ⟨rfl, ⟨nd, rfl⟩⟩; (try first | exact ⟨rfl, _, World.drewN_drewN _ _ _⟩ | exact ⟨rfl, _, Eq.trans (World.drewN_drewN _ _ _) (congrArg (World.drewN _) (Nat.add_assoc _ _ _))⟩)) | (go_at_call 91; (with_reducible refine (figure_digs.calls k _ _ l0 _ _ l1 false _ ?side1 ?side2 ?side3 ?side4 A8.out).mono ?_); (case side1 => repeat (first | exact HR0.out | (with_reducible refine Kd.C_alloc ?_ _) | (with_reducible refine Kd.C_drewN ?_ _) | (with_reducible refine Kd.C_drew ?_))); (case side2 => exact HC0.out); (case side3 => repeat (first | exact HR1.out | (with_reducible refine Kd.C_alloc ?_ _) | (with_reducible refine Kd.C_drewN ?_ _) | (with_reducible refine Kd.C_drew ?_))); (case side4 => exact HC1.out); rintro e w' ⟨rfl, ⟨nd, rfl⟩⟩; (try first | exact ⟨rfl, _, World.drewN_drewN _ _ _⟩ | exact ⟨rfl, _, Eq.trans (World.drewN_drewN _ _ _) (congrArg (World.drewN _) (Nat.add_assoc _ _ _))⟩))))
    go_loopg [10, 32] k (fun kq v10 v32 w' => ∃ (x10_1 : Int) (x32_1 : Int), v10 = .int .i64 x10_1 ∧ v32 = .int .i64 x32_1 ∧ Aside0 (figure_MostTimes.l0 kq l0 l1 x10_1 l2 (l2.length : Int) x32_1 = some (r1, r2)) ∧ Aside0 (kq ≤ k) ∧ Drawn0 w w')
    case atStart => exact ⟨((-1)), (0), rs_, rs_, H', ⟨Nat.le_refl _⟩, by repeat (first | exact Drawn0.refl _ | apply Drawn0.step)⟩
    case round =>
     clear H'
     try clear c1
     try clear c2
     try clear p2
     try clear c5
     try clear c5b0
     try clear c5b1
     try clear c7
     try clear c7b0
     try clear c7b1
     try clear c9
     obtain ⟨x10_1, x32_1, rfl, rfl, HA, HK1, ⟨m1, rfl⟩⟩ := hrel
     cases gk with
     | zero => exact absurd HA.out (by simp [figure_MostTimes.l0])
     | succ k1 =>
      have H := HA.out
      clear HA
      simp only [figure_MostTimes.l0] at H
      by_cases c10 : x32_1 < (l2.length : Int)
      ·rw [if_pos c10] at H
       have c10b0 : decide (x32_1 < (l2.length : Int)) = true := decide_eq_true c10
       clear c10
       by_cases c11 : 0 ≤ x32_1
       ·rw [if_pos c11] at H
        have c11b0 : decide (0 ≤ x32_1) = true := decide_eq_true c11
        clear c11
        by_cases c12 : x32_1 < (l2.length : Int)
        ·rw [if_pos c12] at H
         have c12b0 : decide (x32_1 < (l2.length : Int)) = true := decide_eq_true c12
         clear c12
         by_cases c13 : (rd l2 x32_1) = 0
         ·rw [if_pos c13] at H
          have c13b0 : ((rd l2 x32_1) == 0) = true := beq_iff_eq.mpr c13
          have c13b1 : ((rd l2 x32_1) != 0) = false := bne_eq_false_iff_eq.mpr c13
          clear c13
          have H' := Aside0.mk H
          clear H
          have p740 : 0 ≤ (x32_1 : Int) := of_decide_eq_true as_
          have q740 : x32_1 < (l2.length : Int) := of_decide_eq_true as_
          obtain ⟨ad740, e740, hx740_0⟩ := Kd.at_int HR2.out x32_1 p740 q740
          cases e740
          replace p740 := eq_true p740
          replace q740 := eq_true q740
          go_wp2
          repeat (go_quiet (fail); try go_wp2)
          go_roundg k1
          case measure => have := HK1.out; omega
          case rel => exact ⟨(x10_1), (wrap64 (x32_1 + 1)), rs_, rs_, H', ⟨by have := HK1.out; omega⟩, by repeat (first | exact Drawn0.refl _ | apply Drawn0.step)⟩
         ·rw [if_neg c13] at H
          have c13b0 : ((rd l2 x32_1) == 0) = false := beq_eq_false_iff_ne.mpr c13
          have c13b1 : ((rd l2 x32_1) != 0) = true := bne_iff_ne.mpr c13
          by_cases c14 : x32_1 < (l0.length : Int)
          ·rw [if_pos c14] at H
           have c14b0 : decide (x32_1 < (l0.length : Int)) = true := decide_eq_true c14
           clear c14
           by_cases c15 : x32_1 < (l1.length : Int)
           ·rw [if_pos c15] at H
            have c15b0 : decide (x32_1 < (l1.length : Int)) = true := decide_eq_true c15
            clear c15
            by_cases c16 : x10_1 < 0
            ·rw [if_pos c16] at H
             have c16b0 : decide (x10_1 < 0) = true := decide_eq_true c16
             clear c16
             have H' := Aside0.mk H
             clear H
             have p740 : 0 ≤ (x32_1 : Int) := of_decide_eq_true as_
             have q740 : x32_1 < (l2.length : Int) := of_decide_eq_true as_
             obtain ⟨ad740, e740, hx740_0⟩ := Kd.at_int HR2.out x32_1 p740 q740
             cases e740
             replace p740 := eq_true p740
             replace q740 := eq_true q740
             have p741 : 0 ≤ (x32_1 : Int) := of_decide_eq_true as_
             have q741 : x32_1 < (l0.length : Int) := of_decide_eq_true as_
             obtain ⟨ad741, e741, hx741_0⟩ := Kd.at_int HR0.out x32_1 p741 q741
             cases e741
             replace p741 := eq_true p741
             replace q741 := eq_true q741
             have p742 : 0 ≤ (x32_1 : Int) := of_decide_eq_true as_
             have q742 : x32_1 < (l1.length : Int) := of_decide_eq_true as_
             obtain ⟨ad742, e742, hx742_0⟩ := Kd.at_int HR1.out x32_1 p742 q742
             cases e742
             replace p742 := eq_true p742
             replace q742 := eq_true q742
             go_wp2
             repeat (go_quiet (fail); try go_wp2)
             go_roundg k1
             case measure => have := HK1.out; omega
             case rel => exact ⟨(wrap64 (Int.tdiv (wrap64 ((rd l0 x32_1) - (rd l1 x32_1))) (rd l2 x32_1))), (wrap64 (x32_1 + 1)), rs_, rs_, H', ⟨by have := HK1.out; omega⟩, by repeat (first | exact Drawn0.refl _ | apply Drawn0.step)⟩
            ·rw [if_neg c16] at H
             have c16b0 : decide (x10_1 < 0) = false := decide_eq_false c16
             clear c16
             by_cases c17 : (wrap64 (Int.tdiv (wrap64 ((rd l0 x32_1) - (rd l1 x32_1))) (rd l2 x32_1))) < x10_1
             ·rw [if_pos c17] at H
              have c17b0 : decide ((wrap64 (Int.tdiv (wrap64 ((rd l0 x32_1) - (rd l1 x32_1))) (rd l2 x32_1))) < x10_1) = true := decide_eq_true c17
              clear c17
              have H' := Aside0.mk H
              clear H
              have p740 : 0 ≤ (x32_1 : Int) := of_decide_eq_true as_
              have q740 : x32_1 < (l2.length : Int) := of_decide_eq_true as_
              obtain ⟨ad740, e740, hx740_0⟩ := Kd.at_int HR2.out x32_1 p740 q740
              cases e740
              replace p740 := eq_true p740
              replace q740 := eq_true q740
              have p741 : 0 ≤ (x32_1 : Int) := of_decide_eq_true as_
              have q741 : x32_1 < (l0.length : Int) := of_decide_eq_true as_
              obtain ⟨ad741, e741, hx741_0⟩ := Kd.at_int HR0.out x32_1 p741 q741
              cases e741
              replace p741 := eq_true p741
              replace q741 := eq_true q741
              have p742 : 0 ≤ (x32_1 : Int) := of_decide_eq_true as_
              have q742 : x32_1 < (l1.length : Int) := of_decide_eq_true as_
              obtain ⟨ad742, e742, hx742_0⟩ := Kd.at_int HR1.out x32_1 p742 q742
              cases e742
              replace p742 := eq_true p742
              replace q742 := eq_true q742
              go_wp2
              repeat (go_quiet (fail); try go_wp2)
              go_roundg k1
              case measure => have := HK1.out; omega
              case rel => exact ⟨(wrap64 (Int.tdiv (wrap64 ((rd l0 x32_1) - (rd l1 x32_1))) (rd l2 x32_1))), (wrap64 (x32_1 + 1)), rs_, rs_, H', ⟨by have := HK1.out; omega⟩, by repeat (first | exact Drawn0.refl _ | apply Drawn0.step)⟩
             ·rw [if_neg c17] at H
              have c17b0 : decide ((wrap64 (Int.tdiv (wrap64 ((rd l0 x32_1) - (rd l1 x32_1))) (rd l2 x32_1))) < x10_1) = false := decide_eq_false c17
              clear c17
              have H' := Aside0.mk H
              clear H
              have p740 : 0 ≤ (x32_1 : Int) := of_decide_eq_true as_
              have q740 : x32_1 < (l2.length : Int) := of_decide_eq_true as_
              obtain ⟨ad740, e740, hx740_0⟩ := Kd.at_int HR2.out x32_1 p740 q740
              cases e740
              replace p740 := eq_true p740
              replace q740 := eq_true q740
              have p741 : 0 ≤ (x32_1 : Int) := of_decide_eq_true as_
              have q741 : x32_1 < (l0.length : Int) := of_decide_eq_true as_
              obtain ⟨ad741, e741, hx741_0⟩ := Kd.at_int HR0.out x32_1 p741 q741
              cases e741
              replace p741 := eq_true p741
              replace q741 := eq_true q741
              have p742 : 0 ≤ (x32_1 : Int) := of_decide_eq_true as_
              have q742 : x32_1 < (l1.length : Int) := of_decide_eq_true as_
              obtain ⟨ad742, e742, hx742_0⟩ := Kd.at_int HR1.out x32_1 p742 q742
              cases e742
              replace p742 := eq_true p742
              replace q742 := eq_true q742
              go_wp2
              repeat (go_quiet (fail); try go_wp2)
              go_roundg k1
              case measure => have := HK1.out; omega
              case rel => exact ⟨(x10_1), (wrap64 (x32_1 + 1)), rs_, rs_, H', ⟨by have := HK1.out; omega⟩, by repeat (first | exact Drawn0.refl _ | apply Drawn0.step)⟩
           ·rw [if_neg c15] at H
            exact absurd H (by simp)
          ·rw [if_neg c14] at H
           exact absurd H (by simp)
        ·rw [if_neg c12] at H
         exact absurd H (by simp)
       ·rw [if_neg c11] at H
        exact absurd H (by simp)
      ·rw [if_neg c10] at H
       have c10b0 : decide (x32_1 < (l2.length : Int)) = false := decide_eq_false c10
       clear c10
       by_cases c18 : x10_1 < 0
       ·rw [if_pos c18] at H
        have c18b0 : decide (x10_1 < 0) = true := decide_eq_true c18
        clear c18
        simp only [Option.some.injEq, Prod.mk.injEq] at H
        obtain ⟨rfl, rfl⟩ := H
        go_wp2
        repeat (go_quiet (fail); try go_wp2)
        go_ret2
        exact ⟨by first | rfl | (simp; done) | (simp [*]; done), by repeat (first | exact Drawn0.refl _ | apply Drawn0.step)⟩
       ·rw [if_neg c18] at H
        have c18b0 : decide (x10_1 < 0) = false := decide_eq_false c18
        clear c18
        simp only [Option.some.injEq, Prod.mk.injEq] at H
        obtain ⟨rfl, rfl⟩ := H
        go_wp2
        repeat (go_quiet (fail); try go_wp2)
        go_ret2
        exact ⟨by first | rfl | (simp; done) | (simp [*]; done), by repeat (first | exact Drawn0.refl _ | apply Drawn0.step)⟩
  ·rw [if_neg c7] at H
   have c7b0 : (t738 == 0) = false := beq_eq_false_iff_ne.mpr c7
   have c7b1 : (t738 != 0) = true := bne_iff_ne.mpr c7
   simp only [Option.some.injEq, Prod.mk.injEq] at H
   obtain ⟨rfl, rfl⟩ := H
   go_enter Try.func52, Try.ntmps52
   go_wp2_with (first | (go_at_call 90; (with_reducible refine (figure_checkBoth.calls k _ _ l0 _ _ l1 t737 _ ?side1 ?side2 ?side3 ?side4 A4.out).mono ?_); (case side1 => repeat (first | exact HR0.out | (with_reducible refine Kd.C_alloc ?_ _) | (with_reducible refine Kd.C_drewN ?_ _) | (with_reducible refine Kd.C_drew ?_))); (case side2 => exact HC0.out); (case side3 => repeat (first | exact HR1.out | (with_reducible refine Kd.C_alloc ?_ _) | (with_reducible refine Kd.C_drewN ?_ _) | (with_reducible refine Kd.C_drew ?_))); (case side4 => exact HC1.out); rintro e w' ⟨rfl, ⟨nd, rfl⟩⟩; (try first | exact ⟨rfl, _, World.drewN_drewN _ _ _⟩ | exact ⟨rfl, _, Eq.trans (World.drewN_drewN _ _ _) (congrArg (World.drewN _) (Nat.add_assoc _ _ _))⟩)) | (go_at_call 86; (with_reducible refine (figure_checkWear.calls k _ _ l2 (l0.length : Int) t738 _ ?side1 ?side2 A6.out).mono ?_); (case side1 => repeat (first | exact HR2.out | (with_reducible refine Kd.C_alloc ?_ _) | (with_reducible refine Kd.C_drewN ?_ _) | (with_reducible refine Kd.C_drew ?_))); (case side2 => exact HC2.out); rintro e w' ⟨rfl, ⟨nd, rfl⟩⟩; (try first | exact ⟨rfl, _, World.drewN_drewN _ _ _⟩ | exact ⟨rfl, _, Eq.trans (World.drewN_drewN _ _ _) (congrArg (World.drewN _) (Nat.add_assoc _ _ _))⟩)))
   repeat (go_quiet (first | (go_at_call 90; (with_reducible refine (figure_checkBoth.calls k _ _ l0 _ _ l1 t737 _ ?side1 ?side2 ?side3 ?side4 A4.out).mono ?_); (case side1 => repeat (first | exact HR0.out | (with_reducible refine Kd.C_alloc ?_ _) | (with_reducible refine Kd.C_drewN ?_ _) | (with_reducible refine Kd.C_drew ?_))); (case side2 => exact HC0.out); (case side3 => repeat (first | exact HR1.out | (with_reducible refine Kd.C_alloc ?_ _) | (with_reducible refine Kd.C_drewN ?_ _) | (with_reducible refine Kd.C_drew ?_))); (case side4 => exact HC1.out); rintro e w' ⟨rfl, ⟨nd, rfl⟩⟩; (try first | exact ⟨rfl, _, World.drewN_drewN _ _ _⟩ | exact ⟨rfl, _, Eq.trans (World.drewN_drewN _ _ _) (congrArg (World.drewN _) (Nat.add_assoc _ _ _))⟩)) | (go_at_call 86; (with_reducible refine (figure_checkWear.calls k _ _ l2 (l0.length : Int) t738 _ ?side1 ?side2 A6.out).mono ?_); (case side1 => repeat (first | exact HR2.out | (with_reducible refine Kd.C_alloc ?_ _) | (with_reducible refine Kd.C_drewN ?_ _) | (with_reducible refine Kd.C_drew ?_))); (case side2 => exact HC2.out); rintro e w' ⟨rfl, ⟨nd, rfl⟩⟩; (try first | exact ⟨rfl, _, World.drewN_drewN _ _ _⟩ | exact ⟨rfl, _, Eq.trans (World.drewN_drewN _ _ _) (congrArg (World.drewN _) (Nat.add_assoc _ _ _))⟩))); try go_wp2_with (first | (go_at_call 90; (with_reducible refine (figure_checkBoth.calls k _ _ l0 _ _ l1 t737 _ ?side1 ?side2 ?side3 ?side4 A4.out).mono ?_); (case side1 => repeat (first | exact HR0.out | (with_reducible refine Kd.C_alloc ?_ _) | (with_reducible refine Kd.C_drewN ?_ _) | (with_reducible refine Kd.C_drew ?_))); (case side2 => exact HC0.out); (case side3 => repeat (first | exact HR1.out | (with_reducible refine Kd.C_alloc ?_ _) | (with_reducible refine Kd.C_drewN ?_ _) | (with_reducible refine Kd.C_drew ?_))); (case side4 => exact HC1.out); rintro e w' ⟨rfl, ⟨nd, rfl⟩⟩; (try first | exact ⟨rfl, _, World.drewN_drewN _ _ _⟩ | exact ⟨rfl, _, Eq.trans (World.drewN_drewN _ _ _) (congrArg (World.drewN _) (Nat.add_assoc _ _ _))⟩)) | (go_at_call 86; (with_reducible refine (figure_checkWear.calls k _ _ l2 (l0.length : Int) t738 _ ?side1 ?side2 A6.out).mono ?_); (case side1 => repeat (first | exact HR2.out | (with_reducible refine Kd.C_alloc ?_ _) | (with_reducible refine Kd.C_drewN ?_ _) | (with_reducible refine Kd.C_drew ?_))); (case side2 => exact HC2.out); rintro e w' ⟨rfl, ⟨nd, rfl⟩⟩; (try first | exact ⟨rfl, _, World.drewN_drewN _ _ _⟩ | exact ⟨rfl, _, Eq.trans (World.drewN_drewN _ _ _) (congrArg (World.drewN _) (Nat.add_assoc _ _ _))⟩))))
   go_ret2
   exact ⟨by first | rfl | (simp; done) | (simp [*]; done), by repeat (first | exact Drawn0.refl _ | apply Drawn0.step)⟩
 ·rw [if_neg c5] at H
  have c5b0 : (t737 == 0) = false := beq_eq_false_iff_ne.mpr c5
  have c5b1 : (t737 != 0) = true := bne_iff_ne.mpr c5
  simp only [Option.some.injEq, Prod.mk.injEq] at H
  obtain ⟨rfl, rfl⟩ := H
  go_enter Try.func52, Try.ntmps52
  go_wp2_with (first | (go_at_call 90; (with_reducible refine (figure_checkBoth.calls k _ _ l0 _ _ l1 t737 _ ?side1 ?side2 ?side3 ?side4 A4.out).mono ?_); (case side1 => repeat (first | exact HR0.out | (with_reducible refine Kd.C_alloc ?_ _) | (with_reducible refine Kd.C_drewN ?_ _) | (with_reducible refine Kd.C_drew ?_))); (case side2 => exact HC0.out); (case side3 => repeat (first | exact HR1.out | (with_reducible refine Kd.C_alloc ?_ _) | (with_reducible refine Kd.C_drewN ?_ _) | (with_reducible refine Kd.C_drew ?_))); (case side4 => exact HC1.out); rintro e w' ⟨rfl, ⟨nd, rfl⟩⟩; (try first | exact ⟨rfl, _, World.drewN_drewN _ _ _⟩ | exact ⟨rfl, _, Eq.trans (World.drewN_drewN _ _ _) (congrArg (World.drewN _) (Nat.add_assoc _ _ _))⟩)))
  repeat (go_quiet (first | (go_at_call 90; (with_reducible refine (figure_checkBoth.calls k _ _ l0 _ _ l1 t737 _ ?side1 ?side2 ?side3 ?side4 A4.out).mono ?_); (case side1 => repeat (first | exact HR0.out | (with_reducible refine Kd.C_alloc ?_ _) | (with_reducible refine Kd.C_drewN ?_ _) | (with_reducible refine Kd.C_drew ?_))); (case side2 => exact HC0.out); (case side3 => repeat (first | exact HR1.out | (with_reducible refine Kd.C_alloc ?_ _) | (with_reducible refine Kd.C_drewN ?_ _) | (with_reducible refine Kd.C_drew ?_))); (case side4 => exact HC1.out); rintro e w' ⟨rfl, ⟨nd, rfl⟩⟩; (try first | exact ⟨rfl, _, World.drewN_drewN _ _ _⟩ | exact ⟨rfl, _, Eq.trans (World.drewN_drewN _ _ _) (congrArg (World.drewN _) (Nat.add_assoc _ _ _))⟩))); try go_wp2_with (first | (go_at_call 90; (with_reducible refine (figure_checkBoth.calls k _ _ l0 _ _ l1 t737 _ ?side1 ?side2 ?side3 ?side4 A4.out).mono ?_); (case side1 => repeat (first | exact HR0.out | (with_reducible refine Kd.C_alloc ?_ _) | (with_reducible refine Kd.C_drewN ?_ _) | (with_reducible refine Kd.C_drew ?_))); (case side2 => exact HC0.out); (case side3 => repeat (first | exact HR1.out | (with_reducible refine Kd.C_alloc ?_ _) | (with_reducible refine Kd.C_drewN ?_ _) | (with_reducible refine Kd.C_drew ?_))); (case side4 => exact HC1.out); rintro e w' ⟨rfl, ⟨nd, rfl⟩⟩; (try first | exact ⟨rfl, _, World.drewN_drewN _ _ _⟩ | exact ⟨rfl, _, Eq.trans (World.drewN_drewN _ _ _) (congrArg (World.drewN _) (Nat.add_assoc _ _ _))⟩))))
  go_ret2
  exact ⟨by first | rfl | (simp; done) | (simp [*]; done), by repeat (first | exact Drawn0.refl _ | apply Drawn0.step)⟩
end Go.Proofs.Ytdkahcolfcmmpaa.Pr
namespace Go.Proofs.Ytdkahcolfcmmpaa.Pr
open Go.RowKit Go.Proofs.YtdkahcolfcmmpaaW.PrintWords Go.Proofs.YtdkahcolfcmmpaaW.PrintLast Go.Proofs.YtdkahcolfcmmpaaW.PrintMore
attribute [local go_sem] max2_int min2_int max_two min_two max_three min_three max_four min_four   -- for this text's walks alone
set_option linter.unusedVariables false
set_option linter.unusedSimpArgs false
def speculumbase_Within.f (a0 : Int) (a1 : Int) (a2 : Int) : Option (Bool) := if a0 ≥ a1 then (some (decide (a0 ≤ a2))) else (some false)
set_option maxHeartbeats 8000000 in
set_option maxRecDepth 100000 in
theorem speculumbase_Within.calls (a0 : Int) (a1 : Int) (a2 : Int) (r : Bool) (w : World) (h : speculumbase_Within.f a0 a1 a2 = some r) :
  Calls Try.prog 28 #[.int .i64 a0, .int .i64 a1, .int .i64 a2] w fun e w' => e = .returned (.bool r) ∧ Drawn0 w w' := by
 have H : (if a0 ≥ a1 then (some (decide (a0 ≤ a2))) else (some false)) = some r := h
 clear h
 by_cases c4 : a0 ≥ a1
 ·rw [if_pos c4] at H
  have c4b0 : decide (a1 ≤ a0) = true := decide_eq_true c4
  clear c4
  obtain rfl := Option.some.inj H
  go_enter Try.func28, Try.ntmps28
  go_wp2
  go_ret
  exact ⟨by first | rfl | (simp; done) | (simp [*]; done), by repeat (first | exact Drawn0.refl _ | apply Drawn0.step)⟩
 ·rw [if_neg c4] at H
  have c4b0 : decide (a1 ≤ a0) = false := decide_eq_false c4
  clear c4
  obtain rfl := Option.some.inj H
  go_enter Try.func28, Try.ntmps28
  go_wp2
  go_ret
  exact ⟨by first | rfl | (simp; done) | (simp [*]; done), by repeat (first | exact Drawn0.refl _ | apply Drawn0.step)⟩
end Go.Proofs.Ytdkahcolfcmmpaa.Pr
namespace Go.Proofs.Ytdkahcolfcmmpaa.Pr
open Go.RowKit Go.Proofs.YtdkahcolfcmmpaaW.PrintWords Go.Proofs.YtdkahcolfcmmpaaW.PrintLast Go.Proofs.YtdkahcolfcmmpaaW.PrintMore
attribute [local go_sem] max2_int min2_int max_two min_two max_three min_three max_four min_four   -- for this text's walks alone
set_option linter.unusedVariables false
set_option linter.unusedSimpArgs false
def speculumref06_WearErr.l0 : Nat → Int → List Int → Int → Option (Int)
 | 0, _, _, _ => none
 | k + 1, x0, x1, x5 => if x5 < x0 then (if 0 ≤ x5 then (if x5 < (x1.length : Int) then ((speculumbase_Within.f (rd x1 x5) 0 100000).bind fun t616 => (if t616 = true then (speculumref06_WearErr.l0 k x0 x1 (wrap64 (x5 + 1))) else (some 2))) else (none)) else (none)) else (some 0)
def speculumref06_WearErr.f (k : Nat) (a0 : Int) (l1 : List Int) : Option (Int) := if (l1.length : Int) = a0 then (speculumref06_WearErr.l0 k a0 l1 0) else (some 10)
set_option maxHeartbeats 8000000 in
set_option maxRecDepth 100000 in
theorem speculumref06_WearErr.calls (k : Nat) (a0 : Int) (A1 : Option Addr) (c1 : Nat) (l1 : List Int) (r : Int) (w : World) (hr1 : Kd.C (Kd.int .i64) w A1 l1.length l1) (hc1 : l1.length ≤ c1) (h : speculumref06_WearErr.f k a0 l1 = some r) :
  Calls Try.prog 88 #[.int .i64 a0, .slice A1 l1.length c1] w fun e w' => e = .returned (.int .i64 r) ∧ Drawn0 w w' := by
 have HR1 := Aside0.mk hr1
 have HC1 := Aside0.mk hc1
 clear hr1 hc1
 have H : (if (l1.length : Int) = a0 then (speculumref06_WearErr.l0 k a0 l1 0) else (some 10)) = some r := h
 clear h
 by_cases c3 : (l1.length : Int) = a0
 ·rw [if_pos c3] at H
  have c3b0 : ((l1.length : Int) == a0) = true := beq_iff_eq.mpr c3
  have c3b1 : ((l1.length : Int) != a0) = false := bne_eq_false_iff_eq.mpr c3
  clear c3
  have H' := Aside0.mk H
  clear H
  go_enter Try.func88, Try.ntmps88
  go_wp2
  go_loopg [5] k (fun kq v5 w' => ∃ (x5_1 : Int), v5 = .int .i64 x5_1 ∧ Aside0 (speculumref06_WearErr.l0 kq a0 l1 x5_1 = some r) ∧ Aside0 (kq ≤ k) ∧ Drawn0 w w')
  case atStart => exact ⟨(0), rs_, H', ⟨Nat.le_refl _⟩, by repeat (first | exact Drawn0.refl _ | apply Drawn0.step)⟩
  case round =>
   clear H'
   try clear c1
   try clear p2
   try clear c3
   try clear c3b0
   try clear c3b1
   obtain ⟨x5_1, rfl, HA, HK1, ⟨m1, rfl⟩⟩ := hrel
   cases gk with
   | zero => exact absurd HA.out (by simp [speculumref06_WearErr.l0])
   | succ k1 =>
    have H := HA.out
    clear HA
    simp only [speculumref06_WearErr.l0] at H
    by_cases c4 : x5_1 < a0
    ·rw [if_pos c4] at H
     have c4b0 : decide (x5_1 < a0) = true := decide_eq_true c4
     clear c4
     by_cases c5 : 0 ≤ x5_1
     ·rw [if_pos c5] at H
      have c5b0 : decide (0 ≤ x5_1) = true := decide_eq_true c5
      clear c5
      by_cases c6 : x5_1 < (l1.length : Int)
      ·rw [if_pos c6] at H
       have c6b0 : decide (x5_1 < (l1.length : Int)) = true := decide_eq_true c6
       clear c6
       replace H := Option.bind_eq_some_iff.mp H
       obtain ⟨t616, A70, H⟩ := H
       replace H : (if t616 = true then (speculumref06_WearErr.l0 k1 a0 l1 (wrap64 (x5_1 + 1))) else (some 2)) = some r := H
       have A7 := Aside0.mk A70
       clear A70
       by_cases c8 : t616 = true
       ·subst c8
        have H1 : (speculumref06_WearErr.l0 k1 a0 l1 (wrap64 (x5_1 + 1))) = some r := by rw [if_pos rfl] at H; exact H
        clear H
        have H := H1
        clear H1
        have H' := Aside0.mk H
        clear H
        have p615 : 0 ≤ (x5_1 : Int) := of_decide_eq_true as_
        have q615 : x5_1 < (l1.length : Int) := of_decide_eq_true as_
        obtain ⟨ad615, e615, hx615_0⟩ := Kd.at_int HR1.out x5_1 p615 q615
        cases e615
        replace p615 := eq_true p615
        replace q615 := eq_true q615
        go_wp2_with (first | ((with_reducible refine gate_callee (f := 28) rfl ?_); refine goesL_ (some 19) rfl rfl Try.func28 (by kernel_rfl) rfl #[.int .i64 (rd l1 x5_1), .int .i64 0, .int .i64 100000] rfl ma_ ?_; (with_reducible refine (speculumbase_Within.calls (rd l1 x5_1) 0 100000 true _ A7.out).mono ?_); rintro e w' ⟨rfl, ⟨nd, rfl⟩⟩; refine ⟨_, rfl, ?_⟩))
        go_roundg k1
        case measure => have := HK1.out; omega
        case rel => exact ⟨(wrap64 (x5_1 + 1)), rs_, H', ⟨by have := HK1.out; omega⟩, by repeat (first | exact Drawn0.refl _ | apply Drawn0.step)⟩
       ·replace c8 := Bool.eq_false_iff.mpr c8
        subst c8
        have H1 : (some 2) = some r := by rw [if_neg (show ¬ (false = true) by decide)] at H; exact H
        clear H
        have H := H1
        clear H1
        obtain rfl := Option.some.inj H
        have p615 : 0 ≤ (x5_1 : Int) := of_decide_eq_true as_
        have q615 : x5_1 < (l1.length : Int) := of_decide_eq_true as_
        obtain ⟨ad615, e615, hx615_0⟩ := Kd.at_int HR1.out x5_1 p615 q615
        cases e615
        replace p615 := eq_true p615
        replace q615 := eq_true q615
        go_wp2_with (first | ((with_reducible refine gate_callee (f := 28) rfl ?_); refine goesL_ (some 19) rfl rfl Try.func28 (by kernel_rfl) rfl #[.int .i64 (rd l1 x5_1), .int .i64 0, .int .i64 100000] rfl ma_ ?_; (with_reducible refine (speculumbase_Within.calls (rd l1 x5_1) 0 100000 false _ A7.out).mono ?_); rintro e w' ⟨rfl, ⟨nd, rfl⟩⟩; refine ⟨_, rfl, ?_⟩))
        go_ret
        exact ⟨by first | rfl | (simp; done) | (simp [*]; done), by repeat (first | exact Drawn0.refl _ | apply Drawn0.step)⟩
      ·rw [if_neg c6] at H
       exact absurd H (by simp)
     ·rw [if_neg c5] at H
      exact absurd H (by simp)
    ·rw [if_neg c4] at H
     have c4b0 : decide (x5_1 < a0) = false := decide_eq_false c4
     clear c4
     obtain rfl := Option.some.inj H
     go_wp2
     go_ret
     exact ⟨by first | rfl | (simp; done) | (simp [*]; done), by repeat (first | exact Drawn0.refl _ | apply Drawn0.step)⟩
 ·rw [if_neg c3] at H
  have c3b0 : ((l1.length : Int) == a0) = false := beq_eq_false_iff_ne.mpr c3
  have c3b1 : ((l1.length : Int) != a0) = true := bne_iff_ne.mpr c3
  obtain rfl := Option.some.inj H
  go_enter Try.func88, Try.ntmps88
  go_wp2
  go_ret
  exact ⟨by first | rfl | (simp; done) | (simp [*]; done), by repeat (first | exact Drawn0.refl _ | apply Drawn0.step)⟩
end Go.Proofs.Ytdkahcolfcmmpaa.Pr
namespace Go.Proofs.Ytdkahcolfcmmpaa.Pr
open Go.RowKit Go.Proofs.YtdkahcolfcmmpaaW.PrintWords Go.Proofs.YtdkahcolfcmmpaaW.PrintLast Go.Proofs.YtdkahcolfcmmpaaW.PrintMore
attribute [local go_sem] max2_int min2_int max_two min_two max_three min_three max_four min_four   -- for this text's walks alone
set_option linter.unusedVariables false
set_option linter.unusedSimpArgs false
def speculumref06_isHeight.f (a0 : Int) : Option (Bool) := (speculumbase_Within.f a0 (-100000) 100000).bind fun t269 => (some t269)
set_option maxHeartbeats 8000000 in
set_option maxRecDepth 100000 in
theorem speculumref06_isHeight.calls (a0 : Int) (r : Bool) (w : World) (h : speculumref06_isHeight.f a0 = some r) :
  Calls Try.prog 64 #[.int .i64 a0] w fun e w' => e = .returned (.bool r) ∧ Drawn0 w w' := by
 have H : ((speculumbase_Within.f a0 (-100000) 100000).bind fun t269 => (some t269)) = some r := h
 clear h
 replace H := Option.bind_eq_some_iff.mp H
 obtain ⟨t269, A20, H⟩ := H
 replace H : (some t269) = some r := H
 have A2 := Aside0.mk A20
 clear A20
 obtain rfl := Option.some.inj H
 go_enter Try.func64, Try.ntmps64
 go_wp2_with (first | ((with_reducible refine gate_callee (f := 28) rfl ?_); refine goesL_ (some 4) rfl rfl Try.func28 (by kernel_rfl) rfl #[.int .i64 a0, .int .i64 (-100000), .int .i64 100000] rfl ma_ ?_; (with_reducible refine (speculumbase_Within.calls a0 (-100000) 100000 t269 _ A2.out).mono ?_); rintro e w' ⟨rfl, ⟨nd, rfl⟩⟩; refine ⟨_, rfl, ?_⟩))
 go_ret
 exact ⟨by first | rfl | (simp; done) | (simp [*]; done), by repeat (first | exact Drawn0.refl _ | apply Drawn0.step)⟩
end Go.Proofs.Ytdkahcolfcmmpaa.Pr
namespace Go.Proofs.Ytdkahcolfcmmpaa.Pr
open Go.RowKit Go.Proofs.YtdkahcolfcmmpaaW.PrintWords Go.Proofs.YtdkahcolfcmmpaaW.PrintLast Go.Proofs.YtdkahcolfcmmpaaW.PrintMore
attribute [local go_sem] max2_int min2_int max_two min_two max_three min_three max_four min_four   -- for this text's walks alone
set_option linter.unusedVariables false
set_option linter.unusedSimpArgs false
def speculumref06_HeightsErr.l0 : Nat → List Int → Int → Option (Int)
 | 0, _, _ => none
 | k + 1, x0, x3 => if x3 < (x0.length : Int) then (if 0 ≤ x3 then ((speculumref06_isHeight.f (rd x0 x3)).bind fun t614 => (if t614 = true then (speculumref06_HeightsErr.l0 k x0 (wrap64 (x3 + 1))) else (some 2))) else (none)) else (some 0)
def speculumref06_HeightsErr.f (k : Nat) (l0 : List Int) : Option (Int) := (speculumbase_Within.f (l0.length : Int) 1 40).bind fun t612 => (if t612 = true then (speculumref06_HeightsErr.l0 k l0 0) else (some 10))
set_option maxHeartbeats 8000000 in
set_option maxRecDepth 100000 in
theorem speculumref06_HeightsErr.calls (k : Nat) (A0 : Option Addr) (c0 : Nat) (l0 : List Int) (r : Int) (w : World) (hr0 : Kd.C (Kd.int .i64) w A0 l0.length l0) (hc0 : l0.length ≤ c0) (h : speculumref06_HeightsErr.f k l0 = some r) :
  Calls Try.prog 87 #[.slice A0 l0.length c0] w fun e w' => e = .returned (.int .i64 r) ∧ Drawn0 w w' := by
 have HR0 := Aside0.mk hr0
 have HC0 := Aside0.mk hc0
 clear hr0 hc0
 have H : ((speculumbase_Within.f (l0.length : Int) 1 40).bind fun t612 => (if t612 = true then (speculumref06_HeightsErr.l0 k l0 0) else (some 10))) = some r := h
 clear h
 replace H := Option.bind_eq_some_iff.mp H
 obtain ⟨t612, A20, H⟩ := H
 replace H : (if t612 = true then (speculumref06_HeightsErr.l0 k l0 0) else (some 10)) = some r := H
 have A2 := Aside0.mk A20
 clear A20
 by_cases c3 : t612 = true
 ·subst c3
  have H1 : (speculumref06_HeightsErr.l0 k l0 0) = some r := by rw [if_pos rfl] at H; exact H
  clear H
  have H := H1
  clear H1
  have H' := Aside0.mk H
  clear H
  go_enter Try.func87, Try.ntmps87
  go_wp2_with (first | ((with_reducible refine gate_callee (f := 28) rfl ?_); refine goesL_ (some 6) rfl rfl Try.func28 (by kernel_rfl) rfl #[.int .i64 (l0.length : Int), .int .i64 1, .int .i64 40] rfl ma_ ?_; (with_reducible refine (speculumbase_Within.calls (l0.length : Int) 1 40 true _ A2.out).mono ?_); rintro e w' ⟨rfl, ⟨nd, rfl⟩⟩; refine ⟨_, rfl, ?_⟩))
  go_loopg [3] k (fun kq v3 w' => ∃ (x3_1 : Int), v3 = .int .i64 x3_1 ∧ Aside0 (speculumref06_HeightsErr.l0 kq l0 x3_1 = some r) ∧ Aside0 (kq ≤ k) ∧ Drawn0 w w')
  case atStart => exact ⟨(0), rs_, H', ⟨Nat.le_refl _⟩, by repeat (first | exact Drawn0.refl _ | apply Drawn0.step)⟩
  case round =>
   clear H'
   try clear c2
   try clear p2
   try clear c3
   obtain ⟨x3_1, rfl, HA, HK1, ⟨m1, rfl⟩⟩ := hrel
   cases gk with
   | zero => exact absurd HA.out (by simp [speculumref06_HeightsErr.l0])
   | succ k1 =>
    have H := HA.out
    clear HA
    simp only [speculumref06_HeightsErr.l0] at H
    by_cases c4 : x3_1 < (l0.length : Int)
    ·rw [if_pos c4] at H
     have c4b0 : decide (x3_1 < (l0.length : Int)) = true := decide_eq_true c4
     clear c4
     by_cases c5 : 0 ≤ x3_1
     ·rw [if_pos c5] at H
      have c5b0 : decide (0 ≤ x3_1) = true := decide_eq_true c5
      clear c5
      replace H := Option.bind_eq_some_iff.mp H
      obtain ⟨t614, A60, H⟩ := H
      replace H : (if t614 = true then (speculumref06_HeightsErr.l0 k1 l0 (wrap64 (x3_1 + 1))) else (some 2)) = some r := H
      have A6 := Aside0.mk A60
      clear A60
      by_cases c7 : t614 = true
      ·subst c7
       have H1 : (speculumref06_HeightsErr.l0 k1 l0 (wrap64 (x3_1 + 1))) = some r := by rw [if_pos rfl] at H; exact H
       clear H
       have H := H1
       clear H1
       have H' := Aside0.mk H
       clear H
       have p613 : 0 ≤ (x3_1 : Int) := of_decide_eq_true as_
       have q613 : x3_1 < (l0.length : Int) := of_decide_eq_true as_
       obtain ⟨ad613, e613, hx613_0⟩ := Kd.at_int HR0.out x3_1 p613 q613
       cases e613
       replace p613 := eq_true p613
       replace q613 := eq_true q613
       go_wp2_with (first | ((with_reducible refine gate_callee (f := 64) rfl ?_); refine goesL_ (some 18) rfl rfl Try.func64 (by kernel_rfl) rfl #[.int .i64 (rd l0 x3_1)] rfl ma_ ?_; (with_reducible refine (speculumref06_isHeight.calls (rd l0 x3_1) true _ A6.out).mono ?_); rintro e w' ⟨rfl, ⟨nd, rfl⟩⟩; refine ⟨_, rfl, ?_⟩))
       go_roundg k1
       case measure => have := HK1.out; omega
       case rel => exact ⟨(wrap64 (x3_1 + 1)), rs_, H', ⟨by have := HK1.out; omega⟩, by repeat (first | exact Drawn0.refl _ | apply Drawn0.step)⟩
      ·replace c7 := Bool.eq_false_iff.mpr c7
       subst c7
       have H1 : (some 2) = some r := by rw [if_neg (show ¬ (false = true) by decide)] at H; exact H
       clear H
       have H := H1
       clear H1
       obtain rfl := Option.some.inj H
       have p613 : 0 ≤ (x3_1 : Int) := of_decide_eq_true as_
       have q613 : x3_1 < (l0.length : Int) := of_decide_eq_true as_
       obtain ⟨ad613, e613, hx613_0⟩ := Kd.at_int HR0.out x3_1 p613 q613
       cases e613
       replace p613 := eq_true p613
       replace q613 := eq_true q613
       go_wp2_with (first | ((with_reducible refine gate_callee (f := 64) rfl ?_); refine goesL_ (some 18) rfl rfl Try.func64 (by kernel_rfl) rfl #[.int .i64 (rd l0 x3_1)] rfl ma_ ?_; (with_reducible refine (speculumref06_isHeight.calls (rd l0 x3_1) false _ A6.out).mono ?_); rintro e w' ⟨rfl, ⟨nd, rfl⟩⟩; refine ⟨_, rfl, ?_⟩))
       go_ret
       exact ⟨by first | rfl | (simp; done) | (simp [*]; done), by repeat (first | exact Drawn0.refl _ | apply Drawn0.step)⟩
     ·rw [if_neg c5] at H
      exact absurd H (by simp)
    ·rw [if_neg c4] at H
     have c4b0 : decide (x3_1 < (l0.length : Int)) = false := decide_eq_false c4
     clear c4
     obtain rfl := Option.some.inj H
     go_wp2
     go_ret
     exact ⟨by first | rfl | (simp; done) | (simp [*]; done), by repeat (first | exact Drawn0.refl _ | apply Drawn0.step)⟩
 ·replace c3 := Bool.eq_false_iff.mpr c3
  subst c3
  have H1 : (some 10) = some r := by rw [if_neg (show ¬ (false = true) by decide)] at H; exact H
  clear H
  have H := H1
  clear H1
  obtain rfl := Option.some.inj H
  go_enter Try.func87, Try.ntmps87
  go_wp2_with (first | ((with_reducible refine gate_callee (f := 28) rfl ?_); refine goesL_ (some 6) rfl rfl Try.func28 (by kernel_rfl) rfl #[.int .i64 (l0.length : Int), .int .i64 1, .int .i64 40] rfl ma_ ?_; (with_reducible refine (speculumbase_Within.calls (l0.length : Int) 1 40 false _ A2.out).mono ?_); rintro e w' ⟨rfl, ⟨nd, rfl⟩⟩; refine ⟨_, rfl, ?_⟩))
  go_ret
  exact ⟨by first | rfl | (simp; done) | (simp [*]; done), by repeat (first | exact Drawn0.refl _ | apply Drawn0.step)⟩
end Go.Proofs.Ytdkahcolfcmmpaa.Pr
namespace Go.Proofs.Ytdkahcolfcmmpaa.Pr
open Go.RowKit Go.Proofs.YtdkahcolfcmmpaaW.PrintWords Go.Proofs.YtdkahcolfcmmpaaW.PrintLast Go.Proofs.YtdkahcolfcmmpaaW.PrintMore
attribute [local go_sem] max2_int min2_int max_two min_two max_three min_three max_four min_four   -- for this text's walks alone
set_option linter.unusedVariables false
set_option linter.unusedSimpArgs false
def speculumref06_TwoErr.f (k : Nat) (l0 : List Int) (l1 : List Int) : Option (Int) := (speculumref06_HeightsErr.f k l0).bind fun t700 => (if t700 = 0 then (if (l1.length : Int) = (l0.length : Int) then ((speculumref06_HeightsErr.f k l1).bind fun t701 => (some t701)) else (some 10)) else (some t700))
set_option maxHeartbeats 8000000 in
set_option maxRecDepth 100000 in
theorem speculumref06_TwoErr.calls (k : Nat) (A0 : Option Addr) (c0 : Nat) (l0 : List Int) (A1 : Option Addr) (c1 : Nat) (l1 : List Int) (r : Int) (w : World) (hr0 : Kd.C (Kd.int .i64) w A0 l0.length l0) (hc0 : l0.length ≤ c0) (hr1 : Kd.C (Kd.int .i64) w A1 l1.length l1) (hc1 : l1.length ≤ c1) (h : speculumref06_TwoErr.f k l0 l1 = some r) :
  Calls Try.prog 92 #[.slice A0 l0.length c0, .slice A1 l1.length c1] w fun e w' => e = .returned (.int .i64 r) ∧ Drawn0 w w' := by
 have HR0 := Aside0.mk hr0
 have HC0 := Aside0.mk hc0
 clear hr0 hc0
 have HR1 := Aside0.mk hr1
 have HC1 := Aside0.mk hc1
 clear hr1 hc1
 have H : ((speculumref06_HeightsErr.f k l0).bind fun t700 => (if t700 = 0 then (if (l1.length : Int) = (l0.length : Int) then ((speculumref06_HeightsErr.f k l1).bind fun t701 => (some t701)) else (some 10)) else (some t700))) = some r := h
 clear h
 replace H := Option.bind_eq_some_iff.mp H
 obtain ⟨t700, A30, H⟩ := H
 replace H : (if t700 = 0 then (if (l1.length : Int) = (l0.length : Int) then ((speculumref06_HeightsErr.f k l1).bind fun t701 => (some t701)) else (some 10)) else (some t700)) = some r := H
 have A3 := Aside0.mk A30
 clear A30
 by_cases c4 : t700 = 0
 ·rw [if_pos c4] at H
  have c4b0 : (t700 == 0) = true := beq_iff_eq.mpr c4
  have c4b1 : (t700 != 0) = false := bne_eq_false_iff_eq.mpr c4
  clear c4
  by_cases c5 : (l1.length : Int) = (l0.length : Int)
  ·rw [if_pos c5] at H
   have c5b0 : ((l1.length : Int) == (l0.length : Int)) = true := beq_iff_eq.mpr c5
   have c5b1 : ((l1.length : Int) != (l0.length : Int)) = false := bne_eq_false_iff_eq.mpr c5
   have c5b2 : (l1.length == l0.length) = true := by first | simpa using c5 | (simp at c5 ⊢; omega)
   clear c5
   replace H := Option.bind_eq_some_iff.mp H
   obtain ⟨t701, A60, H⟩ := H
   replace H : (some t701) = some r := H
   have A6 := Aside0.mk A60
   clear A60
   obtain rfl := Option.some.inj H
   go_enter Try.func92, Try.ntmps92
   go_wp2_with (first | ((with_reducible refine gate_callee (f := 87) rfl ?_); refine goesL_ (some 7) rfl rfl Try.func87 (by kernel_rfl) rfl #[.slice A0 l0.length c0] rfl ma_ ?_; (with_reducible refine (speculumref06_HeightsErr.calls k _ _ l0 t700 _ ?side1 ?side2 A3.out).mono ?_); (case side1 => repeat (first | exact HR0.out | (with_reducible refine Kd.C_alloc ?_ _) | (with_reducible refine Kd.C_drewN ?_ _) | (with_reducible refine Kd.C_drew ?_))); (case side2 => exact HC0.out); rintro e w' ⟨rfl, ⟨nd, rfl⟩⟩; refine ⟨_, rfl, ?_⟩) | ((with_reducible refine gate_callee (f := 87) rfl ?_); refine goesL_ (some 17) rfl rfl Try.func87 (by kernel_rfl) rfl #[.slice A1 l1.length c1] rfl ma_ ?_; (with_reducible refine (speculumref06_HeightsErr.calls k _ _ l1 t701 _ ?side1 ?side2 A6.out).mono ?_); (case side1 => repeat (first | exact HR1.out | (with_reducible refine Kd.C_alloc ?_ _) | (with_reducible refine Kd.C_drewN ?_ _) | (with_reducible refine Kd.C_drew ?_))); (case side2 => exact HC1.out); rintro e w' ⟨rfl, ⟨nd, rfl⟩⟩; refine ⟨_, rfl, ?_⟩))
   go_ret
   exact ⟨by first | rfl | (simp; done) | (simp [*]; done), by repeat (first | exact Drawn0.refl _ | apply Drawn0.step)⟩
  ·rw [if_neg c5] at H
   have c5b0 : ((l1.length : Int) == (l0.length : Int)) = false := beq_eq_false_iff_ne.mpr c5
   have c5b1 : ((l1.length : Int) != (l0.length : Int)) = true := bne_iff_ne.mpr c5
   have c5b2 : (l1.length == l0.length) = false := by first | simpa using c5 | (simp at c5 ⊢; omega)
   obtain rfl := Option.some.inj H
   go_enter Try.func92, Try.ntmps92
   go_wp2_with (first | ((with_reducible refine gate_callee (f := 87) rfl ?_); refine goesL_ (some 7) rfl rfl Try.func87 (by kernel_rfl) rfl #[.slice A0 l0.length c0] rfl ma_ ?_; (with_reducible refine (speculumref06_HeightsErr.calls k _ _ l0 t700 _ ?side1 ?side2 A3.out).mono ?_); (case side1 => repeat (first | exact HR0.out | (with_reducible refine Kd.C_alloc ?_ _) | (with_reducible refine Kd.C_drewN ?_ _) | (with_reducible refine Kd.C_drew ?_))); (case side2 => exact HC0.out); rintro e w' ⟨rfl, ⟨nd, rfl⟩⟩; refine ⟨_, rfl, ?_⟩))
   go_ret
   exact ⟨by first | rfl | (simp; done) | (simp [*]; done), by repeat (first | exact Drawn0.refl _ | apply Drawn0.step)⟩
 ·rw [if_neg c4] at H
  have c4b0 : (t700 == 0) = false := beq_eq_false_iff_ne.mpr c4
  have c4b1 : (t700 != 0) = true := bne_iff_ne.mpr c4
  obtain rfl := Option.some.inj H
  go_enter Try.func92, Try.ntmps92
  go_wp2_with (first | ((with_reducible refine gate_callee (f := 87) rfl ?_); refine goesL_ (some 7) rfl rfl Try.func87 (by kernel_rfl) rfl #[.slice A0 l0.length c0] rfl ma_ ?_; (with_reducible refine (speculumref06_HeightsErr.calls k _ _ l0 t700 _ ?side1 ?side2 A3.out).mono ?_); (case side1 => repeat (first | exact HR0.out | (with_reducible refine Kd.C_alloc ?_ _) | (with_reducible refine Kd.C_drewN ?_ _) | (with_reducible refine Kd.C_drew ?_))); (case side2 => exact HC0.out); rintro e w' ⟨rfl, ⟨nd, rfl⟩⟩; refine ⟨_, rfl, ?_⟩))
  go_ret
  exact ⟨by first | rfl | (simp; done) | (simp [*]; done), by repeat (first | exact Drawn0.refl _ | apply Drawn0.step)⟩
end Go.Proofs.Ytdkahcolfcmmpaa.Pr
namespace Go.Proofs.Ytdkahcolfcmmpaa.Pr
open Go.RowKit Go.Proofs.YtdkahcolfcmmpaaW.PrintWords Go.Proofs.YtdkahcolfcmmpaaW.PrintLast Go.Proofs.YtdkahcolfcmmpaaW.PrintMore
attribute [local go_sem] max2_int min2_int max_two min_two max_three min_three max_four min_four   -- for this text's walks alone
set_option linter.unusedVariables false
set_option linter.unusedSimpArgs false
def speculumref06_below.l0 : Nat → List Int → List Int → Int → Option (Bool)
 | 0, _, _, _ => none
 | k + 1, x0, x1, x5 => if x5 < (x0.length : Int) then (if 0 ≤ x5 then (if x5 < (x1.length : Int) then (if (rd x0 x5) < (rd x1 x5) then (some true) else (speculumref06_below.l0 k x0 x1 (wrap64 (x5 + 1)))) else (none)) else (none)) else (some false)
def speculumref06_below.f (k : Nat) (l0 : List Int) (l1 : List Int) : Option (Bool) := speculumref06_below.l0 k l0 l1 0
set_option maxHeartbeats 8000000 in
set_option maxRecDepth 100000 in
theorem speculumref06_below.calls (k : Nat) (A0 : Option Addr) (c0 : Nat) (l0 : List Int) (A1 : Option Addr) (c1 : Nat) (l1 : List Int) (r : Bool) (w : World) (hr0 : Kd.C (Kd.int .i64) w A0 l0.length l0) (hc0 : l0.length ≤ c0) (hr1 : Kd.C (Kd.int .i64) w A1 l1.length l1) (hc1 : l1.length ≤ c1) (h : speculumref06_below.f k l0 l1 = some r) :
  Calls Try.prog 93 #[.slice A0 l0.length c0, .slice A1 l1.length c1] w fun e w' => e = .returned (.bool r) ∧ Drawn0 w w' := by
 have HR0 := Aside0.mk hr0
 have HC0 := Aside0.mk hc0
 clear hr0 hc0
 have HR1 := Aside0.mk hr1
 have HC1 := Aside0.mk hc1
 clear hr1 hc1
 have H : (speculumref06_below.l0 k l0 l1 0) = some r := h
 clear h
 have H' := Aside0.mk H
 clear H
 go_enter Try.func93, Try.ntmps93
 go_wp2
 repeat (go_quiet (fail); try go_wp2)
 go_loopg [5] k (fun kq v5 w' => ∃ (x5_1 : Int), v5 = .int .i64 x5_1 ∧ Aside0 (speculumref06_below.l0 kq l0 l1 x5_1 = some r) ∧ Aside0 (kq ≤ k) ∧ Drawn0 w w')
 case atStart => exact ⟨(0), rs_, H', ⟨Nat.le_refl _⟩, by repeat (first | exact Drawn0.refl _ | apply Drawn0.step)⟩
 case round =>
  clear H'
  try clear c1
  try clear p2
  obtain ⟨x5_1, rfl, HA, HK1, ⟨m1, rfl⟩⟩ := hrel
  cases gk with
  | zero => exact absurd HA.out (by simp [speculumref06_below.l0])
  | succ k1 =>
   have H := HA.out
   clear HA
   simp only [speculumref06_below.l0] at H
   by_cases c3 : x5_1 < (l0.length : Int)
   ·rw [if_pos c3] at H
    have c3b0 : decide (x5_1 < (l0.length : Int)) = true := decide_eq_true c3
    clear c3
    by_cases c4 : 0 ≤ x5_1
    ·rw [if_pos c4] at H
     have c4b0 : decide (0 ≤ x5_1) = true := decide_eq_true c4
     clear c4
     by_cases c5 : x5_1 < (l1.length : Int)
     ·rw [if_pos c5] at H
      have c5b0 : decide (x5_1 < (l1.length : Int)) = true := decide_eq_true c5
      clear c5
      by_cases c6 : (rd l0 x5_1) < (rd l1 x5_1)
      ·rw [if_pos c6] at H
       have c6b0 : decide ((rd l0 x5_1) < (rd l1 x5_1)) = true := decide_eq_true c6
       clear c6
       obtain rfl := Option.some.inj H
       have p702 : 0 ≤ (x5_1 : Int) := of_decide_eq_true as_
       have q702 : x5_1 < (l0.length : Int) := of_decide_eq_true as_
       obtain ⟨ad702, e702, hx702_0⟩ := Kd.at_int HR0.out x5_1 p702 q702
       cases e702
       replace p702 := eq_true p702
       replace q702 := eq_true q702
       have p703 : 0 ≤ (x5_1 : Int) := of_decide_eq_true as_
       have q703 : x5_1 < (l1.length : Int) := of_decide_eq_true as_
       obtain ⟨ad703, e703, hx703_0⟩ := Kd.at_int HR1.out x5_1 p703 q703
       cases e703
       replace p703 := eq_true p703
       replace q703 := eq_true q703
       go_wp2
       repeat (go_quiet (fail); try go_wp2)
       go_ret
       exact ⟨by first | rfl | (simp; done) | (simp [*]; done), by repeat (first | exact Drawn0.refl _ | apply Drawn0.step)⟩
      ·rw [if_neg c6] at H
       have c6b0 : decide ((rd l0 x5_1) < (rd l1 x5_1)) = false := decide_eq_false c6
       clear c6
       have H' := Aside0.mk H
       clear H
       have p702 : 0 ≤ (x5_1 : Int) := of_decide_eq_true as_
       have q702 : x5_1 < (l0.length : Int) := of_decide_eq_true as_
       obtain ⟨ad702, e702, hx702_0⟩ := Kd.at_int HR0.out x5_1 p702 q702
       cases e702
       replace p702 := eq_true p702
       replace q702 := eq_true q702
       have p703 : 0 ≤ (x5_1 : Int) := of_decide_eq_true as_
       have q703 : x5_1 < (l1.length : Int) := of_decide_eq_true as_
       obtain ⟨ad703, e703, hx703_0⟩ := Kd.at_int HR1.out x5_1 p703 q703
       cases e703
       replace p703 := eq_true p703
       replace q703 := eq_true q703
       go_wp2
       repeat (go_quiet (fail); try go_wp2)
       go_roundg k1
       case measure => have := HK1.out; omega
       case rel => exact ⟨(wrap64 (x5_1 + 1)), rs_, H', ⟨by have := HK1.out; omega⟩, by repeat (first | exact Drawn0.refl _ | apply Drawn0.step)⟩
     ·rw [if_neg c5] at H
      exact absurd H (by simp)
    ·rw [if_neg c4] at H
     exact absurd H (by simp)
   ·rw [if_neg c3] at H
    have c3b0 : decide (x5_1 < (l0.length : Int)) = false := decide_eq_false c3
    clear c3
    obtain rfl := Option.some.inj H
    go_wp2
    repeat (go_quiet (fail); try go_wp2)
    go_ret
    exact ⟨by first | rfl | (simp; done) | (simp [*]; done), by repeat (first | exact Drawn0.refl _ | apply Drawn0.step)⟩
end Go.Proofs.Ytdkahcolfcmmpaa.Pr
namespace Go.Proofs.Ytdkahcolfcmmpaa.Pr
open Go.RowKit Go.Proofs.YtdkahcolfcmmpaaW.PrintWords Go.Proofs.YtdkahcolfcmmpaaW.PrintLast Go.Proofs.YtdkahcolfcmmpaaW.PrintMore
attribute [local go_sem] max2_int min2_int max_two min_two max_three min_three max_four min_four   -- for this text's walks alone
set_option linter.unusedVariables false
set_option linter.unusedSimpArgs false
def speculumref06_MostTimes.l0 : Nat → List Int → List Int → List Int → Int → Int → Option (Int × Int)
 | 0, _, _, _, _, _ => none
 | k + 1, x0, x1, x2, x10, x11 => if x11 < (x0.length : Int) then (if 0 ≤ x11 then (if x11 < (x2.length : Int) then (if (rd x2 x11) > 0 then (if x11 < (x1.length : Int) then (if (rd x2 x11) = 0 then (none) else (if x10 < 0 then (speculumref06_MostTimes.l0 k x0 x1 x2 (wrap64 (Int.tdiv (wrap64 ((rd x0 x11) - (rd x1 x11))) (rd x2 x11))) (wrap64 (x11 + 1))) else (if (wrap64 (Int.tdiv (wrap64 ((rd x0 x11) - (rd x1 x11))) (rd x2 x11))) < x10 then (speculumref06_MostTimes.l0 k x0 x1 x2 (wrap64 (Int.tdiv (wrap64 ((rd x0 x11) - (rd x1 x11))) (rd x2 x11))) (wrap64 (x11 + 1))) else (speculumref06_MostTimes.l0 k x0 x1 x2 x10 (wrap64 (x11 + 1)))))) else (none)) else (speculumref06_MostTimes.l0 k x0 x1 x2 x10 (wrap64 (x11 + 1)))) else (none)) else (none)) else (if x10 < 0 then (some (0, 12)) else (some (x10, 0)))
def speculumref06_MostTimes.f (k : Nat) (l0 : List Int) (l1 : List Int) (l2 : List Int) : Option (Int × Int) := (speculumref06_TwoErr.f k l0 l1).bind fun t743 => (if t743 = 0 then ((speculumref06_WearErr.f k (l0.length : Int) l2).bind fun t744 => (if t744 = 0 then ((speculumref06_below.f k l0 l1).bind fun t745 => (if t745 = true then (some (0, 26)) else (speculumref06_MostTimes.l0 k l0 l1 l2 (-1) 0))) else (some (0, t744)))) else (some (0, t743)))
set_option maxHeartbeats 8000000 in
set_option maxRecDepth 100000 in
theorem speculumref06_MostTimes.calls (k : Nat) (A0 : Option Addr) (c0 : Nat) (l0 : List Int) (A1 : Option Addr) (c1 : Nat) (l1 : List Int) (A2 : Option Addr) (c2 : Nat) (l2 : List Int) (r1 : Int) (r2 : Int) (w : World) (hr0 : Kd.C (Kd.int .i64) w A0 l0.length l0) (hc0 : l0.length ≤ c0) (hr1 : Kd.C (Kd.int .i64) w A1 l1.length l1) (hc1 : l1.length ≤ c1) (hr2 : Kd.C (Kd.int .i64) w A2 l2.length l2) (hc2 : l2.length ≤ c2) (h : speculumref06_MostTimes.f k l0 l1 l2 = some (r1, r2)) :
  Calls Try.prog 53 #[.slice A0 l0.length c0, .slice A1 l1.length c1, .slice A2 l2.length c2] w fun e w' => e = .returned (.tuple #[.int .i64 r1, .int .i64 r2]) ∧ Drawn0 w w' := by
 have HR0 := Aside0.mk hr0
 have HC0 := Aside0.mk hc0
 clear hr0 hc0
 have HR1 := Aside0.mk hr1
 have HC1 := Aside0.mk hc1
 clear hr1 hc1
 have HR2 := Aside0.mk hr2
 have HC2 := Aside0.mk hc2
 clear hr2 hc2
 have H : ((speculumref06_TwoErr.f k l0 l1).bind fun t743 => (if t743 = 0 then ((speculumref06_WearErr.f k (l0.length : Int) l2).bind fun t744 => (if t744 = 0 then ((speculumref06_below.f k l0 l1).bind fun t745 => (if t745 = true then (some (0, 26)) else (speculumref06_MostTimes.l0 k l0 l1 l2 (-1) 0))) else (some (0, t744)))) else (some (0, t743)))) = some (r1, r2) := h
 clear h
 replace H := Option.bind_eq_some_iff.mp H
 obtain ⟨t743, A40, H⟩ := H
 replace H : (if t743 = 0 then ((speculumref06_WearErr.f k (l0.length : Int) l2).bind fun t744 => (if t744 = 0 then ((speculumref06_below.f k l0 l1).bind fun t745 => (if t745 = true then (some (0, 26)) else (speculumref06_MostTimes.l0 k l0 l1 l2 (-1) 0))) else (some (0, t744)))) else (some (0, t743))) = some (r1, r2) := H
 have A4 := Aside0.mk A40
 clear A40
 by_cases c5 : t743 = 0
 ·rw [if_pos c5] at H
  have c5b0 : (t743 == 0) = true := beq_iff_eq.mpr c5
  have c5b1 : (t743 != 0) = false := bne_eq_false_iff_eq.mpr c5
  clear c5
  replace H := Option.bind_eq_some_iff.mp H
  obtain ⟨t744, A60, H⟩ := H
  replace H : (if t744 = 0 then ((speculumref06_below.f k l0 l1).bind fun t745 => (if t745 = true then (some (0, 26)) else (speculumref06_MostTimes.l0 k l0 l1 l2 (-1) 0))) else (some (0, t744))) = some (r1, r2) := H
  have A6 := Aside0.mk A60
  clear A60
  by_cases c7 : t744 = 0
  ·rw [if_pos c7] at H
   have c7b0 : (t744 == 0) = true := beq_iff_eq.mpr c7
   have c7b1 : (t744 != 0) = false := bne_eq_false_iff_eq.mpr c7
   clear c7
   replace H := Option.bind_eq_some_iff.mp H
   obtain ⟨t745, A80, H⟩ := H
   replace H : (if t745 = true then (some (0, 26)) else (speculumref06_MostTimes.l0 k l0 l1 l2 (-1) 0)) = some (r1, r2) := H
   have A8 := Aside0.mk A80
   clear A80
   by_cases c9 : t745 = true
   ·subst c9
    have H1 : (some (0, 26)) = some (r1, r2) := by rw [if_pos rfl] at H; exact H
    clear H
    have H := H1
    clear H1
    simp only [Option.some.injEq, Prod.mk.injEq] at H
    obtain ⟨rfl, rfl⟩ := H
    go_enter Try.func53, Try.ntmps53
    go_wp2_with (first | (go_at_call 92; (with_reducible refine (speculumref06_TwoErr.calls k _ _ l0 _ _ l1 t743 _ ?side1 ?side2 ?side3 ?side4 A4.out).mono ?_); (case side1 => repeat (first | exact HR0.out | (with_reducible refine Kd.C_alloc ?_ _) | (with_reducible refine Kd.C_drewN ?_ _) | (with_reducible refine Kd.C_drew ?_))); (case side2 => exact HC0.out); (case side3 => repeat (first | exact HR1.out | (with_reducible refine Kd.C_alloc ?_ _) | (with_reducible refine Kd.C_drewN ?_ _) | (with_reducible refine Kd.C_drew ?_))); (case side4 => exact HC1.out); rintro e w' ⟨rfl, ⟨nd, rfl⟩⟩; (try first | exact ⟨rfl, _, World.drewN_drewN _ _ _⟩ | exact ⟨rfl, _, Eq.trans (World.drewN_drewN _ _ _) (congrArg (World.drewN _) (Nat.add_assoc _ _ _))⟩)) | (go_at_call 88; (with_reducible refine (speculumref06_WearErr.calls k (l0.length : Int) _ _ l2 t744 _ ?side1 ?side2 A6.out).mono ?_); (case side1 => repeat (first | exact HR2.out | (with_reducible refine Kd.C_alloc ?_ _) | (with_reducible refine Kd.C_drewN ?_ _) | (with_reducible refine Kd.C_drew ?_))); (case side2 => exact HC2.out); rintro e w' ⟨rfl, ⟨nd, rfl⟩⟩; (try first | exact ⟨rfl, _, World.drewN_drewN _ _ _⟩ | exact ⟨rfl, _, Eq.trans (World.drewN_drewN _ _ _) (congrArg (World.drewN _) (Nat.add_assoc _ _ _))⟩)) | (go_at_call 93; (with_reducible refine (speculumref06_below.calls k _ _ l0 _ _ l1 true _ ?side1 ?side2 ?side3 ?side4 A8.out).mono ?_); (case side1 => repeat (first | exact HR0.out | (with_reducible refine Kd.C_alloc ?_ _) | (with_reducible refine Kd.C_drewN ?_ _) | (with_reducible refine Kd.C_drew ?_))); (case side2 => exact HC0.out); (case side3 => repeat (first | exact HR1.out | (with_reducible refine Kd.C_alloc ?_ _) | (with_reducible refine Kd.C_drewN ?_ _) | (with_reducible refine Kd.C_drew ?_))); (case side4 => exact HC1.out); rintro e w' ⟨rfl, ⟨nd, rfl⟩⟩; (try first | exact ⟨rfl, _, World.drewN_drewN _ _ _⟩ | exact ⟨rfl, _, Eq.trans (World.drewN_drewN _ _ _) (congrArg (World.drewN _) (Nat.add_assoc _ _ _))⟩)))
    repeat (go_quiet (first | (go_at_call 92; (with_reducible refine (speculumref06_TwoErr.calls k _ _ l0 _ _ l1 t743 _ ?side1 ?side2 ?side3 ?side4 A4.out).mono ?_); (case side1 => repeat (first | exact HR0.out | (with_reducible refine Kd.C_alloc ?_ _) | (with_reducible refine Kd.C_drewN ?_ _) | (with_reducible refine Kd.C_drew ?_))); (case side2 => exact HC0.out); (case side3 => repeat (first | exact HR1.out | (with_reducible refine Kd.C_alloc ?_ _) | (with_reducible refine Kd.C_drewN ?_ _) | (with_reducible refine Kd.C_drew ?_))); (case side4 => exact HC1.out); rintro e w' ⟨rfl, ⟨nd, rfl⟩⟩; (try first | exact ⟨rfl, _, World.drewN_drewN _ _ _⟩ | exact ⟨rfl, _, Eq.trans (World.drewN_drewN _ _ _) (congrArg (World.drewN _) (Nat.add_assoc _ _ _))⟩)) | (go_at_call 88; (with_reducible refine (speculumref06_WearErr.calls k (l0.length : Int) _ _ l2 t744 _ ?side1 ?side2 A6.out).mono ?_); (case side1 => repeat (first | exact HR2.out | (with_reducible refine Kd.C_alloc ?_ _) | (with_reducible refine Kd.C_drewN ?_ _) | (with_reducible refine Kd.C_drew ?_))); (case side2 => exact HC2.out); rintro e w' ⟨rfl, ⟨nd, rfl⟩⟩; (try first | exact ⟨rfl, _, World.drewN_drewN _ _ _⟩ | exact ⟨rfl, _, Eq.trans (World.drewN_drewN _ _ _) (congrArg (World.drewN _) (Nat.add_assoc _ _ _))⟩)) | (go_at_call 93; (with_reducible refine (speculumref06_below.calls k _ _ l0 _ _ l1 true _ ?side1 ?side2 ?side3 ?side4 A8.out).mono ?_); (case side1 => repeat (first | exact HR0.out | (with_reducible refine Kd.C_alloc ?_ _) | (with_reducible refine Kd.C_drewN ?_ _) | (with_reducible refine Kd.C_drew ?_))); (case side2 => exact HC0.out); (case side3 => repeat (first | exact HR1.out | (with_reducible refine Kd.C_alloc ?_ _) | (with_reducible refine Kd.C_drewN ?_ _) | (with_reducible refine Kd.C_drew ?_))); (case side4 => exact HC1.out); rintro e w' ⟨rfl, ⟨nd, rfl⟩⟩; (try first | exact ⟨rfl, _, World.drewN_drewN _ _ _⟩ | exact ⟨rfl, _, Eq.trans (World.drewN_drewN _ _ _) (congrArg (World.drewN _) (Nat.add_assoc _ _ _))⟩))); try go_wp2_with (first | (go_at_call 92; (with_reducible refine (speculumref06_TwoErr.calls k _ _ l0 _ _ l1 t743 _ ?side1 ?side2 ?side3 ?side4 A4.out).mono ?_); (case side1 => repeat (first | exact HR0.out | (with_reducible refine Kd.C_alloc ?_ _) | (with_reducible refine Kd.C_drewN ?_ _) | (with_reducible refine Kd.C_drew ?_))); (case side2 => exact HC0.out); (case side3 => repeat (first | exact HR1.out | (with_reducible refine Kd.C_alloc ?_ _) | (with_reducible refine Kd.C_drewN ?_ _) | (with_reducible refine Kd.C_drew ?_))); (case side4 => exact HC1.out); rintro e w' ⟨rfl, ⟨nd, rfl⟩⟩; (try first | exact ⟨rfl, _, World.drewN_drewN _ _ _⟩ | exact ⟨rfl, _, Eq.trans (World.drewN_drewN _ _ _) (congrArg (World.drewN _) (Nat.add_assoc _ _ _))⟩)) | (go_at_call 88; (with_reducible refine (speculumref06_WearErr.calls k (l0.length : Int) _ _ l2 t744 _ ?side1 ?side2 A6.out).mono ?_); (case side1 => repeat (first | exact HR2.out | (with_reducible refine Kd.C_alloc ?_ _) | (with_reducible refine Kd.C_drewN ?_ _) | (with_reducible refine Kd.C_drew ?_))); (case side2 => exact HC2.out); rintro e w' ⟨rfl, ⟨nd, rfl⟩⟩; (try first | exact ⟨rfl, _, World.drewN_drewN _ _ _⟩ | exact ⟨rfl, _, Eq.trans (World.drewN_drewN _ _ _) (congrArg (World.drewN _) (Nat.add_assoc _ _ _))⟩)) | (go_at_call 93; (with_reducible refine (speculumref06_below.calls k _ _ l0 _ _ l1 true _ ?side1 ?side2 ?side3 ?side4 A8.out).mono ?_); (case side1 => repeat (first | exact HR0.out | (with_reducible refine Kd.C_alloc ?_ _) | (with_reducible refine Kd.C_drewN ?_ _) | (with_reducible refine Kd.C_drew ?_))); (case side2 => exact HC0.out); (case side3 => repeat (first | exact HR1.out | (with_reducible refine Kd.C_alloc ?_ _) | (with_reducible refine Kd.C_drewN ?_ _) | (with_reducible refine Kd.C_drew ?_))); (case side4 => exact HC1.out); rintro e w' ⟨rfl, ⟨nd, rfl⟩⟩; (try first | exact ⟨rfl, _, World.drewN_drewN _ _ _⟩ | exact ⟨rfl, _, Eq.trans (World.drewN_drewN _ _ _) (congrArg (World.drewN _) (Nat.add_assoc _ _ _))⟩))))
    go_ret2
    exact ⟨by first | rfl | (simp; done) | (simp [*]; done), by repeat (first | exact Drawn0.refl _ | apply Drawn0.step)⟩
   ·replace c9 := Bool.eq_false_iff.mpr c9
    subst c9
    have H1 : (speculumref06_MostTimes.l0 k l0 l1 l2 (-1) 0) = some (r1, r2) := by rw [if_neg (show ¬ (false = true) by decide)] at H; exact H
    clear H
    have H := H1
    clear H1
    have H' := Aside0.mk H
    clear H
    go_enter Try.func53, Try.ntmps53
    go_wp2_with (first | (go_at_call 92; (with_reducible refine (speculumref06_TwoErr.calls k _ _ l0 _ _ l1 t743 _ ?side1 ?side2 ?side3 ?side4 A4.out).mono ?_); (case side1 => repeat (first | exact HR0.out | (with_reducible refine Kd.C_alloc ?_ _) | (with_reducible refine Kd.C_drewN ?_ _) | (with_reducible refine Kd.C_drew ?_))); (case side2 => exact HC0.out); (case side3 => repeat (first | exact HR1.out | (with_reducible refine Kd.C_alloc ?_ _) | (with_reducible refine Kd.C_drewN ?_ _) | (with_reducible refine Kd.C_drew ?_))); (case side4 => exact HC1.out); rintro e w' ⟨rfl, ⟨nd, rfl⟩⟩; (try first | exact ⟨rfl, _, World.drewN_drewN _ _ _⟩ | exact ⟨rfl, _, Eq.trans (World.drewN_drewN _ _ _) (congrArg (World.drewN _) (Nat.add_assoc _ _ _))⟩)) | (go_at_call 88; (with_reducible refine (speculumref06_WearErr.calls k (l0.length : Int) _ _ l2 t744 _ ?side1 ?side2 A6.out).mono ?_); (case side1 => repeat (first | exact HR2.out | (with_reducible refine Kd.C_alloc ?_ _) | (with_reducible refine Kd.C_drewN ?_ _) | (with_reducible refine Kd.C_drew ?_))); (case side2 => exact HC2.out); rintro e w' ⟨rfl, ⟨nd, rfl⟩⟩; (try first | exact ⟨rfl, _, World.drewN_drewN _ _ _⟩ | exact ⟨rfl, _, Eq.trans (World.drewN_drewN _ _ _) (congrArg (World.drewN _) (Nat.add_assoc _ _ _))⟩)) | (go_at_call 93; (with_reducible refine (speculumref06_below.calls k _ _ l0 _ _ l1 false _ ?side1 ?side2 ?side3 ?side4 A8.out).mono ?_); (case side1 => repeat (first | exact HR0.out | (with_reducible refine Kd.C_alloc ?_ _) | (with_reducible refine Kd.C_drewN ?_ _) | (with_reducible refine Kd.C_drew ?_))); (case side2 => exact HC0.out); (case side3 => repeat (first | exact HR1.out | (with_reducible refine Kd.C_alloc ?_ _) | (with_reducible refine Kd.C_drewN ?_ _) | (with_reducible refine Kd.C_drew ?_))); (case side4 => exact HC1.out); rintro e w' ⟨rfl, ⟨nd, rfl⟩⟩; (try first | exact ⟨rfl, _, World.drewN_drewN _ _ _⟩ | exact ⟨rfl, _, Eq.trans (World.drewN_drewN _ _ _) (congrArg (World.drewN _) (Nat.add_assoc _ _ _))⟩)))
    repeat (go_quiet (first | (go_at_call 92; (with_reducible refine (speculumref06_TwoErr.calls k _ _ l0 _ _ l1 t743 _ ?side1 ?side2 ?side3 ?side4 A4.out).mono ?_); (case side1 => repeat (first | exact HR0.out | (with_reducible refine Kd.C_alloc ?_ _) | (with_reducible refine Kd.C_drewN ?_ _) | (with_reducible refine Kd.C_drew ?_))); (case side2 => exact HC0.out); (case side3 => repeat (first | exact HR1.out | (with_reducible refine Kd.C_alloc ?_ _) | (with_reducible refine Kd.C_drewN ?_ _) | (with_reducible refine Kd.C_drew ?_))); (case side4 => exact HC1.out); rintro e w' ⟨rfl, ⟨nd, rfl⟩⟩; (try first | exact ⟨rfl, _, World.drewN_drewN _ _ _⟩ | exact ⟨rfl, _, Eq.trans (World.drewN_drewN _ _ _) (congrArg (World.drewN _) (Nat.add_assoc _ _ _))⟩)) | (go_at_call 88; (with_reducible refine (speculumref06_WearErr.calls k (l0.length : Int) _ _ l2 t744 _ ?side1 ?side2 A6.out).mono ?_); (case side1 => repeat (first | exact HR2.out | (with_reducible refine Kd.C_alloc ?_ _) | (with_reducible refine Kd.C_drewN ?_ _) | (with_reducible refine Kd.C_drew ?_))); (case side2 => exact HC2.out); rintro e w' ⟨rfl, ⟨nd, rfl⟩⟩; (try first | exact ⟨rfl, _, World.drewN_drewN _ _ _⟩ | exact ⟨rfl, _, Eq.trans (World.drewN_drewN _ _ _) (congrArg (World.drewN _) (Nat.add_assoc _ _ _))⟩)) | (go_at_call 93; (with_reducible refine (speculumref06_below.calls k _ _ l0 _ _ l1 false _ ?side1 ?side2 ?side3 ?side4 A8.out).mono ?_); (case side1 => repeat (first | exact HR0.out | (with_reducible refine Kd.C_alloc ?_ _) | (with_reducible refine Kd.C_drewN ?_ _) | (with_reducible refine Kd.C_drew ?_))); (case side2 => exact HC0.out); (case side3 => repeat (first | exact HR1.out | (with_reducible refine Kd.C_alloc ?_ _) | (with_reducible refine Kd.C_drewN ?_ _) | (with_reducible refine Kd.C_drew ?_))); (case side4 => exact HC1.out); rintro e w' ⟨rfl, ⟨nd, rfl⟩⟩; (try first | exact ⟨rfl, _, World.drewN_drewN _ _ _⟩ | exact ⟨rfl, _, Eq.trans (World.drewN_drewN _ _ _) (congrArg (World.drewN _) (Nat.add_assoc _ _ _))⟩))); try go_wp2_with (first | (go_at_call 92; (with_reducible refine (speculumref06_TwoErr.calls k _ _ l0 _ _ l1 t743 _ ?side1 ?side2 ?side3 ?side4 A4.out).mono ?_); (case side1 => repeat (first | exact HR0.out | (with_reducible refine Kd.C_alloc ?_ _) | (with_reducible refine Kd.C_drewN ?_ _) | (with_reducible refine Kd.C_drew ?_))); (case side2 => exact HC0.out); (case side3 => repeat (first | exact HR1.out | (with_reducible refine Kd.C_alloc ?_ _) | (with_reducible refine Kd.C_drewN ?_ _) | (with_reducible refine Kd.C_drew ?_))); (case side4 => exact HC1.out); rintro e w' ⟨rfl, ⟨nd, rfl⟩⟩; (try first | exact ⟨rfl, _, World.drewN_drewN _ _ _⟩ | exact ⟨rfl, _, Eq.trans (World.drewN_drewN _ _ _) (congrArg (World.drewN _) (Nat.add_assoc _ _ _))⟩)) | (go_at_call 88; (with_reducible refine (speculumref06_WearErr.calls k (l0.length : Int) _ _ l2 t744 _ ?side1 ?side2 A6.out).mono ?_); (case side1 => repeat (first | exact HR2.out | (with_reducible refine Kd.C_alloc ?_ _) | (with_reducible refine Kd.C_drewN ?_ _) | (with_reducible refine Kd.C_drew ?_))); (case side2 => exact HC2.out); rintro e w' ⟨rfl, ⟨nd, rfl⟩⟩; (try first | exact ⟨rfl, _, World.drewN_drewN _ _ _⟩ | exact ⟨rfl, _, Eq.trans (World.drewN_drewN _ _ _) (congrArg (World.drewN _) (Nat.add_assoc _ _ _))⟩)) | (go_at_call 93; (with_reducible refine (speculumref06_below.calls k _ _ l0 _ _ l1 false _ ?side1 ?side2 ?side3 ?side4 A8.out).mono ?_); (case side1 => repeat (first | exact HR0.out | (with_reducible refine Kd.C_alloc ?_ _) | (with_reducible refine Kd.C_drewN ?_ _) | (with_reducible refine Kd.C_drew ?_))); (case side2 => exact HC0.out); (case side3 => repeat (first | exact HR1.out | (with_reducible refine Kd.C_alloc ?_ _) | (with_reducible refine Kd.C_drewN ?_ _) | (with_reducible refine Kd.C_drew ?_))); (case side4 => exact HC1.out); rintro e w' ⟨rfl, ⟨nd, rfl⟩⟩; (try first | exact ⟨rfl, _, World.drewN_drewN _ _ _⟩ | exact ⟨rfl, _, Eq.trans (World.drewN_drewN _ _ _) (congrArg (World.drewN _) (Nat.add_assoc _ _ _))⟩))))
    go_loopg [10, 11] k (fun kq v10 v11 w' => ∃ (x10_1 : Int) (x11_1 : Int), v10 = .int .i64 x10_1 ∧ v11 = .int .i64 x11_1 ∧ Aside0 (speculumref06_MostTimes.l0 kq l0 l1 l2 x10_1 x11_1 = some (r1, r2)) ∧ Aside0 (kq ≤ k) ∧ Drawn0 w w')
    case atStart => exact ⟨((-1)), (0), rs_, rs_, H', ⟨Nat.le_refl _⟩, by repeat (first | exact Drawn0.refl _ | apply Drawn0.step)⟩
    case round =>
     clear H'
     try clear c1
     try clear c2
     try clear p2
     try clear c5
     try clear c5b0
     try clear c5b1
     try clear c7
     try clear c7b0
     try clear c7b1
     try clear c9
     obtain ⟨x10_1, x11_1, rfl, rfl, HA, HK1, ⟨m1, rfl⟩⟩ := hrel
     cases gk with
     | zero => exact absurd HA.out (by simp [speculumref06_MostTimes.l0])
     | succ k1 =>
      have H := HA.out
      clear HA
      simp only [speculumref06_MostTimes.l0] at H
      by_cases c10 : x11_1 < (l0.length : Int)
      ·rw [if_pos c10] at H
       have c10b0 : decide (x11_1 < (l0.length : Int)) = true := decide_eq_true c10
       clear c10
       by_cases c11 : 0 ≤ x11_1
       ·rw [if_pos c11] at H
        have c11b0 : decide (0 ≤ x11_1) = true := decide_eq_true c11
        clear c11
        by_cases c12 : x11_1 < (l2.length : Int)
        ·rw [if_pos c12] at H
         have c12b0 : decide (x11_1 < (l2.length : Int)) = true := decide_eq_true c12
         clear c12
         by_cases c13 : (rd l2 x11_1) > 0
         ·rw [if_pos c13] at H
          have c13b0 : decide (0 < (rd l2 x11_1)) = true := decide_eq_true c13
          clear c13
          by_cases c14 : x11_1 < (l1.length : Int)
          ·rw [if_pos c14] at H
           have c14b0 : decide (x11_1 < (l1.length : Int)) = true := decide_eq_true c14
           clear c14
           by_cases c15 : (rd l2 x11_1) = 0
           ·rw [if_pos c15] at H
            exact absurd H (by simp)
           ·rw [if_neg c15] at H
            have c15b0 : ((rd l2 x11_1) == 0) = false := beq_eq_false_iff_ne.mpr c15
            have c15b1 : ((rd l2 x11_1) != 0) = true := bne_iff_ne.mpr c15
            by_cases c16 : x10_1 < 0
            ·rw [if_pos c16] at H
             have c16b0 : decide (x10_1 < 0) = true := decide_eq_true c16
             clear c16
             have H' := Aside0.mk H
             clear H
             have p746 : 0 ≤ (x11_1 : Int) := of_decide_eq_true as_
             have q746 : x11_1 < (l2.length : Int) := of_decide_eq_true as_
             obtain ⟨ad746, e746, hx746_0⟩ := Kd.at_int HR2.out x11_1 p746 q746
             cases e746
             replace p746 := eq_true p746
             replace q746 := eq_true q746
             have p747 : 0 ≤ (x11_1 : Int) := of_decide_eq_true as_
             have q747 : x11_1 < (l0.length : Int) := of_decide_eq_true as_
             obtain ⟨ad747, e747, hx747_0⟩ := Kd.at_int HR0.out x11_1 p747 q747
             cases e747
             replace p747 := eq_true p747
             replace q747 := eq_true q747
             have p748 : 0 ≤ (x11_1 : Int) := of_decide_eq_true as_
             have q748 : x11_1 < (l1.length : Int) := of_decide_eq_true as_
             obtain ⟨ad748, e748, hx748_0⟩ := Kd.at_int HR1.out x11_1 p748 q748
             cases e748
             replace p748 := eq_true p748
             replace q748 := eq_true q748
             have p749 : 0 ≤ (x11_1 : Int) := of_decide_eq_true as_
             have q749 : x11_1 < (l2.length : Int) := of_decide_eq_true as_
             obtain ⟨ad749, e749, hx749_0⟩ := Kd.at_int HR2.out x11_1 p749 q749
             obtain rfl : ad746 = ad749 := (by injection e749)
             replace p749 := eq_true p749
             replace q749 := eq_true q749
             go_wp2
             repeat (go_quiet (fail); try go_wp2)
             go_roundg k1
             case measure => have := HK1.out; omega
             case rel => exact ⟨(wrap64 (Int.tdiv (wrap64 ((rd l0 x11_1) - (rd l1 x11_1))) (rd l2 x11_1))), (wrap64 (x11_1 + 1)), rs_, rs_, H', ⟨by have := HK1.out; omega⟩, by repeat (first | exact Drawn0.refl _ | apply Drawn0.step)⟩
            ·rw [if_neg c16] at H
             have c16b0 : decide (x10_1 < 0) = false := decide_eq_false c16
             clear c16
             by_cases c17 : (wrap64 (Int.tdiv (wrap64 ((rd l0 x11_1) - (rd l1 x11_1))) (rd l2 x11_1))) < x10_1
             ·rw [if_pos c17] at H
              have c17b0 : decide ((wrap64 (Int.tdiv (wrap64 ((rd l0 x11_1) - (rd l1 x11_1))) (rd l2 x11_1))) < x10_1) = true := decide_eq_true c17
              clear c17
              have H' := Aside0.mk H
              clear H
              have p746 : 0 ≤ (x11_1 : Int) := of_decide_eq_true as_
              have q746 : x11_1 < (l2.length : Int) := of_decide_eq_true as_
              obtain ⟨ad746, e746, hx746_0⟩ := Kd.at_int HR2.out x11_1 p746 q746
              cases e746
              replace p746 := eq_true p746
              replace q746 := eq_true q746
              have p747 : 0 ≤ (x11_1 : Int) := of_decide_eq_true as_
              have q747 : x11_1 < (l0.length : Int) := of_decide_eq_true as_
              obtain ⟨ad747, e747, hx747_0⟩ := Kd.at_int HR0.out x11_1 p747 q747
              cases e747
              replace p747 := eq_true p747
              replace q747 := eq_true q747
              have p748 : 0 ≤ (x11_1 : Int) := of_decide_eq_true as_
              have q748 : x11_1 < (l1.length : Int) := of_decide_eq_true as_
              obtain ⟨ad748, e748, hx748_0⟩ := Kd.at_int HR1.out x11_1 p748 q748
              cases e748
              replace p748 := eq_true p748
              replace q748 := eq_true q748
              have p749 : 0 ≤ (x11_1 : Int) := of_decide_eq_true as_
              have q749 : x11_1 < (l2.length : Int) := of_decide_eq_true as_
              obtain ⟨ad749, e749, hx749_0⟩ := Kd.at_int HR2.out x11_1 p749 q749
              obtain rfl : ad746 = ad749 := (by injection e749)
              replace p749 := eq_true p749
              replace q749 := eq_true q749
              go_wp2
              repeat (go_quiet (fail); try go_wp2)
              go_roundg k1
              case measure => have := HK1.out; omega
              case rel => exact ⟨(wrap64 (Int.tdiv (wrap64 ((rd l0 x11_1) - (rd l1 x11_1))) (rd l2 x11_1))), (wrap64 (x11_1 + 1)), rs_, rs_, H', ⟨by have := HK1.out; omega⟩, by repeat (first | exact Drawn0.refl _ | apply Drawn0.step)⟩
             ·rw [if_neg c17] at H
              have c17b0 : decide ((wrap64 (Int.tdiv (wrap64 ((rd l0 x11_1) - (rd l1 x11_1))) (rd l2 x11_1))) < x10_1) = false := decide_eq_false c17
              clear c17
              have H' := Aside0.mk H
              clear H
              have p746 : 0 ≤ (x11_1 : Int) := of_decide_eq_true as_
              have q746 : x11_1 < (l2.length : Int) := of_decide_eq_true as_
              obtain ⟨ad746, e746, hx746_0⟩ := Kd.at_int HR2.out x11_1 p746 q746
              cases e746
              replace p746 := eq_true p746
              replace q746 := eq_true q746
              have p747 : 0 ≤ (x11_1 : Int) := of_decide_eq_true as_
              have q747 : x11_1 < (l0.length : Int) := of_decide_eq_true as_
              obtain ⟨ad747, e747, hx747_0⟩ := Kd.at_int HR0.out x11_1 p747 q747
              cases e747
              replace p747 := eq_true p747
              replace q747 := eq_true q747
              have p748 : 0 ≤ (x11_1 : Int) := of_decide_eq_true as_
              have q748 : x11_1 < (l1.length : Int) := of_decide_eq_true as_
              obtain ⟨ad748, e748, hx748_0⟩ := Kd.at_int HR1.out x11_1 p748 q748
              cases e748
              replace p748 := eq_true p748
              replace q748 := eq_true q748
              have p749 : 0 ≤ (x11_1 : Int) := of_decide_eq_true as_
              have q749 : x11_1 < (l2.length : Int) := of_decide_eq_true as_
              obtain ⟨ad749, e749, hx749_0⟩ := Kd.at_int HR2.out x11_1 p749 q749
              obtain rfl : ad746 = ad749 := (by injection e749)
              replace p749 := eq_true p749
              replace q749 := eq_true q749
              go_wp2
              repeat (go_quiet (fail); try go_wp2)
              go_roundg k1
              case measure => have := HK1.out; omega
              case rel => exact ⟨(x10_1), (wrap64 (x11_1 + 1)), rs_, rs_, H', ⟨by have := HK1.out; omega⟩, by repeat (first | exact Drawn0.refl _ | apply Drawn0.step)⟩
          ·rw [if_neg c14] at H
           exact absurd H (by simp)
         ·rw [if_neg c13] at H
          have c13b0 : decide (0 < (rd l2 x11_1)) = false := decide_eq_false c13
          clear c13
          have H' := Aside0.mk H
          clear H
          have p746 : 0 ≤ (x11_1 : Int) := of_decide_eq_true as_
          have q746 : x11_1 < (l2.length : Int) := of_decide_eq_true as_
          obtain ⟨ad746, e746, hx746_0⟩ := Kd.at_int HR2.out x11_1 p746 q746
          cases e746
          replace p746 := eq_true p746
          replace q746 := eq_true q746
          go_wp2
          repeat (go_quiet (fail); try go_wp2)
          go_roundg k1
          case measure => have := HK1.out; omega
          case rel => exact ⟨(x10_1), (wrap64 (x11_1 + 1)), rs_, rs_, H', ⟨by have := HK1.out; omega⟩, by repeat (first | exact Drawn0.refl _ | apply Drawn0.step)⟩
        ·rw [if_neg c12] at H
         exact absurd H (by simp)
       ·rw [if_neg c11] at H
        exact absurd H (by simp)
      ·rw [if_neg c10] at H
       have c10b0 : decide (x11_1 < (l0.length : Int)) = false := decide_eq_false c10
       clear c10
       by_cases c18 : x10_1 < 0
       ·rw [if_pos c18] at H
        have c18b0 : decide (x10_1 < 0) = true := decide_eq_true c18
        clear c18
        simp only [Option.some.injEq, Prod.mk.injEq] at H
        obtain ⟨rfl, rfl⟩ := H
        go_wp2
        repeat (go_quiet (fail); try go_wp2)
        go_ret2
        exact ⟨by first | rfl | (simp; done) | (simp [*]; done), by repeat (first | exact Drawn0.refl _ | apply Drawn0.step)⟩
       ·rw [if_neg c18] at H
        have c18b0 : decide (x10_1 < 0) = false := decide_eq_false c18
        clear c18
        simp only [Option.some.injEq, Prod.mk.injEq] at H
        obtain ⟨rfl, rfl⟩ := H
        go_wp2
        repeat (go_quiet (fail); try go_wp2)
        go_ret2
        exact ⟨by first | rfl | (simp; done) | (simp [*]; done), by repeat (first | exact Drawn0.refl _ | apply Drawn0.step)⟩
  ·rw [if_neg c7] at H
   have c7b0 : (t744 == 0) = false := beq_eq_false_iff_ne.mpr c7
   have c7b1 : (t744 != 0) = true := bne_iff_ne.mpr c7
   simp only [Option.some.injEq, Prod.mk.injEq] at H
   obtain ⟨rfl, rfl⟩ := H
   go_enter Try.func53, Try.ntmps53
   go_wp2_with (first | (go_at_call 92; (with_reducible refine (speculumref06_TwoErr.calls k _ _ l0 _ _ l1 t743 _ ?side1 ?side2 ?side3 ?side4 A4.out).mono ?_); (case side1 => repeat (first | exact HR0.out | (with_reducible refine Kd.C_alloc ?_ _) | (with_reducible refine Kd.C_drewN ?_ _) | (with_reducible refine Kd.C_drew ?_))); (case side2 => exact HC0.out); (case side3 => repeat (first | exact HR1.out | (with_reducible refine Kd.C_alloc ?_ _) | (with_reducible refine Kd.C_drewN ?_ _) | (with_reducible refine Kd.C_drew ?_))); (case side4 => exact HC1.out); rintro e w' ⟨rfl, ⟨nd, rfl⟩⟩; (try first | exact ⟨rfl, _, World.drewN_drewN _ _ _⟩ | exact ⟨rfl, _, Eq.trans (World.drewN_drewN _ _ _) (congrArg (World.drewN _) (Nat.add_assoc _ _ _))⟩)) | (go_at_call 88; (with_reducible refine (speculumref06_WearErr.calls k (l0.length : Int) _ _ l2 t744 _ ?side1 ?side2 A6.out).mono ?_); (case side1 => repeat (first | exact HR2.out | (with_reducible refine Kd.C_alloc ?_ _) | (with_reducible refine Kd.C_drewN ?_ _) | (with_reducible refine Kd.C_drew ?_))); (case side2 => exact HC2.out); rintro e w' ⟨rfl, ⟨nd, rfl⟩⟩; (try first | exact ⟨rfl, _, World.drewN_drewN _ _ _⟩ | exact ⟨rfl, _, Eq.trans (World.drewN_drewN _ _ _) (congrArg (World.drewN _) (Nat.add_assoc _ _ _))⟩)))
   repeat (go_quiet (first | (go_at_call 92; (with_reducible refine (speculumref06_TwoErr.calls k _ _ l0 _ _ l1 t743 _ ?side1 ?side2 ?side3 ?side4 A4.out).mono ?_); (case side1 => repeat (first | exact HR0.out | (with_reducible refine Kd.C_alloc ?_ _) | (with_reducible refine Kd.C_drewN ?_ _) | (with_reducible refine Kd.C_drew ?_))); (case side2 => exact HC0.out); (case side3 => repeat (first | exact HR1.out | (with_reducible refine Kd.C_alloc ?_ _) | (with_reducible refine Kd.C_drewN ?_ _) | (with_reducible refine Kd.C_drew ?_))); (case side4 => exact HC1.out); rintro e w' ⟨rfl, ⟨nd, rfl⟩⟩; (try first | exact ⟨rfl, _, World.drewN_drewN _ _ _⟩ | exact ⟨rfl, _, Eq.trans (World.drewN_drewN _ _ _) (congrArg (World.drewN _) (Nat.add_assoc _ _ _))⟩)) | (go_at_call 88; (with_reducible refine (speculumref06_WearErr.calls k (l0.length : Int) _ _ l2 t744 _ ?side1 ?side2 A6.out).mono ?_); (case side1 => repeat (first | exact HR2.out | (with_reducible refine Kd.C_alloc ?_ _) | (with_reducible refine Kd.C_drewN ?_ _) | (with_reducible refine Kd.C_drew ?_))); (case side2 => exact HC2.out); rintro e w' ⟨rfl, ⟨nd, rfl⟩⟩; (try first | exact ⟨rfl, _, World.drewN_drewN _ _ _⟩ | exact ⟨rfl, _, Eq.trans (World.drewN_drewN _ _ _) (congrArg (World.drewN _) (Nat.add_assoc _ _ _))⟩))); try go_wp2_with (first | (go_at_call 92; (with_reducible refine (speculumref06_TwoErr.calls k _ _ l0 _ _ l1 t743 _ ?side1 ?side2 ?side3 ?side4 A4.out).mono ?_); (case side1 => repeat (first | exact HR0.out | (with_reducible refine Kd.C_alloc ?_ _) | (with_reducible refine Kd.C_drewN ?_ _) | (with_reducible refine Kd.C_drew ?_))); (case side2 => exact HC0.out); (case side3 => repeat (first | exact HR1.out | (with_reducible refine Kd.C_alloc ?_ _) | (with_reducible refine Kd.C_drewN ?_ _) | (with_reducible refine Kd.C_drew ?_))); (case side4 => exact HC1.out); rintro e w' ⟨rfl, ⟨nd, rfl⟩⟩; (try first | exact ⟨rfl, _, World.drewN_drewN _ _ _⟩ | exact ⟨rfl, _, Eq.trans (World.drewN_drewN _ _ _) (congrArg (World.drewN _) (Nat.add_assoc _ _ _))⟩)) | (go_at_call 88; (with_reducible refine (speculumref06_WearErr.calls k (l0.length : Int) _ _ l2 t744 _ ?side1 ?side2 A6.out).mono ?_); (case side1 => repeat (first | exact HR2.out | (with_reducible refine Kd.C_alloc ?_ _) | (with_reducible refine Kd.C_drewN ?_ _) | (with_reducible refine Kd.C_drew ?_))); (case side2 => exact HC2.out); rintro e w' ⟨rfl, ⟨nd, rfl⟩⟩; (try first | exact ⟨rfl, _, World.drewN_drewN _ _ _⟩ | exact ⟨rfl, _, Eq.trans (World.drewN_drewN _ _ _) (congrArg (World.drewN _) (Nat.add_assoc _ _ _))⟩))))
   go_ret2
   exact ⟨by first | rfl | (simp; done) | (simp [*]; done), by repeat (first | exact Drawn0.refl _ | apply Drawn0.step)⟩
 ·rw [if_neg c5] at H
  have c5b0 : (t743 == 0) = false := beq_eq_false_iff_ne.mpr c5
  have c5b1 : (t743 != 0) = true := bne_iff_ne.mpr c5
  simp only [Option.some.injEq, Prod.mk.injEq] at H
  obtain ⟨rfl, rfl⟩ := H
  go_enter Try.func53, Try.ntmps53
  go_wp2_with (first | (go_at_call 92; (with_reducible refine (speculumref06_TwoErr.calls k _ _ l0 _ _ l1 t743 _ ?side1 ?side2 ?side3 ?side4 A4.out).mono ?_); (case side1 => repeat (first | exact HR0.out | (with_reducible refine Kd.C_alloc ?_ _) | (with_reducible refine Kd.C_drewN ?_ _) | (with_reducible refine Kd.C_drew ?_))); (case side2 => exact HC0.out); (case side3 => repeat (first | exact HR1.out | (with_reducible refine Kd.C_alloc ?_ _) | (with_reducible refine Kd.C_drewN ?_ _) | (with_reducible refine Kd.C_drew ?_))); (case side4 => exact HC1.out); rintro e w' ⟨rfl, ⟨nd, rfl⟩⟩; (try first | exact ⟨rfl, _, World.drewN_drewN _ _ _⟩ | exact ⟨rfl, _, Eq.trans (World.drewN_drewN _ _ _) (congrArg (World.drewN _) (Nat.add_assoc _ _ _))⟩)))
  repeat (go_quiet (first | (go_at_call 92; (with_reducible refine (speculumref06_TwoErr.calls k _ _ l0 _ _ l1 t743 _ ?side1 ?side2 ?side3 ?side4 A4.out).mono ?_); (case side1 => repeat (first | exact HR0.out | (with_reducible refine Kd.C_alloc ?_ _) | (with_reducible refine Kd.C_drewN ?_ _) | (with_reducible refine Kd.C_drew ?_))); (case side2 => exact HC0.out); (case side3 => repeat (first | exact HR1.out | (with_reducible refine Kd.C_alloc ?_ _) | (with_reducible refine Kd.C_drewN ?_ _) | (with_reducible refine Kd.C_drew ?_))); (case side4 => exact HC1.out); rintro e w' ⟨rfl, ⟨nd, rfl⟩⟩; (try first | exact ⟨rfl, _, World.drewN_drewN _ _ _⟩ | exact ⟨rfl, _, Eq.trans (World.drewN_drewN _ _ _) (congrArg (World.drewN _) (Nat.add_assoc _ _ _))⟩))); try go_wp2_with (first | (go_at_call 92; (with_reducible refine (speculumref06_TwoErr.calls k _ _ l0 _ _ l1 t743 _ ?side1 ?side2 ?side3 ?side4 A4.out).mono ?_); (case side1 => repeat (first | exact HR0.out | (with_reducible refine Kd.C_alloc ?_ _) | (with_reducible refine Kd.C_drewN ?_ _) | (with_reducible refine Kd.C_drew ?_))); (case side2 => exact HC0.out); (case side3 => repeat (first | exact HR1.out | (with_reducible refine Kd.C_alloc ?_ _) | (with_reducible refine Kd.C_drewN ?_ _) | (with_reducible refine Kd.C_drew ?_))); (case side4 => exact HC1.out); rintro e w' ⟨rfl, ⟨nd, rfl⟩⟩; (try first | exact ⟨rfl, _, World.drewN_drewN _ _ _⟩ | exact ⟨rfl, _, Eq.trans (World.drewN_drewN _ _ _) (congrArg (World.drewN _) (Nat.add_assoc _ _ _))⟩))))
  go_ret2
  exact ⟨by first | rfl | (simp; done) | (simp [*]; done), by repeat (first | exact Drawn0.refl _ | apply Drawn0.step)⟩
end Go.Proofs.Ytdkahcolfcmmpaa.Pr
namespace Go.Proofs.Ytdkahcolfcmmpaa.RowB
open Go.ChangeShapes Go.WideShapes Go.ChangeAt Go.RowKit Go.Deep Go.Proofs.YtdkahcolfcmmpaaW.PrintWords Go.Proofs.Ytdkahcolfcmmpaa.Pr
set_option linter.unusedVariables false
theorem own : ownKnob Try.prog.godebug = none := by kernel_rfl
theorem laidOut : laidOutB Try.prog = true := by kernel_rfl
theorem isInts {H : Type} {enc : TypeId × Value → H} {W : World} {base n : Nat} {cs : List Value} {x : DataW H × List MemPlace} (h : DataW.trod enc Try.prog W base (fun _ => true) true n 22 cs = some x) :
    ∃ a c, ∃ l : List Int, cs = [.slice a l.length c] ∧ Kd.C (Kd.int .i64) W a l.length l ∧ l.length ≤ c ∧ ∀ x ∈ l, (Lit.int .i64 x).wf = true := by
  rcases open_ints Try.underlying22 Try.underlying3 (by kernel_rfl) h with ⟨rfl, _⟩ | ⟨x, len, c, zs, rfl, _, hl, hm, hz, _, hcell, hwz⟩
  · exact ⟨none, 0, [], rfl, Kd.C_nil _ _, Nat.le_refl _, by simp⟩
  · obtain ⟨l, rfl, hr, hm, hw, hc⟩ := ReadsInt.ofRowC (k := .i64) (w := W) (a := some x) (len := len) (cap := c) (zs := zs) (.inr ⟨_, rfl, hl, hm, by simpa using hz, hcell, hwz⟩)
    exact ⟨_, _, l, rfl, Kd.C_of_reads (d := (0 : Int)) (h1 := fun _ => rfl) hr, hc, hw⟩
end Go.Proofs.Ytdkahcolfcmmpaa.RowB
