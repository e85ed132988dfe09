import Derived.ChangeSlices
import Derived.LoopIn
import Derived.LoopNIn
import Derived.OwnWalkIn
import Derived.RangeFuncBound
import Derived.RangeFuncBox
import Derived.RangeFuncCalls
import Derived.RangeFuncLeaves
import Derived.RangeFuncNested
import Derived.Shelf.Abstract
import Derived.Shelf.RegionOpen
import Derived.SizedLaws
import Derived.Sort.BigQuietIn
import Derived.Sort.QuietThIn
import Derived.TacticsInMore
import Derived.Test.YtdkahcolfcmmpaaFt1
import Derived.Test.YtdkahcolfcmmpaaFt2
import Derived.Test.YtdkahcolfcmmpaaFt4
import Derived.Test.YtdkahcolfcmmpaaFt5
import Derived.Test.YtdkahcolfcmmpaaRows
import Derived.WalkKit
namespace Go.Proofs.Ytdkahcolfcmmpaa.Pr
open Go.RowKit Go.Shelf Go.Proofs.YtdkahcolfcmmpaaW.PrintWords Go.Proofs.YtdkahcolfcmmpaaW.PrintLast Go.Proofs.YtdkahcolfcmmpaaW.PrintMore
attribute [local go_sem] max2_int min2_int max_two min_two max_three min_three max_four min_four
set_option linter.unusedVariables false
set_option linter.unusedSimpArgs false
attribute [local go_sem] Oper.semAt_some
def rowUpto (i : Nat) : Nat → List (Nat × Nat)
  | 0 => []
  | n + 1 => if i = n then rowUpto i n else rowUpto i n ++ [(i, n)]
def rowsUpto (z : Nat) : Nat → List (Nat × Nat)
  | 0 => []
  | i + 1 => rowsUpto z i ++ rowUpto i z
def pairsL (z : Nat) : List (Nat × Nat) := rowsUpto z z
theorem rowUpto_length (i n : Nat) : (rowUpto i n).length ≤ n := by
  induction n with
  | zero => simp [rowUpto]
  | succ n ih =>
    rw [rowUpto]
    split
    · omega
    · rw [List.length_append, List.length_singleton]; omega
theorem rowsUpto_length (z i : Nat) : (rowsUpto z i).length ≤ i * z := by
  induction i with
  | zero => simp [rowsUpto]
  | succ i ih =>
    have := rowUpto_length i z
    rw [rowsUpto, List.length_append, Nat.succ_mul]; omega
theorem upto_lt {z i k : Nat} (hi : i < z) (hk : k < z) : (rowsUpto z i ++ rowUpto i k).length < z * z := by
  have h1 := rowsUpto_length z i
  have h2 := rowUpto_length i k
  have h3 : (i + 1) * z ≤ z * z := Nat.mul_le_mul_right _ hi
  rw [Nat.succ_mul] at h3
  rw [List.length_append]; omega
theorem rowUpto_prefix (i : Nat) : ∀ {k n : Nat}, k ≤ n → rowUpto i k <+: rowUpto i n
  | k, 0, h => by obtain rfl : k = 0 := by omega
                  exact List.prefix_refl _
  | k, n + 1, h => by
    rcases Nat.lt_or_ge n k with h' | h'
    · obtain rfl : k = n + 1 := by omega
      exact List.prefix_refl _
    · refine (rowUpto_prefix i h').trans ?_
      rw [rowUpto]; split
      · exact List.prefix_refl _
      · exact List.prefix_append _ _
theorem rowsUpto_prefix (z : Nat) : ∀ {i n : Nat}, i ≤ n → rowsUpto z i <+: rowsUpto z n
  | i, 0, h => by obtain rfl : i = 0 := by omega
                  exact List.prefix_refl _
  | i, n + 1, h => by
    rcases Nat.lt_or_ge n i with h' | h'
    · obtain rfl : i = n + 1 := by omega
      exact List.prefix_refl _
    · exact (rowsUpto_prefix z h').trans (List.prefix_append _ _)
theorem upto_prefix {z i k : Nat} (hi : i < z) (hk : k ≤ z) : rowsUpto z i ++ rowUpto i k <+: pairsL z := by
  refine List.IsPrefix.trans ?_ (rowsUpto_prefix z (show i + 1 ≤ z by omega))
  rw [rowsUpto]
  exact (List.prefix_append_right_inj _).2 (rowUpto_prefix i hk)
def KeepAt (b : Nat) (A B : World) : Prop := B.heap[b]? = A.heap[b]?
theorem KeepAt.refl (b : Nat) (A : World) : KeepAt b A A := rfl
theorem KeepAt.trans {b : Nat} {A B C : World} (h : KeepAt b A B) (k : KeepAt b B C) : KeepAt b A C := Eq.trans k h
theorem KeepAt.cell {b i : Nat} {A B : World} (h : KeepAt b A B) : B.cell? ⟨b, i, none⟩ = A.cell? ⟨b, i, none⟩ := World.cell?_of_block h
theorem keepAt_b {b : Nat} {w : World} (hn : b < w.heap.size) (W : World) (l : Nat) (o o' : Obj) (hl : w.heap.size ≤ l) (h : W.heap[l]? = some o) (_ : o.isCells = false) (_ : o.isWalk = false) : KeepAt b W (W.putObj l o') :=
  World.putObj_heap_other (by omega)
set_option maxRecDepth 100000 in
set_option maxHeartbeats 2000000 in
theorem pairs1_in (F : Fence) (n : Nat) (hF : F.fn 106) (hro : F.round = none) (hn : 1 ≤ n) (l Bz z : Nat) (hz : z ≤ 1000) (J Jx : List (Nat × Nat) → World → Prop)
    (hY : ∀ pre x W, x.1 < z ∧ x.2 < z → J pre W → pre.length < z * z → YieldAt F (n - 1) Try.prog l #[.int .i64 (x.1 : Int), .int .i64 (x.2 : Int)] W fun e W' =>
      (e = .returned (.bool true) ∧ J (pre ++ [x]) W' ∧ KeepAt Bz W W') ∨ (e = .returned (.bool false) ∧ Jx (pre ++ [x]) W'))
    (W : World) (hBz : W.cell? ⟨Bz, 0, none⟩ = some (.int .i64 z)) (h0 : J [] W) :
    CallsIn F n Try.prog 106 #[.func (.yield l) #[] #[], .pointer (some ⟨Bz, 0, none⟩)] W fun e W' => (∃ v, e = .returned v) ∧
      ((∃ ys, ys = pairsL z ∧ J ys W') ∨ (∃ pre, pre <+: pairsL z ∧ Jx pre W')) := by
  refine callsIn_of_wp Try.func106 rfl hF ?_ hro
  simp only [Try.ntmps106, List.size_toArray, List.length_cons, List.length_nil, Nat.reduceAdd, Nat.reduceSub, Array.replicate_succ, Array.replicate_zero, List.push_toArray, List.append_toArray, List.nil_append, List.cons_append]
  gi_wp2
  gi_loopw [6] (fun i wr => ∃ k : Nat, k ≤ z ∧ i = .int .i64 k ∧ J (rowsUpto z k) wr ∧ KeepAt Bz W wr) (fun i _ => z - (intOf i).toNat)
  case atStart => exact ⟨0, Nat.zero_le _, rfl, h0, KeepAt.refl _ _⟩
  case round =>
    obtain ⟨i, hi, rfl, hJs, hnx⟩ := hrel
    have hcz : wr.cell? ⟨Bz, 0, none⟩ = some (.int .i64 z) := hnx.cell.trans hBz
    by_cases hiz : i < z
    · gi_wp2
      gi_loopw [10] (fun kk wr2 => ∃ k : Nat, k ≤ z ∧ kk = .int .i64 k ∧ J (rowsUpto z i ++ rowUpto i k) wr2 ∧ KeepAt Bz W wr2) (fun kk _ => z - (intOf kk).toNat)
      case atStart => exact ⟨0, Nat.zero_le _, rfl, by simpa [rowUpto] using hJs, hnx⟩
      case round =>
        clear hcz hJs hnx
        obtain ⟨k, hk, rfl, hJs, hnx⟩ := hrel
        by_cases hkz : k < z
        · by_cases hik : i = k
          · have hJ2 : J (rowsUpto z i ++ rowUpto i (k + 1)) wr := by rw [rowUpto, if_pos hik]; exact hJs
            have hb1 : ((i : Int) != (k : Int)) = false := by simp [hik]
            have HJ2 := Aside0.mk hJ2
            have HN := Aside0.mk hnx
            clear hik hJs hnx hJ2
            gi_wp2
            refine ⟨fun _ h => (by cases h), ?_⟩
            gi_wp2
            go_roundw
            case rel => exact ⟨k + 1, by omega, by go_num, HJ2.out, HN.out⟩
            case measure => simp [intOf]; omega
          · obtain ⟨fn, tmps, assign, body, hy, hR⟩ := hY _ (i, k) wr ⟨hiz, hkz⟩ hJs (upto_lt hiz hkz)
            dsimp only at hy hR
            have hb1 : ((i : Int) != (k : Int)) = true := by rw [bne_iff_ne]; omega
            have HN := Aside0.mk hnx
            have HI := Aside0.mk hik
            clear hik hJs hnx
            gi_wp2
            refine hR.mono ?_
            rintro e W3 (⟨rfl, hJ3, hk3⟩ | ⟨rfl, hJx3⟩)
            · have HJ3 := Aside0.mk hJ3
              have HN3 := Aside0.mk (HN.out.trans hk3)
              clear hJ3 hk3
              gi_wp2
              go_roundw
              case rel => exact ⟨k + 1, by omega, by go_num, by rw [rowUpto, if_neg HI.out, ← List.append_assoc]; exact HJ3.out, HN3.out⟩
              case measure => simp [intOf]; omega
            · have HJ3 := Aside0.mk hJx3
              clear hJx3
              gi_wp2
              refine bodyPost_ret (results_none rfl _ _ _) rfl ?_
              refine ⟨⟨_, rfl⟩, .inr ⟨_, ?_, HJ3.out⟩⟩
              have := upto_prefix (z := z) (k := k + 1) hiz (by omega)
              rw [rowUpto, if_neg HI.out, ← List.append_assoc] at this
              exact this
        · obtain rfl : k = z := by omega
          have HJ := Aside0.mk hJs
          have HN := Aside0.mk hnx
          clear hJs hnx
          gi_wp2
          go_roundw
          case rel => exact ⟨i + 1, by omega, by go_num, HJ.out, HN.out⟩
          case measure => simp [intOf]; omega
    · obtain rfl : i = z := by omega
      gi_wp2
      go_end0
      exact ⟨⟨_, rfl⟩, .inl ⟨_, rfl, hJs⟩⟩
set_option maxHeartbeats 1000000 in
theorem pairs_in (F : Fence) (n : Nat) (hF : F.fn 68) (hro : F.round = none) (z : Int) (w : World) :
    CallsIn F n Try.prog 68 #[.int .i64 z] w fun e w' => e = .returned (.func (.func 106) #[] #[.pointer (some ⟨w.heap.size, 0, none⟩)]) ∧ w' = w.alloc (.cells #[.int .i64 z] 3) := by
  refine callsIn_of_wp Try.func68 rfl hF ?_ hro
  simp only [Try.ntmps68, List.size_toArray, List.length_cons, List.length_nil, Nat.reduceAdd, Nat.reduceSub, Array.replicate_succ, Array.replicate_zero, List.push_toArray, List.append_toArray, List.nil_append, List.cons_append]
  gi_wp2
  go_ret
  exact ⟨rfl, rfl⟩
abbrev PairIn (z : Nat) : Type := {x : Nat × Nat // x.1 < z ∧ x.2 < z}
theorem pairs_stops (F : Fence) (n : Nat) (hF : F.fn 106) (hro : F.round = none) (hn : 1 ≤ n) (Bz z : Nat) (hz : z ≤ 1000) (w : World) (hBz : Bz < w.heap.size)
    (hc : w.cell? ⟨Bz, 0, none⟩ = some (.int .i64 z)) :
    SeqStopsK F n Try.prog 106 #[.pointer (some ⟨Bz, 0, none⟩)] (fun x : PairIn z => #[Value.int .i64 (x.1.1 : Int), Value.int .i64 (x.1.2 : Int)]) (KeepAt Bz) (fun ys => ys.map Subtype.val = pairsL z) (fun pre => pre.map Subtype.val <+: pairsL z) (z * z) w := fun l J Jx W hW _ _ hY h0 =>
  (pairs1_in F n hF hro hn l Bz z hz (fun pre W => ∃ p : List (PairIn z), p.map Subtype.val = pre ∧ J p W) (fun pre W => ∃ p : List (PairIn z), p.map Subtype.val = pre ∧ Jx p W)
    (fun pre x W hx hJ hl => by
      obtain ⟨p, rfl, hJ⟩ := hJ
      obtain ⟨fn, tmps, assign, body, hy, hR⟩ := hY p ⟨x, hx⟩ W hJ (by simpa using hl)
      refine ⟨fn, tmps, assign, body, hy, hR.mono ?_⟩
      rintro e W' (⟨h1, h2, h3⟩ | ⟨h1, h2⟩)
      · exact .inl ⟨h1, ⟨p ++ [⟨x, hx⟩], by simp, h2⟩, h3⟩
      · exact .inr ⟨h1, ⟨p ++ [⟨x, hx⟩], by simp, h2⟩⟩)
    W ((hW.cell (p := ⟨Bz, 0, none⟩) hBz).trans hc) ⟨[], rfl, h0⟩).mono (by
      rintro e W' ⟨hv, h | h⟩
      · obtain ⟨ys, rfl, p, hp, hJ⟩ := h
        exact ⟨hv, .inl ⟨p, hp, hJ⟩⟩
      · obtain ⟨pre, hs, p, rfl, hJ⟩ := h
        exact ⟨hv, .inr ⟨p, hs, hJ⟩⟩)
end Go.Proofs.Ytdkahcolfcmmpaa.Pr
namespace Go
section
variable {F : Fence} {n : Nat} {P : Program} {ops : Array Oper} {C : World → Prop}
def noDefer (ops : Array Oper) : Bool := ops.all fun o => match o.op with | .defer _ => false | _ => true
theorem noDefer_at {ops : Array Oper} (h : noDefer ops = true) {i : Nat} {o : Oper} (ho : ops[i]? = some o) : ∀ c, o.op ≠ .defer c := by
  intro c hc
  unfold noDefer at h
  obtain ⟨hi, rfl⟩ := Array.getElem?_eq_some_iff.1 ho
  have := (Array.all_eq_true.1 h) i hi
  rw [hc] at this
  cases this
theorem Oper.wpIn_of_quiet_r {o : Oper} {a : Act} {K : Act → Prop} {K' : Act → World → Prop} {Q' : Exit → Act → World → Prop} {w : World} (hnd : ∀ c, o.op ≠ .defer c) (hw : C w) (h : ∀ a w', C w' → K a → K' a w')
    (ha : o.askedIn F P a C) (hh : o.quietIn F n P a C K) : o.wpIn F n P a w K' Q' := by
  obtain ⟨v, h1, h2⟩ := hh
  have h3 := h1 w hw
  unfold Oper.quietAtIn at h3
  unfold Oper.wpIn
  refine ⟨ha w hw, ?_⟩
  rw [Oper.semAt_eq _ _ _ hnd]
  generalize (execOp a.eval o).run P w = r at *
  cases r with
  | ok x w' =>
    cases x <;> simp only [Oper.quietUponIn] at h3 <;> simp only [Oper.uponIn]
    case value u =>
      obtain ⟨e1, e2⟩ := h3
      rw [e1, e2]
      exact h _ _ hw h2
    case skip =>
      obtain ⟨e1, e2⟩ := h3
      rw [e1, ← e2]
      exact h _ _ hw h2
    case enter f args =>
      obtain ⟨e1, hd, hc⟩ := h3
      rw [e1]
      exact ⟨hd, hc.mono fun e w'' ⟨he, hw''⟩ => by subst he; exact h _ _ hw'' h2⟩
  | halt x w' => simp only [Oper.quietUponIn] at h3
theorem wpOpIn_of_qOpIn_r {i : Nat} {a : Act} {K : Act → Prop} {K' : Act → World → Prop} {Q' : Exit → Act → World → Prop} {w : World} (hnd : noDefer ops = true) (hC : C w) (h : ∀ a w', C w' → K a → K' a w')
    (hh : qOpIn F n P ops C i K a) : wpOpIn F n P ops Q' i K' a w := by
  unfold qOpIn at hh
  unfold wpOpIn
  split
  · rename_i ho; simp only [ho] at hh; exact h _ _ hC hh
  · rename_i o ho
    simp only [ho] at hh
    obtain ⟨ha, hh⟩ := hh
    split
    · rename_i hw; simp only [hw, if_true] at hh; exact Oper.wpIn_of_quiet_r (noDefer_at hnd ho) hC h ha hh
    · rename_i hw; simp only [hw] at hh; exact ⟨ha w hC, h _ _ hC hh⟩
theorem wpAnyIn_of_quiet_r {md : Region.Mode} {Q : Act → Prop} {Q' : Exit → Act → World → Prop} (hnd : noDefer ops = true) (hQ : ∀ a w, C w → Q a → Q' .normal a w) : ∀ (fuel : Nat) (listed : Array Bool) (a : Act) (w : World), C w →
    wpAnyQIn F n P md ops C Q fuel listed a → wpAnyIn F n P md ops Q' fuel listed a w
  | 0, _, _, _, hw, h => ⟨h.1, hQ _ _ hw h.2⟩
  | fuel + 1, _, _, _, hw, h => ⟨fun h0 => hQ _ _ hw (h.1 h0), fun i hi => wpOpIn_of_qOpIn_r hnd hw (fun a' w' hw' => wpAnyIn_of_quiet_r hnd hQ fuel _ a' w' hw') (h.2 i hi)⟩
theorem wpIn_region_quiet_r {id : Nat} {Q : Exit → Act → World → Prop} {a : Act} {w : World} (hnd : noDefer ops = true) (hm : P.follows .mixedOrders = true) (hB : Region.lexB .any ops = true) (hC : C { w with drawn := w.drawn + 1 })
    (h : wpQuietIn F n P ops C (fun a' => ∀ w', C w' → Q .normal a' w') ops.toList a) : (Code.region id ops true).wpIn F n P Q a w := by
  simp only [Region.lexB, Bool.and_eq_true] at hB
  refine wpIn_region_any hm (wpAnyIn_of_quiet_r (Q := fun a' => ∀ w', C w' → Q .normal a' w') hnd (fun _ w' hw' h => h w' hw') _ _ _ _ hC ?_)
  have := wpAnyQIn_lex (F := F) (n := n) (C := C) (md := .any) hB.1 ops.toList 0 (Array.replicate ops.size false) a (by simp) (by simpa using hB.2) h
  simpa using this
theorem wpIn_region_quiet_lit_r {id : Nat} {Q : Exit → Act → World → Prop} {a : Act} {w : World} {l : List Oper} (hnd : noDefer l.toArray = true) (hm : P.follows .mixedOrders = true) (hB : Region.lexB .any l.toArray = true)
    (h : wpQuietIn F n P l.toArray (fun w' => ∃ n, w' = w.drewN n) (fun a' => ∀ w', (∃ n, w' = w.drewN n) → Q .normal a' w') l a) : (Code.region id l.toArray true).wpIn F n P Q a w :=
  wpIn_region_quiet_r (C := fun w' => ∃ n, w' = w.drewN n) hnd hm hB ⟨1, rfl⟩ (by simpa using h)
end
end Go
namespace Go.Proofs.Ytdkahcolfcmmpaa.Pr
open Go.RowKit Go.Shelf Go.Proofs.YtdkahcolfcmmpaaW.PrintWords Go.Proofs.YtdkahcolfcmmpaaW.PrintLast Go.Proofs.YtdkahcolfcmmpaaW.PrintMore
attribute [local go_sem] max2_int min2_int max_two min_two max_three min_three max_four min_four
set_option linter.unusedVariables false
set_option linter.unusedSimpArgs false
attribute [local go_sem] Oper.semAt_some
def bd (p s : Int) (i k : Nat) : Int := mn p (wrap64 (s * (mx (wrap64 ((i : Int) - k)) (wrap64 (-(wrap64 ((i : Int) - k)))))))
theorem bd_f (p s : Int) (i k : Nat) : figure_tolerance_bound.f p s i k = some (bd p s i k) := rfl
def jRef (p s : Int) (l : List S38) (x : Nat × Nat) : Bool := decide (bd p s x.1 x.2 < wrap64 ((rd_T38 l x.1).f0 - (rd_T38 l x.2).f1))
def jUnd (p s : Int) (l : List S38) (x : Nat × Nat) : Bool := decide (bd p s x.1 x.2 < wrap64 ((rd_T38 l x.1).f1 - (rd_T38 l x.2).f0))
def figure_tolerance_judge.f (a0_0 : Int) (a0_1 : Int) (l1 : List (S38)) : Option (Int × Int × Int) :=
  if l1.length ≤ 1000 then
    some (match (pairsL l1.length).find? (jRef a0_0 a0_1 l1) with
      | some x => (-1, x.1, x.2)
      | none => if (pairsL l1.length).any (jUnd a0_0 a0_1 l1) then (0, 0, 0) else (1, 0, 0))
  else none
theorem hcell {W : World} {b : Nat} {cs : Array Value} {t : TypeId} (h : W.heap[b]? = some (.cells cs t (0, 0))) (i : Nat) : W.cell? ⟨b, i, none⟩ = cs[i]? := by
  simp [World.cell?, h]
theorem hfro {W : World} {b : Nat} {cs : Array Value} {t : TypeId} (h : W.heap[b]? = some (.cells cs t (0, 0))) (i : Nat) : W.frozen? ⟨b, i, none⟩ = false := by
  simp [World.frozen?, h]
theorem hset {W : World} {b : Nat} {cs : Array Value} {t : TypeId} (h : W.heap[b]? = some (.cells cs t (0, 0))) (i : Nat) (v : Value) : (W.setCell ⟨b, i, none⟩ v).heap[b]? = some (.cells (cs.setIfInBounds i v) t (0, 0)) := by
  simp [World.setCell, Array.getElem?_modify, h]
theorem hlt {W : World} {b : Nat} {o : Obj} (h : W.heap[b]? = some o) : b < W.heap.size := (Array.getElem?_eq_some_iff.1 h).1
theorem hold {W W' : World} {b n : Nat} {o : Obj} (h : W.heap[b]? = some o) (hB : Below n W W') (hn : b < n) : W'.heap[b]? = some o := (hB.block b hn).trans h
theorem alloc_at (W : World) (o : Obj) (k : Nat) : (W.alloc o).heap[k]? = if k = W.heap.size then some o else W.heap[k]? := by
  show (W.heap.push o)[k]? = _
  rw [Array.getElem?_push]
def JSt (b : Nat) (sl : Value) (p s r x y ans : Int) (W : World) : Prop :=
  W.heap[b]? = some (.cells #[.int .i64 p, .int .i64 s] 118 (0, 0)) ∧ W.heap[b + 1]? = some (.cells #[sl] 36 (0, 0)) ∧ W.heap[b + 1 + 1]? = some (.cells #[.int .i64 r] 3 (0, 0)) ∧
  W.heap[b + 1 + 1 + 1]? = some (.cells #[.int .i64 x, .int .i64 y] 48 (0, 0)) ∧ W.heap[b + 1 + 1 + 1 + 1]? = some (.cells #[.int .i64 ans] 3 (0, 0)) ∧ b + 6 ≤ W.heap.size
theorem JSt.grown {b : Nat} {sl : Value} {p s r x y ans : Int} {A B : World} {row : Option Nat} (h : JSt b sl p s r x y ans A) (hg : A.grownBy B row) (hr : ∀ r, row = some r → ∃ o : Obj, A.heap[r]? = some o ∧ o.isCells = false) : JSt b sl p s r x y ans B :=
  ⟨(grownBy_keeps_cells hg hr h.1 rfl).trans h.1, (grownBy_keeps_cells hg hr h.2.1 rfl).trans h.2.1, (grownBy_keeps_cells hg hr h.2.2.1 rfl).trans h.2.2.1, (grownBy_keeps_cells hg hr h.2.2.2.1 rfl).trans h.2.2.2.1, (grownBy_keeps_cells hg hr h.2.2.2.2.1 rfl).trans h.2.2.2.2.1, Nat.le_trans h.2.2.2.2.2 hg.size⟩
theorem JSt.below {b : Nat} {sl : Value} {p s r x y ans : Int} {A B : World} (h : JSt b sl p s r x y ans A) (hB : Below A.heap.size A B) : JSt b sl p s r x y ans B :=
  ⟨hold h.1 hB (hlt h.1), hold h.2.1 hB (hlt h.2.1), hold h.2.2.1 hB (hlt h.2.2.1), hold h.2.2.2.1 hB (hlt h.2.2.2.1), hold h.2.2.2.2.1 hB (hlt h.2.2.2.2.1), Nat.le_trans h.2.2.2.2.2 hB.size⟩
theorem keeps_of_below {A B : World} (h : Below A.heap.size A B) : KeepsOthers A B := ⟨h.size, fun k o hk _ => (h.block k (hlt hk)).trans hk⟩
def JI (w : World) (sl : Value) (p s : Int) (l : List S38) (pre : List (PairIn l.length)) (W : World) : Prop :=
  ((∀ x ∈ pre, jRef p s l x.1 = false) ∧ JSt w.heap.size sl p s 0 0 0 (if pre.any (fun x => jUnd p s l x.1) then 0 else 1) W) ∧ Below w.heap.size w W
def JIx (w : World) (sl : Value) (p s : Int) (l : List S38) (c : Code) (pre : List (PairIn l.length)) (W : World) : Prop :=
  (c = .ret ∧ ∃ ini last, pre = ini ++ [last] ∧ (∀ x ∈ ini, jRef p s l x.1 = false) ∧ jRef p s l last.1 = true ∧ ∃ z, JSt w.heap.size sl p s (-1) last.1.1 last.1.2 z W) ∧ Below w.heap.size w W
set_option maxRecDepth 100000 in
set_option maxHeartbeats 4000000 in
theorem figure_tolerance_judge.calls (a0_0 : Int) (a0_1 : Int) (A1 : Option Addr) (c1 : Nat) (l1 : List (S38)) (r1 : Int) (r2 : Int) (r3 : Int) (w : World) (hr1 : Kd.C k38 w A1 l1.length l1) (hc1 : l1.length ≤ c1) (h : figure_tolerance_judge.f a0_0 a0_1 l1 = some (r1, r2, r3)) :
    Calls Try.prog 103 #[.agg #[.int .i64 a0_0, .int .i64 a0_1], .slice A1 l1.length c1] w fun e w' => e = .returned (.tuple #[.int .i64 r1, .agg #[.int .i64 r2, .int .i64 r3]]) ∧ Below w.heap.size w w' := by
  have hu118 := Try.underlying118
  have hu48 := Try.underlying48
  have hz : l1.length ≤ 1000 := by
    unfold figure_tolerance_judge.f at h; split at h
    · assumption
    · cases h
  refine (callsIn_wide (n := 3)).1 ?_
  refine callsIn_of_wp_marks Try.func103 rfl trivial ?_ rfl
  simp only [Try.ntmps103, List.size_toArray, List.length_cons, List.length_nil, Nat.reduceAdd, Nat.reduceSub, Array.replicate_succ, Array.replicate_zero, List.push_toArray, List.append_toArray, List.nil_append, List.cons_append]
  gi_wp2_with (refine ⟨trivial, ?_⟩; gi_at_call 68; refine (pairs_in Fence.wide _ trivial rfl _ _).mono ?_; rintro e w' ⟨rfl, rfl⟩)
  generalize hw6 : World.alloc _ (Obj.cells #[Value.int IntKind.i64 (l1.length : Int)] 3) = w6
  obtain ⟨hs6, hJ6, hz6, hB6⟩ : w6.heap.size = w.heap.size + 6 ∧ JSt w.heap.size (.slice A1 l1.length c1) a0_0 a0_1 0 0 0 1 w6 ∧ w6.heap[w.heap.size + 1 + 1 + 1 + 1 + 1]? = some (.cells #[.int .i64 l1.length] 3 (0, 0)) ∧ Below w.heap.size w w6 := by
    subst hw6
    refine ⟨by simp, ?_, ?_, ?_⟩
    · refine ⟨?_, ?_, ?_, ?_, ?_, by simp only [World.size_alloc]; omega⟩ <;> (simp only [alloc_at, World.size_alloc, ↓reduceIte]; (repeat' split) <;> (first | rfl | (exfalso; omega)))
    · simp only [alloc_at, World.size_alloc, ↓reduceIte]
    · exact (((((((Below.refl _ w).alloc (Nat.le_refl _) _).alloc (by simp) _).alloc (by simp; omega) _).alloc (by simp; omega) _).alloc (by simp; omega) _).alloc (by simp; omega) _)
  clear hw6
  have fin : ∀ (W : World) (r x y : Int) (a : Act) (D : Nat), w.heap.size ≤ D → W.heap[w.heap.size + 1 + 1]? = some (.cells #[.int .i64 r] 3 (0, 0)) → W.heap[w.heap.size + 1 + 1 + 1]? = some (.cells #[.int .i64 x, .int .i64 y] 48 (0, 0)) → W.heap[D]? = some (.deferred (some [])) → Below w.heap.size w W →
      a.defers = [{ target := .collected D, args := #[] }] → a.tmps[4]? = some (.pointer (some ⟨w.heap.size + 1 + 1, 0, none⟩)) → a.tmps[5]? = some (.pointer (some ⟨w.heap.size + 1 + 1 + 1, 0, none⟩)) → (r1, r2, r3) = (r, x, y) →
      bodyPostM Fence.wide 3 Try.prog Try.f103 (fun e w' => e = .returned (.tuple #[.int .i64 r1, .agg #[.int .i64 r2, .int .i64 r3]]) ∧ Below w.heap.size w w') .ret a W := by
    rintro W r x y ⟨tm, df⟩ D hD k2 k3 hK hB rfl h4 h5 he
    cases he
    dsimp only at h4 h5
    refine ⟨by simp, .inl ⟨_, _, rfl, run_takeDeferred hK, ?_⟩⟩
    have q2 := cell_kept (hcell k2 0) (grownBy_putObj' _ D (.deferred none)) (fun r e => by cases e; exact ⟨_, hK, rfl⟩)
    have q3 := cell_kept (hcell k3 0) (grownBy_putObj' _ D (.deferred none)) (fun r e => by cases e; exact ⟨_, hK, rfl⟩)
    have q31 := cell_kept (hcell k3 1) (grownBy_putObj' _ D (.deferred none)) (fun r e => by cases e; exact ⟨_, hK, rfl⟩)
    refine ⟨.tuple #[.int .i64 r1, .agg #[.int .i64 r2, .int .i64 r3]], ?_, rfl, hB.trans (belowK_b (w := w) (Nat.le_refl _) W D _ _ hD hK rfl rfl)⟩
    simp [results, Try.f103, go_sem, q2, q3, q31, h4, h5, hu48]
  refine wpIn_rangeFunc_ownG rfl (by omega) (gf := 106) (lb := #[.pointer (some ⟨w.heap.size + 1 + 1 + 1 + 1 + 1, 0, none⟩)]) rfl trivial (enters_of Try.func106 (by kernel_rfl) rfl)
    (pairs_stops Fence.wide _ trivial rfl (by omega) (w.heap.size + 1 + 1 + 1 + 1 + 1) l1.length hz w6 (by omega) ((hcell hz6 0).trans rfl)) KeepAt.trans (keepAt_b (by omega)) (Below.refl _ _) (fun _ => rfl)
    (JI w (.slice A1 l1.length c1) a0_0 a0_1 l1) (JIx w (.slice A1 l1.length c1) a0_0 a0_1 l1)
    (OwnFrom.and (Own.from (fun s A B row hs hg hr => ⟨hs.1, hs.2.grown hg hr⟩) _) (ownFrom_below (Nat.le_refl _) (by omega)))
    (fun c => OwnFrom.and (Own.from (fun s A B row hs hg hr => by obtain ⟨hc, ini, last, e1, e2, e3, z, e4⟩ := hs; exact ⟨hc, ini, last, e1, e2, e3, z, e4.grown hg hr⟩) _) (ownFrom_below (Nat.le_refl _) (by omega)))
    ⟨⟨by simp, hJ6⟩, hB6⟩
    (fun x => { tmps := #[.agg #[.int .i64 a0_0, .int .i64 a0_1], .slice A1 l1.length c1, .pointer (some ⟨w.heap.size, 0, none⟩), .pointer (some ⟨w.heap.size + 1, 0, none⟩), .pointer (some ⟨w.heap.size + 1 + 1, 0, none⟩), .pointer (some ⟨w.heap.size + 1 + 1 + 1, 0, none⟩), .pointer (some ⟨w.heap.size + 1 + 1 + 1 + 1, 0, none⟩), .int .i64 (x.1.1 : Int), .int .i64 (x.1.2 : Int), undef, .slice A1 l1.length c1, .int .i64 l1.length, .func (.func 106) #[] #[.pointer (some ⟨w.heap.size + 1 + 1 + 1 + 1 + 1, 0, none⟩)], .int .i64 (x.1.1 : Int), .int .i64 (x.1.2 : Int), undef, undef, undef, undef, undef, undef, undef, undef, undef, undef, undef, undef, undef, undef, undef, undef, undef, undef, undef, undef, undef, undef, undef, undef, undef, undef, undef, undef, undef, undef, undef, undef, undef, undef, undef], defers := [] }) ?assign ?body ?done ?stop
  case assign =>
    intro l x W K hK
    gi_wp2
    exact hK
  case body =>
    rintro l pre ⟨⟨x1, x2⟩, hx1, hx2⟩ W ⟨⟨hp, hJ⟩, hB⟩ _
    dsimp only at hx1 hx2
    obtain ⟨k0, k1, k2, k3, k4, k6⟩ := hJ
    have c0 := (hcell k0 0).trans rfl
    have c01 := (hcell k0 1).trans rfl
    have c1' := (hcell k1 0).trans rfl
    gi_wp2_with (refine ⟨trivial, ?_⟩; gi_at_call 104; refine (CallsIn.inRound l (callsIn_wide.2 (figure_tolerance_bound.calls _ _ _ _ _ _ (bd_f a0_0 a0_1 x1 x2)))).mono ?_; rintro e W2 ⟨rfl, hB2⟩; have hJ2 := JSt.below ⟨k0, k1, k2, k3, k4, k6⟩ hB2)
    have hbd : jRef a0_0 a0_1 l1 (x1, x2) = decide (bd a0_0 a0_1 x1 x2 < wrap64 ((rd_T38 l1 x1).f0 - (rd_T38 l1 x2).f1)) := rfl
    have hbu : jUnd a0_0 a0_1 l1 (x1, x2) = decide (bd a0_0 a0_1 x1 x2 < wrap64 ((rd_T38 l1 x1).f1 - (rd_T38 l1 x2).f0)) := rfl
    generalize hbe : bd a0_0 a0_1 x1 x2 = bb at *
    have hK2 := (keeps_of_below hB2).from w6.heap.size
    have hBn := hB2.mono hB.size
    have hz5 : w.heap.size + 1 + 1 + 1 + 1 + 1 < W.heap.size := by omega
    have hk5 : KeepAt (w.heap.size + 1 + 1 + 1 + 1 + 1) W W2 := hB2.block _ hz5
    have hBw : Below w.heap.size w W2 := hB.trans hBn
    clear k0 k1 k2 k3 k4 k6 c0 c01 c1' hJ6
    obtain ⟨k0, k1, k2, k3, k4, k6⟩ := hJ2
    have c1' := (hcell k1 0).trans rfl
    obtain ⟨ad, hA, hi0, hi1⟩ := at_T38 (Kd.C_below hr1 hBw) x1 (by omega) (by omega)
    obtain ⟨ad', hA', hk0, hk1⟩ := at_T38 (Kd.C_below hr1 hBw) x2 (by omega) (by omega)
    obtain rfl : ad = ad' := by rw [hA] at hA'; exact Option.some.inj hA'
    subst hA
    simp only [Int.toNat_natCast] at hi0 hi1 hk0 hk1
    have d4 : W2.cell? ⟨w.heap.size + 1 + 1 + 1 + 1, 0, none⟩ = some (.int .i64 (if pre.any (fun x => jUnd a0_0 a0_1 l1 x.1) then 0 else 1)) := hcell k4 0
    have e4 : W2.frozen? ⟨w.heap.size + 1 + 1 + 1 + 1, 0, none⟩ = false := hfro k4 0
    (refine wpIn_region_quiet_lit_r (by kernel_rfl) (by kernel_rfl) (by kernel_rfl) ?_; (repeat (gi_big_quiet_step (fail))); refine wpQuietIn_nil ?_; intro _ hw'; obtain ⟨nq, hw''⟩ := hw'; subst hw'')
    replace k2 : (W2.drewN nq).heap[w.heap.size + 1 + 1]? = _ := k2
    replace k3 : (W2.drewN nq).heap[w.heap.size + 1 + 1 + 1]? = _ := k3
    replace k4 : (W2.drewN nq).heap[w.heap.size + 1 + 1 + 1 + 1]? = _ := k4
    have d2 := (hcell k2 0).trans rfl
    have e2 := hfro k2 0
    have k3' : ∀ v, ((W2.drewN nq).setCell ⟨w.heap.size + 1 + 1, 0, none⟩ v).heap[w.heap.size + 1 + 1 + 1]? = _ := fun v => (Deep.blk_setCell_other _ _ _ _ (by dsimp only; omega)).trans k3
    have d3 := fun v => (hcell (k3' v) 0).trans rfl
    have e3 := fun v => hfro (k3' v) 0
    have d31 := fun v v' => (hcell (hset (k3' v) 0 v') 1).trans rfl
    have e31 := fun v v' => hfro (hset (k3' v) 0 v') 1
    gi_wp2
    · have hr : jRef a0_0 a0_1 l1 (x1, x2) = true := by rw [hbd]; exact decide_eq_true (by assumption)
      try rw [← hs6]
      refine ⟨hK2.trans (KeepsFrom.trans (Y := W2.drewN nq) ⟨Nat.le_refl _, fun _ _ _ h _ => h⟩ ((KeepsOthers.setCell _ _ _).trans ((KeepsOthers.setCell _ _ _).trans (KeepsOthers.setCell _ _ _)) |>.from _)), ⟨rfl, pre, ⟨(x1, x2), hx1, hx2⟩, rfl, hp, hr, (if pre.any (fun x => jUnd a0_0 a0_1 l1 x.1) then 0 else 1), ?_, ?_, ?_, ?_, ?_, by simpa using k6⟩, ?_⟩
      · rw [Deep.blk_setCell_other _ _ _ _ (by dsimp only; omega), Deep.blk_setCell_other _ _ _ _ (by dsimp only; omega), Deep.blk_setCell_other _ _ _ _ (by dsimp only; omega)]; exact k0
      · rw [Deep.blk_setCell_other _ _ _ _ (by dsimp only; omega), Deep.blk_setCell_other _ _ _ _ (by dsimp only; omega), Deep.blk_setCell_other _ _ _ _ (by dsimp only; omega)]; exact k1
      · rw [Deep.blk_setCell_other _ _ _ _ (by dsimp only; omega), Deep.blk_setCell_other _ _ _ _ (by dsimp only; omega)]; exact hset k2 0 _
      · exact hset (hset (k3' _) 0 _) 1 _
      · rw [Deep.blk_setCell_other _ _ _ _ (by dsimp only; omega), Deep.blk_setCell_other _ _ _ _ (by dsimp only; omega), Deep.blk_setCell_other _ _ _ _ (by dsimp only; omega)]; exact k4
      · exact (((pw_below_drewN hBw nq).setCell (by simp; omega) _).setCell (by simp; omega) _).setCell (by simp; omega) _
    · have hr : jRef a0_0 a0_1 l1 (x1, x2) = false := by rw [hbd]; exact decide_eq_false (by omega)
      (refine wpIn_region_quiet_lit_r (by kernel_rfl) (by kernel_rfl) (by kernel_rfl) ?_; (repeat (gi_big_quiet_step (fail))); refine wpQuietIn_nil ?_; intro _ hw'; obtain ⟨nq, hw''⟩ := hw'; subst hw'')
      gi_wp2
      · have hu : jUnd a0_0 a0_1 l1 (x1, x2) = true := by rw [hbu]; exact decide_eq_true (by assumption)
        try rw [← hs6]
        refine ⟨hK2.trans (KeepsFrom.trans (Y := W2.drewN _) ⟨Nat.le_refl _, fun _ _ _ h _ => h⟩ ((KeepsOthers.setCell _ _ _).from _)), (hk5.trans (Deep.blk_setCell_other _ _ _ _ (by dsimp only; omega))), ⟨?_, ?_, ?_, ?_, ?_, ?_, by simpa using k6⟩, ?_⟩
        · intro y hy
          rcases List.mem_append.1 hy with hy | hy
          · exact hp y hy
          · rw [List.mem_singleton.1 hy]; exact hr
        · rw [Deep.blk_setCell_other _ _ _ _ (by dsimp only; omega)]; exact k0
        · rw [Deep.blk_setCell_other _ _ _ _ (by dsimp only; omega)]; exact k1
        · rw [Deep.blk_setCell_other _ _ _ _ (by dsimp only; omega)]; exact k2
        · rw [Deep.blk_setCell_other _ _ _ _ (by dsimp only; omega)]; exact k3
        · rw [List.any_append]
          simp only [List.any_cons, hu, Bool.true_or, Bool.or_true, if_true]
          exact hset k4 0 _
        · exact (pw_below_drewN hBw _).setCell (by simp; omega) _
      · have hu : jUnd a0_0 a0_1 l1 (x1, x2) = false := by rw [hbu]; exact decide_eq_false (by omega)
        try rw [← hs6]
        refine ⟨hK2.trans ⟨Nat.le_refl _, fun _ _ _ h _ => h⟩, hk5, ⟨?_, k0, k1, k2, k3, ?_, k6⟩, pw_below_drewN (pw_below_drewN hBw _) _⟩
        · intro y hy
          rcases List.mem_append.1 hy with hy | hy
          · exact hp y hy
          · rw [List.mem_singleton.1 hy]; exact hr
        · rw [List.any_append]
          simp only [List.any_cons, List.any_nil, hu, Bool.or_false]
          exact k4
  case done =>
    rintro D ys W hD hys ⟨⟨hne, hJ⟩, hB⟩ hK
    have hfind : (pairsL l1.length).find? (jRef a0_0 a0_1 l1) = none := by
      rw [← hys, List.find?_eq_none]
      intro x hx
      obtain ⟨y, hy, rfl⟩ := List.mem_map.1 hx
      rw [hne y hy]; simp
    have hany : (pairsL l1.length).any (jUnd a0_0 a0_1 l1) = ys.any (fun x => jUnd a0_0 a0_1 l1 x.1) := by rw [← hys, List.any_map]; rfl
    unfold figure_tolerance_judge.f at h
    rw [if_pos hz, hfind, hany] at h
    obtain ⟨k0, k1, k2, k3, k4, k6⟩ := hJ
    have d4 : W.cell? ⟨w.heap.size + 1 + 1 + 1 + 1, 0, none⟩ = some (.int .i64 (if ys.any (fun x => jUnd a0_0 a0_1 l1 x.1) then 0 else 1)) := hcell k4 0
    have d2 : W.cell? ⟨w.heap.size + 1 + 1, 0, none⟩ = some (.int .i64 0) := hcell k2 0
    have e2 := hfro k2 0
    have k3' : ∀ v, (W.setCell ⟨w.heap.size + 1 + 1, 0, none⟩ v).heap[w.heap.size + 1 + 1 + 1]? = _ := fun v => (Deep.blk_setCell_other _ _ _ _ (by dsimp only; omega)).trans k3
    have d3 := fun v => (hcell (k3' v) 0).trans rfl
    have e3 := fun v => hfro (k3' v) 0
    have d31 := fun v v' => (hcell (hset (k3' v) 0 v') 1).trans rfl
    have e31 := fun v v' => hfro (hset (k3' v) 0 v') 1
    cases hb : ys.any (fun x => jUnd a0_0 a0_1 l1 x.1)
    · rw [hb] at h d4
      simp only [Bool.false_eq_true, if_false] at d4
      gi_wp2
      refine fin _ 1 0 0 _ D (by omega) ((Deep.blk_setCell_other _ _ _ _ (by dsimp only; omega)).trans ((Deep.blk_setCell_other _ _ _ _ (by dsimp only; omega)).trans (hset k2 0 _))) (hset (hset (k3' _) 0 _) 1 _) ((KeepsOthers.setCell _ _ _).trans ((KeepsOthers.setCell _ _ _).trans (KeepsOthers.setCell _ _ _)) |>.same D _ hK rfl) (((hB.setCell (by simp; omega) _).setCell (by simp; omega) _).setCell (by simp; omega) _) rfl rfl rfl ?_
      simpa using h.symm
    · rw [hb] at h d4
      simp only [if_true] at d4
      gi_wp2
      refine fin _ 0 0 0 _ D (by omega) ((Deep.blk_setCell_other _ _ _ _ (by dsimp only; omega)).trans ((Deep.blk_setCell_other _ _ _ _ (by dsimp only; omega)).trans (hset k2 0 _))) (hset (hset (k3' _) 0 _) 1 _) ((KeepsOthers.setCell _ _ _).trans ((KeepsOthers.setCell _ _ _).trans (KeepsOthers.setCell _ _ _)) |>.same D _ hK rfl) (((hB.setCell (by simp; omega) _).setCell (by simp; omega) _).setCell (by simp; omega) _) rfl rfl rfl ?_
      simpa using h.symm
  case stop =>
    rintro D c pre W hD hpre ⟨⟨rfl, ini, last, e1, e2, e3, z, hJ⟩, hB⟩ hK
    gi_wp2
    obtain ⟨k0, k1, k2, k3, k4, k6⟩ := hJ
    refine fin _ _ _ _ _ D (by omega) k2 k3 hK hB rfl rfl rfl ?_
    have hfind : (pairsL l1.length).find? (jRef a0_0 a0_1 l1) = some last.1 := by
      obtain ⟨post, hpost⟩ := hpre
      rw [← hpost, e1, List.map_append, List.find?_append, List.find?_append, List.find?_eq_none.2]
      · simp [e3]
      · intro x hx
        obtain ⟨y, hy, rfl⟩ := List.mem_map.1 hx
        rw [e2 y hy]; simp
    unfold figure_tolerance_judge.f at h
    rw [if_pos hz, hfind] at h
    simpa using h.symm
end Go.Proofs.Ytdkahcolfcmmpaa.Pr
namespace Go.Proofs.Ytdkahcolfcmmpaa.Pr
open Go.RowKit Go.Proofs.YtdkahcolfcmmpaaW.PrintWords Go.Proofs.YtdkahcolfcmmpaaW.PrintLast Go.Proofs.YtdkahcolfcmmpaaW.PrintMore
attribute [local go_sem] max2_int min2_int max_two min_two max_three min_three max_four min_four   -- for this text's walks alone
set_option linter.unusedVariables false
set_option linter.unusedSimpArgs false
def figure_Judge.f (k : Nat) (l0 : List (S38)) (a1_0 : Int) (a1_1 : Int) : Option (Int × Int × Int × Int) := (figure_checkAll.f k l0 a1_0 a1_1).bind fun t189 => (if t189 = 0 then ((figure_tolerance_judge.f a1_0 a1_1 l0).bind fun bt190 => (some (bt190.1, bt190.2.1, bt190.2.2, 0))) else (some (0, 0, 0, t189)))
theorem figure_Judge.mono : ∀ a0 a1 a2 k, LeO (figure_Judge.f k a0 a1 a2) (figure_Judge.f (k + 1) a0 a1 a2) := by
 intro a0 a1 a2 k
 unfold figure_Judge.f
 repeat' first
   | (with_reducible exact figure_checkAll.mono _ _ _ _)
   | (with_reducible exact LeO.refl _)
   | (with_reducible exact LeO.none _)
   | (with_reducible refine LeO.ite ?_ ?_)
   | (with_reducible refine LeO.bind ?_ (fun _ => ?_))
   | exact figure_checkAll.mono _ _ _ _
   | exact LeO.none _
   | refine LeO.ite ?_ ?_
   | refine LeO.bind ?_ (fun _ => ?_)
set_option maxHeartbeats 8000000 in
set_option maxRecDepth 100000 in
theorem figure_Judge.calls (k : Nat) (A0 : Option Addr) (c0 : Nat) (l0 : List (S38)) (a1_0 : Int) (a1_1 : Int) (r1 : Int) (r2 : Int) (r3 : Int) (r4 : Int) (w : World) (hr0 : Kd.C k38 w A0 l0.length l0) (hc0 : l0.length ≤ c0) (h : figure_Judge.f k l0 a1_0 a1_1 = some (r1, r2, r3, r4)) :
  Calls Try.prog 59 #[.slice A0 l0.length c0, .agg #[.int .i64 a1_0, .int .i64 a1_1]] w fun e w' => e = .returned (.tuple #[.int .i64 r1, .agg #[.int .i64 r2, .int .i64 r3], .int .i64 r4]) ∧ Below w.heap.size w w' := by
 have hu59 := Try.underlying59
 have hu48 := Try.underlying48
 have hu118 := Try.underlying118
 have HR0 := Aside0.mk hr0
 have HC0 := Aside0.mk hc0
 clear hr0 hc0
 have HB := Aside0.mk (Below.refl w.heap.size w)
 have H : ((figure_checkAll.f k l0 a1_0 a1_1).bind fun t189 => (if t189 = 0 then ((figure_tolerance_judge.f a1_0 a1_1 l0).bind fun bt190 => (some (bt190.1, bt190.2.1, bt190.2.2, 0))) else (some (0, 0, 0, t189)))) = some (r1, r2, r3, r4) := h
 clear h
 replace H := Option.bind_eq_some_iff.mp H
 obtain ⟨t189, A30, H⟩ := H
 replace H : (if t189 = 0 then ((figure_tolerance_judge.f a1_0 a1_1 l0).bind fun bt190 => (some (bt190.1, bt190.2.1, bt190.2.2, 0))) else (some (0, 0, 0, t189))) = some (r1, r2, r3, r4) := H
 have A3 := Aside0.mk A30
 clear A30
 by_cases c4 : t189 = 0
 ·rw [if_pos c4] at H
  have c4b0 : (t189 == 0) = true := beq_iff_eq.mpr c4
  have c4b1 : (t189 != 0) = false := bne_eq_false_iff_eq.mpr c4
  clear c4
  replace H := Option.bind_eq_some_iff.mp H
  obtain ⟨⟨t190, t191, t192⟩, A50, H⟩ := H
  replace H : (some (t190, t191, t192, 0)) = some (r1, r2, r3, r4) := H
  have A5 := Aside0.mk A50
  clear A50
  simp only [Option.some.injEq, Prod.mk.injEq] at H
  obtain ⟨rfl, rfl, rfl, rfl⟩ := H
  go_enter Try.func59, Try.ntmps59
  try go_wp2_with (first | ((with_reducible refine gate_dst (N := 3) rfl ?_); refine box_event ?hg (N := 3) ?hd (cs := #[.int .i64 a1_0, .int .i64 a1_1]) (t := 59) ?hr ?_; (case hd => rfl); (case hg => rfl); (case hr => exact gr_); intro gb187 hg w6 hbox hb; have n0_ := Aside0.mk (below_step (hb_ HB) hb); have n1_ := Aside0.mk (hbox); have n2_ := Aside0.mk ((hz_ HB hg)); have n3_ := Aside0.mk ((hz_ HB hg)); clear HB; have HB := n0_; have BK187 := n1_; have GW187 := n2_; have GE187 := n3_; clear n0_ n1_ n2_ n3_; clear hb hbox hg) | ((with_reducible refine gate_dst (N := 5) rfl ?_); refine box_event ?hg (N := 5) ?hd (cs := #[.int .i64 0, .int .i64 0]) (t := 48) ?hr ?_; (case hd => rfl); (case hg => rfl); (case hr => exact gr_); intro gb188 hg w7 hbox hb; have n0_ := Aside0.mk (bb_ BK187 hb); have n1_ := Aside0.mk (below_step (hb_ HB) hb); have n2_ := Aside0.mk (hbox); have n3_ := Aside0.mk ((hz_ HB hg)); have n4_ := Aside0.mk ((hz_ HB hg)); have n5_ := Aside0.mk ((nl_ BK187 hg)); have n6_ := Aside0.mk ((ng_ BK187 hg)); clear BK187; clear HB; have BK187 := n0_; have HB := n1_; have BK188 := n2_; have GW188 := n3_; have GE188 := n4_; have NB187_188 := n5_; have NB188_187 := n6_; clear n0_ n1_ n2_ n3_ n4_ n5_ n6_; clear hb hbox hg; have hnb8 := NB187_188.out; have hnc8 := NB188_187.out; have hcz9_0 : w7.cell? ⟨gb187, 0, none⟩ = some (.int .i64 a1_0) := (blk_cell BK187.out 0).trans rfl; have hcz9_1 : w7.cell? ⟨gb187, 1, none⟩ = some (.int .i64 a1_1) := (blk_cell BK187.out 1).trans rfl; have hfz9_0 := blk_frozen BK187.out 0; have hfz9_1 := blk_frozen BK187.out 1) | ((with_reducible refine gate_callee (f := 102) rfl ?_); refine goesL_ (some 12) rfl rfl Try.func102 (by kernel_rfl) rfl #[.slice A0 l0.length c0, .agg #[.int .i64 a1_0, .int .i64 a1_1]] rfl ma_ ?_; (with_reducible refine (figure_checkAll.calls k _ _ l0 a1_0 a1_1 t189 _ ?side1 ?side2 A3.out).mono ?_); (case side1 => repeat (first | exact (Kd.C_below HR0.out HB.out) | (with_reducible refine Kd.C_alloc ?_ _) | (with_reducible refine Kd.C_drewN ?_ _) | (with_reducible refine Kd.C_drew ?_))); (case side2 => exact HC0.out); rintro e w10 ⟨rfl, hb⟩; refine ⟨_, rfl, ?_⟩; have n0_ := Aside0.mk (bb_ BK187 hb); have n1_ := Aside0.mk (bb_ BK188 hb); have n2_ := Aside0.mk (below_step (hb_ HB) hb); clear BK187; clear BK188; clear HB; have BK187 := n0_; have BK188 := n1_; have HB := n2_; clear n0_ n1_ n2_; (try clear hb); (try clear hb2); (try clear hk); (try clear hi); have hcz11_0 : w10.cell? ⟨gb187, 0, none⟩ = some (.int .i64 a1_0) := (blk_cell BK187.out 0).trans rfl; have hcz11_1 : w10.cell? ⟨gb187, 1, none⟩ = some (.int .i64 a1_1) := (blk_cell BK187.out 1).trans rfl; have hfz11_0 := blk_frozen BK187.out 0; have hfz11_1 := blk_frozen BK187.out 1) | ((with_reducible refine gate_callee (f := 103) rfl ?_); refine goesL_ (some 21) rfl rfl Try.func103 (by kernel_rfl) rfl #[.agg #[.int .i64 a1_0, .int .i64 a1_1], .slice A0 l0.length c0] rfl ma_ ?_; (with_reducible refine (figure_tolerance_judge.calls a1_0 a1_1 _ _ l0 t190 t191 t192 _ ?side1 ?side2 A5.out).mono ?_); (case side1 => repeat (first | exact (Kd.C_below HR0.out HB.out) | (with_reducible refine Kd.C_alloc ?_ _) | (with_reducible refine Kd.C_drewN ?_ _) | (with_reducible refine Kd.C_drew ?_))); (case side2 => exact HC0.out); rintro e w12 ⟨rfl, hb⟩; refine ⟨_, rfl, ?_⟩; have n0_ := Aside0.mk (bb_ BK187 hb); have n1_ := Aside0.mk (bb_ BK188 hb); have n2_ := Aside0.mk (below_step (hb_ HB) hb); clear BK187; clear BK188; clear HB; have BK187 := n0_; have BK188 := n1_; have HB := n2_; clear n0_ n1_ n2_; (try clear hb); (try clear hb2); (try clear hk); (try clear hi)) | ((with_reducible refine gate_dst (N := 9) rfl ?_); refine box_event ?hg (N := 9) ?hd (cs := #[.int .i64 0, .int .i64 0]) (t := 48) ?hr ?_; (case hd => rfl); (case hg => rfl); (case hr => exact gr_); intro gb193 hg w13 hbox hb; have n0_ := Aside0.mk (bb_ BK187 hb); have n1_ := Aside0.mk (bb_ BK188 hb); have n2_ := Aside0.mk (below_step (hb_ HB) hb); have n3_ := Aside0.mk (hbox); have n4_ := Aside0.mk ((hz_ HB hg)); have n5_ := Aside0.mk ((hz_ HB hg)); have n6_ := Aside0.mk ((nl_ BK187 hg)); have n7_ := Aside0.mk ((ng_ BK187 hg)); have n8_ := Aside0.mk ((nl_ BK188 hg)); have n9_ := Aside0.mk ((ng_ BK188 hg)); clear BK187; clear BK188; clear HB; have BK187 := n0_; have BK188 := n1_; have HB := n2_; have BK193 := n3_; have GW193 := n4_; have GE193 := n5_; have NB187_193 := n6_; have NB193_187 := n7_; have NB188_193 := n8_; have NB193_188 := n9_; clear n0_ n1_ n2_ n3_ n4_ n5_ n6_ n7_ n8_ n9_; clear hb hbox hg; have hnb14 := NB193_187.out; have hnc14 := NB187_193.out; have hnb15 := NB193_188.out; have hnc15 := NB188_193.out; have hcz16_0 : w13.cell? ⟨gb193, 0, none⟩ = some (.int .i64 0) := (blk_cell BK193.out 0).trans rfl; have hcz16_1 : w13.cell? ⟨gb193, 1, none⟩ = some (.int .i64 0) := (blk_cell BK193.out 1).trans rfl; have hfz16_0 := blk_frozen BK193.out 0; have hfz16_1 := blk_frozen BK193.out 1))
  have n0_ : Aside0 (((w13.setCell ⟨gb193, 0, none⟩ (.int .i64 t191)).setCell ⟨gb193, 1, none⟩ (.int .i64 t192)).heap[gb187]? = some (.cells #[.int .i64 a1_0, .int .i64 a1_1] 59 (0, 0))) := ⟨by (with_reducible repeat (first | refine blk_drewN ?_ _ | refine blk_drew ?_ | refine blk_alloc ?_ _)); refine blk_far ?_ NB187_193.out _; (with_reducible repeat (first | refine blk_drewN ?_ _ | refine blk_drew ?_ | refine blk_alloc ?_ _)); refine blk_far ?_ NB187_193.out _; (with_reducible repeat (first | refine blk_drewN ?_ _ | refine blk_drew ?_ | refine blk_alloc ?_ _)); exact BK187.out⟩
  have n1_ : Aside0 (((w13.setCell ⟨gb193, 0, none⟩ (.int .i64 t191)).setCell ⟨gb193, 1, none⟩ (.int .i64 t192)).heap[gb188]? = some (.cells #[.int .i64 0, .int .i64 0] 48 (0, 0))) := ⟨by (with_reducible repeat (first | refine blk_drewN ?_ _ | refine blk_drew ?_ | refine blk_alloc ?_ _)); refine blk_far ?_ NB188_193.out _; (with_reducible repeat (first | refine blk_drewN ?_ _ | refine blk_drew ?_ | refine blk_alloc ?_ _)); refine blk_far ?_ NB188_193.out _; (with_reducible repeat (first | refine blk_drewN ?_ _ | refine blk_drew ?_ | refine blk_alloc ?_ _)); exact BK188.out⟩
  have n2_ : Aside0 (((w13.setCell ⟨gb193, 0, none⟩ (.int .i64 t191)).setCell ⟨gb193, 1, none⟩ (.int .i64 t192)).heap[gb193]? = some (.cells #[.int .i64 t191, .int .i64 t192] 48 (0, 0))) := ⟨by (with_reducible repeat (first | refine blk_drewN ?_ _ | refine blk_drew ?_ | refine blk_alloc ?_ _)); refine blk_put (cs := #[.int .i64 t191, .int .i64 0]) ?_ 1 _ rfl; (with_reducible repeat (first | refine blk_drewN ?_ _ | refine blk_drew ?_ | refine blk_alloc ?_ _)); refine blk_put (cs := #[.int .i64 0, .int .i64 0]) ?_ 0 _ rfl; (with_reducible repeat (first | refine blk_drewN ?_ _ | refine blk_drew ?_ | refine blk_alloc ?_ _)); exact BK193.out⟩
  have n3_ : Aside0 (Below w.heap.size w ((w13.setCell ⟨gb193, 0, none⟩ (.int .i64 t191)).setCell ⟨gb193, 1, none⟩ (.int .i64 t192))) := ⟨by repeat (first | (with_reducible first | exact HB.out | apply below_alloc | apply pw_below_drewN | apply below_drew1 | refine below_set ?_ GE187.out | refine below_set ?_ GE188.out | refine below_set ?_ GE193.out) | exact HB.out)⟩
  (try clear BK187)
  (try clear BK188)
  (try clear BK193)
  (try clear HB)
  generalize ((w13.setCell ⟨gb193, 0, none⟩ (.int .i64 t191)).setCell ⟨gb193, 1, none⟩ (.int .i64 t192)) = w17 at n0_ n1_ n2_ n3_ ⊢
  have BK187 := n0_
  have BK188 := n1_
  have BK193 := n2_
  have HB := n3_
  clear n0_ n1_ n2_ n3_
  have n0_ := Aside0.mk (blk_drew BK187.out)
  have n1_ := Aside0.mk (blk_drew BK188.out)
  have n2_ := Aside0.mk (blk_drew BK193.out)
  have n3_ := Aside0.mk (below_drew1 HB.out)
  clear BK187
  clear BK188
  clear BK193
  clear HB
  have BK187 := n0_
  have BK188 := n1_
  have BK193 := n2_
  have HB := n3_
  clear n0_ n1_ n2_ n3_
  refine start_ (n := 5) (S := fun w' => w'.cell? ⟨gb193, 0, none⟩ = some (.int .i64 t191) ∧ w'.cell? ⟨gb193, 1, none⟩ = some (.int .i64 t192)) (ds := []) #[false, false, false, false, false] (by kernel_rfl) rfl rfl ⟨(blk_cell BK193.out 0).trans rfl, (blk_cell BK193.out 1).trans rfl⟩ (fun hHeld => ?_)
  generalize w17.drew = w18 at BK187 BK188 BK193 HB hHeld ⊢
  refine pure_ (i := 0) (N := some 24) (v := ?_) (a' := ?_) #[true, false, false, false, false] rfl rfl (by kernel_rfl) (fun _ _ _ h => h) (Or.inl ⟨by rfl, ?_⟩) ?_ ?_
  rotate_left
  ·intro w'; go_simp; with_reducible rfl
  rotate_left
  ·simp only [Act.put, List.setIfInBounds_toArray, List.set_cons_zero, List.set_cons_succ, i64_w, i32_w]; rfl
  refine pure_ (i := 2) (N := some 4) (v := ?_) (a' := ?_) #[true, false, true, false, false] rfl rfl (by kernel_rfl) (fun _ _ _ h => h) (Or.inl ⟨by rfl, ?_⟩) ?_ ?_
  rotate_left
  ·intro w'; go_simp; with_reducible rfl
  rotate_left
  ·simp only [Act.put, List.setIfInBounds_toArray, List.set_cons_zero, List.set_cons_succ, i64_w, i32_w]; rfl
  refine take_ (i := 1) (N := some 25) (v := ?_) (a' := ?_) #[true, true, true, false, false] rfl rfl (by kernel_rfl) (fun _ _ _ h => h) (Or.inl ⟨by rfl, ?_⟩) hHeld ?_ ?_
  rotate_left
  ·rintro w' ⟨s0, s1⟩; go_simp; with_reducible rfl
  rotate_left
  ·simp only [Act.put, List.setIfInBounds_toArray, List.set_cons_zero, List.set_cons_succ, i64_w, i32_w]; rfl
  refine one_ (i := 3) (N := none) #[true, true, true, true, false] rfl rfl (by kernel_rfl) di_ (fun K hK => ?_)
  have hs19 : w18.cell? ⟨gb188, 0, none⟩ = some (.int .i64 0) := (blk_cell BK188.out 0).trans rfl
  have hfs19 := blk_frozen BK188.out 0
  have hns19_0 := NB187_188.out
  have hns19_2 := NB193_188.out
  have hms19_0 := NB188_187.out
  have hms19_2 := NB188_193.out
  have hs20 : w18.cell? ⟨gb188, 1, none⟩ = some (.int .i64 0) := (blk_cell BK188.out 1).trans rfl
  have hfs20 := blk_frozen BK188.out 1
  have hns20_0 := NB187_188.out
  have hns20_2 := NB193_188.out
  have hms20_0 := NB188_187.out
  have hms20_2 := NB188_193.out
  refine skip_ (w1 := ?_) (by rfl) rfl ?_ ?_
  rotate_left
  ·go_simp
   rfl
  refine hK.out _ _ ⟨((cell_far (p := ⟨gb188, _, none⟩) NB193_188.out _).trans (((cell_far (p := ⟨gb188, _, none⟩) NB193_188.out _).trans (hHeld.1)))), ((cell_far (p := ⟨gb188, _, none⟩) NB193_188.out _).trans (((cell_far (p := ⟨gb188, _, none⟩) NB193_188.out _).trans (hHeld.2))))⟩ (fun hHeld => ?_)
  clear hK K
  refine pure_ (i := 4) (N := some 6) (v := ?_) (a' := ?_) #[true, true, true, true, true] rfl rfl (by kernel_rfl) (fun _ _ _ h => h) (Or.inl ⟨by rfl, ?_⟩) ?_ ?_
  rotate_left
  ·intro w'; go_simp; with_reducible rfl
  rotate_left
  ·simp only [Act.put, List.setIfInBounds_toArray, List.set_cons_zero, List.set_cons_succ, i64_w, i32_w]; rfl
  refine done_ (by kernel_rfl) ?_
  try go_wp2
  refine bodyPost_ret (results_list (rs := [.tmp 4, .cell 5 48, .tmp 6]) rfl (by simp) (.tmp (.cell gb188 48 #[.int .i64 t191, .int .i64 t192] (0, 0) _ rfl (by (with_reducible repeat (first | refine blk_drewN ?_ _ | refine blk_drew ?_ | refine blk_alloc ?_ _)); refine blk_put (cs := #[.int .i64 t191, .int .i64 0]) ?_ 1 _ rfl; (with_reducible repeat (first | refine blk_drewN ?_ _ | refine blk_drew ?_ | refine blk_alloc ?_ _)); refine blk_put (cs := #[.int .i64 0, .int .i64 0]) ?_ 0 _ rfl; (with_reducible repeat (first | refine blk_drewN ?_ _ | refine blk_drew ?_ | refine blk_alloc ?_ _)); exact BK188.out) Try.underlying48 rfl (by kernel_rfl) (.tmp .nil)))) rfl ?_
  exact ⟨by first | rfl | (simp [errW_none, errW_some] <;> rfl) | (simp [*, errW_none, errW_some] <;> rfl), by repeat (first | (with_reducible first | exact HB.out | apply below_alloc | apply pw_below_drewN | apply below_drew1 | refine below_set ?_ GE187.out | refine below_set ?_ GE188.out | refine below_set ?_ GE193.out) | exact HB.out)⟩
 ·rw [if_neg c4] at H
  have c4b0 : (t189 == 0) = false := beq_eq_false_iff_ne.mpr c4
  have c4b1 : (t189 != 0) = true := bne_iff_ne.mpr c4
  simp only [Option.some.injEq, Prod.mk.injEq] at H
  obtain ⟨rfl, rfl, rfl, rfl⟩ := H
  go_enter Try.func59, Try.ntmps59
  go_wp2_with (first | ((with_reducible refine gate_dst (N := 3) rfl ?_); refine box_event ?hg (N := 3) ?hd (cs := #[.int .i64 a1_0, .int .i64 a1_1]) (t := 59) ?hr ?_; (case hd => rfl); (case hg => rfl); (case hr => exact gr_); intro gb187 hg w21 hbox hb; have n0_ := Aside0.mk (below_step (hb_ HB) hb); have n1_ := Aside0.mk (hbox); have n2_ := Aside0.mk ((hz_ HB hg)); have n3_ := Aside0.mk ((hz_ HB hg)); clear HB; have HB := n0_; have BK187 := n1_; have GW187 := n2_; have GE187 := n3_; clear n0_ n1_ n2_ n3_; clear hb hbox hg) | ((with_reducible refine gate_dst (N := 5) rfl ?_); refine box_event ?hg (N := 5) ?hd (cs := #[.int .i64 0, .int .i64 0]) (t := 48) ?hr ?_; (case hd => rfl); (case hg => rfl); (case hr => exact gr_); intro gb188 hg w22 hbox hb; have n0_ := Aside0.mk (bb_ BK187 hb); have n1_ := Aside0.mk (below_step (hb_ HB) hb); have n2_ := Aside0.mk (hbox); have n3_ := Aside0.mk ((hz_ HB hg)); have n4_ := Aside0.mk ((hz_ HB hg)); have n5_ := Aside0.mk ((nl_ BK187 hg)); have n6_ := Aside0.mk ((ng_ BK187 hg)); clear BK187; clear HB; have BK187 := n0_; have HB := n1_; have BK188 := n2_; have GW188 := n3_; have GE188 := n4_; have NB187_188 := n5_; have NB188_187 := n6_; clear n0_ n1_ n2_ n3_ n4_ n5_ n6_; clear hb hbox hg; have hnb23 := NB187_188.out; have hnc23 := NB188_187.out; have hcz24_0 : w22.cell? ⟨gb187, 0, none⟩ = some (.int .i64 a1_0) := (blk_cell BK187.out 0).trans rfl; have hcz24_1 : w22.cell? ⟨gb187, 1, none⟩ = some (.int .i64 a1_1) := (blk_cell BK187.out 1).trans rfl; have hfz24_0 := blk_frozen BK187.out 0; have hfz24_1 := blk_frozen BK187.out 1) | ((with_reducible refine gate_callee (f := 102) rfl ?_); refine goesL_ (some 12) rfl rfl Try.func102 (by kernel_rfl) rfl #[.slice A0 l0.length c0, .agg #[.int .i64 a1_0, .int .i64 a1_1]] rfl ma_ ?_; (with_reducible refine (figure_checkAll.calls k _ _ l0 a1_0 a1_1 t189 _ ?side1 ?side2 A3.out).mono ?_); (case side1 => repeat (first | exact (Kd.C_below HR0.out HB.out) | (with_reducible refine Kd.C_alloc ?_ _) | (with_reducible refine Kd.C_drewN ?_ _) | (with_reducible refine Kd.C_drew ?_))); (case side2 => exact HC0.out); rintro e w25 ⟨rfl, hb⟩; refine ⟨_, rfl, ?_⟩; have n0_ := Aside0.mk (bb_ BK187 hb); have n1_ := Aside0.mk (bb_ BK188 hb); have n2_ := Aside0.mk (below_step (hb_ HB) hb); clear BK187; clear BK188; clear HB; have BK187 := n0_; have BK188 := n1_; have HB := n2_; clear n0_ n1_ n2_; (try clear hb); (try clear hb2); (try clear hk); (try clear hi); have hcz26_0 : w25.cell? ⟨gb188, 0, none⟩ = some (.int .i64 0) := (blk_cell BK188.out 0).trans rfl; have hcz26_1 : w25.cell? ⟨gb188, 1, none⟩ = some (.int .i64 0) := (blk_cell BK188.out 1).trans rfl; have hfz26_0 := blk_frozen BK188.out 0; have hfz26_1 := blk_frozen BK188.out 1))
  refine bodyPost_ret (results_list (rs := [.tmp 4, .cell 5 48, .tmp 6]) rfl (by simp) (.tmp (.cell gb188 48 #[.int .i64 0, .int .i64 0] (0, 0) _ rfl (by (with_reducible repeat (first | refine blk_drewN ?_ _ | refine blk_drew ?_ | refine blk_alloc ?_ _)); refine blk_put (cs := #[.int .i64 0, .int .i64 0]) ?_ 1 _ rfl; (with_reducible repeat (first | refine blk_drewN ?_ _ | refine blk_drew ?_ | refine blk_alloc ?_ _)); refine blk_put (cs := #[.int .i64 0, .int .i64 0]) ?_ 0 _ rfl; (with_reducible repeat (first | refine blk_drewN ?_ _ | refine blk_drew ?_ | refine blk_alloc ?_ _)); exact BK188.out) Try.underlying48 rfl (by kernel_rfl) (.tmp .nil)))) rfl ?_
  exact ⟨by first | rfl | (simp [errW_none, errW_some] <;> rfl) | (simp [*, errW_none, errW_some] <;> rfl), by repeat (first | (with_reducible first | exact HB.out | apply below_alloc | apply pw_below_drewN | apply below_drew1 | refine below_set ?_ GE187.out | refine below_set ?_ GE188.out) | exact HB.out)⟩
end Go.Proofs.Ytdkahcolfcmmpaa.Pr
namespace Go.Proofs.Ytdkahcolfcmmpaa.Pr
open Go.RowKit Go.Proofs.YtdkahcolfcmmpaaW.PrintWords Go.Proofs.YtdkahcolfcmmpaaW.PrintLast Go.Proofs.YtdkahcolfcmmpaaW.PrintMore
attribute [local go_sem] max2_int min2_int max_two min_two max_three min_three max_four min_four   -- for this text's walks alone
set_option linter.unusedVariables false
set_option linter.unusedSimpArgs false
mutual
def figure_Surface.l0 : Nat → List (S38) → List Int → List (S38) → Int → Int → Int → Int → Option (List Int × Int)
 | 0, _, _, _, _, _, _, _ => none
 | k + 1, x0, x9, x29, x30, x31, x198000, x198001 => if x31 < x30 then (if 0 ≤ x31 then (if x31 < (x29.length : Int) then (figure_Surface.l1 k x0 x9 x31 ((rd_T38 x29 x31).f0) x29 x30 x31 x0 (x0.length : Int) 0 x198000 x198001) else (none)) else (none)) else (some (x9, 0))
def figure_Surface.l1 : Nat → List (S38) → List Int → Int → Int → List (S38) → Int → Int → List (S38) → Int → Int → Int → Int → Option (List Int × Int)
 | 0, _, _, _, _, _, _, _, _, _, _, _, _ => none
 | k + 1, x0, x9, x10, x12, x29, x30, x31, x38, x39, x40, x198000, x198001 => if x40 < x39 then (if 0 ≤ x40 then (if x40 < (x38.length : Int) then ((figure_tolerance_bound.f x198000 x198001 x10 x40).bind fun t207 => (figure_Surface.l1 k x0 x9 x10 (mx x12 (wrap64 (((rd_T38 x38 x40).f0) - t207))) x29 x30 x31 x38 x39 (wrap64 (x40 + 1)) x198000 x198001)) else (none)) else (none)) else (if x9.length < 17592186044416 then (figure_Surface.l0 k x0 (x9 ++ [x12]) x29 x30 (wrap64 (x31 + 1)) x198000 x198001) else (none))
end
def figure_Surface.f (k : Nat) (l0 : List (S38)) (a1_0 : Int) (a1_1 : Int) : Option (List Int × Int) := (figure_Judge.f k l0 a1_0 a1_1).bind fun bt198 => (if bt198.2.2.2 = 0 then (if bt198.1 = (-1) then (some (([] : List Int), 12)) else (figure_Surface.l0 k l0 ([] : List Int) l0 (l0.length : Int) 0 a1_0 a1_1)) else (some (([] : List Int), bt198.2.2.2)))
theorem figure_Surface.mono_l : ∀ k, (∀ y0 y1 y2 y3 y4 y5 y6, LeO (figure_Surface.l0 k y0 y1 y2 y3 y4 y5 y6) (figure_Surface.l0 (k + 1) y0 y1 y2 y3 y4 y5 y6)) ∧ (∀ y0 y1 y2 y3 y4 y5 y6 y7 y8 y9 y10 y11, LeO (figure_Surface.l1 k y0 y1 y2 y3 y4 y5 y6 y7 y8 y9 y10 y11) (figure_Surface.l1 (k + 1) y0 y1 y2 y3 y4 y5 y6 y7 y8 y9 y10 y11))
 | 0 => ⟨fun _ _ _ _ _ _ _ r h => by simp [figure_Surface.l0] at h, fun _ _ _ _ _ _ _ _ _ _ _ _ r h => by simp [figure_Surface.l1] at h⟩
 | k + 1 => by
  obtain ⟨ih0, ih1⟩ := figure_Surface.mono_l k
  refine ⟨?_, ?_⟩
  ·intro y0 y1 y2 y3 y4 y5 y6
   unfold figure_Surface.l0
   repeat' first
   | (with_reducible exact ih0 _ _ _ _ _ _ _)
   | (with_reducible exact ih1 _ _ _ _ _ _ _ _ _ _ _ _)
   | (with_reducible exact figure_Judge.mono _ _ _ _)
   | (with_reducible exact LeO.refl _)
   | (with_reducible exact LeO.none _)
   | (with_reducible refine LeO.ite ?_ ?_)
   | (with_reducible refine LeO.bind ?_ (fun _ => ?_))
   | exact ih0 _ _ _ _ _ _ _
   | exact ih1 _ _ _ _ _ _ _ _ _ _ _ _
   | exact figure_Judge.mono _ _ _ _
   | exact LeO.none _
   | refine LeO.ite ?_ ?_
   | refine LeO.bind ?_ (fun _ => ?_)
  ·intro y0 y1 y2 y3 y4 y5 y6 y7 y8 y9 y10 y11
   unfold figure_Surface.l1
   repeat' first
   | (with_reducible exact ih0 _ _ _ _ _ _ _)
   | (with_reducible exact ih1 _ _ _ _ _ _ _ _ _ _ _ _)
   | (with_reducible exact figure_Judge.mono _ _ _ _)
   | (with_reducible exact LeO.refl _)
   | (with_reducible exact LeO.none _)
   | (with_reducible refine LeO.ite ?_ ?_)
   | (with_reducible refine LeO.bind ?_ (fun _ => ?_))
   | exact ih0 _ _ _ _ _ _ _
   | exact ih1 _ _ _ _ _ _ _ _ _ _ _ _
   | exact figure_Judge.mono _ _ _ _
   | exact LeO.none _
   | refine LeO.ite ?_ ?_
   | refine LeO.bind ?_ (fun _ => ?_)
theorem figure_Surface.mono : ∀ a0 a1 a2 k, LeO (figure_Surface.f k a0 a1 a2) (figure_Surface.f (k + 1) a0 a1 a2) := by
 intro a0 a1 a2 k
 obtain ⟨ih0, ih1⟩ := figure_Surface.mono_l k
 unfold figure_Surface.f
 repeat' first
   | (with_reducible exact ih0 _ _ _ _ _ _ _)
   | (with_reducible exact ih1 _ _ _ _ _ _ _ _ _ _ _ _)
   | (with_reducible exact figure_Judge.mono _ _ _ _)
   | (with_reducible exact LeO.refl _)
   | (with_reducible exact LeO.none _)
   | (with_reducible refine LeO.ite ?_ ?_)
   | (with_reducible refine LeO.bind ?_ (fun _ => ?_))
   | exact ih0 _ _ _ _ _ _ _
   | exact ih1 _ _ _ _ _ _ _ _ _ _ _ _
   | exact figure_Judge.mono _ _ _ _
   | exact LeO.none _
   | refine LeO.ite ?_ ?_
   | refine LeO.bind ?_ (fun _ => ?_)
def figure_Surface.T14 : Bool × List (List Nat × List Nat) := (true, [([], []), ([], []), ([1], [1]), ([], []), ([3], [3]), ([], []), ([], []), ([4, 5, 6], [4, 5, 6]), ([2, 7], [2, 7]), ([0, 8], [0, 8]), ([9, 7, 0, 1, 2, 3, 4, 5, 6, 7, 8, 9], [0, 9])])
def figure_Surface.B14 : List Nat := [0, 0, 2, 0, 8, 0, 0, 120, 254, 511, 1023]
theorem figure_Surface.tab14 : rtab .any (opsOf Try.f61 14) = figure_Surface.T14 := by kernel_rfl
theorem figure_Surface.bits14 : waitsOk figure_Surface.T14.2 figure_Surface.B14 = true := by kernel_rfl
set_option maxHeartbeats 8000000 in
set_option maxRecDepth 100000 in
theorem figure_Surface.calls (k : Nat) (A0 : Option Addr) (c0 : Nat) (l0 : List (S38)) (a1_0 : Int) (a1_1 : Int) (r1 : List Int) (r2 : Int) (w : World) (hr0 : Kd.C k38 w A0 l0.length l0) (hc0 : l0.length ≤ c0) (h : figure_Surface.f k l0 a1_0 a1_1 = some (r1, r2)) :
  Calls Try.prog 61 #[.slice A0 l0.length c0, .agg #[.int .i64 a1_0, .int .i64 a1_1]] w fun e w' => ∃ v0_ : Value, e = .returned (.tuple #[v0_, .int .i64 r2]) ∧ Kd.R (Kd.int .i64) 3 w' w.heap.size (fun _ => True) v0_ r1 ∧ Below w.heap.size w w' := by
 have hu59 := Try.underlying59
 have hu48 := Try.underlying48
 have hu38 := Try.underlying38
 have hu118 := Try.underlying118
 have HR0 := Aside0.mk hr0
 have HC0 := Aside0.mk hc0
 clear hr0 hc0
 have HB := Aside0.mk (Below.refl w.heap.size w)
 have H : ((figure_Judge.f k l0 a1_0 a1_1).bind fun bt198 => (if bt198.2.2.2 = 0 then (if bt198.1 = (-1) then (some (([] : List Int), 12)) else (figure_Surface.l0 k l0 ([] : List Int) l0 (l0.length : Int) 0 a1_0 a1_1)) else (some (([] : List Int), bt198.2.2.2)))) = some (r1, r2) := h
 clear h
 replace H := Option.bind_eq_some_iff.mp H
 obtain ⟨⟨t198, t199, t200, t201⟩, A30, H⟩ := H
 replace H : (if t201 = 0 then (if t198 = (-1) then (some (([] : List Int), 12)) else (figure_Surface.l0 k l0 ([] : List Int) l0 (l0.length : Int) 0 a1_0 a1_1)) else (some (([] : List Int), t201))) = some (r1, r2) := H
 have A3 := Aside0.mk A30
 clear A30
 by_cases c4 : t201 = 0
 ·rw [if_pos c4] at H
  have c4b0 : (t201 == 0) = true := beq_iff_eq.mpr c4
  have c4b1 : (t201 != 0) = false := bne_eq_false_iff_eq.mpr c4
  clear c4
  by_cases c5 : t198 = (-1)
  ·rw [if_pos c5] at H
   have c5b0 : (t198 == (-1)) = true := beq_iff_eq.mpr c5
   have c5b1 : (t198 != (-1)) = false := bne_eq_false_iff_eq.mpr c5
   clear c5
   simp only [Option.some.injEq, Prod.mk.injEq] at H
   obtain ⟨rfl, rfl⟩ := H
   go_enter Try.func61, Try.ntmps61
   go_wp2_with (first | ((with_reducible refine gate_dst (N := 3) rfl ?_); refine box_event ?hg (N := 3) ?hd (cs := #[.int .i64 a1_0, .int .i64 a1_1]) (t := 59) ?hr ?_; (case hd => rfl); (case hg => rfl); (case hr => exact gr_); intro gb197 hg w6 hbox hb; have n0_ := Aside0.mk (below_step (hb_ HB) hb); have n1_ := Aside0.mk (hbox); have n2_ := Aside0.mk ((hz_ HB hg)); have n3_ := Aside0.mk ((hz_ HB hg)); clear HB; have HB := n0_; have BK197 := n1_; have GW197 := n2_; have GE197 := n3_; clear n0_ n1_ n2_ n3_; clear hb hbox hg; have hcz7_0 : w6.cell? ⟨gb197, 0, none⟩ = some (.int .i64 a1_0) := (blk_cell BK197.out 0).trans rfl; have hcz7_1 : w6.cell? ⟨gb197, 1, none⟩ = some (.int .i64 a1_1) := (blk_cell BK197.out 1).trans rfl; have hfz7_0 := blk_frozen BK197.out 0; have hfz7_1 := blk_frozen BK197.out 1) | ((with_reducible refine gate_callee (f := 59) rfl ?_); refine goesL_ (some 18) rfl rfl Try.func59 (by kernel_rfl) rfl #[.slice A0 l0.length c0, .agg #[.int .i64 a1_0, .int .i64 a1_1]] rfl ma_ ?_; (with_reducible refine (figure_Judge.calls k _ _ l0 a1_0 a1_1 t198 t199 t200 t201 _ ?side1 ?side2 A3.out).mono ?_); (case side1 => repeat (first | exact (Kd.C_below HR0.out HB.out) | (with_reducible refine Kd.C_alloc ?_ _) | (with_reducible refine Kd.C_drewN ?_ _) | (with_reducible refine Kd.C_drew ?_))); (case side2 => exact HC0.out); rintro e w8 ⟨rfl, hb⟩; refine ⟨_, rfl, ?_⟩; have n0_ := Aside0.mk (bb_ BK197 hb); have n1_ := Aside0.mk (below_step (hb_ HB) hb); clear BK197; clear HB; have BK197 := n0_; have HB := n1_; clear n0_ n1_; (try clear hb); (try clear hb2); (try clear hk); (try clear hi)) | ((with_reducible refine gate_dst (N := 7) rfl ?_); refine box_event ?hg (N := 7) ?hd (cs := #[.int .i64 0, .int .i64 0]) (t := 48) ?hr ?_; (case hd => rfl); (case hg => rfl); (case hr => exact gr_); intro gb202 hg w9 hbox hb; have n0_ := Aside0.mk (bb_ BK197 hb); have n1_ := Aside0.mk (below_step (hb_ HB) hb); have n2_ := Aside0.mk (hbox); have n3_ := Aside0.mk ((hz_ HB hg)); have n4_ := Aside0.mk ((hz_ HB hg)); have n5_ := Aside0.mk ((nl_ BK197 hg)); have n6_ := Aside0.mk ((ng_ BK197 hg)); clear BK197; clear HB; have BK197 := n0_; have HB := n1_; have BK202 := n2_; have GW202 := n3_; have GE202 := n4_; have NB197_202 := n5_; have NB202_197 := n6_; clear n0_ n1_ n2_ n3_ n4_ n5_ n6_; clear hb hbox hg; have hnb10 := NB202_197.out; have hnc10 := NB197_202.out; have hcz11_0 : w9.cell? ⟨gb202, 0, none⟩ = some (.int .i64 0) := (blk_cell BK202.out 0).trans rfl; have hcz11_1 : w9.cell? ⟨gb202, 1, none⟩ = some (.int .i64 0) := (blk_cell BK202.out 1).trans rfl; have hfz11_0 := blk_frozen BK202.out 0; have hfz11_1 := blk_frozen BK202.out 1))
   go_ret2
   exact ⟨_, by first | rfl | (simp [errW_none, errW_some] <;> rfl) | (simp [*, errW_none, errW_some] <;> rfl), by first | exact Kd.R_nil _ _ _ _ _ | exact Kd.N_nil _ _ _ _ _ | exact Kd.V_nil _ _ _ _ _ | exact Kd.Q_nil _ _ _ _ _ | exact Kd.S_nil _ _ _ _ _, by repeat (first | (with_reducible first | exact HB.out | apply below_alloc | apply pw_below_drewN | apply below_drew1 | refine below_set ?_ GE197.out | refine below_set ?_ GE202.out) | exact HB.out)⟩
  ·rw [if_neg c5] at H
   have c5b0 : (t198 == (-1)) = false := beq_eq_false_iff_ne.mpr c5
   have c5b1 : (t198 != (-1)) = true := bne_iff_ne.mpr c5
   have H' := Aside0.mk H
   clear H
   go_enter Try.func61, Try.ntmps61
   go_wp2_with (first | ((with_reducible refine gate_dst (N := 3) rfl ?_); refine box_event ?hg (N := 3) ?hd (cs := #[.int .i64 a1_0, .int .i64 a1_1]) (t := 59) ?hr ?_; (case hd => rfl); (case hg => rfl); (case hr => exact gr_); intro gb197 hg w12 hbox hb; have n0_ := Aside0.mk (below_step (hb_ HB) hb); have n1_ := Aside0.mk (hbox); have n2_ := Aside0.mk ((hz_ HB hg)); have n3_ := Aside0.mk ((hz_ HB hg)); clear HB; have HB := n0_; have BK197 := n1_; have GW197 := n2_; have GE197 := n3_; clear n0_ n1_ n2_ n3_; clear hb hbox hg; have hcz13_0 : w12.cell? ⟨gb197, 0, none⟩ = some (.int .i64 a1_0) := (blk_cell BK197.out 0).trans rfl; have hcz13_1 : w12.cell? ⟨gb197, 1, none⟩ = some (.int .i64 a1_1) := (blk_cell BK197.out 1).trans rfl; have hfz13_0 := blk_frozen BK197.out 0; have hfz13_1 := blk_frozen BK197.out 1) | ((with_reducible refine gate_callee (f := 59) rfl ?_); refine goesL_ (some 18) rfl rfl Try.func59 (by kernel_rfl) rfl #[.slice A0 l0.length c0, .agg #[.int .i64 a1_0, .int .i64 a1_1]] rfl ma_ ?_; (with_reducible refine (figure_Judge.calls k _ _ l0 a1_0 a1_1 t198 t199 t200 t201 _ ?side1 ?side2 A3.out).mono ?_); (case side1 => repeat (first | exact (Kd.C_below HR0.out HB.out) | (with_reducible refine Kd.C_alloc ?_ _) | (with_reducible refine Kd.C_drewN ?_ _) | (with_reducible refine Kd.C_drew ?_))); (case side2 => exact HC0.out); rintro e w14 ⟨rfl, hb⟩; refine ⟨_, rfl, ?_⟩; have n0_ := Aside0.mk (bb_ BK197 hb); have n1_ := Aside0.mk (below_step (hb_ HB) hb); clear BK197; clear HB; have BK197 := n0_; have HB := n1_; clear n0_ n1_; (try clear hb); (try clear hb2); (try clear hk); (try clear hi)) | ((with_reducible refine gate_dst (N := 7) rfl ?_); refine box_event ?hg (N := 7) ?hd (cs := #[.int .i64 0, .int .i64 0]) (t := 48) ?hr ?_; (case hd => rfl); (case hg => rfl); (case hr => exact gr_); intro gb202 hg w15 hbox hb; have n0_ := Aside0.mk (bb_ BK197 hb); have n1_ := Aside0.mk (below_step (hb_ HB) hb); have n2_ := Aside0.mk (hbox); have n3_ := Aside0.mk ((hz_ HB hg)); have n4_ := Aside0.mk ((hz_ HB hg)); have n5_ := Aside0.mk ((nl_ BK197 hg)); have n6_ := Aside0.mk ((ng_ BK197 hg)); clear BK197; clear HB; have BK197 := n0_; have HB := n1_; have BK202 := n2_; have GW202 := n3_; have GE202 := n4_; have NB197_202 := n5_; have NB202_197 := n6_; clear n0_ n1_ n2_ n3_ n4_ n5_ n6_; clear hb hbox hg; have hnb16 := NB202_197.out; have hnc16 := NB197_202.out; have hcz17_0 : w15.cell? ⟨gb202, 0, none⟩ = some (.int .i64 0) := (blk_cell BK202.out 0).trans rfl; have hcz17_1 : w15.cell? ⟨gb202, 1, none⟩ = some (.int .i64 0) := (blk_cell BK202.out 1).trans rfl; have hfz17_0 := blk_frozen BK202.out 0; have hfz17_1 := blk_frozen BK202.out 1))
   go_loopg [9, 31] k (fun kq v9 v31 w' => ∃ (x9_1 : List Int) (x31_1 : Int), v31 = .int .i64 x31_1 ∧ Aside0 (figure_Surface.l0 kq l0 x9_1 l0 (l0.length : Int) x31_1 a1_0 a1_1 = some (r1, r2)) ∧ Aside0 (kq ≤ k) ∧ Aside0 (Kd.R (Kd.int .i64) 3 w' w.heap.size (fun _ => True) v9 x9_1) ∧ Aside0 (w'.heap[gb197]? = some (.cells #[.int .i64 a1_0, .int .i64 a1_1] 59 (0, 0))) ∧ Aside0 (w'.heap[gb202]? = some (.cells #[.int .i64 t199, .int .i64 t200] 48 (0, 0))) ∧ Aside0 (Below w.heap.size w w'))
   case atStart => exact ⟨(([] : List Int)), (0), rs_, H', ⟨Nat.le_refl _⟩, ⟨by first | exact Kd.R_nil _ _ _ _ _ | exact Kd.N_nil _ _ _ _ _ | exact Kd.V_nil _ _ _ _ _ | exact Kd.Q_nil _ _ _ _ _ | exact Kd.S_nil _ _ _ _ _⟩, ⟨by (with_reducible repeat (first | refine blk_drewN ?_ _ | refine blk_drew ?_ | refine blk_alloc ?_ _)); refine blk_far ?_ NB197_202.out _; (with_reducible repeat (first | refine blk_drewN ?_ _ | refine blk_drew ?_ | refine blk_alloc ?_ _)); refine blk_far ?_ NB197_202.out _; (with_reducible repeat (first | refine blk_drewN ?_ _ | refine blk_drew ?_ | refine blk_alloc ?_ _)); exact BK197.out⟩, ⟨by (with_reducible repeat (first | refine blk_drewN ?_ _ | refine blk_drew ?_ | refine blk_alloc ?_ _)); refine blk_put (cs := #[.int .i64 t199, .int .i64 0]) ?_ 1 _ rfl; (with_reducible repeat (first | refine blk_drewN ?_ _ | refine blk_drew ?_ | refine blk_alloc ?_ _)); refine blk_put (cs := #[.int .i64 0, .int .i64 0]) ?_ 0 _ rfl; (with_reducible repeat (first | refine blk_drewN ?_ _ | refine blk_drew ?_ | refine blk_alloc ?_ _)); exact BK202.out⟩, ⟨by repeat (first | (with_reducible first | exact HB.out | apply below_alloc | apply pw_below_drewN | apply below_drew1 | refine below_set ?_ GE197.out | refine below_set ?_ GE202.out) | exact HB.out)⟩⟩
   case round =>
    clear H'
    try clear c1
    try clear p2
    try clear c4
    try clear c4b0
    try clear c4b1
    try clear c5
    try clear c5b0
    try clear c5b1
    try clear c6
    try clear c10
    try clear c16
    try clear hcz11_0
    try clear hcz11_1
    try clear hcz13_0
    try clear hcz13_1
    try clear hcz17_0
    try clear hcz17_1
    try clear hcz7_0
    try clear hcz7_1
    try clear hfz11_0
    try clear hfz11_1
    try clear hfz13_0
    try clear hfz13_1
    try clear hfz17_0
    try clear hfz17_1
    try clear hfz7_0
    try clear hfz7_1
    obtain ⟨x9_1, x31_1, rfl, HA, HK1, HO_9, BK197, BK202, HB⟩ := hrel
    cases gk with
    | zero => exact absurd HA.out (by simp [figure_Surface.l0])
    | succ k1 =>
     have H := HA.out
     clear HA
     simp only [figure_Surface.l0] at H
     by_cases c18 : x31_1 < (l0.length : Int)
     ·rw [if_pos c18] at H
      have c18b0 : decide (x31_1 < (l0.length : Int)) = true := decide_eq_true c18
      clear c18
      by_cases c19 : 0 ≤ x31_1
      ·rw [if_pos c19] at H
       have c19b0 : decide (0 ≤ x31_1) = true := decide_eq_true c19
       clear c19
       by_cases c20 : x31_1 < (l0.length : Int)
       ·rw [if_pos c20] at H
        have c20b0 : decide (x31_1 < (l0.length : Int)) = true := decide_eq_true c20
        clear c20
        have H' := Aside0.mk H
        clear H
        have p203 : 0 ≤ (x31_1 : Int) := of_decide_eq_true as_
        have q203 : x31_1 < (l0.length : Int) := of_decide_eq_true as_
        obtain ⟨ad203, e203, hx203_0, hx203_1⟩ := at_T38 HR0.out x31_1 p203 q203
        cases e203
        replace hx203_0 := (HB.out.cell (World.block_lt_of_cell? w _ hx203_0)).trans hx203_0
        replace hx203_1 := (HB.out.cell (World.block_lt_of_cell? w _ hx203_1)).trans hx203_1
        replace p203 := eq_true p203
        replace q203 := eq_true q203
        go_wp2_with (first | ((with_reducible refine gate_dst (N := 11) rfl ?_); refine box_event ?hg (N := 11) ?hd (cs := #[.int .i64 0, .int .i64 0]) (t := 38) ?hr ?_; (case hd => rfl); (case hg => rfl); (case hr => exact gr_); intro gb204 hg w21 hbox hb; have n0_ := Aside0.mk (Kd.R_below (rk_ HO_9) hb); have n1_ := Aside0.mk (bb_ BK197 hb); have n2_ := Aside0.mk (bb_ BK202 hb); have n3_ := Aside0.mk (below_step (hb_ HB) hb); have n4_ := Aside0.mk (hbox); have n5_ := Aside0.mk ((hz_ HB hg)); have n6_ := Aside0.mk ((hz_ HB hg)); have n7_ := Aside0.mk ((nl_ BK197 hg)); have n8_ := Aside0.mk ((ng_ BK197 hg)); have n9_ := Aside0.mk ((nl_ BK202 hg)); have n10_ := Aside0.mk ((ng_ BK202 hg)); clear HO_9; clear BK197; clear BK202; clear HB; have HO_9 := n0_; have BK197 := n1_; have BK202 := n2_; have HB := n3_; have BK204 := n4_; have GW204 := n5_; have GE204 := n6_; have NB197_204 := n7_; have NB204_197 := n8_; have NB202_204 := n9_; have NB204_202 := n10_; clear n0_ n1_ n2_ n3_ n4_ n5_ n6_ n7_ n8_ n9_ n10_; clear hb hbox hg; have hnb22 := NB204_197.out; have hnc22 := NB197_204.out; have hnb23 := NB204_202.out; have hnc23 := NB202_204.out; have hcz24_0 : w21.cell? ⟨gb204, 0, none⟩ = some (.int .i64 0) := (blk_cell BK204.out 0).trans rfl; have hcz24_1 : w21.cell? ⟨gb204, 1, none⟩ = some (.int .i64 0) := (blk_cell BK204.out 1).trans rfl; have hfz24_0 := blk_frozen BK204.out 0; have hfz24_1 := blk_frozen BK204.out 1))
        go_loopg [12, 40] k1 (fun kq v12 v40 w' => ∃ (x12_2 : Int) (x40_2 : Int), v12 = .int .i64 x12_2 ∧ v40 = .int .i64 x40_2 ∧ Aside0 (figure_Surface.l1 kq l0 x9_1 x31_1 x12_2 l0 (l0.length : Int) x31_1 l0 (l0.length : Int) x40_2 a1_0 a1_1 = some (r1, r2)) ∧ Aside0 (kq ≤ k1) ∧ Aside0 (Kd.R (Kd.int .i64) 3 w' w.heap.size (fun _ => True) u9 x9_1) ∧ Aside0 (w'.heap[gb197]? = some (.cells #[.int .i64 a1_0, .int .i64 a1_1] 59 (0, 0))) ∧ Aside0 (w'.heap[gb202]? = some (.cells #[.int .i64 t199, .int .i64 t200] 48 (0, 0))) ∧ Aside0 (w'.heap[gb204]? = some (.cells #[.int .i64 ((rd_T38 l0 x31_1).f0), .int .i64 ((rd_T38 l0 x31_1).f1)] 38 (0, 0))) ∧ Aside0 (Below w.heap.size w w'))
        case atStart => exact ⟨((rd_T38 l0 x31_1).f0), (0), rs_, rs_, H', ⟨Nat.le_refl _⟩, ⟨by (with_reducible repeat (first | apply Kd.R_alloc | apply Kd.R_drewN | apply Kd.R_drew)); exact Kd.R_mono (Kd.R_far (p := ⟨gb204, 1, none⟩) (Kd.R_far (p := ⟨gb204, 0, none⟩) (Kd.R_types HO_9.out BK204.out di_) (fun _ hk => hk.2) (.int .i64 ((rd_T38 l0 x31_1).f0))) (fun _ hk => hk.2) (.int .i64 ((rd_T38 l0 x31_1).f1))) (fun _ hk => trivial)⟩, ⟨by (with_reducible repeat (first | refine blk_drewN ?_ _ | refine blk_drew ?_ | refine blk_alloc ?_ _)); refine blk_far ?_ NB197_204.out _; (with_reducible repeat (first | refine blk_drewN ?_ _ | refine blk_drew ?_ | refine blk_alloc ?_ _)); refine blk_far ?_ NB197_204.out _; (with_reducible repeat (first | refine blk_drewN ?_ _ | refine blk_drew ?_ | refine blk_alloc ?_ _)); exact BK197.out⟩, ⟨by (with_reducible repeat (first | refine blk_drewN ?_ _ | refine blk_drew ?_ | refine blk_alloc ?_ _)); refine blk_far ?_ NB202_204.out _; (with_reducible repeat (first | refine blk_drewN ?_ _ | refine blk_drew ?_ | refine blk_alloc ?_ _)); refine blk_far ?_ NB202_204.out _; (with_reducible repeat (first | refine blk_drewN ?_ _ | refine blk_drew ?_ | refine blk_alloc ?_ _)); exact BK202.out⟩, ⟨by (with_reducible repeat (first | refine blk_drewN ?_ _ | refine blk_drew ?_ | refine blk_alloc ?_ _)); refine blk_put (cs := #[.int .i64 ((rd_T38 l0 x31_1).f0), .int .i64 0]) ?_ 1 _ rfl; (with_reducible repeat (first | refine blk_drewN ?_ _ | refine blk_drew ?_ | refine blk_alloc ?_ _)); refine blk_put (cs := #[.int .i64 0, .int .i64 0]) ?_ 0 _ rfl; (with_reducible repeat (first | refine blk_drewN ?_ _ | refine blk_drew ?_ | refine blk_alloc ?_ _)); exact BK204.out⟩, ⟨by repeat (first | (with_reducible first | exact HB.out | apply below_alloc | apply pw_below_drewN | apply below_drew1 | refine below_set ?_ GE197.out | refine below_set ?_ GE202.out | refine below_set ?_ GE204.out) | exact HB.out)⟩⟩
        case round =>
         clear H'
         try clear c1
         try clear c2
         try clear p2
         try clear q2
         try clear hx2
         try clear c4
         try clear c4b0
         try clear c4b1
         try clear c5
         try clear c5b0
         try clear c5b1
         try clear c6
         try clear c10
         try clear c16
         try clear c18
         try clear c18b0
         try clear c19
         try clear c19b0
         try clear c20
         try clear c20b0
         try clear p20
         try clear q20
         try clear hx20
         try clear c22
         try clear c23
         try clear hcz11_0
         try clear hcz11_1
         try clear hcz13_0
         try clear hcz13_1
         try clear hcz17_0
         try clear hcz17_1
         try clear hcz24_0
         try clear hcz24_1
         try clear hcz7_0
         try clear hcz7_1
         try clear hfz11_0
         try clear hfz11_1
         try clear hfz13_0
         try clear hfz13_1
         try clear hfz17_0
         try clear hfz17_1
         try clear hfz24_0
         try clear hfz24_1
         try clear hfz7_0
         try clear hfz7_1
         try clear hx203_0
         try clear hx203_1
         try clear p2
         try clear p203
         try clear q203
         obtain ⟨x12_2, x40_2, rfl, rfl, HA, HK2, HO_9, BK197, BK202, BK204, HB⟩ := hrel
         cases gk with
         | zero => exact absurd HA.out (by simp [figure_Surface.l1])
         | succ k2 =>
          have H := HA.out
          clear HA
          simp only [figure_Surface.l1] at H
          by_cases c25 : x40_2 < (l0.length : Int)
          ·rw [if_pos c25] at H
           have c25b0 : decide (x40_2 < (l0.length : Int)) = true := decide_eq_true c25
           clear c25
           by_cases c26 : 0 ≤ x40_2
           ·rw [if_pos c26] at H
            have c26b0 : decide (0 ≤ x40_2) = true := decide_eq_true c26
            clear c26
            by_cases c27 : x40_2 < (l0.length : Int)
            ·rw [if_pos c27] at H
             have c27b0 : decide (x40_2 < (l0.length : Int)) = true := decide_eq_true c27
             clear c27
             replace H := Option.bind_eq_some_iff.mp H
             obtain ⟨t207, A280, H⟩ := H
             replace H : (figure_Surface.l1 k2 l0 x9_1 x31_1 (mx x12_2 (wrap64 (((rd_T38 l0 x40_2).f0) - t207))) l0 (l0.length : Int) x31_1 l0 (l0.length : Int) (wrap64 (x40_2 + 1)) a1_0 a1_1) = some (r1, r2) := H
             have A28 := Aside0.mk A280
             clear A280
             obtain ⟨ji29, hji29⟩ : ∃ j_ : Int, (mx x12_2 (wrap64 (((rd_T38 l0 x40_2).f0) - t207))) = j_ := ⟨_, rfl⟩
             replace H : (figure_Surface.l1 k2 l0 x9_1 x31_1 ji29 l0 (l0.length : Int) x31_1 l0 (l0.length : Int) (wrap64 (x40_2 + 1)) a1_0 a1_1) = some (r1, r2) := by first | (rw [hji29] at H; exact H) | (simp only [hji29] at H ⊢; exact H)
             (try rw [hji29] at A28)
             have hji29_ : (if x12_2 < (wrap64 (((rd_T38 l0 x40_2).f0) - t207)) then (wrap64 (((rd_T38 l0 x40_2).f0) - t207)) else x12_2) = ji29 := hji29
             have H' := Aside0.mk H
             clear H
             have p205 : 0 ≤ (x40_2 : Int) := of_decide_eq_true as_
             have q205 : x40_2 < (l0.length : Int) := of_decide_eq_true as_
             obtain ⟨ad205, e205, hx205_0, hx205_1⟩ := at_T38 HR0.out x40_2 p205 q205
             obtain rfl : ad203 = ad205 := (by injection e205)
             replace hx205_0 := (HB.out.cell (World.block_lt_of_cell? w _ hx205_0)).trans hx205_0
             replace hx205_1 := (HB.out.cell (World.block_lt_of_cell? w _ hx205_1)).trans hx205_1
             replace p205 := eq_true p205
             replace q205 := eq_true q205
             try go_wp2_with (first | ((with_reducible refine gate_dst (N := 14) rfl ?_); refine box_event ?hg (N := 14) ?hd (cs := #[.int .i64 0, .int .i64 0]) (t := 38) ?hr ?_; (case hd => rfl); (case hg => rfl); (case hr => exact gr_); intro gb206 hg w30 hbox hb; have n0_ := Aside0.mk (Kd.R_below (rk_ HO_9) hb); have n1_ := Aside0.mk (bb_ BK197 hb); have n2_ := Aside0.mk (bb_ BK202 hb); have n3_ := Aside0.mk (bb_ BK204 hb); have n4_ := Aside0.mk (below_step (hb_ HB) hb); have n5_ := Aside0.mk (hbox); have n6_ := Aside0.mk ((hz_ HB hg)); have n7_ := Aside0.mk ((hz_ HB hg)); have n8_ := Aside0.mk ((nl_ BK197 hg)); have n9_ := Aside0.mk ((ng_ BK197 hg)); have n10_ := Aside0.mk ((nl_ BK202 hg)); have n11_ := Aside0.mk ((ng_ BK202 hg)); have n12_ := Aside0.mk ((nl_ BK204 hg)); have n13_ := Aside0.mk ((ng_ BK204 hg)); clear HO_9; clear BK197; clear BK202; clear BK204; clear HB; have HO_9 := n0_; have BK197 := n1_; have BK202 := n2_; have BK204 := n3_; have HB := n4_; have BK206 := n5_; have GW206 := n6_; have GE206 := n7_; have NB197_206 := n8_; have NB206_197 := n9_; have NB202_206 := n10_; have NB206_202 := n11_; have NB204_206 := n12_; have NB206_204 := n13_; clear n0_ n1_ n2_ n3_ n4_ n5_ n6_ n7_ n8_ n9_ n10_ n11_ n12_ n13_; clear hb hbox hg; have hnb31 := NB206_197.out; have hnc31 := NB197_206.out; have hnb32 := NB206_202.out; have hnc32 := NB202_206.out; have hnb33 := NB206_204.out; have hnc33 := NB204_206.out; have hcz34_0 : w30.cell? ⟨gb206, 0, none⟩ = some (.int .i64 0) := (blk_cell BK206.out 0).trans rfl; have hcz34_1 : w30.cell? ⟨gb206, 1, none⟩ = some (.int .i64 0) := (blk_cell BK206.out 1).trans rfl; have hfz34_0 := blk_frozen BK206.out 0; have hfz34_1 := blk_frozen BK206.out 1))
             have n0_ : Aside0 (Kd.R (Kd.int .i64) 3 ((w30.setCell ⟨gb206, 0, none⟩ (.int .i64 ((rd_T38 l0 x40_2).f0))).setCell ⟨gb206, 1, none⟩ (.int .i64 ((rd_T38 l0 x40_2).f1))) w.heap.size (fun _ => True) u9 x9_1) := ⟨by (with_reducible repeat (first | apply Kd.R_alloc | apply Kd.R_drewN | apply Kd.R_drew)); exact Kd.R_mono (Kd.R_far (p := ⟨gb206, 1, none⟩) (Kd.R_far (p := ⟨gb206, 0, none⟩) (Kd.R_types HO_9.out BK206.out di_) (fun _ hk => hk.2) (.int .i64 ((rd_T38 l0 x40_2).f0))) (fun _ hk => hk.2) (.int .i64 ((rd_T38 l0 x40_2).f1))) (fun _ hk => trivial)⟩
             have n1_ : Aside0 (((w30.setCell ⟨gb206, 0, none⟩ (.int .i64 ((rd_T38 l0 x40_2).f0))).setCell ⟨gb206, 1, none⟩ (.int .i64 ((rd_T38 l0 x40_2).f1))).heap[gb197]? = some (.cells #[.int .i64 a1_0, .int .i64 a1_1] 59 (0, 0))) := ⟨by (with_reducible repeat (first | refine blk_drewN ?_ _ | refine blk_drew ?_ | refine blk_alloc ?_ _)); refine blk_far ?_ NB197_206.out _; (with_reducible repeat (first | refine blk_drewN ?_ _ | refine blk_drew ?_ | refine blk_alloc ?_ _)); refine blk_far ?_ NB197_206.out _; (with_reducible repeat (first | refine blk_drewN ?_ _ | refine blk_drew ?_ | refine blk_alloc ?_ _)); exact BK197.out⟩
             have n2_ : Aside0 (((w30.setCell ⟨gb206, 0, none⟩ (.int .i64 ((rd_T38 l0 x40_2).f0))).setCell ⟨gb206, 1, none⟩ (.int .i64 ((rd_T38 l0 x40_2).f1))).heap[gb202]? = some (.cells #[.int .i64 t199, .int .i64 t200] 48 (0, 0))) := ⟨by (with_reducible repeat (first | refine blk_drewN ?_ _ | refine blk_drew ?_ | refine blk_alloc ?_ _)); refine blk_far ?_ NB202_206.out _; (with_reducible repeat (first | refine blk_drewN ?_ _ | refine blk_drew ?_ | refine blk_alloc ?_ _)); refine blk_far ?_ NB202_206.out _; (with_reducible repeat (first | refine blk_drewN ?_ _ | refine blk_drew ?_ | refine blk_alloc ?_ _)); exact BK202.out⟩
             have n3_ : Aside0 (((w30.setCell ⟨gb206, 0, none⟩ (.int .i64 ((rd_T38 l0 x40_2).f0))).setCell ⟨gb206, 1, none⟩ (.int .i64 ((rd_T38 l0 x40_2).f1))).heap[gb204]? = some (.cells #[.int .i64 ((rd_T38 l0 x31_1).f0), .int .i64 ((rd_T38 l0 x31_1).f1)] 38 (0, 0))) := ⟨by (with_reducible repeat (first | refine blk_drewN ?_ _ | refine blk_drew ?_ | refine blk_alloc ?_ _)); refine blk_far ?_ NB204_206.out _; (with_reducible repeat (first | refine blk_drewN ?_ _ | refine blk_drew ?_ | refine blk_alloc ?_ _)); refine blk_far ?_ NB204_206.out _; (with_reducible repeat (first | refine blk_drewN ?_ _ | refine blk_drew ?_ | refine blk_alloc ?_ _)); exact BK204.out⟩
             have n4_ : Aside0 (((w30.setCell ⟨gb206, 0, none⟩ (.int .i64 ((rd_T38 l0 x40_2).f0))).setCell ⟨gb206, 1, none⟩ (.int .i64 ((rd_T38 l0 x40_2).f1))).heap[gb206]? = some (.cells #[.int .i64 ((rd_T38 l0 x40_2).f0), .int .i64 ((rd_T38 l0 x40_2).f1)] 38 (0, 0))) := ⟨by (with_reducible repeat (first | refine blk_drewN ?_ _ | refine blk_drew ?_ | refine blk_alloc ?_ _)); refine blk_put (cs := #[.int .i64 ((rd_T38 l0 x40_2).f0), .int .i64 0]) ?_ 1 _ rfl; (with_reducible repeat (first | refine blk_drewN ?_ _ | refine blk_drew ?_ | refine blk_alloc ?_ _)); refine blk_put (cs := #[.int .i64 0, .int .i64 0]) ?_ 0 _ rfl; (with_reducible repeat (first | refine blk_drewN ?_ _ | refine blk_drew ?_ | refine blk_alloc ?_ _)); exact BK206.out⟩
             have n5_ : Aside0 (Below w.heap.size w ((w30.setCell ⟨gb206, 0, none⟩ (.int .i64 ((rd_T38 l0 x40_2).f0))).setCell ⟨gb206, 1, none⟩ (.int .i64 ((rd_T38 l0 x40_2).f1)))) := ⟨by repeat (first | (with_reducible first | exact HB.out | apply below_alloc | apply pw_below_drewN | apply below_drew1 | refine below_set ?_ GE197.out | refine below_set ?_ GE202.out | refine below_set ?_ GE204.out | refine below_set ?_ GE206.out) | exact HB.out)⟩
             (try clear HO_9)
             (try clear BK197)
             (try clear BK202)
             (try clear BK204)
             (try clear BK206)
             (try clear HB)
             generalize ((w30.setCell ⟨gb206, 0, none⟩ (.int .i64 ((rd_T38 l0 x40_2).f0))).setCell ⟨gb206, 1, none⟩ (.int .i64 ((rd_T38 l0 x40_2).f1))) = w35 at n0_ n1_ n2_ n3_ n4_ n5_ ⊢
             have HO_9 := n0_
             have BK197 := n1_
             have BK202 := n2_
             have BK204 := n3_
             have BK206 := n4_
             have HB := n5_
             clear n0_ n1_ n2_ n3_ n4_ n5_
             have n0_ := Aside0.mk (Kd.R_drew HO_9.out)
             have n1_ := Aside0.mk (blk_drew BK197.out)
             have n2_ := Aside0.mk (blk_drew BK202.out)
             have n3_ := Aside0.mk (blk_drew BK204.out)
             have n4_ := Aside0.mk (blk_drew BK206.out)
             have n5_ := Aside0.mk (below_drew1 HB.out)
             clear HO_9
             clear BK197
             clear BK202
             clear BK204
             clear BK206
             clear HB
             have HO_9 := n0_
             have BK197 := n1_
             have BK202 := n2_
             have BK204 := n3_
             have BK206 := n4_
             have HB := n5_
             clear n0_ n1_ n2_ n3_ n4_ n5_
             refine start_ (n := 11) (S := fun w' => w'.cell? ⟨gb206, 0, none⟩ = some (.int .i64 ((rd_T38 l0 x40_2).f0)) ∧ w'.cell? ⟨gb206, 1, none⟩ = some (.int .i64 ((rd_T38 l0 x40_2).f1)) ∧ w'.cell? ⟨gb197, 0, none⟩ = some (.int .i64 a1_0) ∧ w'.cell? ⟨gb197, 1, none⟩ = some (.int .i64 a1_1)) (ds := []) #[false, false, false, false, false, false, false, false, false, false, false] (by kernel_rfl) rfl rfl ⟨(blk_cell BK206.out 0).trans rfl, (blk_cell BK206.out 1).trans rfl, (blk_cell BK197.out 0).trans rfl, (blk_cell BK197.out 1).trans rfl⟩ (fun hHeld => ?_); refine with_tabW figure_Surface.tab14 figure_Surface.bits14 (fun HT_ HW_ => ?_)
             generalize w35.drew = w36 at HO_9 BK197 BK202 BK204 BK206 HB hHeld ⊢
             refine pure_ (i := 0) (N := some 45) (v := ?_) (a' := ?_) #[true, false, false, false, false, false, false, false, false, false, false] rfl rfl (any_of HT_.out (by kernel_rfl)) (fun _ _ _ h => h) (Or.inl ⟨by rfl, ?_⟩) ?_ ?_
             rotate_left
             ·intro w'; go_simp; with_reducible rfl
             rotate_left
             ·simp only [Act.put, List.setIfInBounds_toArray, List.set_cons_zero, List.set_cons_succ, i64_w, i32_w]; rfl
             refine pure_ (i := 1) (N := some 46) (v := ?_) (a' := ?_) #[true, true, false, false, false, false, false, false, false, false, false] rfl rfl (any_of HT_.out (by kernel_rfl)) (fun _ _ _ h => h) (Or.inl ⟨by rfl, ?_⟩) ?_ ?_
             rotate_left
             ·intro w'; go_simp; with_reducible rfl
             rotate_left
             ·simp only [Act.put, List.setIfInBounds_toArray, List.set_cons_zero, List.set_cons_succ, i64_w, i32_w]; rfl
             refine pure_ (i := 5) (N := some 50) (v := ?_) (a' := ?_) #[true, true, false, false, false, true, false, false, false, false, false] rfl rfl (any_of HT_.out (by kernel_rfl)) (fun _ _ _ h => h) (Or.inl ⟨by rfl, ?_⟩) ?_ ?_
             rotate_left
             ·intro w'; go_simp; with_reducible rfl
             rotate_left
             ·simp only [Act.put, List.setIfInBounds_toArray, List.set_cons_zero, List.set_cons_succ, i64_w, i32_w]; rfl
             refine pure_ (i := 6) (N := some 51) (v := ?_) (a' := ?_) #[true, true, false, false, false, true, true, false, false, false, false] rfl rfl (any_of HT_.out (by kernel_rfl)) (fun _ _ _ h => h) (Or.inl ⟨by rfl, ?_⟩) ?_ ?_
             rotate_left
             ·intro w'; go_simp; with_reducible rfl
             rotate_left
             ·simp only [Act.put, List.setIfInBounds_toArray, List.set_cons_zero, List.set_cons_succ, i64_w, i32_w]; rfl
             refine take_ (i := 2) (N := some 47) (v := ?_) (a' := ?_) #[true, true, true, false, false, true, true, false, false, false, false] rfl rfl (take_ofW HT_.out HW_.out (by kernel_rfl)) (fun _ _ _ h => h) (Or.inl ⟨by rfl, ?_⟩) hHeld ?_ ?_
             rotate_left
             ·rintro w' ⟨s0, s1, s2, s3⟩; go_simp; with_reducible rfl
             rotate_left
             ·simp only [Act.put, List.setIfInBounds_toArray, List.set_cons_zero, List.set_cons_succ, i64_w, i32_w]; rfl
             refine take_ (i := 3) (N := some 48) (v := ?_) (a' := ?_) #[true, true, true, true, false, true, true, false, false, false, false] rfl rfl (take_ofW HT_.out HW_.out (by kernel_rfl)) (fun _ _ _ h => h) (Or.inl ⟨by rfl, ?_⟩) hHeld ?_ ?_
             rotate_left
             ·rintro w' ⟨s0, s1, s2, s3⟩; go_simp; with_reducible rfl
             rotate_left
             ·simp only [Act.put, List.setIfInBounds_toArray, List.set_cons_zero, List.set_cons_succ, i64_w, i32_w]; rfl
             refine pure_ (i := 4) (N := some 49) (v := ?_) (a' := ?_) #[true, true, true, true, true, true, true, false, false, false, false] rfl rfl (any_of HT_.out (by kernel_rfl)) (fun _ _ _ h => h) (Or.inl ⟨by rfl, ?_⟩) ?_ ?_
             rotate_left
             ·intro w'; go_simp; with_reducible rfl
             rotate_left
             ·simp only [Act.put, List.setIfInBounds_toArray, List.set_cons_zero, List.set_cons_succ, i64_w, i32_w]; rfl
             refine one_ (i := 7) (N := some 52) #[true, true, true, true, true, true, true, true, false, false, false] rfl rfl (one_of HT_.out (by kernel_rfl)) di_ (fun K hK => ?_)
             refine goes_ Try.func104 (by kernel_rfl) rfl #[.agg #[.int .i64 a1_0, .int .i64 a1_1], .int .i64 x31_1, .int .i64 x40_2] (by rfl) rfl rfl ma_ ?_
             with_reducible refine (figure_tolerance_bound.calls a1_0 a1_1 x31_1 x40_2 t207 _ A28.out).mono ?_
             rintro e w37 ⟨rfl, hb⟩
             refine ⟨_, rfl, ?_⟩
             have n0_ := Aside0.mk (Kd.R_below (rk_ HO_9) hb)
             have n1_ := Aside0.mk (bb_ BK197 hb)
             have n2_ := Aside0.mk (bb_ BK202 hb)
             have n3_ := Aside0.mk (bb_ BK204 hb)
             have n4_ := Aside0.mk (bb_ BK206 hb)
             have n5_ := Aside0.mk (below_step (hb_ HB) hb)
             clear HO_9
             clear BK197
             clear BK202
             clear BK204
             clear BK206
             clear HB
             have HO_9 := n0_
             have BK197 := n1_
             have BK202 := n2_
             have BK204 := n3_
             have BK206 := n4_
             have HB := n5_
             clear n0_ n1_ n2_ n3_ n4_ n5_
             (try clear hb)
             (try clear hb2)
             (try clear hk)
             (try clear hi)
             refine hK.out _ _ ⟨(blk_cell BK206.out 0).trans rfl, (blk_cell BK206.out 1).trans rfl, (blk_cell BK197.out 0).trans rfl, (blk_cell BK197.out 1).trans rfl⟩ (fun hHeld => ?_)
             clear hK K
             refine norm_ (a' := ?_) ?_ ?_
             rotate_left
             ·show Act.put _ (some 52) _ = _
              simp only [Act.put, List.setIfInBounds_toArray, List.set_cons_zero, List.set_cons_succ, i64_w, i32_w]
              rfl
             refine pure_ (i := 8) (N := some 53) (v := ?_) (a' := ?_) #[true, true, true, true, true, true, true, true, true, false, false] rfl rfl (any_of HT_.out (by kernel_rfl)) (fun _ _ _ h => h) (Or.inl ⟨by rfl, ?_⟩) ?_ ?_
             rotate_left
             ·intro w'; go_simp; with_reducible rfl
             rotate_left
             ·simp only [Act.put, List.setIfInBounds_toArray, List.set_cons_zero, List.set_cons_succ, i64_w, i32_w]; rfl
             refine pure_ (i := 9) (N := some 54) (v := ?_) (a' := ?_) #[true, true, true, true, true, true, true, true, true, true, false] rfl rfl (any_of HT_.out (by kernel_rfl)) (fun _ _ _ h => h) (Or.inl ⟨by rfl, ?_⟩) ?_ ?_
             rotate_left
             ·intro w'; go_simp; with_reducible rfl
             rotate_left
             ·simp only [Act.put, List.setIfInBounds_toArray, List.set_cons_zero, List.set_cons_succ, i64_w, i32_w]; rfl
             refine pure_ (i := 10) (N := some 12) (v := ?_) (a' := ?_) #[true, true, true, true, true, true, true, true, true, true, true] rfl rfl (any_of HT_.out (by kernel_rfl)) (fun _ _ _ h => h) (Or.inl ⟨by rfl, ?_⟩) ?_ ?_
             rotate_left
             ·intro w'; go_simp; with_reducible rfl
             rotate_left
             ·simp only [Act.put, List.setIfInBounds_toArray, List.set_cons_zero, List.set_cons_succ, i64_w, i32_w]; rfl
             refine done_ (done_of HT_.out (by kernel_rfl)) ?_
             try go_wp2
             go_roundg k2
             case measure => have := HK1.out; have := HK2.out; omega
             case rel => exact ⟨(ji29), (wrap64 (x40_2 + 1)), (by first | rfl | (simp; done) | (simp only [← hji29] <;> (first | rfl | simp)) | (simp [*]; done)), rs_, H', ⟨by have := HK1.out; have := HK2.out; omega⟩, ⟨by (with_reducible repeat (first | apply Kd.R_alloc | apply Kd.R_drewN | apply Kd.R_drew)); exact HO_9.out⟩, ⟨by (with_reducible repeat (first | refine blk_drewN ?_ _ | refine blk_drew ?_ | refine blk_alloc ?_ _)); exact BK197.out⟩, ⟨by (with_reducible repeat (first | refine blk_drewN ?_ _ | refine blk_drew ?_ | refine blk_alloc ?_ _)); exact BK202.out⟩, ⟨by (with_reducible repeat (first | refine blk_drewN ?_ _ | refine blk_drew ?_ | refine blk_alloc ?_ _)); exact BK204.out⟩, ⟨by repeat (first | (with_reducible first | exact HB.out | apply below_alloc | apply pw_below_drewN | apply below_drew1 | refine below_set ?_ GE197.out | refine below_set ?_ GE202.out | refine below_set ?_ GE204.out | refine below_set ?_ GE206.out) | exact HB.out)⟩⟩
            ·rw [if_neg c27] at H
             exact absurd H (by simp)
           ·rw [if_neg c26] at H
            exact absurd H (by simp)
          ·rw [if_neg c25] at H
           have c25b0 : decide (x40_2 < (l0.length : Int)) = false := decide_eq_false c25
           clear c25
           by_cases c38 : x9_1.length < 17592186044416
           ·rw [if_pos c38] at H
            have LMc38 := Aside0.mk c38
            clear c38
            obtain ⟨y208, hy208⟩ : ∃ y_ : List Int, y_ = (x9_1 ++ [x12_2]) := ⟨_, rfl⟩
            replace H : (figure_Surface.l0 k2 l0 y208 l0 (l0.length : Int) (wrap64 (x31_1 + 1)) a1_0 a1_1) = some (r1, r2) := by first | (rw [hy208]; with_reducible exact H) | (have H2_ := (Option.bind_some _ _).symm.trans H; rw [hy208]; with_reducible exact H2_) | (have H2_ := (Option.bind_some _ _).symm.trans H; with_reducible exact H2_) | with_reducible exact H | (rw [hy208]; exact H) | exact H
            have Ny208 := Aside0.mk hy208
            clear hy208
            have H' := Aside0.mk H
            clear H
            go_wp2_with (first | ((with_reducible refine gate_builtin (b := .append) (xs := #[.tmp 56, .tmp 58]) rfl ?_); at_builtin; refine Kd.R_append (Kd.int .i64) (w0 := w) w.heap.size rfl (.tmp 56) (.tmp 58) 22 3 (.int .i64 0) 8 rfl Try.underlying22 info3 rfl di_ (by omega) u9 x9_1 x12_2 [.int .i64 x12_2] (fun _ => True) (fun _ => False) rfl rfl ?aP (fun _ hk => hk.elim) ?aF ?aO ?aB ?aS ?aL ?_; (case aP => exact rfl); (case aB => exact (hb_ HB)); (case aF => exact (fun _ _ => trivial)); (case aO => exact (rk_ HO_9)); (case aS => exact (below_size (hb_ HB))); (case aL => have := LMc38.out; omega); intro v209 w39 ho hb hg hat; rw [← Ny208.out] at ho; have n0_ := Aside0.mk (blk_grown (g := gb197) (o := .cells #[.int .i64 a1_0, .int .i64 a1_1] 59 (0, 0)) (bk_ BK197) hg (Kd.R_ne HO_9.out BK197.out di_)); have n1_ := Aside0.mk (blk_grown (g := gb202) (o := .cells #[.int .i64 t199, .int .i64 t200] 48 (0, 0)) (bk_ BK202) hg (Kd.R_ne HO_9.out BK202.out di_)); have n2_ := Aside0.mk (blk_grown (g := gb204) (o := .cells #[.int .i64 ((rd_T38 l0 x31_1).f0), .int .i64 ((rd_T38 l0 x31_1).f1)] 38 (0, 0)) (bk_ BK204) hg (Kd.R_ne HO_9.out BK204.out di_)); have n3_ := Aside0.mk (hb); have n4_ := Aside0.mk (ho); clear BK197; clear BK202; clear BK204; clear HB; clear HO_9; have BK197 := n0_; have BK202 := n1_; have BK204 := n2_; have HB := n3_; have HO210 := n4_; clear n0_ n1_ n2_ n3_ n4_; clear ho hb hg hat))
            go_roundg k2
            case measure => have := HK1.out; have := HK2.out; omega
            case rel => exact ⟨(y208), (wrap64 (x31_1 + 1)), rs_, H', ⟨by have := HK1.out; have := HK2.out; omega⟩, ⟨by (with_reducible repeat (first | apply Kd.R_alloc | apply Kd.R_drewN | apply Kd.R_drew)); exact HO210.out⟩, ⟨by (with_reducible repeat (first | refine blk_drewN ?_ _ | refine blk_drew ?_ | refine blk_alloc ?_ _)); exact BK197.out⟩, ⟨by (with_reducible repeat (first | refine blk_drewN ?_ _ | refine blk_drew ?_ | refine blk_alloc ?_ _)); exact BK202.out⟩, ⟨by repeat (first | (with_reducible first | exact HB.out | apply below_alloc | apply pw_below_drewN | apply below_drew1 | refine below_set ?_ GE197.out | refine below_set ?_ GE202.out | refine below_set ?_ GE204.out) | exact HB.out)⟩⟩
           ·rw [if_neg c38] at H
            exact absurd H (by simp)
       ·rw [if_neg c20] at H
        exact absurd H (by simp)
      ·rw [if_neg c19] at H
       exact absurd H (by simp)
     ·rw [if_neg c18] at H
      have c18b0 : decide (x31_1 < (l0.length : Int)) = false := decide_eq_false c18
      clear c18
      simp only [Option.some.injEq, Prod.mk.injEq] at H
      obtain ⟨rfl, rfl⟩ := H
      go_wp2
      go_ret2
      exact ⟨_, by first | rfl | (simp [errW_none, errW_some] <;> rfl) | (simp [*, errW_none, errW_some] <;> rfl), by (with_reducible repeat (first | apply Kd.R_alloc | apply Kd.R_drewN | apply Kd.R_drew)); exact HO_9.out, by repeat (first | (with_reducible first | exact HB.out | apply below_alloc | apply pw_below_drewN | apply below_drew1 | refine below_set ?_ GE197.out | refine below_set ?_ GE202.out) | exact HB.out)⟩
 ·rw [if_neg c4] at H
  have c4b0 : (t201 == 0) = false := beq_eq_false_iff_ne.mpr c4
  have c4b1 : (t201 != 0) = true := bne_iff_ne.mpr c4
  simp only [Option.some.injEq, Prod.mk.injEq] at H
  obtain ⟨rfl, rfl⟩ := H
  go_enter Try.func61, Try.ntmps61
  go_wp2_with (first | ((with_reducible refine gate_dst (N := 3) rfl ?_); refine box_event ?hg (N := 3) ?hd (cs := #[.int .i64 a1_0, .int .i64 a1_1]) (t := 59) ?hr ?_; (case hd => rfl); (case hg => rfl); (case hr => exact gr_); intro gb197 hg w40 hbox hb; have n0_ := Aside0.mk (below_step (hb_ HB) hb); have n1_ := Aside0.mk (hbox); have n2_ := Aside0.mk ((hz_ HB hg)); have n3_ := Aside0.mk ((hz_ HB hg)); clear HB; have HB := n0_; have BK197 := n1_; have GW197 := n2_; have GE197 := n3_; clear n0_ n1_ n2_ n3_; clear hb hbox hg; have hcz41_0 : w40.cell? ⟨gb197, 0, none⟩ = some (.int .i64 a1_0) := (blk_cell BK197.out 0).trans rfl; have hcz41_1 : w40.cell? ⟨gb197, 1, none⟩ = some (.int .i64 a1_1) := (blk_cell BK197.out 1).trans rfl; have hfz41_0 := blk_frozen BK197.out 0; have hfz41_1 := blk_frozen BK197.out 1) | ((with_reducible refine gate_callee (f := 59) rfl ?_); refine goesL_ (some 18) rfl rfl Try.func59 (by kernel_rfl) rfl #[.slice A0 l0.length c0, .agg #[.int .i64 a1_0, .int .i64 a1_1]] rfl ma_ ?_; (with_reducible refine (figure_Judge.calls k _ _ l0 a1_0 a1_1 t198 t199 t200 t201 _ ?side1 ?side2 A3.out).mono ?_); (case side1 => repeat (first | exact (Kd.C_below HR0.out HB.out) | (with_reducible refine Kd.C_alloc ?_ _) | (with_reducible refine Kd.C_drewN ?_ _) | (with_reducible refine Kd.C_drew ?_))); (case side2 => exact HC0.out); rintro e w42 ⟨rfl, hb⟩; refine ⟨_, rfl, ?_⟩; have n0_ := Aside0.mk (bb_ BK197 hb); have n1_ := Aside0.mk (below_step (hb_ HB) hb); clear BK197; clear HB; have BK197 := n0_; have HB := n1_; clear n0_ n1_; (try clear hb); (try clear hb2); (try clear hk); (try clear hi)) | ((with_reducible refine gate_dst (N := 7) rfl ?_); refine box_event ?hg (N := 7) ?hd (cs := #[.int .i64 0, .int .i64 0]) (t := 48) ?hr ?_; (case hd => rfl); (case hg => rfl); (case hr => exact gr_); intro gb202 hg w43 hbox hb; have n0_ := Aside0.mk (bb_ BK197 hb); have n1_ := Aside0.mk (below_step (hb_ HB) hb); have n2_ := Aside0.mk (hbox); have n3_ := Aside0.mk ((hz_ HB hg)); have n4_ := Aside0.mk ((hz_ HB hg)); have n5_ := Aside0.mk ((nl_ BK197 hg)); have n6_ := Aside0.mk ((ng_ BK197 hg)); clear BK197; clear HB; have BK197 := n0_; have HB := n1_; have BK202 := n2_; have GW202 := n3_; have GE202 := n4_; have NB197_202 := n5_; have NB202_197 := n6_; clear n0_ n1_ n2_ n3_ n4_ n5_ n6_; clear hb hbox hg; have hnb44 := NB202_197.out; have hnc44 := NB197_202.out; have hcz45_0 : w43.cell? ⟨gb202, 0, none⟩ = some (.int .i64 0) := (blk_cell BK202.out 0).trans rfl; have hcz45_1 : w43.cell? ⟨gb202, 1, none⟩ = some (.int .i64 0) := (blk_cell BK202.out 1).trans rfl; have hfz45_0 := blk_frozen BK202.out 0; have hfz45_1 := blk_frozen BK202.out 1))
  go_ret2
  exact ⟨_, by first | rfl | (simp [errW_none, errW_some] <;> rfl) | (simp [*, errW_none, errW_some] <;> rfl), by first | exact Kd.R_nil _ _ _ _ _ | exact Kd.N_nil _ _ _ _ _ | exact Kd.V_nil _ _ _ _ _ | exact Kd.Q_nil _ _ _ _ _ | exact Kd.S_nil _ _ _ _ _, by repeat (first | (with_reducible first | exact HB.out | apply below_alloc | apply pw_below_drewN | apply below_drew1 | refine below_set ?_ GE197.out | refine below_set ?_ GE202.out) | exact HB.out)⟩
end Go.Proofs.Ytdkahcolfcmmpaa.Pr
namespace Go.Proofs.Ytdkahcolfcmmpaa.Pr
open Go.RowKit Go.Proofs.YtdkahcolfcmmpaaW.PrintWords Go.Proofs.YtdkahcolfcmmpaaW.PrintLast Go.Proofs.YtdkahcolfcmmpaaW.PrintMore
attribute [local go_sem] max2_int min2_int max_two min_two max_three min_three max_four min_four   -- for this text's walks alone
set_option linter.unusedVariables false
set_option linter.unusedSimpArgs false
attribute [local go_sem high] eqA28 eqA48
def speculumlaw06_awake.f (k : Nat)  : Option (Bool) := (speculumlaw06_Four.f).bind fun bt211 => ((figure_Least.f k bt211.1 bt211.2.1 bt211.2.2).bind fun bt220 => ((speculumlaw06_Known.f).bind fun t224 => ((figure_Judge.f k t224 0 0).bind fun bt227 => ((speculumlaw06_Known.f).bind fun t232 => ((figure_Surface.f k t232 3 2).bind fun bt235 => (if bt220.2.2 = 0 then (if (bt220.1 == 12 && (bt220.2.1 == 1)) = true then (if bt227.2.2.2 = 0 then (if bt227.1 = (-1) then (if (bt227.2.1 == 2 && (bt227.2.2.1 == 0)) = true then (if bt235.2 = 0 then ((speculumbase_Ints.f k bt235.1 (([0, 1, 3] : List Int))).bind fun t242 => (some t242)) else (some false)) else (some false)) else (some false)) else (some false)) else (some false)) else (some false)))))))
theorem speculumlaw06_awake.mono : ∀ k, LeO (speculumlaw06_awake.f k ) (speculumlaw06_awake.f (k + 1) ) := by
 intro  k
 unfold speculumlaw06_awake.f
 repeat' first
   | (with_reducible exact figure_Judge.mono _ _ _ _)
   | (with_reducible exact figure_Least.mono _ _ _ _)
   | (with_reducible exact figure_Surface.mono _ _ _ _)
   | (with_reducible exact speculumbase_Ints.mono _ _ _)
   | (with_reducible exact LeO.refl _)
   | (with_reducible exact LeO.none _)
   | (with_reducible refine LeO.ite ?_ ?_)
   | (with_reducible refine LeO.bind ?_ (fun _ => ?_))
   | exact figure_Judge.mono _ _ _ _
   | exact figure_Least.mono _ _ _ _
   | exact figure_Surface.mono _ _ _ _
   | exact speculumbase_Ints.mono _ _ _
   | exact LeO.none _
   | refine LeO.ite ?_ ?_
   | refine LeO.bind ?_ (fun _ => ?_)
set_option maxHeartbeats 8000000 in
set_option maxRecDepth 100000 in
theorem speculumlaw06_awake.calls (k : Nat)  (r : Bool) (w : World) (hr_ : r = true) (h : speculumlaw06_awake.f k  = some r) :
  Calls Try.prog 14 #[] w fun e w' => e = .returned (.bool r) ∧ Below w.heap.size w w' := by
 have hu28 := Try.underlying28
 have hu59 := Try.underlying59
 have hu48 := Try.underlying48
 have HB := Aside0.mk (Below.refl w.heap.size w)
 have H : ((speculumlaw06_Four.f).bind fun bt211 => ((figure_Least.f k bt211.1 bt211.2.1 bt211.2.2).bind fun bt220 => ((speculumlaw06_Known.f).bind fun t224 => ((figure_Judge.f k t224 0 0).bind fun bt227 => ((speculumlaw06_Known.f).bind fun t232 => ((figure_Surface.f k t232 3 2).bind fun bt235 => (if bt220.2.2 = 0 then (if (bt220.1 == 12 && (bt220.2.1 == 1)) = true then (if bt227.2.2.2 = 0 then (if bt227.1 = (-1) then (if (bt227.2.1 == 2 && (bt227.2.2.1 == 0)) = true then (if bt235.2 = 0 then ((speculumbase_Ints.f k bt235.1 (([0, 1, 3] : List Int))).bind fun t242 => (some t242)) else (some false)) else (some false)) else (some false)) else (some false)) else (some false)) else (some false)))))))) = some r := h
 clear h
 replace H := Option.bind_eq_some_iff.mp H
 obtain ⟨⟨t211, t214, t217⟩, A10, H⟩ := H
 replace H : ((figure_Least.f k t211 t214 t217).bind fun bt220 => ((speculumlaw06_Known.f).bind fun t224 => ((figure_Judge.f k t224 0 0).bind fun bt227 => ((speculumlaw06_Known.f).bind fun t232 => ((figure_Surface.f k t232 3 2).bind fun bt235 => (if bt220.2.2 = 0 then (if (bt220.1 == 12 && (bt220.2.1 == 1)) = true then (if bt227.2.2.2 = 0 then (if bt227.1 = (-1) then (if (bt227.2.1 == 2 && (bt227.2.2.1 == 0)) = true then (if bt235.2 = 0 then ((speculumbase_Ints.f k bt235.1 (([0, 1, 3] : List Int))).bind fun t242 => (some t242)) else (some false)) else (some false)) else (some false)) else (some false)) else (some false)) else (some false))))))) = some r := H
 have A1 := Aside0.mk A10
 clear A10
 replace H := Option.bind_eq_some_iff.mp H
 obtain ⟨⟨t220, t221, t222⟩, A20, H⟩ := H
 replace H : ((speculumlaw06_Known.f).bind fun t224 => ((figure_Judge.f k t224 0 0).bind fun bt227 => ((speculumlaw06_Known.f).bind fun t232 => ((figure_Surface.f k t232 3 2).bind fun bt235 => (if t222 = 0 then (if (t220 == 12 && (t221 == 1)) = true then (if bt227.2.2.2 = 0 then (if bt227.1 = (-1) then (if (bt227.2.1 == 2 && (bt227.2.2.1 == 0)) = true then (if bt235.2 = 0 then ((speculumbase_Ints.f k bt235.1 (([0, 1, 3] : List Int))).bind fun t242 => (some t242)) else (some false)) else (some false)) else (some false)) else (some false)) else (some false)) else (some false)))))) = some r := H
 have A2 := Aside0.mk A20
 clear A20
 replace H := Option.bind_eq_some_iff.mp H
 obtain ⟨t224, A30, H⟩ := H
 replace H : ((figure_Judge.f k t224 0 0).bind fun bt227 => ((speculumlaw06_Known.f).bind fun t232 => ((figure_Surface.f k t232 3 2).bind fun bt235 => (if t222 = 0 then (if (t220 == 12 && (t221 == 1)) = true then (if bt227.2.2.2 = 0 then (if bt227.1 = (-1) then (if (bt227.2.1 == 2 && (bt227.2.2.1 == 0)) = true then (if bt235.2 = 0 then ((speculumbase_Ints.f k bt235.1 (([0, 1, 3] : List Int))).bind fun t242 => (some t242)) else (some false)) else (some false)) else (some false)) else (some false)) else (some false)) else (some false))))) = some r := H
 have A3 := Aside0.mk A30
 clear A30
 replace H := Option.bind_eq_some_iff.mp H
 obtain ⟨⟨t227, t228, t229, t230⟩, A40, H⟩ := H
 replace H : ((speculumlaw06_Known.f).bind fun t232 => ((figure_Surface.f k t232 3 2).bind fun bt235 => (if t222 = 0 then (if (t220 == 12 && (t221 == 1)) = true then (if t230 = 0 then (if t227 = (-1) then (if (t228 == 2 && (t229 == 0)) = true then (if bt235.2 = 0 then ((speculumbase_Ints.f k bt235.1 (([0, 1, 3] : List Int))).bind fun t242 => (some t242)) else (some false)) else (some false)) else (some false)) else (some false)) else (some false)) else (some false)))) = some r := H
 have A4 := Aside0.mk A40
 clear A40
 replace H := Option.bind_eq_some_iff.mp H
 obtain ⟨t232, A50, H⟩ := H
 replace H : ((figure_Surface.f k t232 3 2).bind fun bt235 => (if t222 = 0 then (if (t220 == 12 && (t221 == 1)) = true then (if t230 = 0 then (if t227 = (-1) then (if (t228 == 2 && (t229 == 0)) = true then (if bt235.2 = 0 then ((speculumbase_Ints.f k bt235.1 (([0, 1, 3] : List Int))).bind fun t242 => (some t242)) else (some false)) else (some false)) else (some false)) else (some false)) else (some false)) else (some false))) = some r := H
 have A5 := Aside0.mk A50
 clear A50
 replace H := Option.bind_eq_some_iff.mp H
 obtain ⟨⟨t235, t238⟩, A60, H⟩ := H
 replace H : (if t222 = 0 then (if (t220 == 12 && (t221 == 1)) = true then (if t230 = 0 then (if t227 = (-1) then (if (t228 == 2 && (t229 == 0)) = true then (if t238 = 0 then ((speculumbase_Ints.f k t235 (([0, 1, 3] : List Int))).bind fun t242 => (some t242)) else (some false)) else (some false)) else (some false)) else (some false)) else (some false)) else (some false)) = some r := H
 have A6 := Aside0.mk A60
 clear A60
 by_cases c7 : t222 = 0
 ·rw [if_pos c7] at H
  have c7b0 : (t222 == 0) = true := beq_iff_eq.mpr c7
  have c7b1 : (t222 != 0) = false := bne_eq_false_iff_eq.mpr c7
  clear c7
  by_cases c8 : (t220 == 12 && (t221 == 1)) = true
  ·rw [if_pos c8] at H
   have c8b0 : (t220 == 12 && (t221 == 1)) = true := c8
   (try (have c8b1 : decide (t220 = 12 && (t221 == 1)) = true := by simpa using c8))
   (try (have c8b2 : (t220 == 12 && (t221 == 1)) = true := by simpa using c8))
   clear c8
   by_cases c9 : t230 = 0
   ·rw [if_pos c9] at H
    have c9b0 : (t230 == 0) = true := beq_iff_eq.mpr c9
    have c9b1 : (t230 != 0) = false := bne_eq_false_iff_eq.mpr c9
    clear c9
    by_cases c10 : t227 = (-1)
    ·rw [if_pos c10] at H
     have c10b0 : (t227 == (-1)) = true := beq_iff_eq.mpr c10
     have c10b1 : (t227 != (-1)) = false := bne_eq_false_iff_eq.mpr c10
     clear c10
     by_cases c11 : (t228 == 2 && (t229 == 0)) = true
     ·rw [if_pos c11] at H
      have c11b0 : (t228 == 2 && (t229 == 0)) = true := c11
      (try (have c11b1 : decide (t228 = 2 && (t229 == 0)) = true := by simpa using c11))
      (try (have c11b2 : (t228 == 2 && (t229 == 0)) = true := by simpa using c11))
      clear c11
      by_cases c12 : t238 = 0
      ·rw [if_pos c12] at H
       have c12b0 : (t238 == 0) = true := beq_iff_eq.mpr c12
       have c12b1 : (t238 != 0) = false := bne_eq_false_iff_eq.mpr c12
       clear c12
       obtain ⟨y239, hy239⟩ : ∃ y_ : List Int, y_ = (([0, 1, 3] : List Int)) := ⟨_, rfl⟩
       replace H : ((speculumbase_Ints.f k t235 y239).bind fun t242 => (some t242)) = some r := by first | (rw [hy239]; with_reducible exact H) | (have H2_ := (Option.bind_some _ _).symm.trans H; rw [hy239]; with_reducible exact H2_) | (have H2_ := (Option.bind_some _ _).symm.trans H; with_reducible exact H2_) | with_reducible exact H | (rw [hy239]; exact H) | exact H
       have Ny239 := Aside0.mk hy239
       clear hy239
       replace H := Option.bind_eq_some_iff.mp H
       obtain ⟨t242, A130, H⟩ := H
       replace H : (some t242) = some r := H
       have A13 := Aside0.mk A130
       clear A130
       obtain rfl := Option.some.inj H
       go_enter Try.func14, Try.ntmps14
       go_wp2_with (first | ((with_reducible refine gate_callee (f := 58) rfl ?_); refine goesL_ (some 9) rfl rfl Try.func58 (by kernel_rfl) rfl #[] rfl ma_ ?_; (with_reducible refine (speculumlaw06_Four.calls  t211 t214 t217 _ A1.out).mono ?_); rintro e w14 ⟨v212, v215, v218, rfl, ho0, ho1, ho2, hb⟩; refine ⟨_, rfl, ?_⟩; have n0_ := Aside0.mk (Kd.R_lower ho0 (below_size (hb_ HB))); have n1_ := Aside0.mk (Kd.R_lower ho1 (below_size (hb_ HB))); have n2_ := Aside0.mk (Kd.R_lower ho2 (below_size (hb_ HB))); have n3_ := Aside0.mk (below_step (hb_ HB) hb); clear HB; have HO213 := n0_; have HO216 := n1_; have HO219 := n2_; have HB := n3_; clear n0_ n1_ n2_ n3_; (try clear hb); (try clear hb2); (try clear hk); (try clear hi); (try clear ho0); (try clear ho1); (try clear ho2); obtain ⟨Ao15, co15, eo15⟩ := Kd.R_slice HO213.out; subst eo15; obtain ⟨Ao16, co16, eo16⟩ := Kd.R_slice HO216.out; subst eo16; obtain ⟨Ao17, co17, eo17⟩ := Kd.R_slice HO219.out; subst eo17) | ((with_reducible refine gate_callee (f := 32) rfl ?_); refine goesL_ (some 10) rfl rfl Try.func32 (by kernel_rfl) rfl #[.agg #[.slice Ao15 t211.length co15, .slice Ao16 t214.length co16, .slice Ao17 t217.length co17]] rfl ma_ ?_; (with_reducible refine (figure_Least.calls k _ _ t211 _ _ t214 _ _ t217 t220 t221 t222 _ ?side1 ?side2 ?side3 ?side4 ?side5 ?side6 A2.out).mono ?_); (case side1 => repeat (first | exact (Kd.R_reads' HO213.out).2.2 | (with_reducible refine Kd.C_alloc ?_ _) | (with_reducible refine Kd.C_drewN ?_ _) | (with_reducible refine Kd.C_drew ?_))); (case side2 => exact (Kd.R_reads' HO213.out).2.1); (case side3 => repeat (first | exact (Kd.R_reads' HO216.out).2.2 | (with_reducible refine Kd.C_alloc ?_ _) | (with_reducible refine Kd.C_drewN ?_ _) | (with_reducible refine Kd.C_drew ?_))); (case side4 => exact (Kd.R_reads' HO216.out).2.1); (case side5 => repeat (first | exact (Kd.R_reads' HO219.out).2.2 | (with_reducible refine Kd.C_alloc ?_ _) | (with_reducible refine Kd.C_drewN ?_ _) | (with_reducible refine Kd.C_drew ?_))); (case side6 => exact (Kd.R_reads' HO219.out).2.1); rintro e w18 ⟨rfl, hb⟩; refine ⟨_, rfl, ?_⟩; have n0_ := Aside0.mk (Kd.R_below (rk_ HO213) hb); have n1_ := Aside0.mk (Kd.R_below (rk_ HO216) hb); have n2_ := Aside0.mk (Kd.R_below (rk_ HO219) hb); have n3_ := Aside0.mk (below_step (hb_ HB) hb); clear HO213; clear HO216; clear HO219; clear HB; have HO213 := n0_; have HO216 := n1_; have HO219 := n2_; have HB := n3_; clear n0_ n1_ n2_ n3_; (try clear hb); (try clear hb2); (try clear hk); (try clear hi)) | ((with_reducible refine gate_dst (N := 1) rfl ?_); (try (refine gate_guard (by rfl) ?_; dsimp only)); refine box_event ?hg (N := 1) ?hd (cs := #[.int .i64 0, .int .i64 0]) (t := 28) ?hr ?_; (case hd => rfl); (case hg => rfl); (case hr => exact gr_); intro gb223 hg w19 hbox hb; have n0_ := Aside0.mk (Kd.R_below (rk_ HO213) hb); have n1_ := Aside0.mk (Kd.R_below (rk_ HO216) hb); have n2_ := Aside0.mk (Kd.R_below (rk_ HO219) hb); have n3_ := Aside0.mk (below_step (hb_ HB) hb); have n4_ := Aside0.mk (hbox); have n5_ := Aside0.mk ((hz_ HB hg)); have n6_ := Aside0.mk ((hz_ HB hg)); clear HO213; clear HO216; clear HO219; clear HB; have HO213 := n0_; have HO216 := n1_; have HO219 := n2_; have HB := n3_; have BK223 := n4_; have GW223 := n5_; have GE223 := n6_; clear n0_ n1_ n2_ n3_ n4_ n5_ n6_; clear hb hbox hg; have hcz20_0 : w19.cell? ⟨gb223, 0, none⟩ = some (.int .i64 0) := (blk_cell BK223.out 0).trans rfl; have hcz20_1 : w19.cell? ⟨gb223, 1, none⟩ = some (.int .i64 0) := (blk_cell BK223.out 1).trans rfl; have hfz20_0 := blk_frozen BK223.out 0; have hfz20_1 := blk_frozen BK223.out 1) | ((with_reducible refine gate_callee (f := 60) rfl ?_); refine goesL_ (some 14) rfl rfl Try.func60 (by kernel_rfl) rfl #[] rfl ma_ ?_; (with_reducible refine (speculumlaw06_Known.calls  t224 _ A3.out).mono ?_); rintro e w21 ⟨v225, rfl, ho0, hb⟩; refine ⟨_, rfl, ?_⟩; have n0_ := Aside0.mk (Kd.R_below (by (with_reducible repeat (first | apply Kd.R_alloc | apply Kd.R_drewN | apply Kd.R_drew)); exact (Kd.R_mono (Kd.R_far (p := ⟨gb223, 1, none⟩) (Kd.R_far (p := ⟨gb223, 0, none⟩) (Kd.R_types HO213.out BK223.out di_) (fun _ hk => hk.2) (.int .i64 t220)) (fun _ hk => hk.2) (.int .i64 t221)) (fun _ h_ => h_.1))) hb); have n1_ := Aside0.mk (Kd.R_below (by (with_reducible repeat (first | apply Kd.R_alloc | apply Kd.R_drewN | apply Kd.R_drew)); exact (Kd.R_mono (Kd.R_far (p := ⟨gb223, 1, none⟩) (Kd.R_far (p := ⟨gb223, 0, none⟩) (Kd.R_types HO216.out BK223.out di_) (fun _ hk => hk.2) (.int .i64 t220)) (fun _ hk => hk.2) (.int .i64 t221)) (fun _ h_ => h_.1))) hb); have n2_ := Aside0.mk (Kd.R_below (by (with_reducible repeat (first | apply Kd.R_alloc | apply Kd.R_drewN | apply Kd.R_drew)); exact (Kd.R_mono (Kd.R_far (p := ⟨gb223, 1, none⟩) (Kd.R_far (p := ⟨gb223, 0, none⟩) (Kd.R_types HO219.out BK223.out di_) (fun _ hk => hk.2) (.int .i64 t220)) (fun _ hk => hk.2) (.int .i64 t221)) (fun _ h_ => h_.1))) hb); have n3_ := Aside0.mk (Kd.R_lower ho0 (below_size (hb_ HB))); have n4_ := Aside0.mk (blk_below (g := gb223) (o := .cells #[.int .i64 t220, .int .i64 t221] 28 (0, 0)) (by (with_reducible repeat (first | refine blk_drewN ?_ _ | refine blk_drew ?_ | refine blk_alloc ?_ _)); refine blk_put (cs := #[.int .i64 t220, .int .i64 0]) ?_ 1 _ rfl; (with_reducible repeat (first | refine blk_drewN ?_ _ | refine blk_drew ?_ | refine blk_alloc ?_ _)); refine blk_put (cs := #[.int .i64 0, .int .i64 0]) ?_ 0 _ rfl; (with_reducible repeat (first | refine blk_drewN ?_ _ | refine blk_drew ?_ | refine blk_alloc ?_ _)); exact BK223.out) hb); have n5_ := Aside0.mk (below_step (hb_ HB) hb); clear HO213; clear HO216; clear HO219; clear BK223; clear HB; have HO213 := n0_; have HO216 := n1_; have HO219 := n2_; have HO226 := n3_; have BK223 := n4_; have HB := n5_; clear n0_ n1_ n2_ n3_ n4_ n5_; (try clear hb); (try clear hb2); (try clear hk); (try clear hi); (try clear ho0); obtain ⟨Ao22, co22, eo22⟩ := Kd.R_slice HO226.out; subst eo22) | ((with_reducible refine gate_callee (f := 59) rfl ?_); refine goesL_ (some 16) rfl rfl Try.func59 (by kernel_rfl) rfl #[.slice Ao22 t224.length co22, .agg #[.int .i64 0, .int .i64 0]] rfl ma_ ?_; (with_reducible refine (figure_Judge.calls k _ _ t224 0 0 t227 t228 t229 t230 _ ?side1 ?side2 A4.out).mono ?_); (case side1 => repeat (first | exact (Kd.R_reads' HO226.out).2.2 | (with_reducible refine Kd.C_alloc ?_ _) | (with_reducible refine Kd.C_drewN ?_ _) | (with_reducible refine Kd.C_drew ?_))); (case side2 => exact (Kd.R_reads' HO226.out).2.1); rintro e w23 ⟨rfl, hb⟩; refine ⟨_, rfl, ?_⟩; have n0_ := Aside0.mk (Kd.R_below (rk_ HO213) hb); have n1_ := Aside0.mk (Kd.R_below (rk_ HO216) hb); have n2_ := Aside0.mk (Kd.R_below (rk_ HO219) hb); have n3_ := Aside0.mk (Kd.R_below (rk_ HO226) hb); have n4_ := Aside0.mk (bb_ BK223 hb); have n5_ := Aside0.mk (below_step (hb_ HB) hb); clear HO213; clear HO216; clear HO219; clear HO226; clear BK223; clear HB; have HO213 := n0_; have HO216 := n1_; have HO219 := n2_; have HO226 := n3_; have BK223 := n4_; have HB := n5_; clear n0_ n1_ n2_ n3_ n4_ n5_; (try clear hb); (try clear hb2); (try clear hk); (try clear hi)) | ((with_reducible refine gate_dst (N := 4) rfl ?_); (try (refine gate_guard (by rfl) ?_; dsimp only)); refine box_event ?hg (N := 4) ?hd (cs := #[.int .i64 0, .int .i64 0]) (t := 48) ?hr ?_; (case hd => rfl); (case hg => rfl); (case hr => exact gr_); intro gb231 hg w24 hbox hb; have n0_ := Aside0.mk (Kd.R_below (rk_ HO213) hb); have n1_ := Aside0.mk (Kd.R_below (rk_ HO216) hb); have n2_ := Aside0.mk (Kd.R_below (rk_ HO219) hb); have n3_ := Aside0.mk (Kd.R_below (rk_ HO226) hb); have n4_ := Aside0.mk (bb_ BK223 hb); have n5_ := Aside0.mk (below_step (hb_ HB) hb); have n6_ := Aside0.mk (hbox); have n7_ := Aside0.mk ((hz_ HB hg)); have n8_ := Aside0.mk ((hz_ HB hg)); have n9_ := Aside0.mk ((nl_ BK223 hg)); have n10_ := Aside0.mk ((ng_ BK223 hg)); clear HO213; clear HO216; clear HO219; clear HO226; clear BK223; clear HB; have HO213 := n0_; have HO216 := n1_; have HO219 := n2_; have HO226 := n3_; have BK223 := n4_; have HB := n5_; have BK231 := n6_; have GW231 := n7_; have GE231 := n8_; have NB223_231 := n9_; have NB231_223 := n10_; clear n0_ n1_ n2_ n3_ n4_ n5_ n6_ n7_ n8_ n9_ n10_; clear hb hbox hg; have hnb25 := NB231_223.out; have hnc25 := NB223_231.out; have hcz26_0 : w24.cell? ⟨gb231, 0, none⟩ = some (.int .i64 0) := (blk_cell BK231.out 0).trans rfl; have hcz26_1 : w24.cell? ⟨gb231, 1, none⟩ = some (.int .i64 0) := (blk_cell BK231.out 1).trans rfl; have hfz26_0 := blk_frozen BK231.out 0; have hfz26_1 := blk_frozen BK231.out 1) | ((with_reducible refine gate_callee (f := 60) rfl ?_); refine goesL_ (some 21) rfl rfl Try.func60 (by kernel_rfl) rfl #[] rfl ma_ ?_; (with_reducible refine (speculumlaw06_Known.calls  t232 _ A5.out).mono ?_); rintro e w27 ⟨v233, rfl, ho0, hb⟩; refine ⟨_, rfl, ?_⟩; have n0_ := Aside0.mk (Kd.R_below (by (with_reducible repeat (first | apply Kd.R_alloc | apply Kd.R_drewN | apply Kd.R_drew)); exact (Kd.R_mono (Kd.R_far (p := ⟨gb231, 1, none⟩) (Kd.R_far (p := ⟨gb231, 0, none⟩) (Kd.R_types HO213.out BK231.out di_) (fun _ hk => hk.2) (.int .i64 t228)) (fun _ hk => hk.2) (.int .i64 t229)) (fun _ h_ => h_.1))) hb); have n1_ := Aside0.mk (Kd.R_below (by (with_reducible repeat (first | apply Kd.R_alloc | apply Kd.R_drewN | apply Kd.R_drew)); exact (Kd.R_mono (Kd.R_far (p := ⟨gb231, 1, none⟩) (Kd.R_far (p := ⟨gb231, 0, none⟩) (Kd.R_types HO216.out BK231.out di_) (fun _ hk => hk.2) (.int .i64 t228)) (fun _ hk => hk.2) (.int .i64 t229)) (fun _ h_ => h_.1))) hb); have n2_ := Aside0.mk (Kd.R_below (by (with_reducible repeat (first | apply Kd.R_alloc | apply Kd.R_drewN | apply Kd.R_drew)); exact (Kd.R_mono (Kd.R_far (p := ⟨gb231, 1, none⟩) (Kd.R_far (p := ⟨gb231, 0, none⟩) (Kd.R_types HO219.out BK231.out di_) (fun _ hk => hk.2) (.int .i64 t228)) (fun _ hk => hk.2) (.int .i64 t229)) (fun _ h_ => h_.1))) hb); have n3_ := Aside0.mk (Kd.R_elder' (by (with_reducible repeat (first | apply Kd.R_alloc | apply Kd.R_drewN | apply Kd.R_drew)); exact (Kd.R_mono (Kd.R_far (p := ⟨gb231, 1, none⟩) (Kd.R_far (p := ⟨gb231, 0, none⟩) (Kd.R_types HO226.out BK231.out di_) (fun _ hk => hk.2) (.int .i64 t228)) (fun _ hk => hk.2) (.int .i64 t229)) (fun _ h_ => h_.1))) (Kd.R_base ho0) hb); have n4_ := Aside0.mk (Kd.R_lower (Kd.R_new' ho0 (Kd.R_lt (by (with_reducible repeat (first | apply Kd.R_alloc | apply Kd.R_drewN | apply Kd.R_drew)); exact (Kd.R_mono (Kd.R_far (p := ⟨gb231, 1, none⟩) (Kd.R_far (p := ⟨gb231, 0, none⟩) (Kd.R_types HO226.out BK231.out di_) (fun _ hk => hk.2) (.int .i64 t228)) (fun _ hk => hk.2) (.int .i64 t229)) (fun _ h_ => h_.1))))) (below_size (hb_ HB))); have n5_ := Aside0.mk (blk_below (g := gb223) (o := .cells #[.int .i64 t220, .int .i64 t221] 28 (0, 0)) (by (with_reducible repeat (first | refine blk_drewN ?_ _ | refine blk_drew ?_ | refine blk_alloc ?_ _)); refine blk_far ?_ NB223_231.out _; (with_reducible repeat (first | refine blk_drewN ?_ _ | refine blk_drew ?_ | refine blk_alloc ?_ _)); refine blk_far ?_ NB223_231.out _; (with_reducible repeat (first | refine blk_drewN ?_ _ | refine blk_drew ?_ | refine blk_alloc ?_ _)); exact BK223.out) hb); have n6_ := Aside0.mk (blk_below (g := gb231) (o := .cells #[.int .i64 t228, .int .i64 t229] 48 (0, 0)) (by (with_reducible repeat (first | refine blk_drewN ?_ _ | refine blk_drew ?_ | refine blk_alloc ?_ _)); refine blk_put (cs := #[.int .i64 t228, .int .i64 0]) ?_ 1 _ rfl; (with_reducible repeat (first | refine blk_drewN ?_ _ | refine blk_drew ?_ | refine blk_alloc ?_ _)); refine blk_put (cs := #[.int .i64 0, .int .i64 0]) ?_ 0 _ rfl; (with_reducible repeat (first | refine blk_drewN ?_ _ | refine blk_drew ?_ | refine blk_alloc ?_ _)); exact BK231.out) hb); have n7_ := Aside0.mk (below_step (hb_ HB) hb); clear HO213; clear HO216; clear HO219; clear HO226; clear BK223; clear BK231; clear HB; have HO213 := n0_; have HO216 := n1_; have HO219 := n2_; have HO226 := n3_; have HO234 := n4_; have BK223 := n5_; have BK231 := n6_; have HB := n7_; clear n0_ n1_ n2_ n3_ n4_ n5_ n6_ n7_; (try clear hb); (try clear hb2); (try clear hk); (try clear hi); (try clear ho0); obtain ⟨Ao28, co28, eo28⟩ := Kd.R_slice HO234.out; subst eo28) | ((with_reducible refine gate_callee (f := 61) rfl ?_); refine goesL_ (some 23) rfl rfl Try.func61 (by kernel_rfl) rfl #[.slice Ao28 t232.length co28, .agg #[.int .i64 3, .int .i64 2]] rfl ma_ ?_; (with_reducible refine (figure_Surface.calls k _ _ t232 3 2 t235 t238 _ ?side1 ?side2 A6.out).mono ?_); (case side1 => repeat (first | exact (Kd.R_reads' HO234.out).2.2 | (with_reducible refine Kd.C_alloc ?_ _) | (with_reducible refine Kd.C_drewN ?_ _) | (with_reducible refine Kd.C_drew ?_))); (case side2 => exact (Kd.R_reads' HO234.out).2.1); rintro e w29 ⟨v236, rfl, ho0, hb⟩; refine ⟨_, rfl, ?_⟩; have n0_ := Aside0.mk (Kd.R_elder' (rk_ HO213) (Kd.R_base ho0) hb); have n1_ := Aside0.mk (Kd.R_elder' (rk_ HO216) (Kd.R_base ho0) hb); have n2_ := Aside0.mk (Kd.R_elder' (rk_ HO219) (Kd.R_base ho0) hb); have n3_ := Aside0.mk (Kd.R_below (rk_ HO226) hb); have n4_ := Aside0.mk (Kd.R_below (rk_ HO234) hb); have n5_ := Aside0.mk (Kd.R_lower (Kd.R_new' (Kd.R_new' (Kd.R_new' ho0 (Kd.R_lt (rk_ HO213))) (Kd.R_lt (rk_ HO216))) (Kd.R_lt (rk_ HO219))) (below_size (hb_ HB))); have n6_ := Aside0.mk (bb_ BK223 hb); have n7_ := Aside0.mk (bb_ BK231 hb); have n8_ := Aside0.mk (below_step (hb_ HB) hb); clear HO213; clear HO216; clear HO219; clear HO226; clear HO234; clear BK223; clear BK231; clear HB; have HO213 := n0_; have HO216 := n1_; have HO219 := n2_; have HO226 := n3_; have HO234 := n4_; have HO237 := n5_; have BK223 := n6_; have BK231 := n7_; have HB := n8_; clear n0_ n1_ n2_ n3_ n4_ n5_ n6_ n7_ n8_; (try clear hb); (try clear hb2); (try clear hk); (try clear hi); (try clear ho0); have hcz30_0 : w29.cell? ⟨gb223, 0, none⟩ = some (.int .i64 t220) := (blk_cell BK223.out 0).trans rfl; have hcz30_1 : w29.cell? ⟨gb223, 1, none⟩ = some (.int .i64 t221) := (blk_cell BK223.out 1).trans rfl; have hfz30_0 := blk_frozen BK223.out 0; have hfz30_1 := blk_frozen BK223.out 1; have hcz31_0 : w29.cell? ⟨gb231, 0, none⟩ = some (.int .i64 t228) := (blk_cell BK231.out 0).trans rfl; have hcz31_1 : w29.cell? ⟨gb231, 1, none⟩ = some (.int .i64 t229) := (blk_cell BK231.out 1).trans rfl; have hfz31_0 := blk_frozen BK231.out 0; have hfz31_1 := blk_frozen BK231.out 1) | ((with_reducible refine gate_dst (N := 52) rfl ?_); (try (refine gate_guard (by rfl) ?_; dsimp only)); refine Kd.R_lit (Kd.int .i64) _ 3 ?hg (N := 52) ?hd (xs := ([0, 1, 3] : List Int)) (inner := [.int .i64 0, .int .i64 1, .int .i64 3]) (ok := fun _ => True) (okp := fun _ => True) ?hr ?hp (fun _ hk => hk) trivial (Below.refl _ _) (Nat.le_refl _) (by simp) ?_; (case hd => rfl); (case hg => rfl); (case hr => exact gr_); (case hp => exact (Reps.one (show Kd.M (Kd.int .i64) _ _ _ 0 [.int .i64 0] from rfl) (Reps.one (show Kd.M (Kd.int .i64) _ _ _ 1 [.int .i64 1] from rfl) (Reps.one (show Kd.M (Kd.int .i64) _ _ _ 3 [.int .i64 3] from rfl) (Reps.none _ _))))); intro v240 w32 ho33 hb hg_ hnew_; clear hg_ hnew_; (first | rw [← Ny239.out] at ho33 | (simp only [Int.reduceToNat] at ho33; rw [← Ny239.out] at ho33)); have n0_ := Aside0.mk (Kd.R_elder' (rk_ HO213) (Kd.R_base ho33) hb); have n1_ := Aside0.mk (Kd.R_elder' (rk_ HO216) (Kd.R_base ho33) hb); have n2_ := Aside0.mk (Kd.R_elder' (rk_ HO219) (Kd.R_base ho33) hb); have n3_ := Aside0.mk (Kd.R_below (rk_ HO226) hb); have n4_ := Aside0.mk (Kd.R_below (rk_ HO234) hb); have n5_ := Aside0.mk (Kd.R_elder' (rk_ HO237) (Kd.R_base ho33) hb); have n6_ := Aside0.mk (Kd.R_lower (Kd.R_new' (Kd.R_new' (Kd.R_new' (Kd.R_new' ho33 (Kd.R_lt (rk_ HO213))) (Kd.R_lt (rk_ HO216))) (Kd.R_lt (rk_ HO219))) (Kd.R_lt (rk_ HO237))) (below_size (hb_ HB))); have n7_ := Aside0.mk (bb_ BK223 hb); have n8_ := Aside0.mk (bb_ BK231 hb); have n9_ := Aside0.mk (below_step (hb_ HB) hb); clear HO213; clear HO216; clear HO219; clear HO226; clear HO234; clear HO237; clear BK223; clear BK231; clear HB; have HO213 := n0_; have HO216 := n1_; have HO219 := n2_; have HO226 := n3_; have HO234 := n4_; have HO237 := n5_; have HO241 := n6_; have BK223 := n7_; have BK231 := n8_; have HB := n9_; clear n0_ n1_ n2_ n3_ n4_ n5_ n6_ n7_ n8_ n9_; clear hb ho33; obtain ⟨Ao34, co34, eo34⟩ := Kd.R_slice HO237.out; subst eo34; obtain ⟨Ao35, co35, eo35⟩ := Kd.R_slice HO241.out; subst eo35) | (go_at_call 49; (with_reducible refine (speculumbase_Ints.calls k _ _ t235 _ _ y239 t242 _ ?side1 ?side2 ?side3 ?side4 A13.out).mono ?_); (case side1 => repeat (first | exact (Kd.R_reads' HO237.out).2.2 | (with_reducible refine Kd.C_alloc ?_ _) | (with_reducible refine Kd.C_drewN ?_ _) | (with_reducible refine Kd.C_drew ?_))); (case side2 => exact (Kd.R_reads' HO237.out).2.1); (case side3 => repeat (first | exact (Kd.R_reads' HO241.out).2.2 | (with_reducible refine Kd.C_alloc ?_ _) | (with_reducible refine Kd.C_drewN ?_ _) | (with_reducible refine Kd.C_drew ?_))); (case side4 => exact (Kd.R_reads' HO241.out).2.1); rintro e w' ⟨rfl, ⟨nd, rfl⟩⟩))
       go_ret
       exact ⟨by first | rfl | (simp [errW_none, errW_some] <;> rfl) | (simp [*, errW_none, errW_some] <;> rfl), by repeat (first | (with_reducible first | exact HB.out | apply below_alloc | apply pw_below_drewN | apply below_drew1 | refine below_set ?_ GE223.out | refine below_set ?_ GE231.out) | exact HB.out)⟩
      ·rw [if_neg c12] at H
       have c12b0 : (t238 == 0) = false := beq_eq_false_iff_ne.mpr c12
       have c12b1 : (t238 != 0) = true := bne_iff_ne.mpr c12
       exact absurd (Option.some.inj H) (by rw [hr_]; decide)
     ·rw [if_neg c11] at H
      have c11b0 : (t228 == 2 && (t229 == 0)) = false := by simpa using c11
      (try (have c11b1 : decide (t228 = 2 && (t229 == 0)) = false := by simpa using c11))
      (try (have c11b2 : (t228 == 2 && (t229 == 0)) = false := by simpa using c11))
      (try (have c11b3 : ¬ (t228 = 2 && (t229 == 0)) := by simpa using c11))
      clear c11
      exact absurd (Option.some.inj H) (by rw [hr_]; decide)
    ·rw [if_neg c10] at H
     have c10b0 : (t227 == (-1)) = false := beq_eq_false_iff_ne.mpr c10
     have c10b1 : (t227 != (-1)) = true := bne_iff_ne.mpr c10
     exact absurd (Option.some.inj H) (by rw [hr_]; decide)
   ·rw [if_neg c9] at H
    have c9b0 : (t230 == 0) = false := beq_eq_false_iff_ne.mpr c9
    have c9b1 : (t230 != 0) = true := bne_iff_ne.mpr c9
    exact absurd (Option.some.inj H) (by rw [hr_]; decide)
  ·rw [if_neg c8] at H
   have c8b0 : (t220 == 12 && (t221 == 1)) = false := by simpa using c8
   (try (have c8b1 : decide (t220 = 12 && (t221 == 1)) = false := by simpa using c8))
   (try (have c8b2 : (t220 == 12 && (t221 == 1)) = false := by simpa using c8))
   (try (have c8b3 : ¬ (t220 = 12 && (t221 == 1)) := by simpa using c8))
   clear c8
   exact absurd (Option.some.inj H) (by rw [hr_]; decide)
 ·rw [if_neg c7] at H
  have c7b0 : (t222 == 0) = false := beq_eq_false_iff_ne.mpr c7
  have c7b1 : (t222 != 0) = true := bne_iff_ne.mpr c7
  exact absurd (Option.some.inj H) (by rw [hr_]; decide)
end Go.Proofs.Ytdkahcolfcmmpaa.Pr
namespace Go.Proofs.Ytdkahcolfcmmpaa.Pr
open Go.RowKit Go.Proofs.YtdkahcolfcmmpaaW.PrintWords Go.Proofs.YtdkahcolfcmmpaaW.PrintLast Go.Proofs.YtdkahcolfcmmpaaW.PrintMore
attribute [local go_sem] max2_int min2_int max_two min_two max_three min_three max_four min_four   -- for this text's walks alone
set_option linter.unusedVariables false
set_option linter.unusedSimpArgs false
mutual
def speculumlaw06_FigureTimes.j0 : Nat → List Int → List Int → List Int → Bool → Option (Bool)
 | 0, _, _, _, _ => none
 | k + 1, x0, x1, x2, x31 => if x31 = true then (some true) else ((speculumbase_CopyInts.f x0).bind fun t751 => ((speculumbase_CopyInts.f x1).bind fun t754 => ((speculumbase_CopyInts.f x2).bind fun t757 => ((figure_MostTimes.f k t751 t754 t757).bind fun bt760 => ((speculumref06_MostTimes.f k x0 x1 x2).bind fun bt762 => (if bt760.2 = bt762.2 then (speculumlaw06_FigureTimes.j1 k x0 x1 x2 bt760.1 bt762.2 (bt760.1 != bt762.1)) else (speculumlaw06_FigureTimes.j1 k x0 x1 x2 bt760.1 bt762.2 true)))))))
def speculumlaw06_FigureTimes.j1 : Nat → List Int → List Int → List Int → Int → Int → Bool → Option (Bool)
 | 0, _, _, _, _, _, _ => none
 | k + 1, x0, x1, x2, x7, x10, x56 => if x56 = true then (some false) else (if x10 = 0 then (speculumlaw06_FigureTimes.j2 k x0 x1 x2 x7 (decide (x7 > 20))) else (speculumlaw06_FigureTimes.j2 k x0 x1 x2 x7 true))
def speculumlaw06_FigureTimes.j2 : Nat → List Int → List Int → List Int → Int → Bool → Option (Bool)
 | 0, _, _, _, _, _ => none
 | k + 1, x0, x1, x2, x7, x62 => if x62 = true then (some true) else (speculumlaw06_FigureTimes.l0 k x0 x1 x2 x7 ([] : List (List Int)) 0)
def speculumlaw06_FigureTimes.l0 : Nat → List Int → List Int → List Int → Int → List (List Int) → Int → Option (Bool)
 | 0, _, _, _, _, _, _ => none
 | k + 1, x0, x1, x2, x7, x11, x12 => if x12 < x7 then ((speculumbase_CopyInts.f x2).bind fun t764 => (if x11.length < 5864062014805 then (speculumlaw06_FigureTimes.l0 k x0 x1 x2 x7 (x11 ++ [t764]) (wrap64 (x12 + 1))) else (none))) else ((figure_CheckSessions.f k x0 x1 x11).bind fun bt770 => ((speculumbase_CopyInts.f x2).bind fun t772 => (if x11.length < 5864062014805 then ((figure_CheckSessions.f k x0 x1 (x11 ++ [t772])).bind fun bt778 => (if bt770.2 = 0 then (if bt778.2 = 26 then (some (bt778.1 == x7)) else (some false)) else (some false))) else (none))))
end
def speculumlaw06_FigureTimes.f (k : Nat) (l0 : List Int) (l1 : List Int) (l2 : List Int) : Option (Bool) := (speculumlaw06_awake.f k).bind fun t750 => (if t750 = true then (if (l0.length : Int) > 45 then (speculumlaw06_FigureTimes.j0 k l0 l1 l2 true) else (if (l1.length : Int) > 45 then (speculumlaw06_FigureTimes.j0 k l0 l1 l2 true) else (speculumlaw06_FigureTimes.j0 k l0 l1 l2 (decide ((l2.length : Int) > 45))))) else (some false))
set_option maxHeartbeats 8000000 in
set_option maxRecDepth 100000 in
theorem speculumlaw06_FigureTimes.calls (k : Nat) (A0 : Option Addr) (c0 : Nat) (l0 : List Int) (A1 : Option Addr) (c1 : Nat) (l1 : List Int) (A2 : Option Addr) (c2 : Nat) (l2 : List Int) (r : Bool) (w : World) (hr0 : Kd.C (Kd.int .i64) w A0 l0.length l0) (hc0 : l0.length ≤ c0) (hr1 : Kd.C (Kd.int .i64) w A1 l1.length l1) (hc1 : l1.length ≤ c1) (hr2 : Kd.C (Kd.int .i64) w A2 l2.length l2) (hc2 : l2.length ≤ c2) (hr_ : r = true) (h : speculumlaw06_FigureTimes.f k l0 l1 l2 = some r) :
  Calls Try.prog 11 #[.slice A0 l0.length c0, .slice A1 l1.length c1, .slice A2 l2.length c2] w fun e w' => e = .returned (.bool r) ∧ Below w.heap.size w w' := by
 have HR0 := Aside0.mk hr0
 have HC0 := Aside0.mk hc0
 clear hr0 hc0
 have HR1 := Aside0.mk hr1
 have HC1 := Aside0.mk hc1
 clear hr1 hc1
 have HR2 := Aside0.mk hr2
 have HC2 := Aside0.mk hc2
 clear hr2 hc2
 have HB := Aside0.mk (Below.refl w.heap.size w)
 have H : ((speculumlaw06_awake.f k).bind fun t750 => (if t750 = true then (if (l0.length : Int) > 45 then (speculumlaw06_FigureTimes.j0 k l0 l1 l2 true) else (if (l1.length : Int) > 45 then (speculumlaw06_FigureTimes.j0 k l0 l1 l2 true) else (speculumlaw06_FigureTimes.j0 k l0 l1 l2 (decide ((l2.length : Int) > 45))))) else (some false))) = some r := h
 clear h
 replace H := Option.bind_eq_some_iff.mp H
 obtain ⟨t750, A40, H⟩ := H
 replace H : (if t750 = true then (if (l0.length : Int) > 45 then (speculumlaw06_FigureTimes.j0 k l0 l1 l2 true) else (if (l1.length : Int) > 45 then (speculumlaw06_FigureTimes.j0 k l0 l1 l2 true) else (speculumlaw06_FigureTimes.j0 k l0 l1 l2 (decide ((l2.length : Int) > 45))))) else (some false)) = some r := H
 have A4 := Aside0.mk A40
 clear A40
 by_cases c5 : t750 = true
 ·subst c5
  have H1 : (if (l0.length : Int) > 45 then (speculumlaw06_FigureTimes.j0 k l0 l1 l2 true) else (if (l1.length : Int) > 45 then (speculumlaw06_FigureTimes.j0 k l0 l1 l2 true) else (speculumlaw06_FigureTimes.j0 k l0 l1 l2 (decide ((l2.length : Int) > 45))))) = some r := by rw [if_pos rfl] at H; exact H
  clear H
  have H := H1
  clear H1
  have HC6 := Aside0.mk H
  clear H
  go_enter Try.func11, Try.ntmps11
  go_upto_region 3 with (first | ((with_reducible refine gate_callee (f := 14) rfl ?_); refine goesL_ (some 17) rfl rfl Try.func14 (by kernel_rfl) rfl #[] rfl ma_ ?_; (with_reducible refine (speculumlaw06_awake.calls k  true _ rfl A4.out).mono ?_); rintro e w7 ⟨rfl, hb⟩; refine ⟨_, rfl, ?_⟩; have n0_ := Aside0.mk (below_step (hb_ HB) hb); clear HB; have HB := n0_; clear n0_; (try clear hb); (try clear hb2); (try clear hk); (try clear hi)))
  (try simp only [Act.put, List.setIfInBounds_toArray, List.set_cons_zero, List.set_cons_succ])
  go_cut [31] (fun v31 wc => ∃ (kq : Nat) (x31_5 : Bool), v31 = .bool x31_5 ∧ Aside0 (speculumlaw06_FigureTimes.j0 kq l0 l1 l2 x31_5 = some r) ∧ Aside0 (kq ≤ k) ∧ Aside0 (Below w.heap.size w wc))
  case first =>
   have H := HC6.out
   clear HC6
   by_cases c8 : (l0.length : Int) > 45
   ·rw [if_pos c8] at H
    have c8b0 : decide (45 < (l0.length : Int)) = true := decide_eq_true c8
    have c8b1 : decide (45 < l0.length) = true := decide_eq_true (by omega)
    clear c8
    (first | rw [c8b0] | (simp only [i64_w, i32_w]; rw [c8b0]) | skip)
    have H' := Aside0.mk H
    clear H
    go_wp2
    go_meet
    case rel => exact ⟨_, (true), rs_, H', ⟨by first | omega | exact Nat.le_refl _⟩, ⟨by repeat (first | (with_reducible first | exact HB.out | apply below_alloc | apply pw_below_drewN | apply below_drew1) | exact HB.out)⟩⟩
   ·rw [if_neg c8] at H
    have c8b0 : decide (45 < (l0.length : Int)) = false := decide_eq_false c8
    have c8b1 : decide (45 < l0.length) = false := decide_eq_false (by omega)
    clear c8
    (first | rw [c8b0] | (simp only [i64_w, i32_w]; rw [c8b0]) | skip)
    by_cases c9 : (l1.length : Int) > 45
    ·rw [if_pos c9] at H
     have c9b0 : decide (45 < (l1.length : Int)) = true := decide_eq_true c9
     have c9b1 : decide (45 < l1.length) = true := decide_eq_true (by omega)
     clear c9
     have H' := Aside0.mk H
     clear H
     go_wp2
     go_meet
     case rel => exact ⟨_, (true), rs_, H', ⟨by first | omega | exact Nat.le_refl _⟩, ⟨by repeat (first | (with_reducible first | exact HB.out | apply below_alloc | apply pw_below_drewN | apply below_drew1) | exact HB.out)⟩⟩
    ·rw [if_neg c9] at H
     have c9b0 : decide (45 < (l1.length : Int)) = false := decide_eq_false c9
     have c9b1 : decide (45 < l1.length) = false := decide_eq_false (by omega)
     clear c9
     have H' := Aside0.mk H
     clear H
     go_wp2
     go_meet
     case rel => exact ⟨_, (decide ((l2.length : Int) > 45)), rs_, H', ⟨by first | omega | exact Nat.le_refl _⟩, ⟨by repeat (first | (with_reducible first | exact HB.out | apply below_alloc | apply pw_below_drewN | apply below_drew1) | exact HB.out)⟩⟩
  case rest =>
   clear HC6
   try clear c1
   try clear c2
   try clear p2
   try clear c5
   try clear c8
   try clear c8b0
   try clear c8b1
   try clear c9
   try clear c9b0
   try clear c9b1
   obtain ⟨kq, x31_5, rfl, HA, HJ5, HB⟩ := hcut
   cases kq with
   | zero => exact absurd HA.out (by simp [speculumlaw06_FigureTimes.j0])
   | succ kj5 =>
    have H := HA.out
    clear HA
    simp only [speculumlaw06_FigureTimes.j0] at H
    by_cases c10 : x31_5 = true
    ·subst c10
     have H1 : (some true) = some r := by rw [if_pos rfl] at H; exact H
     clear H
     have H := H1
     clear H1
     obtain rfl := Option.some.inj H
     go_wp2
     go_ret
     exact ⟨by first | rfl | (simp [errW_none, errW_some] <;> rfl) | (simp [*, errW_none, errW_some] <;> rfl), by repeat (first | (with_reducible first | exact HB.out | apply below_alloc | apply pw_below_drewN | apply below_drew1) | exact HB.out)⟩
    ·replace c10 := Bool.eq_false_iff.mpr c10
     subst c10
     have H1 : ((speculumbase_CopyInts.f l0).bind fun t751 => ((speculumbase_CopyInts.f l1).bind fun t754 => ((speculumbase_CopyInts.f l2).bind fun t757 => ((figure_MostTimes.f kj5 t751 t754 t757).bind fun bt760 => ((speculumref06_MostTimes.f kj5 l0 l1 l2).bind fun bt762 => (if bt760.2 = bt762.2 then (speculumlaw06_FigureTimes.j1 kj5 l0 l1 l2 bt760.1 bt762.2 (bt760.1 != bt762.1)) else (speculumlaw06_FigureTimes.j1 kj5 l0 l1 l2 bt760.1 bt762.2 true))))))) = some r := by rw [if_neg (show ¬ (false = true) by decide)] at H; exact H
     clear H
     have H := H1
     clear H1
     replace H := Option.bind_eq_some_iff.mp H
     obtain ⟨t751, A110, H⟩ := H
     replace H : ((speculumbase_CopyInts.f l1).bind fun t754 => ((speculumbase_CopyInts.f l2).bind fun t757 => ((figure_MostTimes.f kj5 t751 t754 t757).bind fun bt760 => ((speculumref06_MostTimes.f kj5 l0 l1 l2).bind fun bt762 => (if bt760.2 = bt762.2 then (speculumlaw06_FigureTimes.j1 kj5 l0 l1 l2 bt760.1 bt762.2 (bt760.1 != bt762.1)) else (speculumlaw06_FigureTimes.j1 kj5 l0 l1 l2 bt760.1 bt762.2 true)))))) = some r := H
     have A11 := Aside0.mk A110
     clear A110
     replace H := Option.bind_eq_some_iff.mp H
     obtain ⟨t754, A120, H⟩ := H
     replace H : ((speculumbase_CopyInts.f l2).bind fun t757 => ((figure_MostTimes.f kj5 t751 t754 t757).bind fun bt760 => ((speculumref06_MostTimes.f kj5 l0 l1 l2).bind fun bt762 => (if bt760.2 = bt762.2 then (speculumlaw06_FigureTimes.j1 kj5 l0 l1 l2 bt760.1 bt762.2 (bt760.1 != bt762.1)) else (speculumlaw06_FigureTimes.j1 kj5 l0 l1 l2 bt760.1 bt762.2 true))))) = some r := H
     have A12 := Aside0.mk A120
     clear A120
     replace H := Option.bind_eq_some_iff.mp H
     obtain ⟨t757, A130, H⟩ := H
     replace H : ((figure_MostTimes.f kj5 t751 t754 t757).bind fun bt760 => ((speculumref06_MostTimes.f kj5 l0 l1 l2).bind fun bt762 => (if bt760.2 = bt762.2 then (speculumlaw06_FigureTimes.j1 kj5 l0 l1 l2 bt760.1 bt762.2 (bt760.1 != bt762.1)) else (speculumlaw06_FigureTimes.j1 kj5 l0 l1 l2 bt760.1 bt762.2 true)))) = some r := H
     have A13 := Aside0.mk A130
     clear A130
     replace H := Option.bind_eq_some_iff.mp H
     obtain ⟨⟨t760, t761⟩, A140, H⟩ := H
     replace H : ((speculumref06_MostTimes.f kj5 l0 l1 l2).bind fun bt762 => (if t761 = bt762.2 then (speculumlaw06_FigureTimes.j1 kj5 l0 l1 l2 t760 bt762.2 (t760 != bt762.1)) else (speculumlaw06_FigureTimes.j1 kj5 l0 l1 l2 t760 bt762.2 true))) = some r := H
     have A14 := Aside0.mk A140
     clear A140
     replace H := Option.bind_eq_some_iff.mp H
     obtain ⟨⟨t762, t763⟩, A150, H⟩ := H
     replace H : (if t761 = t763 then (speculumlaw06_FigureTimes.j1 kj5 l0 l1 l2 t760 t763 (t760 != t762)) else (speculumlaw06_FigureTimes.j1 kj5 l0 l1 l2 t760 t763 true)) = some r := H
     have A15 := Aside0.mk A150
     clear A150
     have HC16 := Aside0.mk H
     clear H
     go_upto_region 7 with (first | ((with_reducible refine gate_callee (f := 46) rfl ?_); refine goesL_ (some 34) rfl rfl Try.func46 (by kernel_rfl) rfl #[.slice A0 l0.length c0] rfl ma_ ?_; (with_reducible refine (speculumbase_CopyInts.calls _ _ l0 t751 _ ?side1 ?side2 A11.out).mono ?_); (case side1 => repeat (first | exact (Kd.C_below HR0.out HB.out) | (with_reducible refine Kd.C_alloc ?_ _) | (with_reducible refine Kd.C_drewN ?_ _) | (with_reducible refine Kd.C_drew ?_))); (case side2 => exact HC0.out); rintro e w17 ⟨v752, rfl, ho0, hb⟩; refine ⟨_, rfl, ?_⟩; have n0_ := Aside0.mk (Kd.R_lower ho0 (below_size (hb_ HB))); have n1_ := Aside0.mk (below_step (hb_ HB) hb); clear HB; have HO753 := n0_; have HB := n1_; clear n0_ n1_; (try clear hb); (try clear hb2); (try clear hk); (try clear hi); (try clear ho0)) | ((with_reducible refine gate_callee (f := 46) rfl ?_); refine goesL_ (some 36) rfl rfl Try.func46 (by kernel_rfl) rfl #[.slice A1 l1.length c1] rfl ma_ ?_; (with_reducible refine (speculumbase_CopyInts.calls _ _ l1 t754 _ ?side1 ?side2 A12.out).mono ?_); (case side1 => repeat (first | exact (Kd.C_below HR1.out HB.out) | (with_reducible refine Kd.C_alloc ?_ _) | (with_reducible refine Kd.C_drewN ?_ _) | (with_reducible refine Kd.C_drew ?_))); (case side2 => exact HC1.out); rintro e w18 ⟨v755, rfl, ho0, hb⟩; refine ⟨_, rfl, ?_⟩; have n0_ := Aside0.mk (Kd.R_elder' (rk_ HO753) (Kd.R_base ho0) hb); have n1_ := Aside0.mk (Kd.R_lower (Kd.R_new' ho0 (Kd.R_lt (rk_ HO753))) (below_size (hb_ HB))); have n2_ := Aside0.mk (below_step (hb_ HB) hb); clear HO753; clear HB; have HO753 := n0_; have HO756 := n1_; have HB := n2_; clear n0_ n1_ n2_; (try clear hb); (try clear hb2); (try clear hk); (try clear hi); (try clear ho0)) | ((with_reducible refine gate_callee (f := 46) rfl ?_); refine goesL_ (some 38) rfl rfl Try.func46 (by kernel_rfl) rfl #[.slice A2 l2.length c2] rfl ma_ ?_; (with_reducible refine (speculumbase_CopyInts.calls _ _ l2 t757 _ ?side1 ?side2 A13.out).mono ?_); (case side1 => repeat (first | exact (Kd.C_below HR2.out HB.out) | (with_reducible refine Kd.C_alloc ?_ _) | (with_reducible refine Kd.C_drewN ?_ _) | (with_reducible refine Kd.C_drew ?_))); (case side2 => exact HC2.out); rintro e w19 ⟨v758, rfl, ho0, hb⟩; refine ⟨_, rfl, ?_⟩; have n0_ := Aside0.mk (Kd.R_elder' (rk_ HO753) (Kd.R_base ho0) hb); have n1_ := Aside0.mk (Kd.R_elder' (rk_ HO756) (Kd.R_base ho0) hb); have n2_ := Aside0.mk (Kd.R_lower (Kd.R_new' (Kd.R_new' ho0 (Kd.R_lt (rk_ HO753))) (Kd.R_lt (rk_ HO756))) (below_size (hb_ HB))); have n3_ := Aside0.mk (below_step (hb_ HB) hb); clear HO753; clear HO756; clear HB; have HO753 := n0_; have HO756 := n1_; have HO759 := n2_; have HB := n3_; clear n0_ n1_ n2_ n3_; (try clear hb); (try clear hb2); (try clear hk); (try clear hi); (try clear ho0); obtain ⟨Ao20, co20, eo20⟩ := Kd.R_slice HO753.out; subst eo20; obtain ⟨Ao21, co21, eo21⟩ := Kd.R_slice HO756.out; subst eo21; obtain ⟨Ao22, co22, eo22⟩ := Kd.R_slice HO759.out; subst eo22) | ((with_reducible refine gate_callee (f := 52) rfl ?_); refine goesL_ (some 39) rfl rfl Try.func52 (by kernel_rfl) rfl #[.slice Ao20 t751.length co20, .slice Ao21 t754.length co21, .slice Ao22 t757.length co22] rfl ma_ ?_; (with_reducible refine (figure_MostTimes.calls kj5 _ _ t751 _ _ t754 _ _ t757 t760 t761 _ ?side1 ?side2 ?side3 ?side4 ?side5 ?side6 A14.out).mono ?_); (case side1 => repeat (first | exact (Kd.R_reads' HO753.out).2.2 | (with_reducible refine Kd.C_alloc ?_ _) | (with_reducible refine Kd.C_drewN ?_ _) | (with_reducible refine Kd.C_drew ?_))); (case side2 => exact (Kd.R_reads' HO753.out).2.1); (case side3 => repeat (first | exact (Kd.R_reads' HO756.out).2.2 | (with_reducible refine Kd.C_alloc ?_ _) | (with_reducible refine Kd.C_drewN ?_ _) | (with_reducible refine Kd.C_drew ?_))); (case side4 => exact (Kd.R_reads' HO756.out).2.1); (case side5 => repeat (first | exact (Kd.R_reads' HO759.out).2.2 | (with_reducible refine Kd.C_alloc ?_ _) | (with_reducible refine Kd.C_drewN ?_ _) | (with_reducible refine Kd.C_drew ?_))); (case side6 => exact (Kd.R_reads' HO759.out).2.1); rintro e w' ⟨rfl, ⟨nd, rfl⟩⟩; refine ⟨_, rfl, ?_⟩) | ((with_reducible refine gate_callee (f := 53) rfl ?_); refine goesL_ (some 46) rfl rfl Try.func53 (by kernel_rfl) rfl #[.slice A0 l0.length c0, .slice A1 l1.length c1, .slice A2 l2.length c2] rfl ma_ ?_; (with_reducible refine (speculumref06_MostTimes.calls kj5 _ _ l0 _ _ l1 _ _ l2 t762 t763 _ ?side1 ?side2 ?side3 ?side4 ?side5 ?side6 A15.out).mono ?_); (case side1 => repeat (first | exact (Kd.C_below HR0.out (hb_ HB)) | (with_reducible refine Kd.C_alloc ?_ _) | (with_reducible refine Kd.C_drewN ?_ _) | (with_reducible refine Kd.C_drew ?_))); (case side2 => exact HC0.out); (case side3 => repeat (first | exact (Kd.C_below HR1.out (hb_ HB)) | (with_reducible refine Kd.C_alloc ?_ _) | (with_reducible refine Kd.C_drewN ?_ _) | (with_reducible refine Kd.C_drew ?_))); (case side4 => exact HC1.out); (case side5 => repeat (first | exact (Kd.C_below HR2.out (hb_ HB)) | (with_reducible refine Kd.C_alloc ?_ _) | (with_reducible refine Kd.C_drewN ?_ _) | (with_reducible refine Kd.C_drew ?_))); (case side6 => exact HC2.out); rintro e w' ⟨rfl, ⟨nd, rfl⟩⟩; refine ⟨_, rfl, ?_⟩))
     (try simp only [Act.put, List.setIfInBounds_toArray, List.set_cons_zero, List.set_cons_succ])
     go_cut [56] (fun v56 wc => ∃ (kq : Nat) (x56_15 : Bool), v56 = .bool x56_15 ∧ Aside0 (speculumlaw06_FigureTimes.j1 kq l0 l1 l2 t760 t763 x56_15 = some r) ∧ Aside0 (kq ≤ kj5) ∧ Aside0 (Below w.heap.size w wc))
     case first =>
      have H := HC16.out
      clear HC16
      by_cases c23 : t761 = t763
      ·rw [if_pos c23] at H
       have c23b0 : (t761 == t763) = true := beq_iff_eq.mpr c23
       have c23b1 : (t761 != t763) = false := bne_eq_false_iff_eq.mpr c23
       clear c23
       (first | rw [c23b0] | (simp only [i64_w, i32_w]; rw [c23b0]) | skip)
       have H' := Aside0.mk H
       clear H
       go_wp2
       go_meet
       case rel => exact ⟨_, ((t760 != t762)), rs_, H', ⟨by have := HJ5.out; first | omega | exact Nat.le_refl _⟩, ⟨by repeat (first | (with_reducible first | exact HB.out | apply below_alloc | apply pw_below_drewN | apply below_drew1) | exact HB.out)⟩⟩
      ·rw [if_neg c23] at H
       have c23b0 : (t761 == t763) = false := beq_eq_false_iff_ne.mpr c23
       have c23b1 : (t761 != t763) = true := bne_iff_ne.mpr c23
       (first | rw [c23b0] | (simp only [i64_w, i32_w]; rw [c23b0]) | skip)
       have H' := Aside0.mk H
       clear H
       go_wp2
       go_meet
       case rel => exact ⟨_, (true), rs_, H', ⟨by have := HJ5.out; first | omega | exact Nat.le_refl _⟩, ⟨by repeat (first | (with_reducible first | exact HB.out | apply below_alloc | apply pw_below_drewN | apply below_drew1) | exact HB.out)⟩⟩
     case rest =>
      clear HC16
      try clear c1
      try clear c2
      try clear p2
      try clear c4
      try clear c5
      try clear c8
      try clear c8b0
      try clear c8b1
      try clear c9
      try clear c9b0
      try clear c9b1
      try clear c10
      try clear c11
      try clear c14
      try clear c23
      try clear c23b0
      try clear c23b1
      try clear p2
      obtain ⟨kq, x56_15, rfl, HA, HJ15, HB⟩ := hcut
      cases kq with
      | zero => exact absurd HA.out (by simp [speculumlaw06_FigureTimes.j1])
      | succ kj15 =>
       have H := HA.out
       clear HA
       simp only [speculumlaw06_FigureTimes.j1] at H
       by_cases c24 : x56_15 = true
       ·subst c24
        have H1 : (some false) = some r := by rw [if_pos rfl] at H; exact H
        clear H
        have H := H1
        clear H1
        exact absurd (Option.some.inj H) (by rw [hr_]; decide)
       ·replace c24 := Bool.eq_false_iff.mpr c24
        subst c24
        have H1 : (if t763 = 0 then (speculumlaw06_FigureTimes.j2 kj15 l0 l1 l2 t760 (decide (t760 > 20))) else (speculumlaw06_FigureTimes.j2 kj15 l0 l1 l2 t760 true)) = some r := by rw [if_neg (show ¬ (false = true) by decide)] at H; exact H
        clear H
        have H := H1
        clear H1
        have HC25 := Aside0.mk H
        clear H
        go_upto_region 9 with (fail)
        go_cut [62] (fun v62 wc => ∃ (kq : Nat) (x62_24 : Bool), v62 = .bool x62_24 ∧ Aside0 (speculumlaw06_FigureTimes.j2 kq l0 l1 l2 t760 x62_24 = some r) ∧ Aside0 (kq ≤ kj15) ∧ Aside0 (Below w.heap.size w wc))
        case first =>
         have H := HC25.out
         clear HC25
         by_cases c26 : t763 = 0
         ·rw [if_pos c26] at H
          have c26b0 : (t763 == 0) = true := beq_iff_eq.mpr c26
          have c26b1 : (t763 != 0) = false := bne_eq_false_iff_eq.mpr c26
          clear c26
          (first | rw [c26b0] | (simp only [i64_w, i32_w]; rw [c26b0]) | skip)
          have H' := Aside0.mk H
          clear H
          go_wp2
          go_meet
          case rel => exact ⟨_, (decide (t760 > 20)), rs_, H', ⟨by have := HJ5.out; have := HJ15.out; first | omega | exact Nat.le_refl _⟩, ⟨by repeat (first | (with_reducible first | exact HB.out | apply below_alloc | apply pw_below_drewN | apply below_drew1) | exact HB.out)⟩⟩
         ·rw [if_neg c26] at H
          have c26b0 : (t763 == 0) = false := beq_eq_false_iff_ne.mpr c26
          have c26b1 : (t763 != 0) = true := bne_iff_ne.mpr c26
          (first | rw [c26b0] | (simp only [i64_w, i32_w]; rw [c26b0]) | skip)
          have H' := Aside0.mk H
          clear H
          go_wp2
          go_meet
          case rel => exact ⟨_, (true), rs_, H', ⟨by have := HJ5.out; have := HJ15.out; first | omega | exact Nat.le_refl _⟩, ⟨by repeat (first | (with_reducible first | exact HB.out | apply below_alloc | apply pw_below_drewN | apply below_drew1) | exact HB.out)⟩⟩
        case rest =>
         clear HC25
         try clear c1
         try clear c2
         try clear p2
         try clear c4
         try clear c5
         try clear c8
         try clear c8b0
         try clear c8b1
         try clear c9
         try clear c9b0
         try clear c9b1
         try clear c10
         try clear c11
         try clear c14
         try clear c23
         try clear c23b0
         try clear c23b1
         try clear c24
         try clear c26
         try clear c26b0
         try clear c26b1
         try clear p2
         obtain ⟨kq, x62_24, rfl, HA, HJ24, HB⟩ := hcut
         cases kq with
         | zero => exact absurd HA.out (by simp [speculumlaw06_FigureTimes.j2])
         | succ kj24 =>
          have H := HA.out
          clear HA
          simp only [speculumlaw06_FigureTimes.j2] at H
          by_cases c27 : x62_24 = true
          ·subst c27
           have H1 : (some true) = some r := by rw [if_pos rfl] at H; exact H
           clear H
           have H := H1
           clear H1
           obtain rfl := Option.some.inj H
           go_wp2
           go_ret
           exact ⟨by first | rfl | (simp [errW_none, errW_some] <;> rfl) | (simp [*, errW_none, errW_some] <;> rfl), by repeat (first | (with_reducible first | exact HB.out | apply below_alloc | apply pw_below_drewN | apply below_drew1) | exact HB.out)⟩
          ·replace c27 := Bool.eq_false_iff.mpr c27
           subst c27
           have H1 : (speculumlaw06_FigureTimes.l0 kj24 l0 l1 l2 t760 ([] : List (List Int)) 0) = some r := by rw [if_neg (show ¬ (false = true) by decide)] at H; exact H
           clear H
           have H := H1
           clear H1
           have H' := Aside0.mk H
           clear H
           go_wp2
           go_loopg [11, 12] kj24 (fun kq v11 v12 w' => ∃ (x11_4 : List (List Int)) (x12_4 : Int), v12 = .int .i64 x12_4 ∧ Aside0 (speculumlaw06_FigureTimes.l0 kq l0 l1 l2 t760 x11_4 x12_4 = some r) ∧ Aside0 (kq ≤ kj24) ∧ Aside0 (Kd.S (Kd.slice 3 (Kd.int .i64)) 22 w' w.heap.size (fun _ => True) v11 x11_4) ∧ Aside0 (Below w.heap.size w w'))
           case atStart => exact ⟨(([] : List (List Int))), (0), rs_, H', ⟨Nat.le_refl _⟩, ⟨by first | exact Kd.S_nil _ _ _ _ _ | exact Kd.N_nil _ _ _ _ _ | exact Kd.V_nil _ _ _ _ _ | exact Kd.Q_nil _ _ _ _ _ | exact Kd.R_nil _ _ _ _ _⟩, ⟨by repeat (first | (with_reducible first | exact HB.out | apply below_alloc | apply pw_below_drewN | apply below_drew1) | exact HB.out)⟩⟩
           case round =>
            clear H'
            try clear c1
            try clear c2
            try clear p2
            try clear c4
            try clear c5
            try clear c8
            try clear c8b0
            try clear c8b1
            try clear c9
            try clear c9b0
            try clear c9b1
            try clear c10
            try clear c11
            try clear c14
            try clear c23
            try clear c23b0
            try clear c23b1
            try clear c24
            try clear c26
            try clear c26b0
            try clear c26b1
            try clear c27
            try clear p2
            obtain ⟨x11_4, x12_4, rfl, HA, HK4, HO_11, HB⟩ := hrel
            cases gk with
            | zero => exact absurd HA.out (by simp [speculumlaw06_FigureTimes.l0])
            | succ k4 =>
             have H := HA.out
             clear HA
             simp only [speculumlaw06_FigureTimes.l0] at H
             by_cases c28 : x12_4 < t760
             ·rw [if_pos c28] at H
              have c28b0 : decide (x12_4 < t760) = true := decide_eq_true c28
              clear c28
              replace H := Option.bind_eq_some_iff.mp H
              obtain ⟨t764, A290, H⟩ := H
              replace H : (if x11_4.length < 5864062014805 then (speculumlaw06_FigureTimes.l0 k4 l0 l1 l2 t760 (x11_4 ++ [t764]) (wrap64 (x12_4 + 1))) else (none)) = some r := H
              have A29 := Aside0.mk A290
              clear A290
              by_cases c30 : x11_4.length < 5864062014805
              ·rw [if_pos c30] at H
               have LMc30 := Aside0.mk c30
               clear c30
               obtain ⟨y767, hy767⟩ : ∃ y_ : List (List Int), y_ = (x11_4 ++ [t764]) := ⟨_, rfl⟩
               replace H : (speculumlaw06_FigureTimes.l0 k4 l0 l1 l2 t760 y767 (wrap64 (x12_4 + 1))) = some r := by first | (rw [hy767]; with_reducible exact H) | (have H2_ := (Option.bind_some _ _).symm.trans H; rw [hy767]; with_reducible exact H2_) | (have H2_ := (Option.bind_some _ _).symm.trans H; with_reducible exact H2_) | with_reducible exact H | (rw [hy767]; exact H) | exact H
               have Ny767 := Aside0.mk hy767
               clear hy767
               have H' := Aside0.mk H
               clear H
               go_wp2_with (first | ((with_reducible refine gate_callee (f := 46) rfl ?_); refine goesL_ (some 70) rfl rfl Try.func46 (by kernel_rfl) rfl #[.slice A2 l2.length c2] rfl ma_ ?_; (with_reducible refine (speculumbase_CopyInts.calls _ _ l2 t764 _ ?side1 ?side2 A29.out).mono ?_); (case side1 => repeat (first | exact (Kd.C_below HR2.out HB.out) | (with_reducible refine Kd.C_alloc ?_ _) | (with_reducible refine Kd.C_drewN ?_ _) | (with_reducible refine Kd.C_drew ?_))); (case side2 => exact HC2.out); rintro e w31 ⟨v765, rfl, ho0, hb⟩; refine ⟨_, rfl, ?_⟩; have n0_ := Aside0.mk (Kd.S_elder' (by (with_reducible repeat (first | apply Kd.S_alloc | apply Kd.S_drewN | apply Kd.S_drew)); exact HO_11.out) (Kd.R_base ho0) hb); have n1_ := Aside0.mk (Kd.R_lower ho0 (below_size (hb_ HB))); have n2_ := Aside0.mk (below_step (hb_ HB) hb); clear HO_11; clear HB; have HO_11 := n0_; have HO766 := n1_; have HB := n2_; clear n0_ n1_ n2_; (try clear hb); (try clear hb2); (try clear hk); (try clear hi); (try clear ho0); obtain ⟨Ao33, co33, eo33⟩ := Kd.R_slice HO766.out; subst eo33) | ((with_reducible refine gate_builtin (b := .append) (xs := #[.tmp 68, .tmp 71]) rfl ?_); (try (refine gate_guard (by rfl) ?_; dsimp only)); at_builtin; refine Kd.S_append (Kd.slice 3 (Kd.int .i64)) (w0 := w) w.heap.size rfl (.tmp 68) (.tmp 71) 72 22 (.slice none 0 0) 24 rfl Try.underlying72 info22 rfl di_ (by omega) u11 x11_4 t764 [.slice Ao33 t764.length co33] (fun _ => True) (fun k_ => some k_ = (.slice Ao33 t764.length co33 : Value).ownBlock) rfl rfl ?aP (fun k_ hk_ => ((Kd.R_mono (ok' := fun k_ => ((fun _ => True)) k_ ∧ some k_ ≠ (u11 : Value).ownBlock) (Kd.R_apart' (HO766.out) (Kd.S_typed HO_11.out) di_) (fun k_ hk => ⟨trivial, hk.2⟩))).1 k_ hk_.symm) ?aF ?aO ?aB ?aS ?aL ?_; (case aP => exact Kd.M_row (Kd.R_mono (Kd.R_tight rfl (Kd.R_mono (ok' := fun k_ => ((fun _ => True)) k_ ∧ some k_ ≠ (u11 : Value).ownBlock) (Kd.R_apart' (HO766.out) (Kd.S_typed HO_11.out) di_) (fun k_ hk => ⟨trivial, hk.2⟩))) (fun _ h_ => h_))); (case aB => exact (hb_ HB)); (case aF => exact (fun _ _ => trivial)); (case aO => exact (by (with_reducible repeat (first | apply Kd.S_alloc | apply Kd.S_drewN | apply Kd.S_drew)); exact Kd.S_mono HO_11.out (fun k_ hk => ⟨trivial, fun e_ => hk.2 e_⟩))); (case aS => exact (below_size (hb_ HB))); (case aL => have := LMc30.out; omega); intro v768 w32 ho hb hg hat; rw [← Ny767.out] at ho; have n0_ := Aside0.mk (hb); have n1_ := Aside0.mk (ho); clear HB; clear HO_11; clear HO766; have HB := n0_; have HO769 := n1_; clear n0_ n1_; clear ho hb hg hat))
               go_roundg k4
               case measure => have := HJ5.out; have := HJ15.out; have := HJ24.out; have := HK4.out; omega
               case rel => exact ⟨(y767), (wrap64 (x12_4 + 1)), rs_, H', ⟨by have := HJ5.out; have := HJ15.out; have := HJ24.out; have := HK4.out; omega⟩, ⟨by (with_reducible repeat (first | apply Kd.S_alloc | apply Kd.S_drewN | apply Kd.S_drew)); exact HO769.out⟩, ⟨by repeat (first | (with_reducible first | exact HB.out | apply below_alloc | apply pw_below_drewN | apply below_drew1) | exact HB.out)⟩⟩
              ·rw [if_neg c30] at H
               exact absurd H (by simp)
             ·rw [if_neg c28] at H
              have c28b0 : decide (x12_4 < t760) = false := decide_eq_false c28
              clear c28
              replace H := Option.bind_eq_some_iff.mp H
              obtain ⟨⟨t770, t771⟩, A340, H⟩ := H
              replace H : ((speculumbase_CopyInts.f l2).bind fun t772 => (if x11_4.length < 5864062014805 then ((figure_CheckSessions.f k4 l0 l1 (x11_4 ++ [t772])).bind fun bt778 => (if t771 = 0 then (if bt778.2 = 26 then (some (bt778.1 == t760)) else (some false)) else (some false))) else (none))) = some r := H
              have A34 := Aside0.mk A340
              clear A340
              replace H := Option.bind_eq_some_iff.mp H
              obtain ⟨t772, A350, H⟩ := H
              replace H : (if x11_4.length < 5864062014805 then ((figure_CheckSessions.f k4 l0 l1 (x11_4 ++ [t772])).bind fun bt778 => (if t771 = 0 then (if bt778.2 = 26 then (some (bt778.1 == t760)) else (some false)) else (some false))) else (none)) = some r := H
              have A35 := Aside0.mk A350
              clear A350
              by_cases c36 : x11_4.length < 5864062014805
              ·rw [if_pos c36] at H
               have LMc36 := Aside0.mk c36
               clear c36
               obtain ⟨y775, hy775⟩ : ∃ y_ : List (List Int), y_ = (x11_4 ++ [t772]) := ⟨_, rfl⟩
               replace H : ((figure_CheckSessions.f k4 l0 l1 y775).bind fun bt778 => (if t771 = 0 then (if bt778.2 = 26 then (some (bt778.1 == t760)) else (some false)) else (some false))) = some r := by first | (rw [hy775]; with_reducible exact H) | (have H2_ := (Option.bind_some _ _).symm.trans H; rw [hy775]; with_reducible exact H2_) | (have H2_ := (Option.bind_some _ _).symm.trans H; with_reducible exact H2_) | with_reducible exact H | (rw [hy775]; exact H) | exact H
               have Ny775 := Aside0.mk hy775
               clear hy775
               replace H := Option.bind_eq_some_iff.mp H
               obtain ⟨⟨t778, t779⟩, A370, H⟩ := H
               replace H : (if t771 = 0 then (if t779 = 26 then (some (t778 == t760)) else (some false)) else (some false)) = some r := H
               have A37 := Aside0.mk A370
               clear A370
               by_cases c38 : t771 = 0
               ·rw [if_pos c38] at H
                have c38b0 : (t771 == 0) = true := beq_iff_eq.mpr c38
                have c38b1 : (t771 != 0) = false := bne_eq_false_iff_eq.mpr c38
                clear c38
                by_cases c39 : t779 = 26
                ·rw [if_pos c39] at H
                 have c39b0 : (t779 == 26) = true := beq_iff_eq.mpr c39
                 have c39b1 : (t779 != 26) = false := bne_eq_false_iff_eq.mpr c39
                 clear c39
                 obtain rfl := Option.some.inj H
                 obtain ⟨Ao40, co40, eo40⟩ := Kd.S_slice HO_11.out
                 subst eo40
                 go_wp2_with (first | ((with_reducible refine gate_callee (f := 50) rfl ?_); refine goesL_ (some 77) rfl rfl Try.func50 (by kernel_rfl) rfl #[.slice A0 l0.length c0, .slice A1 l1.length c1, .slice Ao40 x11_4.length co40] rfl ma_ ?_; (with_reducible refine (figure_CheckSessions.calls k4 _ _ l0 _ _ l1 _ _ x11_4 t770 t771 _ ?side1 ?side2 ?side3 ?side4 ?side5 ?side6 A34.out).mono ?_); (case side1 => repeat (first | exact (Kd.C_below HR0.out HB.out) | (with_reducible refine Kd.C_alloc ?_ _) | (with_reducible refine Kd.C_drewN ?_ _) | (with_reducible refine Kd.C_drew ?_))); (case side2 => exact HC0.out); (case side3 => repeat (first | exact (Kd.C_below HR1.out HB.out) | (with_reducible refine Kd.C_alloc ?_ _) | (with_reducible refine Kd.C_drewN ?_ _) | (with_reducible refine Kd.C_drew ?_))); (case side4 => exact HC1.out); (case side5 => repeat (first | exact (Kd.S_reads' HO_11.out).2.2 | (with_reducible refine Kd.C_alloc ?_ _) | (with_reducible refine Kd.C_drewN ?_ _) | (with_reducible refine Kd.C_drew ?_))); (case side6 => exact (Kd.S_reads' HO_11.out).2.1); rintro e w41 ⟨rfl, hb⟩; refine ⟨_, rfl, ?_⟩; have n0_ := Aside0.mk (Kd.S_below (by (with_reducible repeat (first | apply Kd.S_alloc | apply Kd.S_drewN | apply Kd.S_drew)); exact HO_11.out) hb); have n1_ := Aside0.mk (below_step (hb_ HB) hb); clear HO_11; clear HB; have HO_11 := n0_; have HB := n1_; clear n0_ n1_; (try clear hb); (try clear hb2); (try clear hk); (try clear hi)) | ((with_reducible refine gate_callee (f := 46) rfl ?_); refine goesL_ (some 85) rfl rfl Try.func46 (by kernel_rfl) rfl #[.slice A2 l2.length c2] rfl ma_ ?_; (with_reducible refine (speculumbase_CopyInts.calls _ _ l2 t772 _ ?side1 ?side2 A35.out).mono ?_); (case side1 => repeat (first | exact (Kd.C_below HR2.out HB.out) | (with_reducible refine Kd.C_alloc ?_ _) | (with_reducible refine Kd.C_drewN ?_ _) | (with_reducible refine Kd.C_drew ?_))); (case side2 => exact HC2.out); rintro e w42 ⟨v773, rfl, ho0, hb⟩; refine ⟨_, rfl, ?_⟩; have n0_ := Aside0.mk (Kd.S_elder' (by (with_reducible repeat (first | apply Kd.S_alloc | apply Kd.S_drewN | apply Kd.S_drew)); exact HO_11.out) (Kd.R_base ho0) hb); have n1_ := Aside0.mk (Kd.R_lower ho0 (below_size (hb_ HB))); have n2_ := Aside0.mk (below_step (hb_ HB) hb); clear HO_11; clear HB; have HO_11 := n0_; have HO774 := n1_; have HB := n2_; clear n0_ n1_ n2_; (try clear hb); (try clear hb2); (try clear hk); (try clear hi); (try clear ho0); obtain ⟨Ao44, co44, eo44⟩ := Kd.R_slice HO774.out; subst eo44) | ((with_reducible refine gate_builtin (b := .append) (xs := #[.tmp 83, .tmp 86]) rfl ?_); (try (refine gate_guard (by rfl) ?_; dsimp only)); at_builtin; refine Kd.S_append (Kd.slice 3 (Kd.int .i64)) (w0 := w) w.heap.size rfl (.tmp 83) (.tmp 86) 72 22 (.slice none 0 0) 24 rfl Try.underlying72 info22 rfl di_ (by omega) (.slice Ao40 x11_4.length co40) x11_4 t772 [.slice Ao44 t772.length co44] (fun _ => True) (fun k_ => some k_ = (.slice Ao44 t772.length co44 : Value).ownBlock) rfl rfl ?aP (fun k_ hk_ => ((Kd.R_mono (ok' := fun k_ => ((fun _ => True)) k_ ∧ some k_ ≠ (.slice Ao40 x11_4.length co40 : Value).ownBlock) (Kd.R_apart' (HO774.out) (Kd.S_typed HO_11.out) di_) (fun k_ hk => ⟨trivial, hk.2⟩))).1 k_ hk_.symm) ?aF ?aO ?aB ?aS ?aL ?_; (case aP => exact Kd.M_row (Kd.R_mono (Kd.R_tight rfl (Kd.R_mono (ok' := fun k_ => ((fun _ => True)) k_ ∧ some k_ ≠ (.slice Ao40 x11_4.length co40 : Value).ownBlock) (Kd.R_apart' (HO774.out) (Kd.S_typed HO_11.out) di_) (fun k_ hk => ⟨trivial, hk.2⟩))) (fun _ h_ => h_))); (case aB => exact (hb_ HB)); (case aF => exact (fun _ _ => trivial)); (case aO => exact (by (with_reducible repeat (first | apply Kd.S_alloc | apply Kd.S_drewN | apply Kd.S_drew)); exact Kd.S_mono HO_11.out (fun k_ hk => ⟨trivial, fun e_ => hk.2 e_⟩))); (case aS => exact (below_size (hb_ HB))); (case aL => have := LMc36.out; omega); intro v776 w43 ho hb hg hat; rw [← Ny775.out] at ho; have n0_ := Aside0.mk (hb); have n1_ := Aside0.mk (ho); clear HB; clear HO_11; clear HO774; have HB := n0_; have HO777 := n1_; clear n0_ n1_; clear ho hb hg hat; obtain ⟨Ao45, co45, eo45⟩ := Kd.S_slice HO777.out; subst eo45) | ((with_reducible refine gate_callee (f := 50) rfl ?_); refine goesL_ (some 88) rfl rfl Try.func50 (by kernel_rfl) rfl #[.slice A0 l0.length c0, .slice A1 l1.length c1, .slice Ao45 y775.length co45] rfl ma_ ?_; (with_reducible refine (figure_CheckSessions.calls k4 _ _ l0 _ _ l1 _ _ y775 t778 t779 _ ?side1 ?side2 ?side3 ?side4 ?side5 ?side6 A37.out).mono ?_); (case side1 => repeat (first | exact (Kd.C_below HR0.out HB.out) | (with_reducible refine Kd.C_alloc ?_ _) | (with_reducible refine Kd.C_drewN ?_ _) | (with_reducible refine Kd.C_drew ?_))); (case side2 => exact HC0.out); (case side3 => repeat (first | exact (Kd.C_below HR1.out HB.out) | (with_reducible refine Kd.C_alloc ?_ _) | (with_reducible refine Kd.C_drewN ?_ _) | (with_reducible refine Kd.C_drew ?_))); (case side4 => exact HC1.out); (case side5 => repeat (first | exact (Kd.S_reads' HO777.out).2.2 | (with_reducible refine Kd.C_alloc ?_ _) | (with_reducible refine Kd.C_drewN ?_ _) | (with_reducible refine Kd.C_drew ?_))); (case side6 => exact (Kd.S_reads' HO777.out).2.1); rintro e w46 ⟨rfl, hb⟩; refine ⟨_, rfl, ?_⟩; have n0_ := Aside0.mk (Kd.S_below (by (with_reducible repeat (first | apply Kd.S_alloc | apply Kd.S_drewN | apply Kd.S_drew)); exact HO777.out) hb); have n1_ := Aside0.mk (below_step (hb_ HB) hb); clear HO777; clear HB; have HO777 := n0_; have HB := n1_; clear n0_ n1_; (try clear hb); (try clear hb2); (try clear hk); (try clear hi)))
                 go_ret
                 exact ⟨by first | rfl | (simp [errW_none, errW_some] <;> rfl) | (simp [*, errW_none, errW_some] <;> rfl), by repeat (first | (with_reducible first | exact HB.out | apply below_alloc | apply pw_below_drewN | apply below_drew1) | exact HB.out)⟩
                ·rw [if_neg c39] at H
                 have c39b0 : (t779 == 26) = false := beq_eq_false_iff_ne.mpr c39
                 have c39b1 : (t779 != 26) = true := bne_iff_ne.mpr c39
                 exact absurd (Option.some.inj H) (by rw [hr_]; decide)
               ·rw [if_neg c38] at H
                have c38b0 : (t771 == 0) = false := beq_eq_false_iff_ne.mpr c38
                have c38b1 : (t771 != 0) = true := bne_iff_ne.mpr c38
                exact absurd (Option.some.inj H) (by rw [hr_]; decide)
              ·rw [if_neg c36] at H
               exact absurd H (by simp)
 ·replace c5 := Bool.eq_false_iff.mpr c5
  subst c5
  have H1 : (some false) = some r := by rw [if_neg (show ¬ (false = true) by decide)] at H; exact H
  clear H
  have H := H1
  clear H1
  exact absurd (Option.some.inj H) (by rw [hr_]; decide)
end Go.Proofs.Ytdkahcolfcmmpaa.Pr
set_option linter.unusedVariables false
namespace Go.Proofs.Ytdkahcolfcmmpaa.Pure
open Go.RowKit Go.Proofs.Ytdkahcolfcmmpaa.Pr Go.Proofs.YtdkahcolfcmmpaaW.PrintWords Go.Proofs.YtdkahcolfcmmpaaW.PrintLast Go.Proofs.YtdkahcolfcmmpaaW.PrintMore
set_option maxRecDepth 100000 in
theorem awake60 : speculumlaw06_awake.f 60 = some true := by kernel_rfl
theorem awake_ev : Ev (fun k => speculumlaw06_awake.f k) true := Ev.of (fun k => speculumlaw06_awake.mono k) awake60
theorem w64 {n : Int} (h0 : -9223372036854775808 ≤ n) (h1 : n ≤ 9223372036854775807) : wrap64 n = n := by unfold wrap64; omega
theorem wi {i : Nat} (h : i ≤ 100000) : wrap64 ((i : Int) + 1) = ((i + 1 : Nat) : Int) := by rw [w64 (by omega) (by omega)]; omega
theorem rdn (l : List Int) (j : Nat) : rd l (j : Int) = l.getD j 0 := rfl
theorem rdn1 (l : List (List Int)) (j : Nat) : rd_L1 l (j : Int) = l.getD j [] := rfl
theorem Ev.s {α : Type} {g : Nat → Option α} {r : α} (h : Ev (fun k => g (k + 1)) r) : Ev g r := Ev.step (fun _ => rfl) h
theorem Ev.c {α : Type} {v r : α} (h : v = r) : Ev (fun _ => some v) r := h ▸ Ev.now v
theorem n0 (i : Nat) : (0 : Int) ≤ (i : Int) := Int.natCast_nonneg i
def inB (a b c : Int) : Bool := decide (b ≤ a) && decide (a ≤ c)
theorem inB_iff {a b c : Int} : inB a b c = true ↔ b ≤ a ∧ a ≤ c := by simp [inB]
theorem within_eq (a b c : Int) : figure_within.f a b c = some (inB a b c) := by
  unfold figure_within.f inB
  by_cases h : b ≤ a
  · rw [if_pos h, decide_eq_true h, Bool.true_and]
  · rw [if_neg h, decide_eq_false h, Bool.false_and]
theorem Within_eq (a b c : Int) : speculumbase_Within.f a b c = some (inB a b c) := by
  unfold speculumbase_Within.f inB
  by_cases h : b ≤ a
  · rw [if_pos h, decide_eq_true h, Bool.true_and]
  · rw [if_neg h, decide_eq_false h, Bool.false_and]
theorem isHeight_eq (a : Int) : speculumref06_isHeight.f a = some (inB a (-100000) 100000) := by
  unfold speculumref06_isHeight.f; rw [Within_eq]; rfl
theorem copy_eq (l : List Int) (h : l.length ≤ 100000) : speculumbase_CopyInts.f l = some l := by
  unfold speculumbase_CopyInts.f
  rw [Option.bind_some, if_pos (by simp only [List.length_nil]; omega), List.nil_append]
theorem clone_eq (l : List Int) (h : l.length ≤ 100000) : slices_Clone_int_int.f l = some l := by
  unfold slices_Clone_int_int.f
  rw [Option.bind_some, if_pos (by simp only [List.length_nil]; omega), List.nil_append]
theorem drop_cons {α : Type} {l : List α} {i m : Nat} (d : α) (h : i + (m + 1) = l.length) : l.drop i = l.getD i d :: l.drop (i + 1) := by
  have hi : i < l.length := by omega
  rw [List.drop_eq_getElem_cons hi, List.getD_eq_getElem?_getD, List.getElem?_eq_getElem hi]; rfl
theorem drop_all {α : Type} {l : List α} {i : Nat} (h : i + 0 = l.length) : l.drop i = [] := List.drop_eq_nil_of_le (by omega)
theorem find_ev {g : Nat → List Int → Int → Int → Option Int} {p : Int → Bool}
    (hg : ∀ k l n i, g (k + 1) l n i = if i < n then (if 0 ≤ i then (if i < (l.length : Int) then (if p (rd l i) = true then some i else g k l n (wrap64 (i + 1))) else none) else none) else some (-1))
    (l : List Int) (hl : l.length ≤ 90000) : ∀ m i : Nat, i + m = l.length → ∃ v : Int, Ev (fun k => g k l (l.length : Int) (i : Int)) v ∧ decide (v ≥ 0) = (l.drop i).any p := by
  intro m
  induction m with
  | zero =>
    intro i hi
    refine ⟨-1, Ev.s ?_, ?_⟩
    · have h : ¬ (i : Int) < (l.length : Int) := by omega
      simp only [hg, h, if_false]
      exact Ev.now _
    · rw [drop_all hi]; rfl
  | succ m ih =>
    intro i hi
    have h : (i : Int) < (l.length : Int) := by omega
    rw [drop_cons 0 hi, List.any_cons]
    cases hp : p (l.getD i 0)
    · obtain ⟨v, h1, h2⟩ := ih (i + 1) (by omega)
      refine ⟨v, Ev.s ?_, by rw [h2, Bool.false_or]⟩
      simp only [hg, h, n0, if_true, rdn, hp, Bool.false_eq_true, if_false, wi (show i ≤ 100000 by omega)]
      exact h1
    · refine ⟨i, Ev.s ?_, by simp⟩
      simp only [hg, h, n0, if_true, rdn, hp]
      exact Ev.now _
theorem any_not {p : Int → Bool} (l : List Int) : l.any (fun x => !p x) = !l.all p := by
  induction l with
  | nil => rfl
  | cons x l ih => rw [List.any_cons, List.all_cons, ih, Bool.not_and]
def hV (l : List Int) : Int := if 1 ≤ l.length ∧ l.length ≤ 40 then (if l.all (fun x => inB x (-100000) 100000) then 0 else 2) else 10
def wV (l : List Int) (n : Nat) : Int := if l.length = n then (if l.all (fun x => inB x 0 100000) then 0 else 2) else 10
theorem isZones_eq (n : Nat) : figure_isZones.f (n : Int) = some (decide (1 ≤ n ∧ n ≤ 40)) := by
  unfold figure_isZones.f
  rw [within_eq, Option.bind_some]
  congr 1
  rw [Bool.eq_iff_iff, inB_iff, decide_eq_true_eq]; omega
theorem Zones_eq (n : Nat) : speculumbase_Within.f (n : Int) 1 40 = some (decide (1 ≤ n ∧ n ≤ 40)) := by
  rw [Within_eq]
  congr 1
  rw [Bool.eq_iff_iff, inB_iff, decide_eq_true_eq]; omega
theorem checkHeights_ev (l : List Int) : Ev (fun k => figure_checkHeights.f k l) (hV l) := by
  unfold figure_checkHeights.f hV
  simp only [isZones_eq, Option.bind_some, decide_eq_true_eq]
  by_cases hn : 1 ≤ l.length ∧ l.length ≤ 40
  · simp only [hn, and_self, if_true]
    obtain ⟨v, h1, h2⟩ := find_ev (g := slices_IndexFunc_int_int__figure_checkHeights_1.l0) (p := fun x => !inB x (-100000) 100000) (fun k l n i => by rw [slices_IndexFunc_int_int__figure_checkHeights_1.l0]; unfold figure_checkHeights_1.f; simp only [within_eq, Option.bind_some]) l (by omega) l.length 0 (by omega)
    unfold slices_ContainsFunc_int_int__figure_checkHeights_1.f slices_IndexFunc_int_int__figure_checkHeights_1.f
    refine Ev.bind (Ev.bind h1 (Ev.now _)) ?_
    rw [h2, List.drop_zero, any_not]
    cases l.all (fun x => inB x (-100000) 100000) <;> exact Ev.now _
  · simp only [hn, if_false]
    exact Ev.now _
theorem checkWear_ev (l : List Int) (n : Nat) (hl : l.length ≤ 90000) : Ev (fun k => figure_checkWear.f k l (n : Int)) (wV l n) := by
  unfold figure_checkWear.f wV
  by_cases hn : l.length = n
  · have hn' : (l.length : Int) = (n : Int) := by omega
    simp only [hn, if_true]
    obtain ⟨v, h1, h2⟩ := find_ev (g := slices_IndexFunc_int_int__figure_checkWear_1.l0) (p := fun x => !inB x 0 100000) (fun k l n i => by rw [slices_IndexFunc_int_int__figure_checkWear_1.l0]; unfold figure_checkWear_1.f; simp only [within_eq, Option.bind_some]) l (by omega) l.length 0 (by omega)
    unfold slices_ContainsFunc_int_int__figure_checkWear_1.f slices_IndexFunc_int_int__figure_checkWear_1.f
    refine Ev.bind (Ev.bind h1 (Ev.now _)) ?_
    rw [h2, List.drop_zero, any_not]
    cases l.all (fun x => inB x 0 100000) <;> exact Ev.now _
  · have hn' : ¬ (l.length : Int) = (n : Int) := by omega
    simp only [hn, hn', if_false]
    exact Ev.now _
theorem refHeights_loop (l : List Int) (hl : l.length ≤ 90000) : ∀ m i : Nat, i + m = l.length → Ev (fun k => speculumref06_HeightsErr.l0 k l (i : Int)) (if (l.drop i).all (fun x => inB x (-100000) 100000) then 0 else 2) := by
  intro m
  induction m with
  | zero =>
    intro i hi
    have h : ¬ (i : Int) < (l.length : Int) := by omega
    rw [drop_all hi]
    refine Ev.s ?_
    simp only [speculumref06_HeightsErr.l0, h, if_false, List.all_nil, if_true]
    exact Ev.now _
  | succ m ih =>
    intro i hi
    have h : (i : Int) < (l.length : Int) := by omega
    rw [drop_cons 0 hi, List.all_cons]
    refine Ev.s ?_
    cases hp : inB (l.getD i 0) (-100000) 100000
    · simp only [speculumref06_HeightsErr.l0, h, n0, if_true, isHeight_eq, Option.bind_some, rdn, hp, Bool.false_eq_true, if_false, Bool.false_and]
      exact Ev.now _
    · simp only [speculumref06_HeightsErr.l0, h, n0, if_true, isHeight_eq, Option.bind_some, rdn, hp, Bool.true_and, wi (show i ≤ 100000 by omega)]
      exact ih (i + 1) (by omega)
theorem HeightsErr_ev (l : List Int) : Ev (fun k => speculumref06_HeightsErr.f k l) (hV l) := by
  unfold speculumref06_HeightsErr.f hV
  simp only [Zones_eq, Option.bind_some, decide_eq_true_eq]
  by_cases hn : 1 ≤ l.length ∧ l.length ≤ 40
  · simp only [hn, and_self, if_true]
    exact refHeights_loop l (by omega) l.length 0 (by omega)
  · simp only [hn, if_false]
    exact Ev.now _
theorem refWear_loop (l : List Int) (hl : l.length ≤ 90000) : ∀ m i : Nat, i + m = l.length → Ev (fun k => speculumref06_WearErr.l0 k (l.length : Int) l (i : Int)) (if (l.drop i).all (fun x => inB x 0 100000) then 0 else 2) := by
  intro m
  induction m with
  | zero =>
    intro i hi
    have h : ¬ (i : Int) < (l.length : Int) := by omega
    rw [drop_all hi]
    refine Ev.s ?_
    simp only [speculumref06_WearErr.l0, h, if_false, List.all_nil, if_true]
    exact Ev.now _
  | succ m ih =>
    intro i hi
    have h : (i : Int) < (l.length : Int) := by omega
    rw [drop_cons 0 hi, List.all_cons]
    refine Ev.s ?_
    cases hp : inB (l.getD i 0) 0 100000
    · simp only [speculumref06_WearErr.l0, h, n0, if_true, Within_eq, Option.bind_some, rdn, hp, Bool.false_eq_true, if_false, Bool.false_and]
      exact Ev.now _
    · simp only [speculumref06_WearErr.l0, h, n0, if_true, Within_eq, Option.bind_some, rdn, hp, Bool.true_and, wi (show i ≤ 100000 by omega)]
      exact ih (i + 1) (by omega)
theorem WearErr_ev (l : List Int) (n : Nat) (hl : l.length ≤ 90000) : Ev (fun k => speculumref06_WearErr.f k (n : Int) l) (wV l n) := by
  unfold speculumref06_WearErr.f wV
  by_cases hn : l.length = n
  · subst hn
    simp only [if_true]
    exact refWear_loop l hl l.length 0 (by omega)
  · have hn' : ¬ (l.length : Int) = (n : Int) := by omega
    simp only [hn, hn', if_false]
    exact Ev.now _
def subFrom (x w : List Int) : Nat → Nat → List Int
  | _, 0 => x
  | i, m + 1 => subFrom (x.set i (wrap64 (x.getD i 0 - w.getD i 0))) w (i + 1) m
theorem subFrom_len (w : List Int) : ∀ (m i : Nat) (x : List Int), (subFrom x w i m).length = x.length
  | 0, i, x => rfl
  | m + 1, i, x => by rw [subFrom, subFrom_len w m, List.length_set]
def subL (x w : List Int) : List Int := subFrom x w 0 w.length
theorem wV_0 {l : List Int} {n : Nat} (h : wV l n = 0) : l.length = n ∧ ∀ j, 0 ≤ l.getD j 0 ∧ l.getD j 0 ≤ 100000 := by
  unfold wV at h
  split at h
  · rename_i hn
    split at h
    · rename_i ha
      refine ⟨hn, fun j => ?_⟩
      rw [List.all_eq_true] at ha
      by_cases hj : j < l.length
      · have := ha _ (List.getElem_mem hj)
        rw [inB_iff] at this
        rw [List.getD_eq_getElem?_getD, List.getElem?_eq_getElem hj]; exact this
      · rw [List.getD_eq_getElem?_getD, List.getElem?_eq_none (by omega)]; decide
    · omega
  · omega
def short (ws : List (List Int)) : Prop := ws.length ≤ 102 ∧ ∀ j, (ws.getD j []).length ≤ 45
theorem hV_0 {l : List Int} (h : hV l = 0) : (1 ≤ l.length ∧ l.length ≤ 40) ∧ ∀ j, -100000 ≤ l.getD j 0 ∧ l.getD j 0 ≤ 100000 := by
  unfold hV at h
  split at h
  · rename_i hn
    split at h
    · rename_i ha
      refine ⟨hn, fun j => ?_⟩
      rw [List.all_eq_true] at ha
      by_cases hj : j < l.length
      · have := ha _ (List.getElem_mem hj)
        rw [inB_iff] at this
        rw [List.getD_eq_getElem?_getD, List.getElem?_eq_getElem hj]; exact this
      · rw [List.getD_eq_getElem?_getD, List.getElem?_eq_none (by omega)]; decide
    · omega
  · omega
end Go.Proofs.Ytdkahcolfcmmpaa.Pure
set_option linter.unusedVariables false
namespace Go.Proofs.Ytdkahcolfcmmpaa.Pure
open Go.RowKit Go.Proofs.Ytdkahcolfcmmpaa.Pr Go.Proofs.YtdkahcolfcmmpaaW.PrintWords Go.Proofs.YtdkahcolfcmmpaaW.PrintLast Go.Proofs.YtdkahcolfcmmpaaW.PrintMore
def digFrom (x w : List Int) : Nat → Nat → Bool
  | _, 0 => false
  | i, m + 1 => if x.getD i 0 < w.getD i 0 then true else digFrom x w (i + 1) m
theorem digFrom_false {x w : List Int} : ∀ {m i : Nat}, digFrom x w i m = false → ∀ j, i ≤ j → j < i + m → w.getD j 0 ≤ x.getD j 0
  | 0, i, h, j, h1, h2 => by omega
  | m + 1, i, h, j, h1, h2 => by
    rw [digFrom] at h
    split at h
    · cases h
    · rename_i hlt
      rcases Nat.eq_or_lt_of_le h1 with e | e
      · subst e; omega
      · exact digFrom_false h j e (by omega)
theorem digFrom_mk {x w : List Int} : ∀ {m i : Nat}, (∀ j, i ≤ j → j < i + m → w.getD j 0 ≤ x.getD j 0) → digFrom x w i m = false
  | 0, i, h => rfl
  | m + 1, i, h => by
    have := h i (Nat.le_refl _) (by omega)
    rw [digFrom, if_neg (by omega)]
    exact digFrom_mk fun j h1 h2 => h j (by omega) (by omega)
theorem digFrom_true {x w : List Int} : ∀ {m i : Nat} (j : Nat), i ≤ j → j < i + m → x.getD j 0 < w.getD j 0 → digFrom x w i m = true
  | 0, i, j, h1, h2, h3 => by omega
  | m + 1, i, j, h1, h2, h3 => by
    rw [digFrom]
    split
    · rfl
    · rename_i hlt
      rcases Nat.eq_or_lt_of_le h1 with e | e
      · subst e; omega
      · exact digFrom_true j e (by omega) h3
def digB (x w : List Int) : Bool := digFrom x w 0 x.length
theorem digs_loop (x w : List Int) (hl : x.length ≤ 90000) (hw : w.length = x.length) : ∀ (m i : Nat), i + m = x.length → Ev (fun k => figure_digs.l0 k w x (x.length : Int) (i : Int)) (digFrom x w i m) := by
  intro m
  induction m with
  | zero =>
    intro i hi
    have h : ¬ (i : Int) < (x.length : Int) := by omega
    refine Ev.s ?_
    simp only [figure_digs.l0, h, if_false]
    exact Ev.now _
  | succ m ih =>
    intro i hi
    have h : (i : Int) < (x.length : Int) := by omega
    have h' : (i : Int) < (w.length : Int) := by omega
    refine Ev.s ?_
    rw [digFrom]
    by_cases hd : x.getD i 0 < w.getD i 0
    · simp only [figure_digs.l0, h, h', n0, if_true, rdn, hd]
      exact Ev.now _
    · simp only [figure_digs.l0, h, h', n0, if_true, rdn, hd, if_false, wi (show i ≤ 100000 by omega)]
      exact ih (i + 1) (by omega)
theorem digs_ev (x w : List Int) (hl : x.length ≤ 90000) (hw : w.length = x.length) : Ev (fun k => figure_digs.f k x w) (digB x w) := digs_loop x w hl hw x.length 0 (by omega)
theorem below_loop (x w : List Int) (hl : x.length ≤ 90000) (hw : w.length = x.length) : ∀ (m i : Nat), i + m = x.length → Ev (fun k => speculumref06_below.l0 k x w (i : Int)) (digFrom x w i m) := by
  intro m
  induction m with
  | zero =>
    intro i hi
    have h : ¬ (i : Int) < (x.length : Int) := by omega
    refine Ev.s ?_
    simp only [speculumref06_below.l0, h, if_false]
    exact Ev.now _
  | succ m ih =>
    intro i hi
    have h : (i : Int) < (x.length : Int) := by omega
    have h' : (i : Int) < (w.length : Int) := by omega
    refine Ev.s ?_
    rw [digFrom]
    by_cases hd : x.getD i 0 < w.getD i 0
    · simp only [speculumref06_below.l0, h, h', n0, if_true, rdn, hd]
      exact Ev.now _
    · simp only [speculumref06_below.l0, h, h', n0, if_true, rdn, hd, if_false, wi (show i ≤ 100000 by omega)]
      exact ih (i + 1) (by omega)
theorem below_ev (x w : List Int) (hl : x.length ≤ 90000) (hw : w.length = x.length) : Ev (fun k => speculumref06_below.f k x w) (digB x w) := below_loop x w hl hw x.length 0 (by omega)
def twoV (l0 l1 : List Int) : Int := if hV l0 = 0 then (if l1.length = l0.length then hV l1 else 10) else hV l0
theorem twoV_0 {l0 l1 : List Int} (h : twoV l0 l1 = 0) : hV l0 = 0 ∧ l1.length = l0.length ∧ hV l1 = 0 := by
  unfold twoV at h
  split at h
  · rename_i h0
    split at h
    · rename_i h1; exact ⟨h0, h1, h⟩
    · omega
  · omega
theorem checkBoth_ev (l0 l1 : List Int) : Ev (fun k => figure_checkBoth.f k l0 l1) (twoV l0 l1) := by
  unfold figure_checkBoth.f twoV
  refine Ev.bind (checkHeights_ev l0) ?_
  by_cases hz : hV l0 = 0
  · simp only [hz, if_true]
    by_cases he : l1.length = l0.length
    · have he' : (l1.length : Int) = (l0.length : Int) := by omega
      simp only [he, if_true]
      exact Ev.bind (checkHeights_ev l1) (Ev.now _)
    · have he' : ¬ (l1.length : Int) = (l0.length : Int) := by omega
      simp only [he, he', if_false]
      exact Ev.now _
  · simp only [hz, if_false]
    exact Ev.now _
theorem TwoErr_ev (l0 l1 : List Int) : Ev (fun k => speculumref06_TwoErr.f k l0 l1) (twoV l0 l1) := by
  unfold speculumref06_TwoErr.f twoV
  refine Ev.bind (HeightsErr_ev l0) ?_
  by_cases hz : hV l0 = 0
  · simp only [hz, if_true]
    by_cases he : l1.length = l0.length
    · have he' : (l1.length : Int) = (l0.length : Int) := by omega
      simp only [he, if_true]
      exact Ev.bind (HeightsErr_ev l1) (Ev.now _)
    · have he' : ¬ (l1.length : Int) = (l0.length : Int) := by omega
      simp only [he, he', if_false]
      exact Ev.now _
  · simp only [hz, if_false]
    exact Ev.now _
def csV (n : Nat) (wt : List Int) : List (List Int) → List Int → Nat → Int × Int
  | [], _, _ => (0, 0)
  | w :: ws, x, i => if wV w n = 0 then (if digB (subL x w) wt then ((i : Int), 26) else csV n wt ws (subL x w) (i + 1)) else ((i : Int), wV w n)
theorem subL_len (x w : List Int) : (subL x w).length = x.length := subFrom_len _ _ _ _
theorem cs_l1 (l0 wt : List Int) (ws : List (List Int)) (n i i' : Int) (w : List Int) {r : Int × Int} (hl : w.length ≤ 90000) : ∀ (m j : Nat) (x : List Int), j + m = w.length → x.length = w.length →
    Ev (fun k => (figure_digs.f k (subFrom x w j m) wt).bind fun t => (if t = true then (some (i', 26)) else (figure_CheckSessions.l0 k l0 wt (subFrom x w j m) ws n (wrap64 (i + 1))))) r → Ev (fun k => figure_CheckSessions.l1 k l0 wt x i' ws n i w (w.length : Int) (j : Int)) r := by
  intro m
  induction m with
  | zero =>
    intro j x hj hx hr
    have h : ¬ (j : Int) < (w.length : Int) := by omega
    refine Ev.s ?_
    simp only [figure_CheckSessions.l1, h, if_false]
    exact hr
  | succ m ih =>
    intro j x hj hx hr
    have h : (j : Int) < (w.length : Int) := by omega
    have h' : (j : Int) < (x.length : Int) := by omega
    refine Ev.s ?_
    simp only [figure_CheckSessions.l1, h, h', n0, if_true, rdn, Int.toNat_natCast, wi (show j ≤ 100000 by omega)]
    exact ih (j + 1) _ (by omega) (by rw [List.length_set]; exact hx) hr
theorem cs_l0 (l0 wt : List Int) (ws : List (List Int)) (hs : short ws) (hl0 : l0.length ≤ 100) (hwt : wt.length = l0.length) : ∀ (m i : Nat) (x : List Int), i + m = ws.length → x.length = l0.length → Ev (fun k => figure_CheckSessions.l0 k l0 wt x ws (ws.length : Int) (i : Int)) (csV l0.length wt (ws.drop i) x i) := by
  intro m
  induction m with
  | zero =>
    intro i x hi hx
    have h : ¬ (i : Int) < (ws.length : Int) := by omega
    rw [drop_all hi]
    refine Ev.s ?_
    simp only [figure_CheckSessions.l0, h, if_false]
    exact Ev.now _
  | succ m ih =>
    intro i x hi hx
    have h : (i : Int) < (ws.length : Int) := by omega
    have hs1 := hs.1
    have hw := hs.2 i
    rw [drop_cons [] hi, csV]
    refine Ev.s ?_
    simp only [figure_CheckSessions.l0, h, n0, if_true, rdn1]
    refine Ev.bind (checkWear_ev _ _ (by omega)) ?_
    by_cases hz : wV (ws.getD i []) l0.length = 0
    · simp only [hz, if_true]
      have hwl := (wV_0 hz).1
      refine cs_l1 l0 wt ws _ _ _ _ (by omega) _ 0 x (Nat.zero_add _) (by omega) ?_
      refine Ev.bind (digs_ev _ _ (by rw [subFrom_len]; omega) (by rw [subFrom_len]; omega)) ?_
      show Ev _ (if digB (subL x _) wt = true then _ else _)
      change Ev (fun k => if digB (subL x _) wt = true then _ else _) _
      cases digB (subL x (ws.getD i [])) wt
      · simp only [Bool.false_eq_true, if_false]
        rw [wi (by omega)]
        exact ih (i + 1) _ (by omega) (by rw [subFrom_len]; exact hx)
      · simp only [if_true]
        exact Ev.now _
    · simp only [hz, if_false]
      exact Ev.now _
def csA (l0 wt : List Int) (ws : List (List Int)) : Int × Int :=
  if twoV l0 wt = 0 then (if ws.length > 100 then (0, 8) else if digB l0 wt then (-1, 26) else csV l0.length wt ws l0 0) else (0, twoV l0 wt)
theorem CheckSessions_ev (l0 wt : List Int) (ws : List (List Int)) (hs : short ws) : Ev (fun k => figure_CheckSessions.f k l0 wt ws) (csA l0 wt ws) := by
  unfold figure_CheckSessions.f csA
  refine Ev.bind (checkBoth_ev l0 wt) ?_
  by_cases hz : twoV l0 wt = 0
  · obtain ⟨h0, h1, h2⟩ := twoV_0 hz
    have hb := (hV_0 h0).1
    simp only [hz, if_true]
    by_cases h : ws.length > 100
    · have h' : (ws.length : Int) > 100 := by omega
      simp only [h, h', if_true]
      exact Ev.now _
    · have h' : ¬ (ws.length : Int) > 100 := by omega
      simp only [h, h', if_false, clone_eq l0 (by omega), Option.bind_some]
      refine Ev.bind (digs_ev l0 wt (by omega) h1) ?_
      cases digB l0 wt
      · simp only [Bool.false_eq_true, if_false]
        exact cs_l0 l0 wt ws hs (by omega) h1 ws.length 0 l0 (by omega) rfl
      · simp only [if_true]
        exact Ev.now _
  · simp only [hz, if_false]
    exact Ev.now _
end Go.Proofs.Ytdkahcolfcmmpaa.Pure
set_option linter.unusedVariables false
namespace Go.Proofs.Ytdkahcolfcmmpaa.Pure
open Go.RowKit Go.Proofs.Ytdkahcolfcmmpaa.Pr Go.Proofs.YtdkahcolfcmmpaaW.PrintWords Go.Proofs.YtdkahcolfcmmpaaW.PrintLast Go.Proofs.YtdkahcolfcmmpaaW.PrintMore
def quo (l0 wt w : List Int) (i : Nat) : Int := wrap64 (Int.tdiv (wrap64 (l0.getD i 0 - wt.getD i 0)) (w.getD i 0))
def mtV (l0 wt w : List Int) : Nat → Nat → Int → Int × Int
  | _, 0, b => if b < 0 then (0, 12) else (b, 0)
  | i, m + 1, b => if w.getD i 0 = 0 then mtV l0 wt w (i + 1) m b else if b < 0 ∨ quo l0 wt w i < b then mtV l0 wt w (i + 1) m (quo l0 wt w i) else mtV l0 wt w (i + 1) m b
theorem mt_loop (l0 wt w : List Int) (h0 : l0.length ≤ 100) (h1 : wt.length = l0.length) (h2 : w.length = l0.length) : ∀ (m i : Nat) (b : Int), i + m = w.length → Ev (fun k => figure_MostTimes.l0 k l0 wt b w (w.length : Int) (i : Int)) (mtV l0 wt w i m b) := by
  intro m
  induction m with
  | zero =>
    intro i b hi
    have h : ¬ (i : Int) < (w.length : Int) := by omega
    refine Ev.s ?_
    simp only [figure_MostTimes.l0, h, if_false, mtV]
    by_cases hb : b < 0
    · simp only [hb, if_true]; exact Ev.now _
    · simp only [hb, if_false]; exact Ev.now _
  | succ m ih =>
    intro i b hi
    have h : (i : Int) < (w.length : Int) := by omega
    have h' : (i : Int) < (l0.length : Int) := by omega
    have h'' : (i : Int) < (wt.length : Int) := by omega
    refine Ev.s ?_
    rw [mtV]
    by_cases hw : w.getD i 0 = 0
    · simp only [figure_MostTimes.l0, h, n0, if_true, rdn, hw, wi (show i ≤ 100000 by omega)]
      exact ih (i + 1) b (by omega)
    · by_cases hb : b < 0
      · simp only [figure_MostTimes.l0, h, h', h'', n0, if_true, rdn, hw, if_false, hb, true_or, wi (show i ≤ 100000 by omega)]
        exact ih (i + 1) _ (by omega)
      · by_cases hq : quo l0 wt w i < b
        · have hq' := hq
          unfold quo at hq'
          simp only [figure_MostTimes.l0, h, h', h'', n0, if_true, rdn, hw, if_false, hb, hq, hq', or_true, wi (show i ≤ 100000 by omega)]
          exact ih (i + 1) _ (by omega)
        · have hq' := hq
          unfold quo at hq'
          simp only [figure_MostTimes.l0, h, h', h'', n0, if_true, rdn, hw, if_false, hb, hq, hq', or_self, wi (show i ≤ 100000 by omega)]
          exact ih (i + 1) _ (by omega)
theorem ref_mt_loop (l0 wt w : List Int) (h0 : l0.length ≤ 100) (h1 : wt.length = l0.length) (h2 : w.length = l0.length) (hwb : ∀ j, 0 ≤ w.getD j 0) : ∀ (m i : Nat) (b : Int), i + m = l0.length → Ev (fun k => speculumref06_MostTimes.l0 k l0 wt w b (i : Int)) (mtV l0 wt w i m b) := by
  intro m
  induction m with
  | zero =>
    intro i b hi
    have h : ¬ (i : Int) < (l0.length : Int) := by omega
    refine Ev.s ?_
    simp only [speculumref06_MostTimes.l0, h, if_false, mtV]
    by_cases hb : b < 0
    · simp only [hb, if_true]; exact Ev.now _
    · simp only [hb, if_false]; exact Ev.now _
  | succ m ih =>
    intro i b hi
    have h : (i : Int) < (w.length : Int) := by omega
    have h' : (i : Int) < (l0.length : Int) := by omega
    have h'' : (i : Int) < (wt.length : Int) := by omega
    refine Ev.s ?_
    rw [mtV]
    have hb0 := hwb i
    by_cases hw : w.getD i 0 = 0
    · have hp : ¬ w.getD i 0 > 0 := by omega
      simp only [speculumref06_MostTimes.l0, h, h', n0, if_true, rdn, hw, if_false, wi (show i ≤ 100000 by omega), gt_iff_lt, Int.lt_irrefl]
      exact ih (i + 1) b (by omega)
    · have hp : w.getD i 0 > 0 := by omega
      by_cases hb : b < 0
      · simp only [speculumref06_MostTimes.l0, h, h', h'', n0, if_true, rdn, hw, if_false, hb, true_or, hp, wi (show i ≤ 100000 by omega)]
        exact ih (i + 1) _ (by omega)
      · by_cases hq : quo l0 wt w i < b
        · have hq' := hq
          unfold quo at hq'
          simp only [speculumref06_MostTimes.l0, h, h', h'', n0, if_true, rdn, hw, if_false, hb, hq, hq', or_true, hp, wi (show i ≤ 100000 by omega)]
          exact ih (i + 1) _ (by omega)
        · have hq' := hq
          unfold quo at hq'
          simp only [speculumref06_MostTimes.l0, h, h', h'', n0, if_true, rdn, hw, if_false, hb, hq, hq', or_self, hp, wi (show i ≤ 100000 by omega)]
          exact ih (i + 1) _ (by omega)
def mtA (l0 wt w : List Int) : Int × Int := if twoV l0 wt = 0 then (if wV w l0.length = 0 then (if digB l0 wt then (0, 26) else mtV l0 wt w 0 w.length (-1)) else (0, wV w l0.length)) else (0, twoV l0 wt)
theorem MostTimes_ev (l0 wt w : List Int) (hw : w.length ≤ 100) : Ev (fun k => figure_MostTimes.f k l0 wt w) (mtA l0 wt w) := by
  unfold figure_MostTimes.f mtA
  refine Ev.bind (checkBoth_ev l0 wt) ?_
  by_cases hz : twoV l0 wt = 0
  · obtain ⟨h0, h1, h2⟩ := twoV_0 hz
    have hb := (hV_0 h0).1
    simp only [hz, if_true]
    refine Ev.bind (checkWear_ev w _ (by omega)) ?_
    by_cases hy : wV w l0.length = 0
    · obtain ⟨hwl, hwb⟩ := wV_0 hy
      simp only [hy, if_true]
      refine Ev.bind (digs_ev l0 wt (by omega) h1) ?_
      cases digB l0 wt
      · simp only [Bool.false_eq_true, if_false]
        exact mt_loop l0 wt w (by omega) h1 hwl w.length 0 _ (by omega)
      · simp only [if_true]
        exact Ev.now _
    · simp only [hy, if_false]
      exact Ev.now _
  · simp only [hz, if_false]
    exact Ev.now _
theorem refMostTimes_ev (l0 wt w : List Int) (hw : w.length ≤ 100) : Ev (fun k => speculumref06_MostTimes.f k l0 wt w) (mtA l0 wt w) := by
  unfold speculumref06_MostTimes.f mtA
  refine Ev.bind (TwoErr_ev l0 wt) ?_
  by_cases hz : twoV l0 wt = 0
  · obtain ⟨h0, h1, h2⟩ := twoV_0 hz
    have hb := (hV_0 h0).1
    simp only [hz, if_true]
    refine Ev.bind (WearErr_ev w _ (by omega)) ?_
    by_cases hy : wV w l0.length = 0
    · obtain ⟨hwl, hwb⟩ := wV_0 hy
      simp only [hy, if_true]
      refine Ev.bind (below_ev l0 wt (by omega) h1) ?_
      cases digB l0 wt
      · simp only [Bool.false_eq_true, if_false]
        rw [hwl]
        exact ref_mt_loop l0 wt w (by omega) h1 hwl (fun j => (hwb j).1) l0.length 0 _ (by omega)
      · simp only [if_true]
        exact Ev.now _
    · simp only [hy, if_false]
      exact Ev.now _
  · simp only [hz, if_false]
    exact Ev.now _
theorem mtV_ok (l0 wt w : List Int) (hd : ∀ j, j < w.length → wt.getD j 0 ≤ l0.getD j 0) (h0 : ∀ j, -100000 ≤ l0.getD j 0 ∧ l0.getD j 0 ≤ 100000) (h1 : ∀ j, -100000 ≤ wt.getD j 0 ∧ wt.getD j 0 ≤ 100000) (hw : ∀ j, 0 ≤ w.getD j 0 ∧ w.getD j 0 ≤ 100000) :
    ∀ (m i : Nat) (b : Int), i + m = w.length → (0 ≤ b → (∀ j, j < i → 0 < w.getD j 0 → b ≤ Int.tdiv (l0.getD j 0 - wt.getD j 0) (w.getD j 0)) ∧ ∃ j, j < i ∧ 0 < w.getD j 0 ∧ b = Int.tdiv (l0.getD j 0 - wt.getD j 0) (w.getD j 0)) →
    (b < 0 → ∀ j, j < i → w.getD j 0 = 0) → (mtV l0 wt w i m b).2 = 0 → 0 ≤ (mtV l0 wt w i m b).1 ∧ (∀ j, j < w.length → 0 < w.getD j 0 → (mtV l0 wt w i m b).1 ≤ Int.tdiv (l0.getD j 0 - wt.getD j 0) (w.getD j 0)) ∧ ∃ j, j < w.length ∧ 0 < w.getD j 0 ∧ (mtV l0 wt w i m b).1 = Int.tdiv (l0.getD j 0 - wt.getD j 0) (w.getD j 0) := by
  intro m
  induction m with
  | zero =>
    intro i b hi hb hn h
    rw [mtV] at h ⊢
    by_cases hneg : b < 0
    · rw [if_pos hneg] at h; exact absurd h (by decide : ¬ (12 : Int) = 0)
    · rw [if_neg hneg]
      obtain ⟨p, q⟩ := hb (by omega)
      obtain rfl : i = w.length := by omega
      exact ⟨by show 0 ≤ b; omega, p, q⟩
  | succ m ih =>
    intro i b hi hb hn h
    rw [mtV] at h ⊢
    have hwi := hw i
    have hdi := hd i (by omega)
    have a0 := h0 i
    have a1 := h1 i
    by_cases hz : w.getD i 0 = 0
    · rw [if_pos hz] at h ⊢
      refine ih (i + 1) b (by omega) (fun hb0 => ?_) (fun hneg j hj => ?_) h
      · obtain ⟨p, j, q1, q2, q3⟩ := hb hb0
        refine ⟨fun j hj hp => ?_, j, by omega, q2, q3⟩
        rcases Nat.lt_or_ge j i with hlt | hge
        · exact p j hlt hp
        · obtain rfl : j = i := by omega
          omega
      · rcases Nat.lt_or_ge j i with hlt | hge
        · exact hn hneg j hlt
        · obtain rfl : j = i := by omega
          exact hz
    · rw [if_neg hz] at h ⊢
      have hq0 : 0 ≤ Int.tdiv (l0.getD i 0 - wt.getD i 0) (w.getD i 0) := Int.tdiv_nonneg (by omega) (by omega)
      have hq1 : Int.tdiv (l0.getD i 0 - wt.getD i 0) (w.getD i 0) ≤ l0.getD i 0 - wt.getD i 0 := by
        rw [Int.tdiv_eq_ediv_of_nonneg (by omega)]
        exact Int.ediv_le_self _ (by omega)
      have hq : quo l0 wt w i = Int.tdiv (l0.getD i 0 - wt.getD i 0) (w.getD i 0) := by
        unfold quo
        rw [w64 (n := l0.getD i 0 - wt.getD i 0) (by omega) (by omega), w64 (by omega) (by omega)]
      have hlow : 0 ≤ b → ¬ (quo l0 wt w i < b) → (∀ j, j < i + 1 → 0 < w.getD j 0 → b ≤ Int.tdiv (l0.getD j 0 - wt.getD j 0) (w.getD j 0)) := by
        intro hb0 hnq j hj hp
        rcases Nat.lt_or_ge j i with hlt | hge
        · exact (hb hb0).1 j hlt hp
        · obtain rfl : j = i := by omega
          rw [hq] at hnq; omega
      by_cases hc : b < 0 ∨ quo l0 wt w i < b
      · rw [if_pos hc] at h ⊢
        refine ih (i + 1) _ (by omega) (fun hb0 => ?_) (fun hneg => by rw [hq] at hneg; omega) h
        refine ⟨fun j hj hp => ?_, i, by omega, by omega, hq⟩
        rcases Nat.lt_or_ge j i with hlt | hge
        · rcases Int.lt_or_le b 0 with hneg | hpos
          · have := hn hneg j hlt; omega
          · have := (hb hpos).1 j hlt hp
            omega
        · obtain rfl : j = i := by omega
          rw [hq]; exact Int.le_refl _
      · rw [if_neg hc] at h ⊢
        have hb0 : 0 ≤ b := by omega
        refine ih (i + 1) b (by omega) (fun _ => ⟨hlow hb0 (by omega), ?_⟩) (fun hneg => by omega) h
        obtain ⟨_, j, q1, q2, q3⟩ := hb hb0
        exact ⟨j, by omega, q2, q3⟩
theorem set_getD (l : List Int) (i j : Nat) (v : Int) : (l.set i v).getD j 0 = if i = j ∧ i < l.length then v else l.getD j 0 := by
  rw [List.getD_eq_getElem?_getD, List.getD_eq_getElem?_getD, List.getElem?_set]
  by_cases h : i = j
  · subst h
    by_cases hl : i < l.length
    · rw [if_pos rfl, if_pos hl, if_pos ⟨rfl, hl⟩]; rfl
    · rw [if_pos rfl, if_neg hl, if_neg (fun h => hl h.2), List.getElem?_eq_none (by omega)]
  · rw [if_neg h, if_neg (fun hh => h hh.1)]
theorem subFrom_at (w : List Int) : ∀ (m i : Nat) (x : List Int) (j : Nat), i + m ≤ x.length → (subFrom x w i m).getD j 0 = if i ≤ j ∧ j < i + m then wrap64 (x.getD j 0 - w.getD j 0) else x.getD j 0
  | 0, i, x, j, h => by rw [subFrom, if_neg (by omega)]
  | m + 1, i, x, j, h => by
    rw [subFrom, subFrom_at w m (i + 1) _ j (by rw [List.length_set]; omega), set_getD]
    by_cases h1 : i + 1 ≤ j ∧ j < i + 1 + m
    · rw [if_pos h1, if_neg (by omega), if_pos (by omega)]
    · rw [if_neg h1]
      by_cases h2 : i = j
      · subst h2
        rw [if_pos (by omega), if_pos (by omega)]
      · rw [if_neg (by omega), if_neg (by omega)]
def Aft (l0 w x : List Int) (t : Nat) : Prop := x.length = l0.length ∧ ∀ j, j < l0.length → x.getD j 0 = l0.getD j 0 - (t : Int) * w.getD j 0
theorem Aft.next {l0 w x : List Int} {t : Nat} (ht : t ≤ 1000) (hwl : w.length = l0.length) (h0 : ∀ j, -100000 ≤ l0.getD j 0 ∧ l0.getD j 0 ≤ 100000) (hw : ∀ j, 0 ≤ w.getD j 0 ∧ w.getD j 0 ≤ 100000) (h : Aft l0 w x t) : Aft l0 w (subL x w) (t + 1) := by
  refine ⟨by rw [subL_len]; exact h.1, fun j hj => ?_⟩
  unfold subL
  rw [subFrom_at w _ 0 x j (by rw [h.1]; omega), if_pos (by omega), h.2 j hj]
  have a0 := h0 j
  have a1 := hw j
  have e1 : (t : Int) * w.getD j 0 ≤ 1000 * 100000 := Int.mul_le_mul (by omega) a1.2 a1.1 (by omega)
  have e2 : 0 ≤ (t : Int) * w.getD j 0 := Int.mul_nonneg (by omega) a1.1
  rw [w64 (by omega) (by omega)]
  have : ((t + 1 : Nat) : Int) * w.getD j 0 = (t : Int) * w.getD j 0 + w.getD j 0 := by rw [Int.natCast_add, Int.add_mul]; omega
  omega
theorem csV_rep (l0 wt w : List Int) (hwl : w.length = l0.length) (hz : wV w l0.length = 0) (h0 : ∀ j, -100000 ≤ l0.getD j 0 ∧ l0.getD j 0 ≤ 100000) (hw : ∀ j, 0 ≤ w.getD j 0 ∧ w.getD j 0 ≤ 100000) (n : Nat) (hn : n ≤ 100)
    (good : ∀ j, j < l0.length → wt.getD j 0 ≤ l0.getD j 0 - (n : Int) * w.getD j 0) : ∀ (m t : Nat) (x : List Int), t + m = n → Aft l0 w x t →
    csV l0.length wt (List.replicate m w) x t = (0, 0) ∧ ((∃ j, j < l0.length ∧ l0.getD j 0 - ((n + 1 : Nat) : Int) * w.getD j 0 < wt.getD j 0) → csV l0.length wt (List.replicate (m + 1) w) x t = ((n : Int), 26)) := by
  intro m
  induction m with
  | zero =>
    intro t x ht hx
    refine ⟨rfl, fun ⟨j, hj, hb⟩ => ?_⟩
    obtain rfl : t = n := by omega
    have hy := hx.next (by omega) hwl h0 hw
    rw [List.replicate_succ, csV, if_pos hz, if_pos (show digB (subL x w) wt = true from digFrom_true j (by omega) (by rw [hy.1]; omega) (by rw [hy.2 j hj]; exact hb))]
  | succ m ih =>
    intro t x ht hx
    have hy := hx.next (by omega) hwl h0 hw
    have hd : digB (subL x w) wt = false := digFrom_mk fun j _ hj => by
      have hj' : j < l0.length := by rw [hy.1] at hj; omega
      rw [hy.2 j hj']
      have g := good j hj'
      have a1 := hw j
      have : ((t + 1 : Nat) : Int) * w.getD j 0 ≤ (n : Int) * w.getD j 0 := Int.mul_le_mul_of_nonneg_right (by omega) a1.1
      omega
    obtain ⟨i1, i2⟩ := ih (t + 1) _ (by omega) hy
    refine ⟨?_, fun hb => ?_⟩
    · rw [List.replicate_succ, csV, if_pos hz, hd, if_neg (by decide)]; exact i1
    · rw [List.replicate_succ, csV, if_pos hz, hd, if_neg (by decide)]; exact i2 hb
theorem times_at {a b : Int} (ha : 0 ≤ a) (hb : 0 < b) : Int.tdiv a b * b ≤ a ∧ a < (Int.tdiv a b + 1) * b := by
  rw [Int.tdiv_eq_ediv_of_nonneg ha]
  exact ⟨Int.ediv_mul_le _ (by omega), Int.lt_ediv_add_one_mul_self _ hb⟩
theorem mtA_ok {l0 wt w : List Int} (h : (mtA l0 wt w).2 = 0) (hn : (mtA l0 wt w).1 ≤ 20) : ∃ n : Nat, n ≤ 20 ∧ (mtA l0 wt w).1 = n ∧ csA l0 wt (List.replicate n w) = (0, 0) ∧ csA l0 wt (List.replicate (n + 1) w) = ((n : Int), 26) := by
  unfold mtA at h hn ⊢
  by_cases hz : twoV l0 wt = 0
  · rw [if_pos hz] at h hn ⊢
    obtain ⟨h0, h1, h2⟩ := twoV_0 hz
    by_cases hy : wV w l0.length = 0
    · rw [if_pos hy] at h hn ⊢
      obtain ⟨hwl, hwb⟩ := wV_0 hy
      cases hd : digB l0 wt
      · rw [hd, if_neg (by decide)] at h hn
        rw [if_neg (by decide)]
        have hg := digFrom_false hd
        obtain ⟨c0, c1, j, c2, c3, c4⟩ := mtV_ok l0 wt w (fun j hj => hg j (by omega) (by omega)) (hV_0 h0).2 (hV_0 h2).2 hwb w.length 0 (-1) (by omega) (fun h => by omega) (fun _ j hj => by omega) h
        obtain ⟨n, e⟩ := Int.eq_ofNat_of_zero_le c0
        rw [e] at c1 c4 hn ⊢
        have good : ∀ j, j < l0.length → wt.getD j 0 ≤ l0.getD j 0 - (n : Int) * w.getD j 0 := by
          intro j hj
          have g := hg j (by omega) (by omega)
          have b := hwb j
          rcases Int.lt_or_eq_of_le b.1 with hp | hp
          · have c := c1 j (by omega) hp
            have t := (times_at (a := l0.getD j 0 - wt.getD j 0) (by omega) hp).1
            have : (n : Int) * w.getD j 0 ≤ Int.tdiv (l0.getD j 0 - wt.getD j 0) (w.getD j 0) * w.getD j 0 := Int.mul_le_mul_of_nonneg_right c b.1
            omega
          · rw [← hp]; omega
        obtain ⟨r1, r2⟩ := csV_rep l0 wt w hwl hy (hV_0 h0).2 hwb n (by omega) good n 0 l0 (by omega) ⟨rfl, fun j _ => by omega⟩
        have r2 := r2 ⟨j, by omega, by
          have t := (times_at (a := l0.getD j 0 - wt.getD j 0) (by have := hg j (by omega) (by omega); omega) c3).2
          rw [← c4] at t
          rw [Int.natCast_add]
          show _ - ((n : Int) + 1) * _ < _
          omega⟩
        refine ⟨n, by omega, rfl, ?_, ?_⟩
        · unfold csA
          rw [if_pos hz, if_neg (by rw [List.length_replicate]; omega), hd, if_neg (by decide)]; exact r1
        · unfold csA
          rw [if_pos hz, if_neg (by rw [List.length_replicate]; omega), hd, if_neg (by decide)]; exact r2
      · rw [hd, if_pos rfl] at h; exact absurd h (by decide : ¬ (26 : Int) = 0)
    · rw [if_neg hy] at h; exact absurd h hy
  · rw [if_neg hz] at h; exact absurd h hz
theorem short_rep (w : List Int) (n : Nat) (hw : w.length ≤ 45) (hn : n ≤ 102) : short (List.replicate n w) := by
  refine ⟨by rw [List.length_replicate]; exact hn, fun j => ?_⟩
  rw [List.getD_eq_getElem?_getD]
  by_cases h : j < n
  · rw [List.getElem?_replicate, if_pos h]; exact hw
  · rw [List.getElem?_eq_none (by rw [List.length_replicate]; omega)]; decide
theorem times_loop (l0 wt w : List Int) (hw : w.length ≤ 45) (n : Nat) (hn : n ≤ 20) (h1 : csA l0 wt (List.replicate n w) = (0, 0)) (h2 : csA l0 wt (List.replicate (n + 1) w) = ((n : Int), 26)) : ∀ (m i : Nat), i + m = n → Ev (fun k => speculumlaw06_FigureTimes.l0 k l0 wt w (n : Int) (List.replicate i w) (i : Int)) true := by
  intro m
  induction m with
  | zero =>
    intro i hi
    obtain rfl : i = n := by omega
    have h : ¬ (i : Int) < (i : Int) := by omega
    have hl : (List.replicate i w).length < 5864062014805 := by rw [List.length_replicate]; omega
    refine Ev.s ?_
    simp only [speculumlaw06_FigureTimes.l0, h, if_false, copy_eq w (by omega), Option.bind_some, hl, if_true, ← List.replicate_succ']
    refine Ev.bind (CheckSessions_ev l0 wt _ (short_rep w i hw (by omega))) (Ev.bind (CheckSessions_ev l0 wt _ (short_rep w (i + 1) hw (by omega))) ?_)
    simp only [h1, h2, if_true, beq_self_eq_true]
    exact Ev.now _
  | succ m ih =>
    intro i hi
    have h : (i : Int) < (n : Int) := by omega
    have hl : (List.replicate i w).length < 5864062014805 := by rw [List.length_replicate]; omega
    refine Ev.s ?_
    simp only [speculumlaw06_FigureTimes.l0, h, if_true, copy_eq w (by omega), Option.bind_some, hl, ← List.replicate_succ', wi (show i ≤ 100000 by omega)]
    exact ih (i + 1) (by omega)
theorem times_j0 (l0 wt w : List Int) (b : Bool) (hl : b = false → l0.length ≤ 45 ∧ wt.length ≤ 45 ∧ w.length ≤ 45) : Ev (fun k => speculumlaw06_FigureTimes.j0 k l0 wt w b) true := by
  refine Ev.s ?_
  cases b with
  | true =>
    simp only [speculumlaw06_FigureTimes.j0, if_true]
    exact Ev.now _
  | false =>
    obtain ⟨a0, a1, a2⟩ := hl rfl
    simp only [speculumlaw06_FigureTimes.j0, Bool.false_eq_true, if_false, copy_eq l0 (by omega), copy_eq wt (by omega), copy_eq w (by omega), Option.bind_some]
    refine Ev.bind (MostTimes_ev l0 wt w (by omega)) (Ev.bind (refMostTimes_ev l0 wt w (by omega)) ?_)
    simp only [if_true, bne_self_eq_false]
    refine Ev.s ?_
    simp only [speculumlaw06_FigureTimes.j1, Bool.false_eq_true, if_false]
    by_cases hz : (mtA l0 wt w).2 = 0
    · simp only [hz, if_true]
      refine Ev.s ?_
      by_cases hn : (mtA l0 wt w).1 > 20
      · simp only [speculumlaw06_FigureTimes.j2, hn, decide_true, if_true]
        exact Ev.now _
      · simp only [speculumlaw06_FigureTimes.j2, hn, decide_false, Bool.false_eq_true, if_false]
        obtain ⟨n, h1, h2, h3, h4⟩ := mtA_ok hz (by omega)
        rw [h2]
        exact times_loop l0 wt w a2 n h1 h3 h4 n 0 (by omega)
    · simp only [hz, if_false]
      refine Ev.s ?_
      simp only [speculumlaw06_FigureTimes.j2, if_true]
      exact Ev.now _
theorem FigureTimes (l0 wt w : List Int) : ∃ k, speculumlaw06_FigureTimes.f k l0 wt w = some true := by
  refine Ev.rounds (g := fun k => speculumlaw06_FigureTimes.f k l0 wt w) ?_
  unfold speculumlaw06_FigureTimes.f
  refine Ev.bind awake_ev ?_
  simp only [if_true]
  by_cases h : (l0.length : Int) > 45
  · simp only [h, if_true]
    exact times_j0 l0 wt w true (fun h => by cases h)
  · by_cases h' : (wt.length : Int) > 45
    · simp only [h, h', if_true, if_false]
      exact times_j0 l0 wt w true (fun h => by cases h)
    · simp only [h, h', if_false]
      exact times_j0 l0 wt w _ (fun hb => by have := of_decide_eq_false hb; omega)
end Go.Proofs.Ytdkahcolfcmmpaa.Pure
namespace Go.Proofs.Ytdkahcolfcmmpaa.figureTimes
open Go.ChangeShapes Go.WideShapes Go.ChangeAt Go.RowKit Go.Proofs.Ytdkahcolfcmmpaa.RowB
open Go.ChangeMaps (open_string shut_string)
set_option linter.unusedVariables false
set_option maxRecDepth 100000 in
theorem lifted (os : Os) (started : os.Started) (H : Type) (enc : TypeId × Value → H) :
    ReturnsInHanded {} Try.checked os 11 .any (Rows.figureTimesSpec.pre6 enc Try.prog Try.f11 Rows.figureTimesRow.domain false) (Rows.figureTimesSpec.post enc Try.prog Try.f11 false true false false) := by
  refine returnsInHanded_of_change_sized (C := Try.checked) own started (by kernel_rfl) Try.func11
    (ChangeSpec.witness6 (enc := enc) (C := Try.checked) false ⟨#[], #[.slice none 0 0, .slice none 0 0, .slice none 0 0], []⟩ 8 (by kernel_rfl) (by kernel_rfl) (by kernel_rfl) (by kernel_rfl)) ?_
  intro W base args ds gs before hval0 hW hcnd hsz0 _
  have hval : ∀ (j : Nat) t v, Try.f11.params[j]? = some t → args[j]? = some v → Value.okWide Try.prog W .any base t v := hval0
  have hW' := hW
  obtain ⟨p, q, hA0, hV, rfl, hfz, hnd⟩ := hW
  have hA : DataW.TrodAll enc Try.prog W 0 (fun _ => true) true Try.f11.params.toList args.toList ds p := hA0
  rw [Try.params11] at hA hval
  obtain ⟨v0, vs0, d0, ds0, p0, q0, hargs, rfl, rfl, h0, r0⟩ := trodAll_cons hA
  obtain ⟨v1, vs1, d1, ds1, p1, q1, rfl, rfl, rfl, h1, r1⟩ := trodAll_cons r0
  obtain ⟨v2, vs2, d2, ds2, p2, q2, rfl, rfl, rfl, h2, r2⟩ := trodAll_cons r1
  obtain ⟨rfl, rfl, rfl⟩ := trodAll_nil r2
  obtain rfl : args = #[v0, v1, v2] := by cases args; simp_all
  obtain ⟨rfl, rfl⟩ := trodVars_none hV
  have k0 := h0
  have lt0 : ∀ x ∈ p0, x.block < W.heap.size := by obtain ⟨m, hm⟩ := k0; exact DataW.trod_lt m _ _ _ hm
  have k1 := h1
  have lt1 : ∀ x ∈ p1, x.block < W.heap.size := by obtain ⟨m, hm⟩ := k1; exact DataW.trod_lt m _ _ _ hm
  have k2 := h2
  have lt2 : ∀ x ∈ p2, x.block < W.heap.size := by obtain ⟨m, hm⟩ := k2; exact DataW.trod_lt m _ _ _ hm
  obtain ⟨a0, len0, cap0, rfl⟩ := okWide_slice Try.underlying22 (hval 0 22 v0 rfl rfl)
  obtain ⟨fuel0, hf0⟩ := h0
  obtain ⟨a0', c0, l0, e0, hr0, hc0, hw0⟩ := isInts hf0
  simp [Value.cells] at e0
  obtain ⟨rfl, rfl, rfl⟩ := e0
  obtain ⟨a1, len1, cap1, rfl⟩ := okWide_slice Try.underlying22 (hval 1 22 v1 rfl rfl)
  obtain ⟨fuel1, hf1⟩ := h1
  obtain ⟨a1', c1, l1, e1, hr1, hc1, hw1⟩ := isInts hf1
  simp [Value.cells] at e1
  obtain ⟨rfl, rfl, rfl⟩ := e1
  obtain ⟨a2, len2, cap2, rfl⟩ := okWide_slice Try.underlying22 (hval 2 22 v2 rfl rfl)
  obtain ⟨fuel2, hf2⟩ := h2
  obtain ⟨a2', c2, l2, e2, hr2, hc2, hw2⟩ := isInts hf2
  simp [Value.cells] at e2
  obtain ⟨rfl, rfl, rfl⟩ := e2
  clear hA0 hval0
  obtain ⟨k, h⟩ := Pure.FigureTimes l0 l1 l2
  refine (Pr.speculumlaw06_FigureTimes.calls k _ _ l0 _ _ l1 _ _ l2 true W hr0 hc0 hr1 hc1 hr2 hc2 rfl h).mono fun e W' ⟨he, bel⟩ => ?_
  subst he
  exact ⟨_, rfl, _, _, _, [], _, [], hW', trodAll_mk1 (shut_bool Try.underlying4 _), (trodAll_cons_mk (Below.trod laidOut (by kernel_rfl) (of_decide_eq_true (by kernel_rfl)) k0 bel lt0) (trodAll_cons_mk (Below.trod laidOut (by kernel_rfl) (of_decide_eq_true (by kernel_rfl)) k1 bel lt1) (trodAll_cons_mk (Below.trod laidOut (by kernel_rfl) (of_decide_eq_true (by kernel_rfl)) k2 bel lt2) trodAll_mk0))), rfl, bel.frame _, fun h => by cases h⟩
theorem over : Rows.figureTimesRow.holds Try.pinned (OpenSpec.ofChange Rows.figureTimesSpec) :=
  OpenClaim.holds_of_wide 11 Try.f11 rfl rfl rfl rfl rfl rfl rfl ⟨rfl, rfl, rfl, rfl, rfl⟩ rfl rfl rfl rfl rfl (by kernel_rfl) Try.func11 (by kernel_rfl)
    (of_decide_eq_true (by kernel_rfl)) (by unfold Func.isWrapper; first | (rw [if_pos (by decide +kernel)]; kernel_rfl) | (rw [if_neg (by decide +kernel)]; exact ⟨rfl, rfl⟩))
    (fun os started H enc _ => lifted os started H enc)
theorem proved : Rows.FigureTimesSaid := over
end Go.Proofs.Ytdkahcolfcmmpaa.figureTimes
namespace Go.Proofs.Ytdkahcolfcmmpaa
theorem figureTimes_holds : Rows.FigureTimesSaid := figureTimes.proved
end Go.Proofs.Ytdkahcolfcmmpaa
