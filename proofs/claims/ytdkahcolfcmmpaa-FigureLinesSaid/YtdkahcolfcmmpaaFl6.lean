import Derived.ChangeSlices
import Derived.LoopIn
import Derived.LoopNIn
import Derived.OwnWalkIn
import Derived.RangeFuncBound
import Derived.RangeFuncBox
import Derived.RangeFuncCalls
import Derived.RangeFuncLeaves
import Derived.RangeFuncNested
import Derived.Shelf.Abstract
import Derived.Shelf.RegionOpen
import Derived.SizedLaws
import Derived.Sort.BigQuietIn
import Derived.Sort.QuietThIn
import Derived.TacticsInMore
import Derived.Test.YtdkahcolfcmmpaaFl1
import Derived.Test.YtdkahcolfcmmpaaFl2
import Derived.Test.YtdkahcolfcmmpaaFl4
import Derived.Test.YtdkahcolfcmmpaaFl5
import Derived.Test.YtdkahcolfcmmpaaRows
import Derived.WalkKit
import Derived.WalkSpells
namespace Go.Proofs.Ytdkahcolfcmmpaa.Pr
open Go.RowKit Go.Shelf Go.Proofs.YtdkahcolfcmmpaaW.PrintWords Go.Proofs.YtdkahcolfcmmpaaW.PrintLast Go.Proofs.YtdkahcolfcmmpaaW.PrintMore
attribute [local go_sem] max2_int min2_int max_two min_two max_three min_three max_four min_four
set_option linter.unusedVariables false
set_option linter.unusedSimpArgs false
attribute [local go_sem] Oper.semAt_some
def rowUpto (i : Nat) : Nat → List (Nat × Nat)
  | 0 => []
  | n + 1 => if i = n then rowUpto i n else rowUpto i n ++ [(i, n)]
def rowsUpto (z : Nat) : Nat → List (Nat × Nat)
  | 0 => []
  | i + 1 => rowsUpto z i ++ rowUpto i z
def pairsL (z : Nat) : List (Nat × Nat) := rowsUpto z z
theorem rowUpto_length (i n : Nat) : (rowUpto i n).length ≤ n := by
  induction n with
  | zero => simp [rowUpto]
  | succ n ih =>
    rw [rowUpto]
    split
    · omega
    · rw [List.length_append, List.length_singleton]; omega
theorem rowsUpto_length (z i : Nat) : (rowsUpto z i).length ≤ i * z := by
  induction i with
  | zero => simp [rowsUpto]
  | succ i ih =>
    have := rowUpto_length i z
    rw [rowsUpto, List.length_append, Nat.succ_mul]; omega
theorem upto_lt {z i k : Nat} (hi : i < z) (hk : k < z) : (rowsUpto z i ++ rowUpto i k).length < z * z := by
  have h1 := rowsUpto_length z i
  have h2 := rowUpto_length i k
  have h3 : (i + 1) * z ≤ z * z := Nat.mul_le_mul_right _ hi
  rw [Nat.succ_mul] at h3
  rw [List.length_append]; omega
theorem rowUpto_prefix (i : Nat) : ∀ {k n : Nat}, k ≤ n → rowUpto i k <+: rowUpto i n
  | k, 0, h => by obtain rfl : k = 0 := by omega
                  exact List.prefix_refl _
  | k, n + 1, h => by
    rcases Nat.lt_or_ge n k with h' | h'
    · obtain rfl : k = n + 1 := by omega
      exact List.prefix_refl _
    · refine (rowUpto_prefix i h').trans ?_
      rw [rowUpto]; split
      · exact List.prefix_refl _
      · exact List.prefix_append _ _
theorem rowsUpto_prefix (z : Nat) : ∀ {i n : Nat}, i ≤ n → rowsUpto z i <+: rowsUpto z n
  | i, 0, h => by obtain rfl : i = 0 := by omega
                  exact List.prefix_refl _
  | i, n + 1, h => by
    rcases Nat.lt_or_ge n i with h' | h'
    · obtain rfl : i = n + 1 := by omega
      exact List.prefix_refl _
    · exact (rowsUpto_prefix z h').trans (List.prefix_append _ _)
theorem upto_prefix {z i k : Nat} (hi : i < z) (hk : k ≤ z) : rowsUpto z i ++ rowUpto i k <+: pairsL z := by
  refine List.IsPrefix.trans ?_ (rowsUpto_prefix z (show i + 1 ≤ z by omega))
  rw [rowsUpto]
  exact (List.prefix_append_right_inj _).2 (rowUpto_prefix i hk)
def KeepAt (b : Nat) (A B : World) : Prop := B.heap[b]? = A.heap[b]?
theorem KeepAt.refl (b : Nat) (A : World) : KeepAt b A A := rfl
theorem KeepAt.trans {b : Nat} {A B C : World} (h : KeepAt b A B) (k : KeepAt b B C) : KeepAt b A C := Eq.trans k h
theorem KeepAt.cell {b i : Nat} {A B : World} (h : KeepAt b A B) : B.cell? ⟨b, i, none⟩ = A.cell? ⟨b, i, none⟩ := World.cell?_of_block h
theorem keepAt_b {b : Nat} {w : World} (hn : b < w.heap.size) (W : World) (l : Nat) (o o' : Obj) (hl : w.heap.size ≤ l) (h : W.heap[l]? = some o) (_ : o.isCells = false) (_ : o.isWalk = false) : KeepAt b W (W.putObj l o') :=
  World.putObj_heap_other (by omega)
set_option maxRecDepth 100000 in
set_option maxHeartbeats 2000000 in
theorem pairs1_in (F : Fence) (n : Nat) (hF : F.fn 106) (hro : F.round = none) (hn : 1 ≤ n) (l Bz z : Nat) (hz : z ≤ 1000) (J Jx : List (Nat × Nat) → World → Prop)
    (hY : ∀ pre x W, x.1 < z ∧ x.2 < z → J pre W → pre.length < z * z → YieldAt F (n - 1) Try.prog l #[.int .i64 (x.1 : Int), .int .i64 (x.2 : Int)] W fun e W' =>
      (e = .returned (.bool true) ∧ J (pre ++ [x]) W' ∧ KeepAt Bz W W') ∨ (e = .returned (.bool false) ∧ Jx (pre ++ [x]) W'))
    (W : World) (hBz : W.cell? ⟨Bz, 0, none⟩ = some (.int .i64 z)) (h0 : J [] W) :
    CallsIn F n Try.prog 106 #[.func (.yield l) #[] #[], .pointer (some ⟨Bz, 0, none⟩)] W fun e W' => (∃ v, e = .returned v) ∧
      ((∃ ys, ys = pairsL z ∧ J ys W') ∨ (∃ pre, pre <+: pairsL z ∧ Jx pre W')) := by
  refine callsIn_of_wp Try.func106 rfl hF ?_ hro
  simp only [Try.ntmps106, List.size_toArray, List.length_cons, List.length_nil, Nat.reduceAdd, Nat.reduceSub, Array.replicate_succ, Array.replicate_zero, List.push_toArray, List.append_toArray, List.nil_append, List.cons_append]
  gi_wp2
  gi_loopw [6] (fun i wr => ∃ k : Nat, k ≤ z ∧ i = .int .i64 k ∧ J (rowsUpto z k) wr ∧ KeepAt Bz W wr) (fun i _ => z - (intOf i).toNat)
  case atStart => exact ⟨0, Nat.zero_le _, rfl, h0, KeepAt.refl _ _⟩
  case round =>
    obtain ⟨i, hi, rfl, hJs, hnx⟩ := hrel
    have hcz : wr.cell? ⟨Bz, 0, none⟩ = some (.int .i64 z) := hnx.cell.trans hBz
    by_cases hiz : i < z
    · gi_wp2
      gi_loopw [10] (fun kk wr2 => ∃ k : Nat, k ≤ z ∧ kk = .int .i64 k ∧ J (rowsUpto z i ++ rowUpto i k) wr2 ∧ KeepAt Bz W wr2) (fun kk _ => z - (intOf kk).toNat)
      case atStart => exact ⟨0, Nat.zero_le _, rfl, by simpa [rowUpto] using hJs, hnx⟩
      case round =>
        clear hcz hJs hnx
        obtain ⟨k, hk, rfl, hJs, hnx⟩ := hrel
        by_cases hkz : k < z
        · by_cases hik : i = k
          · have hJ2 : J (rowsUpto z i ++ rowUpto i (k + 1)) wr := by rw [rowUpto, if_pos hik]; exact hJs
            have hb1 : ((i : Int) != (k : Int)) = false := by simp [hik]
            have HJ2 := Aside0.mk hJ2
            have HN := Aside0.mk hnx
            clear hik hJs hnx hJ2
            gi_wp2
            refine ⟨fun _ h => (by cases h), ?_⟩
            gi_wp2
            go_roundw
            case rel => exact ⟨k + 1, by omega, by go_num, HJ2.out, HN.out⟩
            case measure => simp [intOf]; omega
          · obtain ⟨fn, tmps, assign, body, hy, hR⟩ := hY _ (i, k) wr ⟨hiz, hkz⟩ hJs (upto_lt hiz hkz)
            dsimp only at hy hR
            have hb1 : ((i : Int) != (k : Int)) = true := by rw [bne_iff_ne]; omega
            have HN := Aside0.mk hnx
            have HI := Aside0.mk hik
            clear hik hJs hnx
            gi_wp2
            refine hR.mono ?_
            rintro e W3 (⟨rfl, hJ3, hk3⟩ | ⟨rfl, hJx3⟩)
            · have HJ3 := Aside0.mk hJ3
              have HN3 := Aside0.mk (HN.out.trans hk3)
              clear hJ3 hk3
              gi_wp2
              go_roundw
              case rel => exact ⟨k + 1, by omega, by go_num, by rw [rowUpto, if_neg HI.out, ← List.append_assoc]; exact HJ3.out, HN3.out⟩
              case measure => simp [intOf]; omega
            · have HJ3 := Aside0.mk hJx3
              clear hJx3
              gi_wp2
              refine bodyPost_ret (results_none rfl _ _ _) rfl ?_
              refine ⟨⟨_, rfl⟩, .inr ⟨_, ?_, HJ3.out⟩⟩
              have := upto_prefix (z := z) (k := k + 1) hiz (by omega)
              rw [rowUpto, if_neg HI.out, ← List.append_assoc] at this
              exact this
        · obtain rfl : k = z := by omega
          have HJ := Aside0.mk hJs
          have HN := Aside0.mk hnx
          clear hJs hnx
          gi_wp2
          go_roundw
          case rel => exact ⟨i + 1, by omega, by go_num, HJ.out, HN.out⟩
          case measure => simp [intOf]; omega
    · obtain rfl : i = z := by omega
      gi_wp2
      go_end0
      exact ⟨⟨_, rfl⟩, .inl ⟨_, rfl, hJs⟩⟩
set_option maxHeartbeats 1000000 in
theorem pairs_in (F : Fence) (n : Nat) (hF : F.fn 68) (hro : F.round = none) (z : Int) (w : World) :
    CallsIn F n Try.prog 68 #[.int .i64 z] w fun e w' => e = .returned (.func (.func 106) #[] #[.pointer (some ⟨w.heap.size, 0, none⟩)]) ∧ w' = w.alloc (.cells #[.int .i64 z] 3) := by
  refine callsIn_of_wp Try.func68 rfl hF ?_ hro
  simp only [Try.ntmps68, List.size_toArray, List.length_cons, List.length_nil, Nat.reduceAdd, Nat.reduceSub, Array.replicate_succ, Array.replicate_zero, List.push_toArray, List.append_toArray, List.nil_append, List.cons_append]
  gi_wp2
  go_ret
  exact ⟨rfl, rfl⟩
abbrev PairIn (z : Nat) : Type := {x : Nat × Nat // x.1 < z ∧ x.2 < z}
theorem pairs_stops (F : Fence) (n : Nat) (hF : F.fn 106) (hro : F.round = none) (hn : 1 ≤ n) (Bz z : Nat) (hz : z ≤ 1000) (w : World) (hBz : Bz < w.heap.size)
    (hc : w.cell? ⟨Bz, 0, none⟩ = some (.int .i64 z)) :
    SeqStopsK F n Try.prog 106 #[.pointer (some ⟨Bz, 0, none⟩)] (fun x : PairIn z => #[Value.int .i64 (x.1.1 : Int), Value.int .i64 (x.1.2 : Int)]) (KeepAt Bz) (fun ys => ys.map Subtype.val = pairsL z) (fun pre => pre.map Subtype.val <+: pairsL z) (z * z) w := fun l J Jx W hW _ _ hY h0 =>
  (pairs1_in F n hF hro hn l Bz z hz (fun pre W => ∃ p : List (PairIn z), p.map Subtype.val = pre ∧ J p W) (fun pre W => ∃ p : List (PairIn z), p.map Subtype.val = pre ∧ Jx p W)
    (fun pre x W hx hJ hl => by
      obtain ⟨p, rfl, hJ⟩ := hJ
      obtain ⟨fn, tmps, assign, body, hy, hR⟩ := hY p ⟨x, hx⟩ W hJ (by simpa using hl)
      refine ⟨fn, tmps, assign, body, hy, hR.mono ?_⟩
      rintro e W' (⟨h1, h2, h3⟩ | ⟨h1, h2⟩)
      · exact .inl ⟨h1, ⟨p ++ [⟨x, hx⟩], by simp, h2⟩, h3⟩
      · exact .inr ⟨h1, ⟨p ++ [⟨x, hx⟩], by simp, h2⟩⟩)
    W ((hW.cell (p := ⟨Bz, 0, none⟩) hBz).trans hc) ⟨[], rfl, h0⟩).mono (by
      rintro e W' ⟨hv, h | h⟩
      · obtain ⟨ys, rfl, p, hp, hJ⟩ := h
        exact ⟨hv, .inl ⟨p, hp, hJ⟩⟩
      · obtain ⟨pre, hs, p, rfl, hJ⟩ := h
        exact ⟨hv, .inr ⟨p, hs, hJ⟩⟩)
end Go.Proofs.Ytdkahcolfcmmpaa.Pr
namespace Go
section
variable {F : Fence} {n : Nat} {P : Program} {ops : Array Oper} {C : World → Prop}
def noDefer (ops : Array Oper) : Bool := ops.all fun o => match o.op with | .defer _ => false | _ => true
theorem noDefer_at {ops : Array Oper} (h : noDefer ops = true) {i : Nat} {o : Oper} (ho : ops[i]? = some o) : ∀ c, o.op ≠ .defer c := by
  intro c hc
  unfold noDefer at h
  obtain ⟨hi, rfl⟩ := Array.getElem?_eq_some_iff.1 ho
  have := (Array.all_eq_true.1 h) i hi
  rw [hc] at this
  cases this
theorem Oper.wpIn_of_quiet_r {o : Oper} {a : Act} {K : Act → Prop} {K' : Act → World → Prop} {Q' : Exit → Act → World → Prop} {w : World} (hnd : ∀ c, o.op ≠ .defer c) (hw : C w) (h : ∀ a w', C w' → K a → K' a w')
    (ha : o.askedIn F P a C) (hh : o.quietIn F n P a C K) : o.wpIn F n P a w K' Q' := by
  obtain ⟨v, h1, h2⟩ := hh
  have h3 := h1 w hw
  unfold Oper.quietAtIn at h3
  unfold Oper.wpIn
  refine ⟨ha w hw, ?_⟩
  rw [Oper.semAt_eq _ _ _ hnd]
  generalize (execOp a.eval o).run P w = r at *
  cases r with
  | ok x w' =>
    cases x <;> simp only [Oper.quietUponIn] at h3 <;> simp only [Oper.uponIn]
    case value u =>
      obtain ⟨e1, e2⟩ := h3
      rw [e1, e2]
      exact h _ _ hw h2
    case skip =>
      obtain ⟨e1, e2⟩ := h3
      rw [e1, ← e2]
      exact h _ _ hw h2
    case enter f args =>
      obtain ⟨e1, hd, hc⟩ := h3
      rw [e1]
      exact ⟨hd, hc.mono fun e w'' ⟨he, hw''⟩ => by subst he; exact h _ _ hw'' h2⟩
  | halt x w' => simp only [Oper.quietUponIn] at h3
theorem wpOpIn_of_qOpIn_r {i : Nat} {a : Act} {K : Act → Prop} {K' : Act → World → Prop} {Q' : Exit → Act → World → Prop} {w : World} (hnd : noDefer ops = true) (hC : C w) (h : ∀ a w', C w' → K a → K' a w')
    (hh : qOpIn F n P ops C i K a) : wpOpIn F n P ops Q' i K' a w := by
  unfold qOpIn at hh
  unfold wpOpIn
  split
  · rename_i ho; simp only [ho] at hh; exact h _ _ hC hh
  · rename_i o ho
    simp only [ho] at hh
    obtain ⟨ha, hh⟩ := hh
    split
    · rename_i hw; simp only [hw, if_true] at hh; exact Oper.wpIn_of_quiet_r (noDefer_at hnd ho) hC h ha hh
    · rename_i hw; simp only [hw] at hh; exact ⟨ha w hC, h _ _ hC hh⟩
theorem wpAnyIn_of_quiet_r {md : Region.Mode} {Q : Act → Prop} {Q' : Exit → Act → World → Prop} (hnd : noDefer ops = true) (hQ : ∀ a w, C w → Q a → Q' .normal a w) : ∀ (fuel : Nat) (listed : Array Bool) (a : Act) (w : World), C w →
    wpAnyQIn F n P md ops C Q fuel listed a → wpAnyIn F n P md ops Q' fuel listed a w
  | 0, _, _, _, hw, h => ⟨h.1, hQ _ _ hw h.2⟩
  | fuel + 1, _, _, _, hw, h => ⟨fun h0 => hQ _ _ hw (h.1 h0), fun i hi => wpOpIn_of_qOpIn_r hnd hw (fun a' w' hw' => wpAnyIn_of_quiet_r hnd hQ fuel _ a' w' hw') (h.2 i hi)⟩
theorem wpIn_region_quiet_r {id : Nat} {Q : Exit → Act → World → Prop} {a : Act} {w : World} (hnd : noDefer ops = true) (hm : P.follows .mixedOrders = true) (hB : Region.lexB .any ops = true) (hC : C { w with drawn := w.drawn + 1 })
    (h : wpQuietIn F n P ops C (fun a' => ∀ w', C w' → Q .normal a' w') ops.toList a) : (Code.region id ops true).wpIn F n P Q a w := by
  simp only [Region.lexB, Bool.and_eq_true] at hB
  refine wpIn_region_any hm (wpAnyIn_of_quiet_r (Q := fun a' => ∀ w', C w' → Q .normal a' w') hnd (fun _ w' hw' h => h w' hw') _ _ _ _ hC ?_)
  have := wpAnyQIn_lex (F := F) (n := n) (C := C) (md := .any) hB.1 ops.toList 0 (Array.replicate ops.size false) a (by simp) (by simpa using hB.2) h
  simpa using this
theorem wpIn_region_quiet_lit_r {id : Nat} {Q : Exit → Act → World → Prop} {a : Act} {w : World} {l : List Oper} (hnd : noDefer l.toArray = true) (hm : P.follows .mixedOrders = true) (hB : Region.lexB .any l.toArray = true)
    (h : wpQuietIn F n P l.toArray (fun w' => ∃ n, w' = w.drewN n) (fun a' => ∀ w', (∃ n, w' = w.drewN n) → Q .normal a' w') l a) : (Code.region id l.toArray true).wpIn F n P Q a w :=
  wpIn_region_quiet_r (C := fun w' => ∃ n, w' = w.drewN n) hnd hm hB ⟨1, rfl⟩ (by simpa using h)
end
end Go
namespace Go.Proofs.Ytdkahcolfcmmpaa.Pr
open Go.RowKit Go.Shelf Go.Proofs.YtdkahcolfcmmpaaW.PrintWords Go.Proofs.YtdkahcolfcmmpaaW.PrintLast Go.Proofs.YtdkahcolfcmmpaaW.PrintMore
attribute [local go_sem] max2_int min2_int max_two min_two max_three min_three max_four min_four
set_option linter.unusedVariables false
set_option linter.unusedSimpArgs false
attribute [local go_sem] Oper.semAt_some
def bd (p s : Int) (i k : Nat) : Int := mn p (wrap64 (s * (mx (wrap64 ((i : Int) - k)) (wrap64 (-(wrap64 ((i : Int) - k)))))))
theorem bd_f (p s : Int) (i k : Nat) : figure_tolerance_bound.f p s i k = some (bd p s i k) := rfl
def jRef (p s : Int) (l : List S38) (x : Nat × Nat) : Bool := decide (bd p s x.1 x.2 < wrap64 ((rd_T38 l x.1).f0 - (rd_T38 l x.2).f1))
def jUnd (p s : Int) (l : List S38) (x : Nat × Nat) : Bool := decide (bd p s x.1 x.2 < wrap64 ((rd_T38 l x.1).f1 - (rd_T38 l x.2).f0))
def figure_tolerance_judge.f (a0_0 : Int) (a0_1 : Int) (l1 : List (S38)) : Option (Int × Int × Int) :=
  if l1.length ≤ 1000 then
    some (match (pairsL l1.length).find? (jRef a0_0 a0_1 l1) with
      | some x => (-1, x.1, x.2)
      | none => if (pairsL l1.length).any (jUnd a0_0 a0_1 l1) then (0, 0, 0) else (1, 0, 0))
  else none
theorem hcell {W : World} {b : Nat} {cs : Array Value} {t : TypeId} (h : W.heap[b]? = some (.cells cs t (0, 0))) (i : Nat) : W.cell? ⟨b, i, none⟩ = cs[i]? := by
  simp [World.cell?, h]
theorem hfro {W : World} {b : Nat} {cs : Array Value} {t : TypeId} (h : W.heap[b]? = some (.cells cs t (0, 0))) (i : Nat) : W.frozen? ⟨b, i, none⟩ = false := by
  simp [World.frozen?, h]
theorem hset {W : World} {b : Nat} {cs : Array Value} {t : TypeId} (h : W.heap[b]? = some (.cells cs t (0, 0))) (i : Nat) (v : Value) : (W.setCell ⟨b, i, none⟩ v).heap[b]? = some (.cells (cs.setIfInBounds i v) t (0, 0)) := by
  simp [World.setCell, Array.getElem?_modify, h]
theorem hlt {W : World} {b : Nat} {o : Obj} (h : W.heap[b]? = some o) : b < W.heap.size := (Array.getElem?_eq_some_iff.1 h).1
theorem hold {W W' : World} {b n : Nat} {o : Obj} (h : W.heap[b]? = some o) (hB : Below n W W') (hn : b < n) : W'.heap[b]? = some o := (hB.block b hn).trans h
theorem alloc_at (W : World) (o : Obj) (k : Nat) : (W.alloc o).heap[k]? = if k = W.heap.size then some o else W.heap[k]? := by
  show (W.heap.push o)[k]? = _
  rw [Array.getElem?_push]
def JSt (b : Nat) (sl : Value) (p s r x y ans : Int) (W : World) : Prop :=
  W.heap[b]? = some (.cells #[.int .i64 p, .int .i64 s] 118 (0, 0)) ∧ W.heap[b + 1]? = some (.cells #[sl] 36 (0, 0)) ∧ W.heap[b + 1 + 1]? = some (.cells #[.int .i64 r] 3 (0, 0)) ∧
  W.heap[b + 1 + 1 + 1]? = some (.cells #[.int .i64 x, .int .i64 y] 48 (0, 0)) ∧ W.heap[b + 1 + 1 + 1 + 1]? = some (.cells #[.int .i64 ans] 3 (0, 0)) ∧ b + 6 ≤ W.heap.size
theorem JSt.grown {b : Nat} {sl : Value} {p s r x y ans : Int} {A B : World} {row : Option Nat} (h : JSt b sl p s r x y ans A) (hg : A.grownBy B row) (hr : ∀ r, row = some r → ∃ o : Obj, A.heap[r]? = some o ∧ o.isCells = false) : JSt b sl p s r x y ans B :=
  ⟨(grownBy_keeps_cells hg hr h.1 rfl).trans h.1, (grownBy_keeps_cells hg hr h.2.1 rfl).trans h.2.1, (grownBy_keeps_cells hg hr h.2.2.1 rfl).trans h.2.2.1, (grownBy_keeps_cells hg hr h.2.2.2.1 rfl).trans h.2.2.2.1, (grownBy_keeps_cells hg hr h.2.2.2.2.1 rfl).trans h.2.2.2.2.1, Nat.le_trans h.2.2.2.2.2 hg.size⟩
theorem JSt.below {b : Nat} {sl : Value} {p s r x y ans : Int} {A B : World} (h : JSt b sl p s r x y ans A) (hB : Below A.heap.size A B) : JSt b sl p s r x y ans B :=
  ⟨hold h.1 hB (hlt h.1), hold h.2.1 hB (hlt h.2.1), hold h.2.2.1 hB (hlt h.2.2.1), hold h.2.2.2.1 hB (hlt h.2.2.2.1), hold h.2.2.2.2.1 hB (hlt h.2.2.2.2.1), Nat.le_trans h.2.2.2.2.2 hB.size⟩
theorem keeps_of_below {A B : World} (h : Below A.heap.size A B) : KeepsOthers A B := ⟨h.size, fun k o hk _ => (h.block k (hlt hk)).trans hk⟩
def JI (w : World) (sl : Value) (p s : Int) (l : List S38) (pre : List (PairIn l.length)) (W : World) : Prop :=
  ((∀ x ∈ pre, jRef p s l x.1 = false) ∧ JSt w.heap.size sl p s 0 0 0 (if pre.any (fun x => jUnd p s l x.1) then 0 else 1) W) ∧ Below w.heap.size w W
def JIx (w : World) (sl : Value) (p s : Int) (l : List S38) (c : Code) (pre : List (PairIn l.length)) (W : World) : Prop :=
  (c = .ret ∧ ∃ ini last, pre = ini ++ [last] ∧ (∀ x ∈ ini, jRef p s l x.1 = false) ∧ jRef p s l last.1 = true ∧ ∃ z, JSt w.heap.size sl p s (-1) last.1.1 last.1.2 z W) ∧ Below w.heap.size w W
set_option maxRecDepth 100000 in
set_option maxHeartbeats 4000000 in
theorem figure_tolerance_judge.calls (a0_0 : Int) (a0_1 : Int) (A1 : Option Addr) (c1 : Nat) (l1 : List (S38)) (r1 : Int) (r2 : Int) (r3 : Int) (w : World) (hr1 : Kd.C k38 w A1 l1.length l1) (hc1 : l1.length ≤ c1) (h : figure_tolerance_judge.f a0_0 a0_1 l1 = some (r1, r2, r3)) :
    Calls Try.prog 103 #[.agg #[.int .i64 a0_0, .int .i64 a0_1], .slice A1 l1.length c1] w fun e w' => e = .returned (.tuple #[.int .i64 r1, .agg #[.int .i64 r2, .int .i64 r3]]) ∧ Below w.heap.size w w' := by
  have hu118 := Try.underlying118
  have hu48 := Try.underlying48
  have hz : l1.length ≤ 1000 := by
    unfold figure_tolerance_judge.f at h; split at h
    · assumption
    · cases h
  refine (callsIn_wide (n := 3)).1 ?_
  refine callsIn_of_wp_marks Try.func103 rfl trivial ?_ rfl
  simp only [Try.ntmps103, List.size_toArray, List.length_cons, List.length_nil, Nat.reduceAdd, Nat.reduceSub, Array.replicate_succ, Array.replicate_zero, List.push_toArray, List.append_toArray, List.nil_append, List.cons_append]
  gi_wp2_with (refine ⟨trivial, ?_⟩; gi_at_call 68; refine (pairs_in Fence.wide _ trivial rfl _ _).mono ?_; rintro e w' ⟨rfl, rfl⟩)
  generalize hw6 : World.alloc _ (Obj.cells #[Value.int IntKind.i64 (l1.length : Int)] 3) = w6
  obtain ⟨hs6, hJ6, hz6, hB6⟩ : w6.heap.size = w.heap.size + 6 ∧ JSt w.heap.size (.slice A1 l1.length c1) a0_0 a0_1 0 0 0 1 w6 ∧ w6.heap[w.heap.size + 1 + 1 + 1 + 1 + 1]? = some (.cells #[.int .i64 l1.length] 3 (0, 0)) ∧ Below w.heap.size w w6 := by
    subst hw6
    refine ⟨by simp, ?_, ?_, ?_⟩
    · refine ⟨?_, ?_, ?_, ?_, ?_, by simp only [World.size_alloc]; omega⟩ <;> (simp only [alloc_at, World.size_alloc, ↓reduceIte]; (repeat' split) <;> (first | rfl | (exfalso; omega)))
    · simp only [alloc_at, World.size_alloc, ↓reduceIte]
    · exact (((((((Below.refl _ w).alloc (Nat.le_refl _) _).alloc (by simp) _).alloc (by simp; omega) _).alloc (by simp; omega) _).alloc (by simp; omega) _).alloc (by simp; omega) _)
  clear hw6
  have fin : ∀ (W : World) (r x y : Int) (a : Act) (D : Nat), w.heap.size ≤ D → W.heap[w.heap.size + 1 + 1]? = some (.cells #[.int .i64 r] 3 (0, 0)) → W.heap[w.heap.size + 1 + 1 + 1]? = some (.cells #[.int .i64 x, .int .i64 y] 48 (0, 0)) → W.heap[D]? = some (.deferred (some [])) → Below w.heap.size w W →
      a.defers = [{ target := .collected D, args := #[] }] → a.tmps[4]? = some (.pointer (some ⟨w.heap.size + 1 + 1, 0, none⟩)) → a.tmps[5]? = some (.pointer (some ⟨w.heap.size + 1 + 1 + 1, 0, none⟩)) → (r1, r2, r3) = (r, x, y) →
      bodyPostM Fence.wide 3 Try.prog Try.f103 (fun e w' => e = .returned (.tuple #[.int .i64 r1, .agg #[.int .i64 r2, .int .i64 r3]]) ∧ Below w.heap.size w w') .ret a W := by
    rintro W r x y ⟨tm, df⟩ D hD k2 k3 hK hB rfl h4 h5 he
    cases he
    dsimp only at h4 h5
    refine ⟨by simp, .inl ⟨_, _, rfl, run_takeDeferred hK, ?_⟩⟩
    have q2 := cell_kept (hcell k2 0) (grownBy_putObj' _ D (.deferred none)) (fun r e => by cases e; exact ⟨_, hK, rfl⟩)
    have q3 := cell_kept (hcell k3 0) (grownBy_putObj' _ D (.deferred none)) (fun r e => by cases e; exact ⟨_, hK, rfl⟩)
    have q31 := cell_kept (hcell k3 1) (grownBy_putObj' _ D (.deferred none)) (fun r e => by cases e; exact ⟨_, hK, rfl⟩)
    refine ⟨.tuple #[.int .i64 r1, .agg #[.int .i64 r2, .int .i64 r3]], ?_, rfl, hB.trans (belowK_b (w := w) (Nat.le_refl _) W D _ _ hD hK rfl rfl)⟩
    simp [results, Try.f103, go_sem, q2, q3, q31, h4, h5, hu48]
  refine wpIn_rangeFunc_ownG rfl (by omega) (gf := 106) (lb := #[.pointer (some ⟨w.heap.size + 1 + 1 + 1 + 1 + 1, 0, none⟩)]) rfl trivial (enters_of Try.func106 (by kernel_rfl) rfl)
    (pairs_stops Fence.wide _ trivial rfl (by omega) (w.heap.size + 1 + 1 + 1 + 1 + 1) l1.length hz w6 (by omega) ((hcell hz6 0).trans rfl)) KeepAt.trans (keepAt_b (by omega)) (Below.refl _ _) (fun _ => rfl)
    (JI w (.slice A1 l1.length c1) a0_0 a0_1 l1) (JIx w (.slice A1 l1.length c1) a0_0 a0_1 l1)
    (OwnFrom.and (Own.from (fun s A B row hs hg hr => ⟨hs.1, hs.2.grown hg hr⟩) _) (ownFrom_below (Nat.le_refl _) (by omega)))
    (fun c => OwnFrom.and (Own.from (fun s A B row hs hg hr => by obtain ⟨hc, ini, last, e1, e2, e3, z, e4⟩ := hs; exact ⟨hc, ini, last, e1, e2, e3, z, e4.grown hg hr⟩) _) (ownFrom_below (Nat.le_refl _) (by omega)))
    ⟨⟨by simp, hJ6⟩, hB6⟩
    (fun x => { tmps := #[.agg #[.int .i64 a0_0, .int .i64 a0_1], .slice A1 l1.length c1, .pointer (some ⟨w.heap.size, 0, none⟩), .pointer (some ⟨w.heap.size + 1, 0, none⟩), .pointer (some ⟨w.heap.size + 1 + 1, 0, none⟩), .pointer (some ⟨w.heap.size + 1 + 1 + 1, 0, none⟩), .pointer (some ⟨w.heap.size + 1 + 1 + 1 + 1, 0, none⟩), .int .i64 (x.1.1 : Int), .int .i64 (x.1.2 : Int), undef, .slice A1 l1.length c1, .int .i64 l1.length, .func (.func 106) #[] #[.pointer (some ⟨w.heap.size + 1 + 1 + 1 + 1 + 1, 0, none⟩)], .int .i64 (x.1.1 : Int), .int .i64 (x.1.2 : Int), undef, undef, undef, undef, undef, undef, undef, undef, undef, undef, undef, undef, undef, undef, undef, undef, undef, undef, undef, undef, undef, undef, undef, undef, undef, undef, undef, undef, undef, undef, undef, undef, undef, undef, undef], defers := [] }) ?assign ?body ?done ?stop
  case assign =>
    intro l x W K hK
    gi_wp2
    exact hK
  case body =>
    rintro l pre ⟨⟨x1, x2⟩, hx1, hx2⟩ W ⟨⟨hp, hJ⟩, hB⟩ _
    dsimp only at hx1 hx2
    obtain ⟨k0, k1, k2, k3, k4, k6⟩ := hJ
    have c0 := (hcell k0 0).trans rfl
    have c01 := (hcell k0 1).trans rfl
    have c1' := (hcell k1 0).trans rfl
    gi_wp2_with (refine ⟨trivial, ?_⟩; gi_at_call 104; refine (CallsIn.inRound l (callsIn_wide.2 (figure_tolerance_bound.calls _ _ _ _ _ _ (bd_f a0_0 a0_1 x1 x2)))).mono ?_; rintro e W2 ⟨rfl, hB2⟩; have hJ2 := JSt.below ⟨k0, k1, k2, k3, k4, k6⟩ hB2)
    have hbd : jRef a0_0 a0_1 l1 (x1, x2) = decide (bd a0_0 a0_1 x1 x2 < wrap64 ((rd_T38 l1 x1).f0 - (rd_T38 l1 x2).f1)) := rfl
    have hbu : jUnd a0_0 a0_1 l1 (x1, x2) = decide (bd a0_0 a0_1 x1 x2 < wrap64 ((rd_T38 l1 x1).f1 - (rd_T38 l1 x2).f0)) := rfl
    generalize hbe : bd a0_0 a0_1 x1 x2 = bb at *
    have hK2 := (keeps_of_below hB2).from w6.heap.size
    have hBn := hB2.mono hB.size
    have hz5 : w.heap.size + 1 + 1 + 1 + 1 + 1 < W.heap.size := by omega
    have hk5 : KeepAt (w.heap.size + 1 + 1 + 1 + 1 + 1) W W2 := hB2.block _ hz5
    have hBw : Below w.heap.size w W2 := hB.trans hBn
    clear k0 k1 k2 k3 k4 k6 c0 c01 c1' hJ6
    obtain ⟨k0, k1, k2, k3, k4, k6⟩ := hJ2
    have c1' := (hcell k1 0).trans rfl
    obtain ⟨ad, hA, hi0, hi1⟩ := at_T38 (Kd.C_below hr1 hBw) x1 (by omega) (by omega)
    obtain ⟨ad', hA', hk0, hk1⟩ := at_T38 (Kd.C_below hr1 hBw) x2 (by omega) (by omega)
    obtain rfl : ad = ad' := by rw [hA] at hA'; exact Option.some.inj hA'
    subst hA
    simp only [Int.toNat_natCast] at hi0 hi1 hk0 hk1
    have d4 : W2.cell? ⟨w.heap.size + 1 + 1 + 1 + 1, 0, none⟩ = some (.int .i64 (if pre.any (fun x => jUnd a0_0 a0_1 l1 x.1) then 0 else 1)) := hcell k4 0
    have e4 : W2.frozen? ⟨w.heap.size + 1 + 1 + 1 + 1, 0, none⟩ = false := hfro k4 0
    (refine wpIn_region_quiet_lit_r (by kernel_rfl) (by kernel_rfl) (by kernel_rfl) ?_; (repeat (gi_big_quiet_step (fail))); refine wpQuietIn_nil ?_; intro _ hw'; obtain ⟨nq, hw''⟩ := hw'; subst hw'')
    replace k2 : (W2.drewN nq).heap[w.heap.size + 1 + 1]? = _ := k2
    replace k3 : (W2.drewN nq).heap[w.heap.size + 1 + 1 + 1]? = _ := k3
    replace k4 : (W2.drewN nq).heap[w.heap.size + 1 + 1 + 1 + 1]? = _ := k4
    have d2 := (hcell k2 0).trans rfl
    have e2 := hfro k2 0
    have k3' : ∀ v, ((W2.drewN nq).setCell ⟨w.heap.size + 1 + 1, 0, none⟩ v).heap[w.heap.size + 1 + 1 + 1]? = _ := fun v => (Deep.blk_setCell_other _ _ _ _ (by dsimp only; omega)).trans k3
    have d3 := fun v => (hcell (k3' v) 0).trans rfl
    have e3 := fun v => hfro (k3' v) 0
    have d31 := fun v v' => (hcell (hset (k3' v) 0 v') 1).trans rfl
    have e31 := fun v v' => hfro (hset (k3' v) 0 v') 1
    gi_wp2
    · have hr : jRef a0_0 a0_1 l1 (x1, x2) = true := by rw [hbd]; exact decide_eq_true (by assumption)
      try rw [← hs6]
      refine ⟨hK2.trans (KeepsFrom.trans (Y := W2.drewN nq) ⟨Nat.le_refl _, fun _ _ _ h _ => h⟩ ((KeepsOthers.setCell _ _ _).trans ((KeepsOthers.setCell _ _ _).trans (KeepsOthers.setCell _ _ _)) |>.from _)), ⟨rfl, pre, ⟨(x1, x2), hx1, hx2⟩, rfl, hp, hr, (if pre.any (fun x => jUnd a0_0 a0_1 l1 x.1) then 0 else 1), ?_, ?_, ?_, ?_, ?_, by simpa using k6⟩, ?_⟩
      · rw [Deep.blk_setCell_other _ _ _ _ (by dsimp only; omega), Deep.blk_setCell_other _ _ _ _ (by dsimp only; omega), Deep.blk_setCell_other _ _ _ _ (by dsimp only; omega)]; exact k0
      · rw [Deep.blk_setCell_other _ _ _ _ (by dsimp only; omega), Deep.blk_setCell_other _ _ _ _ (by dsimp only; omega), Deep.blk_setCell_other _ _ _ _ (by dsimp only; omega)]; exact k1
      · rw [Deep.blk_setCell_other _ _ _ _ (by dsimp only; omega), Deep.blk_setCell_other _ _ _ _ (by dsimp only; omega)]; exact hset k2 0 _
      · exact hset (hset (k3' _) 0 _) 1 _
      · rw [Deep.blk_setCell_other _ _ _ _ (by dsimp only; omega), Deep.blk_setCell_other _ _ _ _ (by dsimp only; omega), Deep.blk_setCell_other _ _ _ _ (by dsimp only; omega)]; exact k4
      · exact (((pw_below_drewN hBw nq).setCell (by simp; omega) _).setCell (by simp; omega) _).setCell (by simp; omega) _
    · have hr : jRef a0_0 a0_1 l1 (x1, x2) = false := by rw [hbd]; exact decide_eq_false (by omega)
      (refine wpIn_region_quiet_lit_r (by kernel_rfl) (by kernel_rfl) (by kernel_rfl) ?_; (repeat (gi_big_quiet_step (fail))); refine wpQuietIn_nil ?_; intro _ hw'; obtain ⟨nq, hw''⟩ := hw'; subst hw'')
      gi_wp2
      · have hu : jUnd a0_0 a0_1 l1 (x1, x2) = true := by rw [hbu]; exact decide_eq_true (by assumption)
        try rw [← hs6]
        refine ⟨hK2.trans (KeepsFrom.trans (Y := W2.drewN _) ⟨Nat.le_refl _, fun _ _ _ h _ => h⟩ ((KeepsOthers.setCell _ _ _).from _)), (hk5.trans (Deep.blk_setCell_other _ _ _ _ (by dsimp only; omega))), ⟨?_, ?_, ?_, ?_, ?_, ?_, by simpa using k6⟩, ?_⟩
        · intro y hy
          rcases List.mem_append.1 hy with hy | hy
          · exact hp y hy
          · rw [List.mem_singleton.1 hy]; exact hr
        · rw [Deep.blk_setCell_other _ _ _ _ (by dsimp only; omega)]; exact k0
        · rw [Deep.blk_setCell_other _ _ _ _ (by dsimp only; omega)]; exact k1
        · rw [Deep.blk_setCell_other _ _ _ _ (by dsimp only; omega)]; exact k2
        · rw [Deep.blk_setCell_other _ _ _ _ (by dsimp only; omega)]; exact k3
        · rw [List.any_append]
          simp only [List.any_cons, hu, Bool.true_or, Bool.or_true, if_true]
          exact hset k4 0 _
        · exact (pw_below_drewN hBw _).setCell (by simp; omega) _
      · have hu : jUnd a0_0 a0_1 l1 (x1, x2) = false := by rw [hbu]; exact decide_eq_false (by omega)
        try rw [← hs6]
        refine ⟨hK2.trans ⟨Nat.le_refl _, fun _ _ _ h _ => h⟩, hk5, ⟨?_, k0, k1, k2, k3, ?_, k6⟩, pw_below_drewN (pw_below_drewN hBw _) _⟩
        · intro y hy
          rcases List.mem_append.1 hy with hy | hy
          · exact hp y hy
          · rw [List.mem_singleton.1 hy]; exact hr
        · rw [List.any_append]
          simp only [List.any_cons, List.any_nil, hu, Bool.or_false]
          exact k4
  case done =>
    rintro D ys W hD hys ⟨⟨hne, hJ⟩, hB⟩ hK
    have hfind : (pairsL l1.length).find? (jRef a0_0 a0_1 l1) = none := by
      rw [← hys, List.find?_eq_none]
      intro x hx
      obtain ⟨y, hy, rfl⟩ := List.mem_map.1 hx
      rw [hne y hy]; simp
    have hany : (pairsL l1.length).any (jUnd a0_0 a0_1 l1) = ys.any (fun x => jUnd a0_0 a0_1 l1 x.1) := by rw [← hys, List.any_map]; rfl
    unfold figure_tolerance_judge.f at h
    rw [if_pos hz, hfind, hany] at h
    obtain ⟨k0, k1, k2, k3, k4, k6⟩ := hJ
    have d4 : W.cell? ⟨w.heap.size + 1 + 1 + 1 + 1, 0, none⟩ = some (.int .i64 (if ys.any (fun x => jUnd a0_0 a0_1 l1 x.1) then 0 else 1)) := hcell k4 0
    have d2 : W.cell? ⟨w.heap.size + 1 + 1, 0, none⟩ = some (.int .i64 0) := hcell k2 0
    have e2 := hfro k2 0
    have k3' : ∀ v, (W.setCell ⟨w.heap.size + 1 + 1, 0, none⟩ v).heap[w.heap.size + 1 + 1 + 1]? = _ := fun v => (Deep.blk_setCell_other _ _ _ _ (by dsimp only; omega)).trans k3
    have d3 := fun v => (hcell (k3' v) 0).trans rfl
    have e3 := fun v => hfro (k3' v) 0
    have d31 := fun v v' => (hcell (hset (k3' v) 0 v') 1).trans rfl
    have e31 := fun v v' => hfro (hset (k3' v) 0 v') 1
    cases hb : ys.any (fun x => jUnd a0_0 a0_1 l1 x.1)
    · rw [hb] at h d4
      simp only [Bool.false_eq_true, if_false] at d4
      gi_wp2
      refine fin _ 1 0 0 _ D (by omega) ((Deep.blk_setCell_other _ _ _ _ (by dsimp only; omega)).trans ((Deep.blk_setCell_other _ _ _ _ (by dsimp only; omega)).trans (hset k2 0 _))) (hset (hset (k3' _) 0 _) 1 _) ((KeepsOthers.setCell _ _ _).trans ((KeepsOthers.setCell _ _ _).trans (KeepsOthers.setCell _ _ _)) |>.same D _ hK rfl) (((hB.setCell (by simp; omega) _).setCell (by simp; omega) _).setCell (by simp; omega) _) rfl rfl rfl ?_
      simpa using h.symm
    · rw [hb] at h d4
      simp only [if_true] at d4
      gi_wp2
      refine fin _ 0 0 0 _ D (by omega) ((Deep.blk_setCell_other _ _ _ _ (by dsimp only; omega)).trans ((Deep.blk_setCell_other _ _ _ _ (by dsimp only; omega)).trans (hset k2 0 _))) (hset (hset (k3' _) 0 _) 1 _) ((KeepsOthers.setCell _ _ _).trans ((KeepsOthers.setCell _ _ _).trans (KeepsOthers.setCell _ _ _)) |>.same D _ hK rfl) (((hB.setCell (by simp; omega) _).setCell (by simp; omega) _).setCell (by simp; omega) _) rfl rfl rfl ?_
      simpa using h.symm
  case stop =>
    rintro D c pre W hD hpre ⟨⟨rfl, ini, last, e1, e2, e3, z, hJ⟩, hB⟩ hK
    gi_wp2
    obtain ⟨k0, k1, k2, k3, k4, k6⟩ := hJ
    refine fin _ _ _ _ _ D (by omega) k2 k3 hK hB rfl rfl rfl ?_
    have hfind : (pairsL l1.length).find? (jRef a0_0 a0_1 l1) = some last.1 := by
      obtain ⟨post, hpost⟩ := hpre
      rw [← hpost, e1, List.map_append, List.find?_append, List.find?_append, List.find?_eq_none.2]
      · simp [e3]
      · intro x hx
        obtain ⟨y, hy, rfl⟩ := List.mem_map.1 hx
        rw [e2 y hy]; simp
    unfold figure_tolerance_judge.f at h
    rw [if_pos hz, hfind] at h
    simpa using h.symm
end Go.Proofs.Ytdkahcolfcmmpaa.Pr
namespace Go.Proofs.Ytdkahcolfcmmpaa.Pr
open Go.RowKit Go.Proofs.YtdkahcolfcmmpaaW.PrintWords Go.Proofs.YtdkahcolfcmmpaaW.PrintLast Go.Proofs.YtdkahcolfcmmpaaW.PrintMore
attribute [local go_sem] max2_int min2_int max_two min_two max_three min_three max_four min_four   -- for this text's walks alone
set_option linter.unusedVariables false
set_option linter.unusedSimpArgs false
def figure_Judge.f (k : Nat) (l0 : List (S38)) (a1_0 : Int) (a1_1 : Int) : Option (Int × Int × Int × Int) := (figure_checkAll.f k l0 a1_0 a1_1).bind fun t189 => (if t189 = 0 then ((figure_tolerance_judge.f a1_0 a1_1 l0).bind fun bt190 => (some (bt190.1, bt190.2.1, bt190.2.2, 0))) else (some (0, 0, 0, t189)))
theorem figure_Judge.mono : ∀ a0 a1 a2 k, LeO (figure_Judge.f k a0 a1 a2) (figure_Judge.f (k + 1) a0 a1 a2) := by
 intro a0 a1 a2 k
 unfold figure_Judge.f
 repeat' first
   | (with_reducible exact figure_checkAll.mono _ _ _ _)
   | (with_reducible exact LeO.refl _)
   | (with_reducible exact LeO.none _)
   | (with_reducible refine LeO.ite ?_ ?_)
   | (with_reducible refine LeO.bind ?_ (fun _ => ?_))
   | exact figure_checkAll.mono _ _ _ _
   | exact LeO.none _
   | refine LeO.ite ?_ ?_
   | refine LeO.bind ?_ (fun _ => ?_)
set_option maxHeartbeats 8000000 in
set_option maxRecDepth 100000 in
theorem figure_Judge.calls (k : Nat) (A0 : Option Addr) (c0 : Nat) (l0 : List (S38)) (a1_0 : Int) (a1_1 : Int) (r1 : Int) (r2 : Int) (r3 : Int) (r4 : Int) (w : World) (hr0 : Kd.C k38 w A0 l0.length l0) (hc0 : l0.length ≤ c0) (h : figure_Judge.f k l0 a1_0 a1_1 = some (r1, r2, r3, r4)) :
  Calls Try.prog 59 #[.slice A0 l0.length c0, .agg #[.int .i64 a1_0, .int .i64 a1_1]] w fun e w' => e = .returned (.tuple #[.int .i64 r1, .agg #[.int .i64 r2, .int .i64 r3], .int .i64 r4]) ∧ Below w.heap.size w w' := by
 have hu59 := Try.underlying59
 have hu48 := Try.underlying48
 have hu118 := Try.underlying118
 have HR0 := Aside0.mk hr0
 have HC0 := Aside0.mk hc0
 clear hr0 hc0
 have HB := Aside0.mk (Below.refl w.heap.size w)
 have H : ((figure_checkAll.f k l0 a1_0 a1_1).bind fun t189 => (if t189 = 0 then ((figure_tolerance_judge.f a1_0 a1_1 l0).bind fun bt190 => (some (bt190.1, bt190.2.1, bt190.2.2, 0))) else (some (0, 0, 0, t189)))) = some (r1, r2, r3, r4) := h
 clear h
 replace H := Option.bind_eq_some_iff.mp H
 obtain ⟨t189, A30, H⟩ := H
 replace H : (if t189 = 0 then ((figure_tolerance_judge.f a1_0 a1_1 l0).bind fun bt190 => (some (bt190.1, bt190.2.1, bt190.2.2, 0))) else (some (0, 0, 0, t189))) = some (r1, r2, r3, r4) := H
 have A3 := Aside0.mk A30
 clear A30
 by_cases c4 : t189 = 0
 ·rw [if_pos c4] at H
  have c4b0 : (t189 == 0) = true := beq_iff_eq.mpr c4
  have c4b1 : (t189 != 0) = false := bne_eq_false_iff_eq.mpr c4
  clear c4
  replace H := Option.bind_eq_some_iff.mp H
  obtain ⟨⟨t190, t191, t192⟩, A50, H⟩ := H
  replace H : (some (t190, t191, t192, 0)) = some (r1, r2, r3, r4) := H
  have A5 := Aside0.mk A50
  clear A50
  simp only [Option.some.injEq, Prod.mk.injEq] at H
  obtain ⟨rfl, rfl, rfl, rfl⟩ := H
  go_enter Try.func59, Try.ntmps59
  try go_wp2_with (first | ((with_reducible refine gate_dst (N := 3) rfl ?_); refine box_event ?hg (N := 3) ?hd (cs := #[.int .i64 a1_0, .int .i64 a1_1]) (t := 59) ?hr ?_; (case hd => rfl); (case hg => rfl); (case hr => exact gr_); intro gb187 hg w6 hbox hb; have n0_ := Aside0.mk (below_step (hb_ HB) hb); have n1_ := Aside0.mk (hbox); have n2_ := Aside0.mk ((hz_ HB hg)); have n3_ := Aside0.mk ((hz_ HB hg)); clear HB; have HB := n0_; have BK187 := n1_; have GW187 := n2_; have GE187 := n3_; clear n0_ n1_ n2_ n3_; clear hb hbox hg) | ((with_reducible refine gate_dst (N := 5) rfl ?_); refine box_event ?hg (N := 5) ?hd (cs := #[.int .i64 0, .int .i64 0]) (t := 48) ?hr ?_; (case hd => rfl); (case hg => rfl); (case hr => exact gr_); intro gb188 hg w7 hbox hb; have n0_ := Aside0.mk (bb_ BK187 hb); have n1_ := Aside0.mk (below_step (hb_ HB) hb); have n2_ := Aside0.mk (hbox); have n3_ := Aside0.mk ((hz_ HB hg)); have n4_ := Aside0.mk ((hz_ HB hg)); have n5_ := Aside0.mk ((nl_ BK187 hg)); have n6_ := Aside0.mk ((ng_ BK187 hg)); clear BK187; clear HB; have BK187 := n0_; have HB := n1_; have BK188 := n2_; have GW188 := n3_; have GE188 := n4_; have NB187_188 := n5_; have NB188_187 := n6_; clear n0_ n1_ n2_ n3_ n4_ n5_ n6_; clear hb hbox hg; have hnb8 := NB187_188.out; have hnc8 := NB188_187.out; have hcz9_0 : w7.cell? ⟨gb187, 0, none⟩ = some (.int .i64 a1_0) := (blk_cell BK187.out 0).trans rfl; have hcz9_1 : w7.cell? ⟨gb187, 1, none⟩ = some (.int .i64 a1_1) := (blk_cell BK187.out 1).trans rfl; have hfz9_0 := blk_frozen BK187.out 0; have hfz9_1 := blk_frozen BK187.out 1) | ((with_reducible refine gate_callee (f := 102) rfl ?_); refine goesL_ (some 12) rfl rfl Try.func102 (by kernel_rfl) rfl #[.slice A0 l0.length c0, .agg #[.int .i64 a1_0, .int .i64 a1_1]] rfl ma_ ?_; (with_reducible refine (figure_checkAll.calls k _ _ l0 a1_0 a1_1 t189 _ ?side1 ?side2 A3.out).mono ?_); (case side1 => repeat (first | exact (Kd.C_below HR0.out HB.out) | (with_reducible refine Kd.C_alloc ?_ _) | (with_reducible refine Kd.C_drewN ?_ _) | (with_reducible refine Kd.C_drew ?_))); (case side2 => exact HC0.out); rintro e w10 ⟨rfl, hb⟩; refine ⟨_, rfl, ?_⟩; have n0_ := Aside0.mk (bb_ BK187 hb); have n1_ := Aside0.mk (bb_ BK188 hb); have n2_ := Aside0.mk (below_step (hb_ HB) hb); clear BK187; clear BK188; clear HB; have BK187 := n0_; have BK188 := n1_; have HB := n2_; clear n0_ n1_ n2_; (try clear hb); (try clear hb2); (try clear hk); (try clear hi); have hcz11_0 : w10.cell? ⟨gb187, 0, none⟩ = some (.int .i64 a1_0) := (blk_cell BK187.out 0).trans rfl; have hcz11_1 : w10.cell? ⟨gb187, 1, none⟩ = some (.int .i64 a1_1) := (blk_cell BK187.out 1).trans rfl; have hfz11_0 := blk_frozen BK187.out 0; have hfz11_1 := blk_frozen BK187.out 1) | ((with_reducible refine gate_callee (f := 103) rfl ?_); refine goesL_ (some 21) rfl rfl Try.func103 (by kernel_rfl) rfl #[.agg #[.int .i64 a1_0, .int .i64 a1_1], .slice A0 l0.length c0] rfl ma_ ?_; (with_reducible refine (figure_tolerance_judge.calls a1_0 a1_1 _ _ l0 t190 t191 t192 _ ?side1 ?side2 A5.out).mono ?_); (case side1 => repeat (first | exact (Kd.C_below HR0.out HB.out) | (with_reducible refine Kd.C_alloc ?_ _) | (with_reducible refine Kd.C_drewN ?_ _) | (with_reducible refine Kd.C_drew ?_))); (case side2 => exact HC0.out); rintro e w12 ⟨rfl, hb⟩; refine ⟨_, rfl, ?_⟩; have n0_ := Aside0.mk (bb_ BK187 hb); have n1_ := Aside0.mk (bb_ BK188 hb); have n2_ := Aside0.mk (below_step (hb_ HB) hb); clear BK187; clear BK188; clear HB; have BK187 := n0_; have BK188 := n1_; have HB := n2_; clear n0_ n1_ n2_; (try clear hb); (try clear hb2); (try clear hk); (try clear hi)) | ((with_reducible refine gate_dst (N := 9) rfl ?_); refine box_event ?hg (N := 9) ?hd (cs := #[.int .i64 0, .int .i64 0]) (t := 48) ?hr ?_; (case hd => rfl); (case hg => rfl); (case hr => exact gr_); intro gb193 hg w13 hbox hb; have n0_ := Aside0.mk (bb_ BK187 hb); have n1_ := Aside0.mk (bb_ BK188 hb); have n2_ := Aside0.mk (below_step (hb_ HB) hb); have n3_ := Aside0.mk (hbox); have n4_ := Aside0.mk ((hz_ HB hg)); have n5_ := Aside0.mk ((hz_ HB hg)); have n6_ := Aside0.mk ((nl_ BK187 hg)); have n7_ := Aside0.mk ((ng_ BK187 hg)); have n8_ := Aside0.mk ((nl_ BK188 hg)); have n9_ := Aside0.mk ((ng_ BK188 hg)); clear BK187; clear BK188; clear HB; have BK187 := n0_; have BK188 := n1_; have HB := n2_; have BK193 := n3_; have GW193 := n4_; have GE193 := n5_; have NB187_193 := n6_; have NB193_187 := n7_; have NB188_193 := n8_; have NB193_188 := n9_; clear n0_ n1_ n2_ n3_ n4_ n5_ n6_ n7_ n8_ n9_; clear hb hbox hg; have hnb14 := NB193_187.out; have hnc14 := NB187_193.out; have hnb15 := NB193_188.out; have hnc15 := NB188_193.out; have hcz16_0 : w13.cell? ⟨gb193, 0, none⟩ = some (.int .i64 0) := (blk_cell BK193.out 0).trans rfl; have hcz16_1 : w13.cell? ⟨gb193, 1, none⟩ = some (.int .i64 0) := (blk_cell BK193.out 1).trans rfl; have hfz16_0 := blk_frozen BK193.out 0; have hfz16_1 := blk_frozen BK193.out 1))
  have n0_ : Aside0 (((w13.setCell ⟨gb193, 0, none⟩ (.int .i64 t191)).setCell ⟨gb193, 1, none⟩ (.int .i64 t192)).heap[gb187]? = some (.cells #[.int .i64 a1_0, .int .i64 a1_1] 59 (0, 0))) := ⟨by (with_reducible repeat (first | refine blk_drewN ?_ _ | refine blk_drew ?_ | refine blk_alloc ?_ _)); refine blk_far ?_ NB187_193.out _; (with_reducible repeat (first | refine blk_drewN ?_ _ | refine blk_drew ?_ | refine blk_alloc ?_ _)); refine blk_far ?_ NB187_193.out _; (with_reducible repeat (first | refine blk_drewN ?_ _ | refine blk_drew ?_ | refine blk_alloc ?_ _)); exact BK187.out⟩
  have n1_ : Aside0 (((w13.setCell ⟨gb193, 0, none⟩ (.int .i64 t191)).setCell ⟨gb193, 1, none⟩ (.int .i64 t192)).heap[gb188]? = some (.cells #[.int .i64 0, .int .i64 0] 48 (0, 0))) := ⟨by (with_reducible repeat (first | refine blk_drewN ?_ _ | refine blk_drew ?_ | refine blk_alloc ?_ _)); refine blk_far ?_ NB188_193.out _; (with_reducible repeat (first | refine blk_drewN ?_ _ | refine blk_drew ?_ | refine blk_alloc ?_ _)); refine blk_far ?_ NB188_193.out _; (with_reducible repeat (first | refine blk_drewN ?_ _ | refine blk_drew ?_ | refine blk_alloc ?_ _)); exact BK188.out⟩
  have n2_ : Aside0 (((w13.setCell ⟨gb193, 0, none⟩ (.int .i64 t191)).setCell ⟨gb193, 1, none⟩ (.int .i64 t192)).heap[gb193]? = some (.cells #[.int .i64 t191, .int .i64 t192] 48 (0, 0))) := ⟨by (with_reducible repeat (first | refine blk_drewN ?_ _ | refine blk_drew ?_ | refine blk_alloc ?_ _)); refine blk_put (cs := #[.int .i64 t191, .int .i64 0]) ?_ 1 _ rfl; (with_reducible repeat (first | refine blk_drewN ?_ _ | refine blk_drew ?_ | refine blk_alloc ?_ _)); refine blk_put (cs := #[.int .i64 0, .int .i64 0]) ?_ 0 _ rfl; (with_reducible repeat (first | refine blk_drewN ?_ _ | refine blk_drew ?_ | refine blk_alloc ?_ _)); exact BK193.out⟩
  have n3_ : Aside0 (Below w.heap.size w ((w13.setCell ⟨gb193, 0, none⟩ (.int .i64 t191)).setCell ⟨gb193, 1, none⟩ (.int .i64 t192))) := ⟨by repeat (first | (with_reducible first | exact HB.out | apply below_alloc | apply pw_below_drewN | apply below_drew1 | refine below_set ?_ GE187.out | refine below_set ?_ GE188.out | refine below_set ?_ GE193.out) | exact HB.out)⟩
  (try clear BK187)
  (try clear BK188)
  (try clear BK193)
  (try clear HB)
  generalize ((w13.setCell ⟨gb193, 0, none⟩ (.int .i64 t191)).setCell ⟨gb193, 1, none⟩ (.int .i64 t192)) = w17 at n0_ n1_ n2_ n3_ ⊢
  have BK187 := n0_
  have BK188 := n1_
  have BK193 := n2_
  have HB := n3_
  clear n0_ n1_ n2_ n3_
  have n0_ := Aside0.mk (blk_drew BK187.out)
  have n1_ := Aside0.mk (blk_drew BK188.out)
  have n2_ := Aside0.mk (blk_drew BK193.out)
  have n3_ := Aside0.mk (below_drew1 HB.out)
  clear BK187
  clear BK188
  clear BK193
  clear HB
  have BK187 := n0_
  have BK188 := n1_
  have BK193 := n2_
  have HB := n3_
  clear n0_ n1_ n2_ n3_
  refine start_ (n := 5) (S := fun w' => w'.cell? ⟨gb193, 0, none⟩ = some (.int .i64 t191) ∧ w'.cell? ⟨gb193, 1, none⟩ = some (.int .i64 t192)) (ds := []) #[false, false, false, false, false] (by kernel_rfl) rfl rfl ⟨(blk_cell BK193.out 0).trans rfl, (blk_cell BK193.out 1).trans rfl⟩ (fun hHeld => ?_)
  generalize w17.drew = w18 at BK187 BK188 BK193 HB hHeld ⊢
  refine pure_ (i := 0) (N := some 24) (v := ?_) (a' := ?_) #[true, false, false, false, false] rfl rfl (by kernel_rfl) (fun _ _ _ h => h) (Or.inl ⟨by rfl, ?_⟩) ?_ ?_
  rotate_left
  ·intro w'; go_simp; with_reducible rfl
  rotate_left
  ·simp only [Act.put, List.setIfInBounds_toArray, List.set_cons_zero, List.set_cons_succ, i64_w, i32_w]; rfl
  refine pure_ (i := 2) (N := some 4) (v := ?_) (a' := ?_) #[true, false, true, false, false] rfl rfl (by kernel_rfl) (fun _ _ _ h => h) (Or.inl ⟨by rfl, ?_⟩) ?_ ?_
  rotate_left
  ·intro w'; go_simp; with_reducible rfl
  rotate_left
  ·simp only [Act.put, List.setIfInBounds_toArray, List.set_cons_zero, List.set_cons_succ, i64_w, i32_w]; rfl
  refine take_ (i := 1) (N := some 25) (v := ?_) (a' := ?_) #[true, true, true, false, false] rfl rfl (by kernel_rfl) (fun _ _ _ h => h) (Or.inl ⟨by rfl, ?_⟩) hHeld ?_ ?_
  rotate_left
  ·rintro w' ⟨s0, s1⟩; go_simp; with_reducible rfl
  rotate_left
  ·simp only [Act.put, List.setIfInBounds_toArray, List.set_cons_zero, List.set_cons_succ, i64_w, i32_w]; rfl
  refine one_ (i := 3) (N := none) #[true, true, true, true, false] rfl rfl (by kernel_rfl) di_ (fun K hK => ?_)
  have hs19 : w18.cell? ⟨gb188, 0, none⟩ = some (.int .i64 0) := (blk_cell BK188.out 0).trans rfl
  have hfs19 := blk_frozen BK188.out 0
  have hns19_0 := NB187_188.out
  have hns19_2 := NB193_188.out
  have hms19_0 := NB188_187.out
  have hms19_2 := NB188_193.out
  have hs20 : w18.cell? ⟨gb188, 1, none⟩ = some (.int .i64 0) := (blk_cell BK188.out 1).trans rfl
  have hfs20 := blk_frozen BK188.out 1
  have hns20_0 := NB187_188.out
  have hns20_2 := NB193_188.out
  have hms20_0 := NB188_187.out
  have hms20_2 := NB188_193.out
  refine skip_ (w1 := ?_) (by rfl) rfl ?_ ?_
  rotate_left
  ·go_simp
   rfl
  refine hK.out _ _ ⟨((cell_far (p := ⟨gb188, _, none⟩) NB193_188.out _).trans (((cell_far (p := ⟨gb188, _, none⟩) NB193_188.out _).trans (hHeld.1)))), ((cell_far (p := ⟨gb188, _, none⟩) NB193_188.out _).trans (((cell_far (p := ⟨gb188, _, none⟩) NB193_188.out _).trans (hHeld.2))))⟩ (fun hHeld => ?_)
  clear hK K
  refine pure_ (i := 4) (N := some 6) (v := ?_) (a' := ?_) #[true, true, true, true, true] rfl rfl (by kernel_rfl) (fun _ _ _ h => h) (Or.inl ⟨by rfl, ?_⟩) ?_ ?_
  rotate_left
  ·intro w'; go_simp; with_reducible rfl
  rotate_left
  ·simp only [Act.put, List.setIfInBounds_toArray, List.set_cons_zero, List.set_cons_succ, i64_w, i32_w]; rfl
  refine done_ (by kernel_rfl) ?_
  try go_wp2
  refine bodyPost_ret (results_list (rs := [.tmp 4, .cell 5 48, .tmp 6]) rfl (by simp) (.tmp (.cell gb188 48 #[.int .i64 t191, .int .i64 t192] (0, 0) _ rfl (by (with_reducible repeat (first | refine blk_drewN ?_ _ | refine blk_drew ?_ | refine blk_alloc ?_ _)); refine blk_put (cs := #[.int .i64 t191, .int .i64 0]) ?_ 1 _ rfl; (with_reducible repeat (first | refine blk_drewN ?_ _ | refine blk_drew ?_ | refine blk_alloc ?_ _)); refine blk_put (cs := #[.int .i64 0, .int .i64 0]) ?_ 0 _ rfl; (with_reducible repeat (first | refine blk_drewN ?_ _ | refine blk_drew ?_ | refine blk_alloc ?_ _)); exact BK188.out) Try.underlying48 rfl (by kernel_rfl) (.tmp .nil)))) rfl ?_
  exact ⟨by first | rfl | (simp [errW_none, errW_some] <;> rfl) | (simp [*, errW_none, errW_some] <;> rfl), by repeat (first | (with_reducible first | exact HB.out | apply below_alloc | apply pw_below_drewN | apply below_drew1 | refine below_set ?_ GE187.out | refine below_set ?_ GE188.out | refine below_set ?_ GE193.out) | exact HB.out)⟩
 ·rw [if_neg c4] at H
  have c4b0 : (t189 == 0) = false := beq_eq_false_iff_ne.mpr c4
  have c4b1 : (t189 != 0) = true := bne_iff_ne.mpr c4
  simp only [Option.some.injEq, Prod.mk.injEq] at H
  obtain ⟨rfl, rfl, rfl, rfl⟩ := H
  go_enter Try.func59, Try.ntmps59
  go_wp2_with (first | ((with_reducible refine gate_dst (N := 3) rfl ?_); refine box_event ?hg (N := 3) ?hd (cs := #[.int .i64 a1_0, .int .i64 a1_1]) (t := 59) ?hr ?_; (case hd => rfl); (case hg => rfl); (case hr => exact gr_); intro gb187 hg w21 hbox hb; have n0_ := Aside0.mk (below_step (hb_ HB) hb); have n1_ := Aside0.mk (hbox); have n2_ := Aside0.mk ((hz_ HB hg)); have n3_ := Aside0.mk ((hz_ HB hg)); clear HB; have HB := n0_; have BK187 := n1_; have GW187 := n2_; have GE187 := n3_; clear n0_ n1_ n2_ n3_; clear hb hbox hg) | ((with_reducible refine gate_dst (N := 5) rfl ?_); refine box_event ?hg (N := 5) ?hd (cs := #[.int .i64 0, .int .i64 0]) (t := 48) ?hr ?_; (case hd => rfl); (case hg => rfl); (case hr => exact gr_); intro gb188 hg w22 hbox hb; have n0_ := Aside0.mk (bb_ BK187 hb); have n1_ := Aside0.mk (below_step (hb_ HB) hb); have n2_ := Aside0.mk (hbox); have n3_ := Aside0.mk ((hz_ HB hg)); have n4_ := Aside0.mk ((hz_ HB hg)); have n5_ := Aside0.mk ((nl_ BK187 hg)); have n6_ := Aside0.mk ((ng_ BK187 hg)); clear BK187; clear HB; have BK187 := n0_; have HB := n1_; have BK188 := n2_; have GW188 := n3_; have GE188 := n4_; have NB187_188 := n5_; have NB188_187 := n6_; clear n0_ n1_ n2_ n3_ n4_ n5_ n6_; clear hb hbox hg; have hnb23 := NB187_188.out; have hnc23 := NB188_187.out; have hcz24_0 : w22.cell? ⟨gb187, 0, none⟩ = some (.int .i64 a1_0) := (blk_cell BK187.out 0).trans rfl; have hcz24_1 : w22.cell? ⟨gb187, 1, none⟩ = some (.int .i64 a1_1) := (blk_cell BK187.out 1).trans rfl; have hfz24_0 := blk_frozen BK187.out 0; have hfz24_1 := blk_frozen BK187.out 1) | ((with_reducible refine gate_callee (f := 102) rfl ?_); refine goesL_ (some 12) rfl rfl Try.func102 (by kernel_rfl) rfl #[.slice A0 l0.length c0, .agg #[.int .i64 a1_0, .int .i64 a1_1]] rfl ma_ ?_; (with_reducible refine (figure_checkAll.calls k _ _ l0 a1_0 a1_1 t189 _ ?side1 ?side2 A3.out).mono ?_); (case side1 => repeat (first | exact (Kd.C_below HR0.out HB.out) | (with_reducible refine Kd.C_alloc ?_ _) | (with_reducible refine Kd.C_drewN ?_ _) | (with_reducible refine Kd.C_drew ?_))); (case side2 => exact HC0.out); rintro e w25 ⟨rfl, hb⟩; refine ⟨_, rfl, ?_⟩; have n0_ := Aside0.mk (bb_ BK187 hb); have n1_ := Aside0.mk (bb_ BK188 hb); have n2_ := Aside0.mk (below_step (hb_ HB) hb); clear BK187; clear BK188; clear HB; have BK187 := n0_; have BK188 := n1_; have HB := n2_; clear n0_ n1_ n2_; (try clear hb); (try clear hb2); (try clear hk); (try clear hi); have hcz26_0 : w25.cell? ⟨gb188, 0, none⟩ = some (.int .i64 0) := (blk_cell BK188.out 0).trans rfl; have hcz26_1 : w25.cell? ⟨gb188, 1, none⟩ = some (.int .i64 0) := (blk_cell BK188.out 1).trans rfl; have hfz26_0 := blk_frozen BK188.out 0; have hfz26_1 := blk_frozen BK188.out 1))
  refine bodyPost_ret (results_list (rs := [.tmp 4, .cell 5 48, .tmp 6]) rfl (by simp) (.tmp (.cell gb188 48 #[.int .i64 0, .int .i64 0] (0, 0) _ rfl (by (with_reducible repeat (first | refine blk_drewN ?_ _ | refine blk_drew ?_ | refine blk_alloc ?_ _)); refine blk_put (cs := #[.int .i64 0, .int .i64 0]) ?_ 1 _ rfl; (with_reducible repeat (first | refine blk_drewN ?_ _ | refine blk_drew ?_ | refine blk_alloc ?_ _)); refine blk_put (cs := #[.int .i64 0, .int .i64 0]) ?_ 0 _ rfl; (with_reducible repeat (first | refine blk_drewN ?_ _ | refine blk_drew ?_ | refine blk_alloc ?_ _)); exact BK188.out) Try.underlying48 rfl (by kernel_rfl) (.tmp .nil)))) rfl ?_
  exact ⟨by first | rfl | (simp [errW_none, errW_some] <;> rfl) | (simp [*, errW_none, errW_some] <;> rfl), by repeat (first | (with_reducible first | exact HB.out | apply below_alloc | apply pw_below_drewN | apply below_drew1 | refine below_set ?_ GE187.out | refine below_set ?_ GE188.out) | exact HB.out)⟩
end Go.Proofs.Ytdkahcolfcmmpaa.Pr
namespace Go.Proofs.Ytdkahcolfcmmpaa.Pr
open Go.RowKit Go.Proofs.YtdkahcolfcmmpaaW.PrintWords Go.Proofs.YtdkahcolfcmmpaaW.PrintLast Go.Proofs.YtdkahcolfcmmpaaW.PrintMore
attribute [local go_sem] max2_int min2_int max_two min_two max_three min_three max_four min_four   -- for this text's walks alone
set_option linter.unusedVariables false
set_option linter.unusedSimpArgs false
mutual
def figure_Surface.l0 : Nat → List (S38) → List Int → List (S38) → Int → Int → Int → Int → Option (List Int × Int)
 | 0, _, _, _, _, _, _, _ => none
 | k + 1, x0, x9, x29, x30, x31, x198000, x198001 => if x31 < x30 then (if 0 ≤ x31 then (if x31 < (x29.length : Int) then (figure_Surface.l1 k x0 x9 x31 ((rd_T38 x29 x31).f0) x29 x30 x31 x0 (x0.length : Int) 0 x198000 x198001) else (none)) else (none)) else (some (x9, 0))
def figure_Surface.l1 : Nat → List (S38) → List Int → Int → Int → List (S38) → Int → Int → List (S38) → Int → Int → Int → Int → Option (List Int × Int)
 | 0, _, _, _, _, _, _, _, _, _, _, _, _ => none
 | k + 1, x0, x9, x10, x12, x29, x30, x31, x38, x39, x40, x198000, x198001 => if x40 < x39 then (if 0 ≤ x40 then (if x40 < (x38.length : Int) then ((figure_tolerance_bound.f x198000 x198001 x10 x40).bind fun t207 => (figure_Surface.l1 k x0 x9 x10 (mx x12 (wrap64 (((rd_T38 x38 x40).f0) - t207))) x29 x30 x31 x38 x39 (wrap64 (x40 + 1)) x198000 x198001)) else (none)) else (none)) else (if x9.length < 17592186044416 then (figure_Surface.l0 k x0 (x9 ++ [x12]) x29 x30 (wrap64 (x31 + 1)) x198000 x198001) else (none))
end
def figure_Surface.f (k : Nat) (l0 : List (S38)) (a1_0 : Int) (a1_1 : Int) : Option (List Int × Int) := (figure_Judge.f k l0 a1_0 a1_1).bind fun bt198 => (if bt198.2.2.2 = 0 then (if bt198.1 = (-1) then (some (([] : List Int), 12)) else (figure_Surface.l0 k l0 ([] : List Int) l0 (l0.length : Int) 0 a1_0 a1_1)) else (some (([] : List Int), bt198.2.2.2)))
theorem figure_Surface.mono_l : ∀ k, (∀ y0 y1 y2 y3 y4 y5 y6, LeO (figure_Surface.l0 k y0 y1 y2 y3 y4 y5 y6) (figure_Surface.l0 (k + 1) y0 y1 y2 y3 y4 y5 y6)) ∧ (∀ y0 y1 y2 y3 y4 y5 y6 y7 y8 y9 y10 y11, LeO (figure_Surface.l1 k y0 y1 y2 y3 y4 y5 y6 y7 y8 y9 y10 y11) (figure_Surface.l1 (k + 1) y0 y1 y2 y3 y4 y5 y6 y7 y8 y9 y10 y11))
 | 0 => ⟨fun _ _ _ _ _ _ _ r h => by simp [figure_Surface.l0] at h, fun _ _ _ _ _ _ _ _ _ _ _ _ r h => by simp [figure_Surface.l1] at h⟩
 | k + 1 => by
  obtain ⟨ih0, ih1⟩ := figure_Surface.mono_l k
  refine ⟨?_, ?_⟩
  ·intro y0 y1 y2 y3 y4 y5 y6
   unfold figure_Surface.l0
   repeat' first
   | (with_reducible exact ih0 _ _ _ _ _ _ _)
   | (with_reducible exact ih1 _ _ _ _ _ _ _ _ _ _ _ _)
   | (with_reducible exact figure_Judge.mono _ _ _ _)
   | (with_reducible exact LeO.refl _)
   | (with_reducible exact LeO.none _)
   | (with_reducible refine LeO.ite ?_ ?_)
   | (with_reducible refine LeO.bind ?_ (fun _ => ?_))
   | exact ih0 _ _ _ _ _ _ _
   | exact ih1 _ _ _ _ _ _ _ _ _ _ _ _
   | exact figure_Judge.mono _ _ _ _
   | exact LeO.none _
   | refine LeO.ite ?_ ?_
   | refine LeO.bind ?_ (fun _ => ?_)
  ·intro y0 y1 y2 y3 y4 y5 y6 y7 y8 y9 y10 y11
   unfold figure_Surface.l1
   repeat' first
   | (with_reducible exact ih0 _ _ _ _ _ _ _)
   | (with_reducible exact ih1 _ _ _ _ _ _ _ _ _ _ _ _)
   | (with_reducible exact figure_Judge.mono _ _ _ _)
   | (with_reducible exact LeO.refl _)
   | (with_reducible exact LeO.none _)
   | (with_reducible refine LeO.ite ?_ ?_)
   | (with_reducible refine LeO.bind ?_ (fun _ => ?_))
   | exact ih0 _ _ _ _ _ _ _
   | exact ih1 _ _ _ _ _ _ _ _ _ _ _ _
   | exact figure_Judge.mono _ _ _ _
   | exact LeO.none _
   | refine LeO.ite ?_ ?_
   | refine LeO.bind ?_ (fun _ => ?_)
theorem figure_Surface.mono : ∀ a0 a1 a2 k, LeO (figure_Surface.f k a0 a1 a2) (figure_Surface.f (k + 1) a0 a1 a2) := by
 intro a0 a1 a2 k
 obtain ⟨ih0, ih1⟩ := figure_Surface.mono_l k
 unfold figure_Surface.f
 repeat' first
   | (with_reducible exact ih0 _ _ _ _ _ _ _)
   | (with_reducible exact ih1 _ _ _ _ _ _ _ _ _ _ _ _)
   | (with_reducible exact figure_Judge.mono _ _ _ _)
   | (with_reducible exact LeO.refl _)
   | (with_reducible exact LeO.none _)
   | (with_reducible refine LeO.ite ?_ ?_)
   | (with_reducible refine LeO.bind ?_ (fun _ => ?_))
   | exact ih0 _ _ _ _ _ _ _
   | exact ih1 _ _ _ _ _ _ _ _ _ _ _ _
   | exact figure_Judge.mono _ _ _ _
   | exact LeO.none _
   | refine LeO.ite ?_ ?_
   | refine LeO.bind ?_ (fun _ => ?_)
def figure_Surface.T14 : Bool × List (List Nat × List Nat) := (true, [([], []), ([], []), ([1], [1]), ([], []), ([3], [3]), ([], []), ([], []), ([4, 5, 6], [4, 5, 6]), ([2, 7], [2, 7]), ([0, 8], [0, 8]), ([9, 7, 0, 1, 2, 3, 4, 5, 6, 7, 8, 9], [0, 9])])
def figure_Surface.B14 : List Nat := [0, 0, 2, 0, 8, 0, 0, 120, 254, 511, 1023]
theorem figure_Surface.tab14 : rtab .any (opsOf Try.f61 14) = figure_Surface.T14 := by kernel_rfl
theorem figure_Surface.bits14 : waitsOk figure_Surface.T14.2 figure_Surface.B14 = true := by kernel_rfl
set_option maxHeartbeats 8000000 in
set_option maxRecDepth 100000 in
theorem figure_Surface.calls (k : Nat) (A0 : Option Addr) (c0 : Nat) (l0 : List (S38)) (a1_0 : Int) (a1_1 : Int) (r1 : List Int) (r2 : Int) (w : World) (hr0 : Kd.C k38 w A0 l0.length l0) (hc0 : l0.length ≤ c0) (h : figure_Surface.f k l0 a1_0 a1_1 = some (r1, r2)) :
  Calls Try.prog 61 #[.slice A0 l0.length c0, .agg #[.int .i64 a1_0, .int .i64 a1_1]] w fun e w' => ∃ v0_ : Value, e = .returned (.tuple #[v0_, .int .i64 r2]) ∧ Kd.R (Kd.int .i64) 3 w' w.heap.size (fun _ => True) v0_ r1 ∧ Below w.heap.size w w' := by
 have hu59 := Try.underlying59
 have hu48 := Try.underlying48
 have hu38 := Try.underlying38
 have hu118 := Try.underlying118
 have HR0 := Aside0.mk hr0
 have HC0 := Aside0.mk hc0
 clear hr0 hc0
 have HB := Aside0.mk (Below.refl w.heap.size w)
 have H : ((figure_Judge.f k l0 a1_0 a1_1).bind fun bt198 => (if bt198.2.2.2 = 0 then (if bt198.1 = (-1) then (some (([] : List Int), 12)) else (figure_Surface.l0 k l0 ([] : List Int) l0 (l0.length : Int) 0 a1_0 a1_1)) else (some (([] : List Int), bt198.2.2.2)))) = some (r1, r2) := h
 clear h
 replace H := Option.bind_eq_some_iff.mp H
 obtain ⟨⟨t198, t199, t200, t201⟩, A30, H⟩ := H
 replace H : (if t201 = 0 then (if t198 = (-1) then (some (([] : List Int), 12)) else (figure_Surface.l0 k l0 ([] : List Int) l0 (l0.length : Int) 0 a1_0 a1_1)) else (some (([] : List Int), t201))) = some (r1, r2) := H
 have A3 := Aside0.mk A30
 clear A30
 by_cases c4 : t201 = 0
 ·rw [if_pos c4] at H
  have c4b0 : (t201 == 0) = true := beq_iff_eq.mpr c4
  have c4b1 : (t201 != 0) = false := bne_eq_false_iff_eq.mpr c4
  clear c4
  by_cases c5 : t198 = (-1)
  ·rw [if_pos c5] at H
   have c5b0 : (t198 == (-1)) = true := beq_iff_eq.mpr c5
   have c5b1 : (t198 != (-1)) = false := bne_eq_false_iff_eq.mpr c5
   clear c5
   simp only [Option.some.injEq, Prod.mk.injEq] at H
   obtain ⟨rfl, rfl⟩ := H
   go_enter Try.func61, Try.ntmps61
   go_wp2_with (first | ((with_reducible refine gate_dst (N := 3) rfl ?_); refine box_event ?hg (N := 3) ?hd (cs := #[.int .i64 a1_0, .int .i64 a1_1]) (t := 59) ?hr ?_; (case hd => rfl); (case hg => rfl); (case hr => exact gr_); intro gb197 hg w6 hbox hb; have n0_ := Aside0.mk (below_step (hb_ HB) hb); have n1_ := Aside0.mk (hbox); have n2_ := Aside0.mk ((hz_ HB hg)); have n3_ := Aside0.mk ((hz_ HB hg)); clear HB; have HB := n0_; have BK197 := n1_; have GW197 := n2_; have GE197 := n3_; clear n0_ n1_ n2_ n3_; clear hb hbox hg; have hcz7_0 : w6.cell? ⟨gb197, 0, none⟩ = some (.int .i64 a1_0) := (blk_cell BK197.out 0).trans rfl; have hcz7_1 : w6.cell? ⟨gb197, 1, none⟩ = some (.int .i64 a1_1) := (blk_cell BK197.out 1).trans rfl; have hfz7_0 := blk_frozen BK197.out 0; have hfz7_1 := blk_frozen BK197.out 1) | ((with_reducible refine gate_callee (f := 59) rfl ?_); refine goesL_ (some 18) rfl rfl Try.func59 (by kernel_rfl) rfl #[.slice A0 l0.length c0, .agg #[.int .i64 a1_0, .int .i64 a1_1]] rfl ma_ ?_; (with_reducible refine (figure_Judge.calls k _ _ l0 a1_0 a1_1 t198 t199 t200 t201 _ ?side1 ?side2 A3.out).mono ?_); (case side1 => repeat (first | exact (Kd.C_below HR0.out HB.out) | (with_reducible refine Kd.C_alloc ?_ _) | (with_reducible refine Kd.C_drewN ?_ _) | (with_reducible refine Kd.C_drew ?_))); (case side2 => exact HC0.out); rintro e w8 ⟨rfl, hb⟩; refine ⟨_, rfl, ?_⟩; have n0_ := Aside0.mk (bb_ BK197 hb); have n1_ := Aside0.mk (below_step (hb_ HB) hb); clear BK197; clear HB; have BK197 := n0_; have HB := n1_; clear n0_ n1_; (try clear hb); (try clear hb2); (try clear hk); (try clear hi)) | ((with_reducible refine gate_dst (N := 7) rfl ?_); refine box_event ?hg (N := 7) ?hd (cs := #[.int .i64 0, .int .i64 0]) (t := 48) ?hr ?_; (case hd => rfl); (case hg => rfl); (case hr => exact gr_); intro gb202 hg w9 hbox hb; have n0_ := Aside0.mk (bb_ BK197 hb); have n1_ := Aside0.mk (below_step (hb_ HB) hb); have n2_ := Aside0.mk (hbox); have n3_ := Aside0.mk ((hz_ HB hg)); have n4_ := Aside0.mk ((hz_ HB hg)); have n5_ := Aside0.mk ((nl_ BK197 hg)); have n6_ := Aside0.mk ((ng_ BK197 hg)); clear BK197; clear HB; have BK197 := n0_; have HB := n1_; have BK202 := n2_; have GW202 := n3_; have GE202 := n4_; have NB197_202 := n5_; have NB202_197 := n6_; clear n0_ n1_ n2_ n3_ n4_ n5_ n6_; clear hb hbox hg; have hnb10 := NB202_197.out; have hnc10 := NB197_202.out; have hcz11_0 : w9.cell? ⟨gb202, 0, none⟩ = some (.int .i64 0) := (blk_cell BK202.out 0).trans rfl; have hcz11_1 : w9.cell? ⟨gb202, 1, none⟩ = some (.int .i64 0) := (blk_cell BK202.out 1).trans rfl; have hfz11_0 := blk_frozen BK202.out 0; have hfz11_1 := blk_frozen BK202.out 1))
   go_ret2
   exact ⟨_, by first | rfl | (simp [errW_none, errW_some] <;> rfl) | (simp [*, errW_none, errW_some] <;> rfl), by first | exact Kd.R_nil _ _ _ _ _ | exact Kd.N_nil _ _ _ _ _ | exact Kd.V_nil _ _ _ _ _ | exact Kd.Q_nil _ _ _ _ _ | exact Kd.S_nil _ _ _ _ _, by repeat (first | (with_reducible first | exact HB.out | apply below_alloc | apply pw_below_drewN | apply below_drew1 | refine below_set ?_ GE197.out | refine below_set ?_ GE202.out) | exact HB.out)⟩
  ·rw [if_neg c5] at H
   have c5b0 : (t198 == (-1)) = false := beq_eq_false_iff_ne.mpr c5
   have c5b1 : (t198 != (-1)) = true := bne_iff_ne.mpr c5
   have H' := Aside0.mk H
   clear H
   go_enter Try.func61, Try.ntmps61
   go_wp2_with (first | ((with_reducible refine gate_dst (N := 3) rfl ?_); refine box_event ?hg (N := 3) ?hd (cs := #[.int .i64 a1_0, .int .i64 a1_1]) (t := 59) ?hr ?_; (case hd => rfl); (case hg => rfl); (case hr => exact gr_); intro gb197 hg w12 hbox hb; have n0_ := Aside0.mk (below_step (hb_ HB) hb); have n1_ := Aside0.mk (hbox); have n2_ := Aside0.mk ((hz_ HB hg)); have n3_ := Aside0.mk ((hz_ HB hg)); clear HB; have HB := n0_; have BK197 := n1_; have GW197 := n2_; have GE197 := n3_; clear n0_ n1_ n2_ n3_; clear hb hbox hg; have hcz13_0 : w12.cell? ⟨gb197, 0, none⟩ = some (.int .i64 a1_0) := (blk_cell BK197.out 0).trans rfl; have hcz13_1 : w12.cell? ⟨gb197, 1, none⟩ = some (.int .i64 a1_1) := (blk_cell BK197.out 1).trans rfl; have hfz13_0 := blk_frozen BK197.out 0; have hfz13_1 := blk_frozen BK197.out 1) | ((with_reducible refine gate_callee (f := 59) rfl ?_); refine goesL_ (some 18) rfl rfl Try.func59 (by kernel_rfl) rfl #[.slice A0 l0.length c0, .agg #[.int .i64 a1_0, .int .i64 a1_1]] rfl ma_ ?_; (with_reducible refine (figure_Judge.calls k _ _ l0 a1_0 a1_1 t198 t199 t200 t201 _ ?side1 ?side2 A3.out).mono ?_); (case side1 => repeat (first | exact (Kd.C_below HR0.out HB.out) | (with_reducible refine Kd.C_alloc ?_ _) | (with_reducible refine Kd.C_drewN ?_ _) | (with_reducible refine Kd.C_drew ?_))); (case side2 => exact HC0.out); rintro e w14 ⟨rfl, hb⟩; refine ⟨_, rfl, ?_⟩; have n0_ := Aside0.mk (bb_ BK197 hb); have n1_ := Aside0.mk (below_step (hb_ HB) hb); clear BK197; clear HB; have BK197 := n0_; have HB := n1_; clear n0_ n1_; (try clear hb); (try clear hb2); (try clear hk); (try clear hi)) | ((with_reducible refine gate_dst (N := 7) rfl ?_); refine box_event ?hg (N := 7) ?hd (cs := #[.int .i64 0, .int .i64 0]) (t := 48) ?hr ?_; (case hd => rfl); (case hg => rfl); (case hr => exact gr_); intro gb202 hg w15 hbox hb; have n0_ := Aside0.mk (bb_ BK197 hb); have n1_ := Aside0.mk (below_step (hb_ HB) hb); have n2_ := Aside0.mk (hbox); have n3_ := Aside0.mk ((hz_ HB hg)); have n4_ := Aside0.mk ((hz_ HB hg)); have n5_ := Aside0.mk ((nl_ BK197 hg)); have n6_ := Aside0.mk ((ng_ BK197 hg)); clear BK197; clear HB; have BK197 := n0_; have HB := n1_; have BK202 := n2_; have GW202 := n3_; have GE202 := n4_; have NB197_202 := n5_; have NB202_197 := n6_; clear n0_ n1_ n2_ n3_ n4_ n5_ n6_; clear hb hbox hg; have hnb16 := NB202_197.out; have hnc16 := NB197_202.out; have hcz17_0 : w15.cell? ⟨gb202, 0, none⟩ = some (.int .i64 0) := (blk_cell BK202.out 0).trans rfl; have hcz17_1 : w15.cell? ⟨gb202, 1, none⟩ = some (.int .i64 0) := (blk_cell BK202.out 1).trans rfl; have hfz17_0 := blk_frozen BK202.out 0; have hfz17_1 := blk_frozen BK202.out 1))
   go_loopg [9, 31] k (fun kq v9 v31 w' => ∃ (x9_1 : List Int) (x31_1 : Int), v31 = .int .i64 x31_1 ∧ Aside0 (figure_Surface.l0 kq l0 x9_1 l0 (l0.length : Int) x31_1 a1_0 a1_1 = some (r1, r2)) ∧ Aside0 (kq ≤ k) ∧ Aside0 (Kd.R (Kd.int .i64) 3 w' w.heap.size (fun _ => True) v9 x9_1) ∧ Aside0 (w'.heap[gb197]? = some (.cells #[.int .i64 a1_0, .int .i64 a1_1] 59 (0, 0))) ∧ Aside0 (w'.heap[gb202]? = some (.cells #[.int .i64 t199, .int .i64 t200] 48 (0, 0))) ∧ Aside0 (Below w.heap.size w w'))
   case atStart => exact ⟨(([] : List Int)), (0), rs_, H', ⟨Nat.le_refl _⟩, ⟨by first | exact Kd.R_nil _ _ _ _ _ | exact Kd.N_nil _ _ _ _ _ | exact Kd.V_nil _ _ _ _ _ | exact Kd.Q_nil _ _ _ _ _ | exact Kd.S_nil _ _ _ _ _⟩, ⟨by (with_reducible repeat (first | refine blk_drewN ?_ _ | refine blk_drew ?_ | refine blk_alloc ?_ _)); refine blk_far ?_ NB197_202.out _; (with_reducible repeat (first | refine blk_drewN ?_ _ | refine blk_drew ?_ | refine blk_alloc ?_ _)); refine blk_far ?_ NB197_202.out _; (with_reducible repeat (first | refine blk_drewN ?_ _ | refine blk_drew ?_ | refine blk_alloc ?_ _)); exact BK197.out⟩, ⟨by (with_reducible repeat (first | refine blk_drewN ?_ _ | refine blk_drew ?_ | refine blk_alloc ?_ _)); refine blk_put (cs := #[.int .i64 t199, .int .i64 0]) ?_ 1 _ rfl; (with_reducible repeat (first | refine blk_drewN ?_ _ | refine blk_drew ?_ | refine blk_alloc ?_ _)); refine blk_put (cs := #[.int .i64 0, .int .i64 0]) ?_ 0 _ rfl; (with_reducible repeat (first | refine blk_drewN ?_ _ | refine blk_drew ?_ | refine blk_alloc ?_ _)); exact BK202.out⟩, ⟨by repeat (first | (with_reducible first | exact HB.out | apply below_alloc | apply pw_below_drewN | apply below_drew1 | refine below_set ?_ GE197.out | refine below_set ?_ GE202.out) | exact HB.out)⟩⟩
   case round =>
    clear H'
    try clear c1
    try clear p2
    try clear c4
    try clear c4b0
    try clear c4b1
    try clear c5
    try clear c5b0
    try clear c5b1
    try clear c6
    try clear c10
    try clear c16
    try clear hcz11_0
    try clear hcz11_1
    try clear hcz13_0
    try clear hcz13_1
    try clear hcz17_0
    try clear hcz17_1
    try clear hcz7_0
    try clear hcz7_1
    try clear hfz11_0
    try clear hfz11_1
    try clear hfz13_0
    try clear hfz13_1
    try clear hfz17_0
    try clear hfz17_1
    try clear hfz7_0
    try clear hfz7_1
    obtain ⟨x9_1, x31_1, rfl, HA, HK1, HO_9, BK197, BK202, HB⟩ := hrel
    cases gk with
    | zero => exact absurd HA.out (by simp [figure_Surface.l0])
    | succ k1 =>
     have H := HA.out
     clear HA
     simp only [figure_Surface.l0] at H
     by_cases c18 : x31_1 < (l0.length : Int)
     ·rw [if_pos c18] at H
      have c18b0 : decide (x31_1 < (l0.length : Int)) = true := decide_eq_true c18
      clear c18
      by_cases c19 : 0 ≤ x31_1
      ·rw [if_pos c19] at H
       have c19b0 : decide (0 ≤ x31_1) = true := decide_eq_true c19
       clear c19
       by_cases c20 : x31_1 < (l0.length : Int)
       ·rw [if_pos c20] at H
        have c20b0 : decide (x31_1 < (l0.length : Int)) = true := decide_eq_true c20
        clear c20
        have H' := Aside0.mk H
        clear H
        have p203 : 0 ≤ (x31_1 : Int) := of_decide_eq_true as_
        have q203 : x31_1 < (l0.length : Int) := of_decide_eq_true as_
        obtain ⟨ad203, e203, hx203_0, hx203_1⟩ := at_T38 HR0.out x31_1 p203 q203
        cases e203
        replace hx203_0 := (HB.out.cell (World.block_lt_of_cell? w _ hx203_0)).trans hx203_0
        replace hx203_1 := (HB.out.cell (World.block_lt_of_cell? w _ hx203_1)).trans hx203_1
        replace p203 := eq_true p203
        replace q203 := eq_true q203
        go_wp2_with (first | ((with_reducible refine gate_dst (N := 11) rfl ?_); refine box_event ?hg (N := 11) ?hd (cs := #[.int .i64 0, .int .i64 0]) (t := 38) ?hr ?_; (case hd => rfl); (case hg => rfl); (case hr => exact gr_); intro gb204 hg w21 hbox hb; have n0_ := Aside0.mk (Kd.R_below (rk_ HO_9) hb); have n1_ := Aside0.mk (bb_ BK197 hb); have n2_ := Aside0.mk (bb_ BK202 hb); have n3_ := Aside0.mk (below_step (hb_ HB) hb); have n4_ := Aside0.mk (hbox); have n5_ := Aside0.mk ((hz_ HB hg)); have n6_ := Aside0.mk ((hz_ HB hg)); have n7_ := Aside0.mk ((nl_ BK197 hg)); have n8_ := Aside0.mk ((ng_ BK197 hg)); have n9_ := Aside0.mk ((nl_ BK202 hg)); have n10_ := Aside0.mk ((ng_ BK202 hg)); clear HO_9; clear BK197; clear BK202; clear HB; have HO_9 := n0_; have BK197 := n1_; have BK202 := n2_; have HB := n3_; have BK204 := n4_; have GW204 := n5_; have GE204 := n6_; have NB197_204 := n7_; have NB204_197 := n8_; have NB202_204 := n9_; have NB204_202 := n10_; clear n0_ n1_ n2_ n3_ n4_ n5_ n6_ n7_ n8_ n9_ n10_; clear hb hbox hg; have hnb22 := NB204_197.out; have hnc22 := NB197_204.out; have hnb23 := NB204_202.out; have hnc23 := NB202_204.out; have hcz24_0 : w21.cell? ⟨gb204, 0, none⟩ = some (.int .i64 0) := (blk_cell BK204.out 0).trans rfl; have hcz24_1 : w21.cell? ⟨gb204, 1, none⟩ = some (.int .i64 0) := (blk_cell BK204.out 1).trans rfl; have hfz24_0 := blk_frozen BK204.out 0; have hfz24_1 := blk_frozen BK204.out 1))
        go_loopg [12, 40] k1 (fun kq v12 v40 w' => ∃ (x12_2 : Int) (x40_2 : Int), v12 = .int .i64 x12_2 ∧ v40 = .int .i64 x40_2 ∧ Aside0 (figure_Surface.l1 kq l0 x9_1 x31_1 x12_2 l0 (l0.length : Int) x31_1 l0 (l0.length : Int) x40_2 a1_0 a1_1 = some (r1, r2)) ∧ Aside0 (kq ≤ k1) ∧ Aside0 (Kd.R (Kd.int .i64) 3 w' w.heap.size (fun _ => True) u9 x9_1) ∧ Aside0 (w'.heap[gb197]? = some (.cells #[.int .i64 a1_0, .int .i64 a1_1] 59 (0, 0))) ∧ Aside0 (w'.heap[gb202]? = some (.cells #[.int .i64 t199, .int .i64 t200] 48 (0, 0))) ∧ Aside0 (w'.heap[gb204]? = some (.cells #[.int .i64 ((rd_T38 l0 x31_1).f0), .int .i64 ((rd_T38 l0 x31_1).f1)] 38 (0, 0))) ∧ Aside0 (Below w.heap.size w w'))
        case atStart => exact ⟨((rd_T38 l0 x31_1).f0), (0), rs_, rs_, H', ⟨Nat.le_refl _⟩, ⟨by (with_reducible repeat (first | apply Kd.R_alloc | apply Kd.R_drewN | apply Kd.R_drew)); exact Kd.R_mono (Kd.R_far (p := ⟨gb204, 1, none⟩) (Kd.R_far (p := ⟨gb204, 0, none⟩) (Kd.R_types HO_9.out BK204.out di_) (fun _ hk => hk.2) (.int .i64 ((rd_T38 l0 x31_1).f0))) (fun _ hk => hk.2) (.int .i64 ((rd_T38 l0 x31_1).f1))) (fun _ hk => trivial)⟩, ⟨by (with_reducible repeat (first | refine blk_drewN ?_ _ | refine blk_drew ?_ | refine blk_alloc ?_ _)); refine blk_far ?_ NB197_204.out _; (with_reducible repeat (first | refine blk_drewN ?_ _ | refine blk_drew ?_ | refine blk_alloc ?_ _)); refine blk_far ?_ NB197_204.out _; (with_reducible repeat (first | refine blk_drewN ?_ _ | refine blk_drew ?_ | refine blk_alloc ?_ _)); exact BK197.out⟩, ⟨by (with_reducible repeat (first | refine blk_drewN ?_ _ | refine blk_drew ?_ | refine blk_alloc ?_ _)); refine blk_far ?_ NB202_204.out _; (with_reducible repeat (first | refine blk_drewN ?_ _ | refine blk_drew ?_ | refine blk_alloc ?_ _)); refine blk_far ?_ NB202_204.out _; (with_reducible repeat (first | refine blk_drewN ?_ _ | refine blk_drew ?_ | refine blk_alloc ?_ _)); exact BK202.out⟩, ⟨by (with_reducible repeat (first | refine blk_drewN ?_ _ | refine blk_drew ?_ | refine blk_alloc ?_ _)); refine blk_put (cs := #[.int .i64 ((rd_T38 l0 x31_1).f0), .int .i64 0]) ?_ 1 _ rfl; (with_reducible repeat (first | refine blk_drewN ?_ _ | refine blk_drew ?_ | refine blk_alloc ?_ _)); refine blk_put (cs := #[.int .i64 0, .int .i64 0]) ?_ 0 _ rfl; (with_reducible repeat (first | refine blk_drewN ?_ _ | refine blk_drew ?_ | refine blk_alloc ?_ _)); exact BK204.out⟩, ⟨by repeat (first | (with_reducible first | exact HB.out | apply below_alloc | apply pw_below_drewN | apply below_drew1 | refine below_set ?_ GE197.out | refine below_set ?_ GE202.out | refine below_set ?_ GE204.out) | exact HB.out)⟩⟩
        case round =>
         clear H'
         try clear c1
         try clear c2
         try clear p2
         try clear q2
         try clear hx2
         try clear c4
         try clear c4b0
         try clear c4b1
         try clear c5
         try clear c5b0
         try clear c5b1
         try clear c6
         try clear c10
         try clear c16
         try clear c18
         try clear c18b0
         try clear c19
         try clear c19b0
         try clear c20
         try clear c20b0
         try clear p20
         try clear q20
         try clear hx20
         try clear c22
         try clear c23
         try clear hcz11_0
         try clear hcz11_1
         try clear hcz13_0
         try clear hcz13_1
         try clear hcz17_0
         try clear hcz17_1
         try clear hcz24_0
         try clear hcz24_1
         try clear hcz7_0
         try clear hcz7_1
         try clear hfz11_0
         try clear hfz11_1
         try clear hfz13_0
         try clear hfz13_1
         try clear hfz17_0
         try clear hfz17_1
         try clear hfz24_0
         try clear hfz24_1
         try clear hfz7_0
         try clear hfz7_1
         try clear hx203_0
         try clear hx203_1
         try clear p2
         try clear p203
         try clear q203
         obtain ⟨x12_2, x40_2, rfl, rfl, HA, HK2, HO_9, BK197, BK202, BK204, HB⟩ := hrel
         cases gk with
         | zero => exact absurd HA.out (by simp [figure_Surface.l1])
         | succ k2 =>
          have H := HA.out
          clear HA
          simp only [figure_Surface.l1] at H
          by_cases c25 : x40_2 < (l0.length : Int)
          ·rw [if_pos c25] at H
           have c25b0 : decide (x40_2 < (l0.length : Int)) = true := decide_eq_true c25
           clear c25
           by_cases c26 : 0 ≤ x40_2
           ·rw [if_pos c26] at H
            have c26b0 : decide (0 ≤ x40_2) = true := decide_eq_true c26
            clear c26
            by_cases c27 : x40_2 < (l0.length : Int)
            ·rw [if_pos c27] at H
             have c27b0 : decide (x40_2 < (l0.length : Int)) = true := decide_eq_true c27
             clear c27
             replace H := Option.bind_eq_some_iff.mp H
             obtain ⟨t207, A280, H⟩ := H
             replace H : (figure_Surface.l1 k2 l0 x9_1 x31_1 (mx x12_2 (wrap64 (((rd_T38 l0 x40_2).f0) - t207))) l0 (l0.length : Int) x31_1 l0 (l0.length : Int) (wrap64 (x40_2 + 1)) a1_0 a1_1) = some (r1, r2) := H
             have A28 := Aside0.mk A280
             clear A280
             obtain ⟨ji29, hji29⟩ : ∃ j_ : Int, (mx x12_2 (wrap64 (((rd_T38 l0 x40_2).f0) - t207))) = j_ := ⟨_, rfl⟩
             replace H : (figure_Surface.l1 k2 l0 x9_1 x31_1 ji29 l0 (l0.length : Int) x31_1 l0 (l0.length : Int) (wrap64 (x40_2 + 1)) a1_0 a1_1) = some (r1, r2) := by first | (rw [hji29] at H; exact H) | (simp only [hji29] at H ⊢; exact H)
             (try rw [hji29] at A28)
             have hji29_ : (if x12_2 < (wrap64 (((rd_T38 l0 x40_2).f0) - t207)) then (wrap64 (((rd_T38 l0 x40_2).f0) - t207)) else x12_2) = ji29 := hji29
             have H' := Aside0.mk H
             clear H
             have p205 : 0 ≤ (x40_2 : Int) := of_decide_eq_true as_
             have q205 : x40_2 < (l0.length : Int) := of_decide_eq_true as_
             obtain ⟨ad205, e205, hx205_0, hx205_1⟩ := at_T38 HR0.out x40_2 p205 q205
             obtain rfl : ad203 = ad205 := (by injection e205)
             replace hx205_0 := (HB.out.cell (World.block_lt_of_cell? w _ hx205_0)).trans hx205_0
             replace hx205_1 := (HB.out.cell (World.block_lt_of_cell? w _ hx205_1)).trans hx205_1
             replace p205 := eq_true p205
             replace q205 := eq_true q205
             try go_wp2_with (first | ((with_reducible refine gate_dst (N := 14) rfl ?_); refine box_event ?hg (N := 14) ?hd (cs := #[.int .i64 0, .int .i64 0]) (t := 38) ?hr ?_; (case hd => rfl); (case hg => rfl); (case hr => exact gr_); intro gb206 hg w30 hbox hb; have n0_ := Aside0.mk (Kd.R_below (rk_ HO_9) hb); have n1_ := Aside0.mk (bb_ BK197 hb); have n2_ := Aside0.mk (bb_ BK202 hb); have n3_ := Aside0.mk (bb_ BK204 hb); have n4_ := Aside0.mk (below_step (hb_ HB) hb); have n5_ := Aside0.mk (hbox); have n6_ := Aside0.mk ((hz_ HB hg)); have n7_ := Aside0.mk ((hz_ HB hg)); have n8_ := Aside0.mk ((nl_ BK197 hg)); have n9_ := Aside0.mk ((ng_ BK197 hg)); have n10_ := Aside0.mk ((nl_ BK202 hg)); have n11_ := Aside0.mk ((ng_ BK202 hg)); have n12_ := Aside0.mk ((nl_ BK204 hg)); have n13_ := Aside0.mk ((ng_ BK204 hg)); clear HO_9; clear BK197; clear BK202; clear BK204; clear HB; have HO_9 := n0_; have BK197 := n1_; have BK202 := n2_; have BK204 := n3_; have HB := n4_; have BK206 := n5_; have GW206 := n6_; have GE206 := n7_; have NB197_206 := n8_; have NB206_197 := n9_; have NB202_206 := n10_; have NB206_202 := n11_; have NB204_206 := n12_; have NB206_204 := n13_; clear n0_ n1_ n2_ n3_ n4_ n5_ n6_ n7_ n8_ n9_ n10_ n11_ n12_ n13_; clear hb hbox hg; have hnb31 := NB206_197.out; have hnc31 := NB197_206.out; have hnb32 := NB206_202.out; have hnc32 := NB202_206.out; have hnb33 := NB206_204.out; have hnc33 := NB204_206.out; have hcz34_0 : w30.cell? ⟨gb206, 0, none⟩ = some (.int .i64 0) := (blk_cell BK206.out 0).trans rfl; have hcz34_1 : w30.cell? ⟨gb206, 1, none⟩ = some (.int .i64 0) := (blk_cell BK206.out 1).trans rfl; have hfz34_0 := blk_frozen BK206.out 0; have hfz34_1 := blk_frozen BK206.out 1))
             have n0_ : Aside0 (Kd.R (Kd.int .i64) 3 ((w30.setCell ⟨gb206, 0, none⟩ (.int .i64 ((rd_T38 l0 x40_2).f0))).setCell ⟨gb206, 1, none⟩ (.int .i64 ((rd_T38 l0 x40_2).f1))) w.heap.size (fun _ => True) u9 x9_1) := ⟨by (with_reducible repeat (first | apply Kd.R_alloc | apply Kd.R_drewN | apply Kd.R_drew)); exact Kd.R_mono (Kd.R_far (p := ⟨gb206, 1, none⟩) (Kd.R_far (p := ⟨gb206, 0, none⟩) (Kd.R_types HO_9.out BK206.out di_) (fun _ hk => hk.2) (.int .i64 ((rd_T38 l0 x40_2).f0))) (fun _ hk => hk.2) (.int .i64 ((rd_T38 l0 x40_2).f1))) (fun _ hk => trivial)⟩
             have n1_ : Aside0 (((w30.setCell ⟨gb206, 0, none⟩ (.int .i64 ((rd_T38 l0 x40_2).f0))).setCell ⟨gb206, 1, none⟩ (.int .i64 ((rd_T38 l0 x40_2).f1))).heap[gb197]? = some (.cells #[.int .i64 a1_0, .int .i64 a1_1] 59 (0, 0))) := ⟨by (with_reducible repeat (first | refine blk_drewN ?_ _ | refine blk_drew ?_ | refine blk_alloc ?_ _)); refine blk_far ?_ NB197_206.out _; (with_reducible repeat (first | refine blk_drewN ?_ _ | refine blk_drew ?_ | refine blk_alloc ?_ _)); refine blk_far ?_ NB197_206.out _; (with_reducible repeat (first | refine blk_drewN ?_ _ | refine blk_drew ?_ | refine blk_alloc ?_ _)); exact BK197.out⟩
             have n2_ : Aside0 (((w30.setCell ⟨gb206, 0, none⟩ (.int .i64 ((rd_T38 l0 x40_2).f0))).setCell ⟨gb206, 1, none⟩ (.int .i64 ((rd_T38 l0 x40_2).f1))).heap[gb202]? = some (.cells #[.int .i64 t199, .int .i64 t200] 48 (0, 0))) := ⟨by (with_reducible repeat (first | refine blk_drewN ?_ _ | refine blk_drew ?_ | refine blk_alloc ?_ _)); refine blk_far ?_ NB202_206.out _; (with_reducible repeat (first | refine blk_drewN ?_ _ | refine blk_drew ?_ | refine blk_alloc ?_ _)); refine blk_far ?_ NB202_206.out _; (with_reducible repeat (first | refine blk_drewN ?_ _ | refine blk_drew ?_ | refine blk_alloc ?_ _)); exact BK202.out⟩
             have n3_ : Aside0 (((w30.setCell ⟨gb206, 0, none⟩ (.int .i64 ((rd_T38 l0 x40_2).f0))).setCell ⟨gb206, 1, none⟩ (.int .i64 ((rd_T38 l0 x40_2).f1))).heap[gb204]? = some (.cells #[.int .i64 ((rd_T38 l0 x31_1).f0), .int .i64 ((rd_T38 l0 x31_1).f1)] 38 (0, 0))) := ⟨by (with_reducible repeat (first | refine blk_drewN ?_ _ | refine blk_drew ?_ | refine blk_alloc ?_ _)); refine blk_far ?_ NB204_206.out _; (with_reducible repeat (first | refine blk_drewN ?_ _ | refine blk_drew ?_ | refine blk_alloc ?_ _)); refine blk_far ?_ NB204_206.out _; (with_reducible repeat (first | refine blk_drewN ?_ _ | refine blk_drew ?_ | refine blk_alloc ?_ _)); exact BK204.out⟩
             have n4_ : Aside0 (((w30.setCell ⟨gb206, 0, none⟩ (.int .i64 ((rd_T38 l0 x40_2).f0))).setCell ⟨gb206, 1, none⟩ (.int .i64 ((rd_T38 l0 x40_2).f1))).heap[gb206]? = some (.cells #[.int .i64 ((rd_T38 l0 x40_2).f0), .int .i64 ((rd_T38 l0 x40_2).f1)] 38 (0, 0))) := ⟨by (with_reducible repeat (first | refine blk_drewN ?_ _ | refine blk_drew ?_ | refine blk_alloc ?_ _)); refine blk_put (cs := #[.int .i64 ((rd_T38 l0 x40_2).f0), .int .i64 0]) ?_ 1 _ rfl; (with_reducible repeat (first | refine blk_drewN ?_ _ | refine blk_drew ?_ | refine blk_alloc ?_ _)); refine blk_put (cs := #[.int .i64 0, .int .i64 0]) ?_ 0 _ rfl; (with_reducible repeat (first | refine blk_drewN ?_ _ | refine blk_drew ?_ | refine blk_alloc ?_ _)); exact BK206.out⟩
             have n5_ : Aside0 (Below w.heap.size w ((w30.setCell ⟨gb206, 0, none⟩ (.int .i64 ((rd_T38 l0 x40_2).f0))).setCell ⟨gb206, 1, none⟩ (.int .i64 ((rd_T38 l0 x40_2).f1)))) := ⟨by repeat (first | (with_reducible first | exact HB.out | apply below_alloc | apply pw_below_drewN | apply below_drew1 | refine below_set ?_ GE197.out | refine below_set ?_ GE202.out | refine below_set ?_ GE204.out | refine below_set ?_ GE206.out) | exact HB.out)⟩
             (try clear HO_9)
             (try clear BK197)
             (try clear BK202)
             (try clear BK204)
             (try clear BK206)
             (try clear HB)
             generalize ((w30.setCell ⟨gb206, 0, none⟩ (.int .i64 ((rd_T38 l0 x40_2).f0))).setCell ⟨gb206, 1, none⟩ (.int .i64 ((rd_T38 l0 x40_2).f1))) = w35 at n0_ n1_ n2_ n3_ n4_ n5_ ⊢
             have HO_9 := n0_
             have BK197 := n1_
             have BK202 := n2_
             have BK204 := n3_
             have BK206 := n4_
             have HB := n5_
             clear n0_ n1_ n2_ n3_ n4_ n5_
             have n0_ := Aside0.mk (Kd.R_drew HO_9.out)
             have n1_ := Aside0.mk (blk_drew BK197.out)
             have n2_ := Aside0.mk (blk_drew BK202.out)
             have n3_ := Aside0.mk (blk_drew BK204.out)
             have n4_ := Aside0.mk (blk_drew BK206.out)
             have n5_ := Aside0.mk (below_drew1 HB.out)
             clear HO_9
             clear BK197
             clear BK202
             clear BK204
             clear BK206
             clear HB
             have HO_9 := n0_
             have BK197 := n1_
             have BK202 := n2_
             have BK204 := n3_
             have BK206 := n4_
             have HB := n5_
             clear n0_ n1_ n2_ n3_ n4_ n5_
             refine start_ (n := 11) (S := fun w' => w'.cell? ⟨gb206, 0, none⟩ = some (.int .i64 ((rd_T38 l0 x40_2).f0)) ∧ w'.cell? ⟨gb206, 1, none⟩ = some (.int .i64 ((rd_T38 l0 x40_2).f1)) ∧ w'.cell? ⟨gb197, 0, none⟩ = some (.int .i64 a1_0) ∧ w'.cell? ⟨gb197, 1, none⟩ = some (.int .i64 a1_1)) (ds := []) #[false, false, false, false, false, false, false, false, false, false, false] (by kernel_rfl) rfl rfl ⟨(blk_cell BK206.out 0).trans rfl, (blk_cell BK206.out 1).trans rfl, (blk_cell BK197.out 0).trans rfl, (blk_cell BK197.out 1).trans rfl⟩ (fun hHeld => ?_); refine with_tabW figure_Surface.tab14 figure_Surface.bits14 (fun HT_ HW_ => ?_)
             generalize w35.drew = w36 at HO_9 BK197 BK202 BK204 BK206 HB hHeld ⊢
             refine pure_ (i := 0) (N := some 45) (v := ?_) (a' := ?_) #[true, false, false, false, false, false, false, false, false, false, false] rfl rfl (any_of HT_.out (by kernel_rfl)) (fun _ _ _ h => h) (Or.inl ⟨by rfl, ?_⟩) ?_ ?_
             rotate_left
             ·intro w'; go_simp; with_reducible rfl
             rotate_left
             ·simp only [Act.put, List.setIfInBounds_toArray, List.set_cons_zero, List.set_cons_succ, i64_w, i32_w]; rfl
             refine pure_ (i := 1) (N := some 46) (v := ?_) (a' := ?_) #[true, true, false, false, false, false, false, false, false, false, false] rfl rfl (any_of HT_.out (by kernel_rfl)) (fun _ _ _ h => h) (Or.inl ⟨by rfl, ?_⟩) ?_ ?_
             rotate_left
             ·intro w'; go_simp; with_reducible rfl
             rotate_left
             ·simp only [Act.put, List.setIfInBounds_toArray, List.set_cons_zero, List.set_cons_succ, i64_w, i32_w]; rfl
             refine pure_ (i := 5) (N := some 50) (v := ?_) (a' := ?_) #[true, true, false, false, false, true, false, false, false, false, false] rfl rfl (any_of HT_.out (by kernel_rfl)) (fun _ _ _ h => h) (Or.inl ⟨by rfl, ?_⟩) ?_ ?_
             rotate_left
             ·intro w'; go_simp; with_reducible rfl
             rotate_left
             ·simp only [Act.put, List.setIfInBounds_toArray, List.set_cons_zero, List.set_cons_succ, i64_w, i32_w]; rfl
             refine pure_ (i := 6) (N := some 51) (v := ?_) (a' := ?_) #[true, true, false, false, false, true, true, false, false, false, false] rfl rfl (any_of HT_.out (by kernel_rfl)) (fun _ _ _ h => h) (Or.inl ⟨by rfl, ?_⟩) ?_ ?_
             rotate_left
             ·intro w'; go_simp; with_reducible rfl
             rotate_left
             ·simp only [Act.put, List.setIfInBounds_toArray, List.set_cons_zero, List.set_cons_succ, i64_w, i32_w]; rfl
             refine take_ (i := 2) (N := some 47) (v := ?_) (a' := ?_) #[true, true, true, false, false, true, true, false, false, false, false] rfl rfl (take_ofW HT_.out HW_.out (by kernel_rfl)) (fun _ _ _ h => h) (Or.inl ⟨by rfl, ?_⟩) hHeld ?_ ?_
             rotate_left
             ·rintro w' ⟨s0, s1, s2, s3⟩; go_simp; with_reducible rfl
             rotate_left
             ·simp only [Act.put, List.setIfInBounds_toArray, List.set_cons_zero, List.set_cons_succ, i64_w, i32_w]; rfl
             refine take_ (i := 3) (N := some 48) (v := ?_) (a' := ?_) #[true, true, true, true, false, true, true, false, false, false, false] rfl rfl (take_ofW HT_.out HW_.out (by kernel_rfl)) (fun _ _ _ h => h) (Or.inl ⟨by rfl, ?_⟩) hHeld ?_ ?_
             rotate_left
             ·rintro w' ⟨s0, s1, s2, s3⟩; go_simp; with_reducible rfl
             rotate_left
             ·simp only [Act.put, List.setIfInBounds_toArray, List.set_cons_zero, List.set_cons_succ, i64_w, i32_w]; rfl
             refine pure_ (i := 4) (N := some 49) (v := ?_) (a' := ?_) #[true, true, true, true, true, true, true, false, false, false, false] rfl rfl (any_of HT_.out (by kernel_rfl)) (fun _ _ _ h => h) (Or.inl ⟨by rfl, ?_⟩) ?_ ?_
             rotate_left
             ·intro w'; go_simp; with_reducible rfl
             rotate_left
             ·simp only [Act.put, List.setIfInBounds_toArray, List.set_cons_zero, List.set_cons_succ, i64_w, i32_w]; rfl
             refine one_ (i := 7) (N := some 52) #[true, true, true, true, true, true, true, true, false, false, false] rfl rfl (one_of HT_.out (by kernel_rfl)) di_ (fun K hK => ?_)
             refine goes_ Try.func104 (by kernel_rfl) rfl #[.agg #[.int .i64 a1_0, .int .i64 a1_1], .int .i64 x31_1, .int .i64 x40_2] (by rfl) rfl rfl ma_ ?_
             with_reducible refine (figure_tolerance_bound.calls a1_0 a1_1 x31_1 x40_2 t207 _ A28.out).mono ?_
             rintro e w37 ⟨rfl, hb⟩
             refine ⟨_, rfl, ?_⟩
             have n0_ := Aside0.mk (Kd.R_below (rk_ HO_9) hb)
             have n1_ := Aside0.mk (bb_ BK197 hb)
             have n2_ := Aside0.mk (bb_ BK202 hb)
             have n3_ := Aside0.mk (bb_ BK204 hb)
             have n4_ := Aside0.mk (bb_ BK206 hb)
             have n5_ := Aside0.mk (below_step (hb_ HB) hb)
             clear HO_9
             clear BK197
             clear BK202
             clear BK204
             clear BK206
             clear HB
             have HO_9 := n0_
             have BK197 := n1_
             have BK202 := n2_
             have BK204 := n3_
             have BK206 := n4_
             have HB := n5_
             clear n0_ n1_ n2_ n3_ n4_ n5_
             (try clear hb)
             (try clear hb2)
             (try clear hk)
             (try clear hi)
             refine hK.out _ _ ⟨(blk_cell BK206.out 0).trans rfl, (blk_cell BK206.out 1).trans rfl, (blk_cell BK197.out 0).trans rfl, (blk_cell BK197.out 1).trans rfl⟩ (fun hHeld => ?_)
             clear hK K
             refine norm_ (a' := ?_) ?_ ?_
             rotate_left
             ·show Act.put _ (some 52) _ = _
              simp only [Act.put, List.setIfInBounds_toArray, List.set_cons_zero, List.set_cons_succ, i64_w, i32_w]
              rfl
             refine pure_ (i := 8) (N := some 53) (v := ?_) (a' := ?_) #[true, true, true, true, true, true, true, true, true, false, false] rfl rfl (any_of HT_.out (by kernel_rfl)) (fun _ _ _ h => h) (Or.inl ⟨by rfl, ?_⟩) ?_ ?_
             rotate_left
             ·intro w'; go_simp; with_reducible rfl
             rotate_left
             ·simp only [Act.put, List.setIfInBounds_toArray, List.set_cons_zero, List.set_cons_succ, i64_w, i32_w]; rfl
             refine pure_ (i := 9) (N := some 54) (v := ?_) (a' := ?_) #[true, true, true, true, true, true, true, true, true, true, false] rfl rfl (any_of HT_.out (by kernel_rfl)) (fun _ _ _ h => h) (Or.inl ⟨by rfl, ?_⟩) ?_ ?_
             rotate_left
             ·intro w'; go_simp; with_reducible rfl
             rotate_left
             ·simp only [Act.put, List.setIfInBounds_toArray, List.set_cons_zero, List.set_cons_succ, i64_w, i32_w]; rfl
             refine pure_ (i := 10) (N := some 12) (v := ?_) (a' := ?_) #[true, true, true, true, true, true, true, true, true, true, true] rfl rfl (any_of HT_.out (by kernel_rfl)) (fun _ _ _ h => h) (Or.inl ⟨by rfl, ?_⟩) ?_ ?_
             rotate_left
             ·intro w'; go_simp; with_reducible rfl
             rotate_left
             ·simp only [Act.put, List.setIfInBounds_toArray, List.set_cons_zero, List.set_cons_succ, i64_w, i32_w]; rfl
             refine done_ (done_of HT_.out (by kernel_rfl)) ?_
             try go_wp2
             go_roundg k2
             case measure => have := HK1.out; have := HK2.out; omega
             case rel => exact ⟨(ji29), (wrap64 (x40_2 + 1)), (by first | rfl | (simp; done) | (simp only [← hji29] <;> (first | rfl | simp)) | (simp [*]; done)), rs_, H', ⟨by have := HK1.out; have := HK2.out; omega⟩, ⟨by (with_reducible repeat (first | apply Kd.R_alloc | apply Kd.R_drewN | apply Kd.R_drew)); exact HO_9.out⟩, ⟨by (with_reducible repeat (first | refine blk_drewN ?_ _ | refine blk_drew ?_ | refine blk_alloc ?_ _)); exact BK197.out⟩, ⟨by (with_reducible repeat (first | refine blk_drewN ?_ _ | refine blk_drew ?_ | refine blk_alloc ?_ _)); exact BK202.out⟩, ⟨by (with_reducible repeat (first | refine blk_drewN ?_ _ | refine blk_drew ?_ | refine blk_alloc ?_ _)); exact BK204.out⟩, ⟨by repeat (first | (with_reducible first | exact HB.out | apply below_alloc | apply pw_below_drewN | apply below_drew1 | refine below_set ?_ GE197.out | refine below_set ?_ GE202.out | refine below_set ?_ GE204.out | refine below_set ?_ GE206.out) | exact HB.out)⟩⟩
            ·rw [if_neg c27] at H
             exact absurd H (by simp)
           ·rw [if_neg c26] at H
            exact absurd H (by simp)
          ·rw [if_neg c25] at H
           have c25b0 : decide (x40_2 < (l0.length : Int)) = false := decide_eq_false c25
           clear c25
           by_cases c38 : x9_1.length < 17592186044416
           ·rw [if_pos c38] at H
            have LMc38 := Aside0.mk c38
            clear c38
            obtain ⟨y208, hy208⟩ : ∃ y_ : List Int, y_ = (x9_1 ++ [x12_2]) := ⟨_, rfl⟩
            replace H : (figure_Surface.l0 k2 l0 y208 l0 (l0.length : Int) (wrap64 (x31_1 + 1)) a1_0 a1_1) = some (r1, r2) := by first | (rw [hy208]; with_reducible exact H) | (have H2_ := (Option.bind_some _ _).symm.trans H; rw [hy208]; with_reducible exact H2_) | (have H2_ := (Option.bind_some _ _).symm.trans H; with_reducible exact H2_) | with_reducible exact H | (rw [hy208]; exact H) | exact H
            have Ny208 := Aside0.mk hy208
            clear hy208
            have H' := Aside0.mk H
            clear H
            go_wp2_with (first | ((with_reducible refine gate_builtin (b := .append) (xs := #[.tmp 56, .tmp 58]) rfl ?_); at_builtin; refine Kd.R_append (Kd.int .i64) (w0 := w) w.heap.size rfl (.tmp 56) (.tmp 58) 22 3 (.int .i64 0) 8 rfl Try.underlying22 info3 rfl di_ (by omega) u9 x9_1 x12_2 [.int .i64 x12_2] (fun _ => True) (fun _ => False) rfl rfl ?aP (fun _ hk => hk.elim) ?aF ?aO ?aB ?aS ?aL ?_; (case aP => exact rfl); (case aB => exact (hb_ HB)); (case aF => exact (fun _ _ => trivial)); (case aO => exact (rk_ HO_9)); (case aS => exact (below_size (hb_ HB))); (case aL => have := LMc38.out; omega); intro v209 w39 ho hb hg hat; rw [← Ny208.out] at ho; have n0_ := Aside0.mk (blk_grown (g := gb197) (o := .cells #[.int .i64 a1_0, .int .i64 a1_1] 59 (0, 0)) (bk_ BK197) hg (Kd.R_ne HO_9.out BK197.out di_)); have n1_ := Aside0.mk (blk_grown (g := gb202) (o := .cells #[.int .i64 t199, .int .i64 t200] 48 (0, 0)) (bk_ BK202) hg (Kd.R_ne HO_9.out BK202.out di_)); have n2_ := Aside0.mk (blk_grown (g := gb204) (o := .cells #[.int .i64 ((rd_T38 l0 x31_1).f0), .int .i64 ((rd_T38 l0 x31_1).f1)] 38 (0, 0)) (bk_ BK204) hg (Kd.R_ne HO_9.out BK204.out di_)); have n3_ := Aside0.mk (hb); have n4_ := Aside0.mk (ho); clear BK197; clear BK202; clear BK204; clear HB; clear HO_9; have BK197 := n0_; have BK202 := n1_; have BK204 := n2_; have HB := n3_; have HO210 := n4_; clear n0_ n1_ n2_ n3_ n4_; clear ho hb hg hat))
            go_roundg k2
            case measure => have := HK1.out; have := HK2.out; omega
            case rel => exact ⟨(y208), (wrap64 (x31_1 + 1)), rs_, H', ⟨by have := HK1.out; have := HK2.out; omega⟩, ⟨by (with_reducible repeat (first | apply Kd.R_alloc | apply Kd.R_drewN | apply Kd.R_drew)); exact HO210.out⟩, ⟨by (with_reducible repeat (first | refine blk_drewN ?_ _ | refine blk_drew ?_ | refine blk_alloc ?_ _)); exact BK197.out⟩, ⟨by (with_reducible repeat (first | refine blk_drewN ?_ _ | refine blk_drew ?_ | refine blk_alloc ?_ _)); exact BK202.out⟩, ⟨by repeat (first | (with_reducible first | exact HB.out | apply below_alloc | apply pw_below_drewN | apply below_drew1 | refine below_set ?_ GE197.out | refine below_set ?_ GE202.out | refine below_set ?_ GE204.out) | exact HB.out)⟩⟩
           ·rw [if_neg c38] at H
            exact absurd H (by simp)
       ·rw [if_neg c20] at H
        exact absurd H (by simp)
      ·rw [if_neg c19] at H
       exact absurd H (by simp)
     ·rw [if_neg c18] at H
      have c18b0 : decide (x31_1 < (l0.length : Int)) = false := decide_eq_false c18
      clear c18
      simp only [Option.some.injEq, Prod.mk.injEq] at H
      obtain ⟨rfl, rfl⟩ := H
      go_wp2
      go_ret2
      exact ⟨_, by first | rfl | (simp [errW_none, errW_some] <;> rfl) | (simp [*, errW_none, errW_some] <;> rfl), by (with_reducible repeat (first | apply Kd.R_alloc | apply Kd.R_drewN | apply Kd.R_drew)); exact HO_9.out, by repeat (first | (with_reducible first | exact HB.out | apply below_alloc | apply pw_below_drewN | apply below_drew1 | refine below_set ?_ GE197.out | refine below_set ?_ GE202.out) | exact HB.out)⟩
 ·rw [if_neg c4] at H
  have c4b0 : (t201 == 0) = false := beq_eq_false_iff_ne.mpr c4
  have c4b1 : (t201 != 0) = true := bne_iff_ne.mpr c4
  simp only [Option.some.injEq, Prod.mk.injEq] at H
  obtain ⟨rfl, rfl⟩ := H
  go_enter Try.func61, Try.ntmps61
  go_wp2_with (first | ((with_reducible refine gate_dst (N := 3) rfl ?_); refine box_event ?hg (N := 3) ?hd (cs := #[.int .i64 a1_0, .int .i64 a1_1]) (t := 59) ?hr ?_; (case hd => rfl); (case hg => rfl); (case hr => exact gr_); intro gb197 hg w40 hbox hb; have n0_ := Aside0.mk (below_step (hb_ HB) hb); have n1_ := Aside0.mk (hbox); have n2_ := Aside0.mk ((hz_ HB hg)); have n3_ := Aside0.mk ((hz_ HB hg)); clear HB; have HB := n0_; have BK197 := n1_; have GW197 := n2_; have GE197 := n3_; clear n0_ n1_ n2_ n3_; clear hb hbox hg; have hcz41_0 : w40.cell? ⟨gb197, 0, none⟩ = some (.int .i64 a1_0) := (blk_cell BK197.out 0).trans rfl; have hcz41_1 : w40.cell? ⟨gb197, 1, none⟩ = some (.int .i64 a1_1) := (blk_cell BK197.out 1).trans rfl; have hfz41_0 := blk_frozen BK197.out 0; have hfz41_1 := blk_frozen BK197.out 1) | ((with_reducible refine gate_callee (f := 59) rfl ?_); refine goesL_ (some 18) rfl rfl Try.func59 (by kernel_rfl) rfl #[.slice A0 l0.length c0, .agg #[.int .i64 a1_0, .int .i64 a1_1]] rfl ma_ ?_; (with_reducible refine (figure_Judge.calls k _ _ l0 a1_0 a1_1 t198 t199 t200 t201 _ ?side1 ?side2 A3.out).mono ?_); (case side1 => repeat (first | exact (Kd.C_below HR0.out HB.out) | (with_reducible refine Kd.C_alloc ?_ _) | (with_reducible refine Kd.C_drewN ?_ _) | (with_reducible refine Kd.C_drew ?_))); (case side2 => exact HC0.out); rintro e w42 ⟨rfl, hb⟩; refine ⟨_, rfl, ?_⟩; have n0_ := Aside0.mk (bb_ BK197 hb); have n1_ := Aside0.mk (below_step (hb_ HB) hb); clear BK197; clear HB; have BK197 := n0_; have HB := n1_; clear n0_ n1_; (try clear hb); (try clear hb2); (try clear hk); (try clear hi)) | ((with_reducible refine gate_dst (N := 7) rfl ?_); refine box_event ?hg (N := 7) ?hd (cs := #[.int .i64 0, .int .i64 0]) (t := 48) ?hr ?_; (case hd => rfl); (case hg => rfl); (case hr => exact gr_); intro gb202 hg w43 hbox hb; have n0_ := Aside0.mk (bb_ BK197 hb); have n1_ := Aside0.mk (below_step (hb_ HB) hb); have n2_ := Aside0.mk (hbox); have n3_ := Aside0.mk ((hz_ HB hg)); have n4_ := Aside0.mk ((hz_ HB hg)); have n5_ := Aside0.mk ((nl_ BK197 hg)); have n6_ := Aside0.mk ((ng_ BK197 hg)); clear BK197; clear HB; have BK197 := n0_; have HB := n1_; have BK202 := n2_; have GW202 := n3_; have GE202 := n4_; have NB197_202 := n5_; have NB202_197 := n6_; clear n0_ n1_ n2_ n3_ n4_ n5_ n6_; clear hb hbox hg; have hnb44 := NB202_197.out; have hnc44 := NB197_202.out; have hcz45_0 : w43.cell? ⟨gb202, 0, none⟩ = some (.int .i64 0) := (blk_cell BK202.out 0).trans rfl; have hcz45_1 : w43.cell? ⟨gb202, 1, none⟩ = some (.int .i64 0) := (blk_cell BK202.out 1).trans rfl; have hfz45_0 := blk_frozen BK202.out 0; have hfz45_1 := blk_frozen BK202.out 1))
  go_ret2
  exact ⟨_, by first | rfl | (simp [errW_none, errW_some] <;> rfl) | (simp [*, errW_none, errW_some] <;> rfl), by first | exact Kd.R_nil _ _ _ _ _ | exact Kd.N_nil _ _ _ _ _ | exact Kd.V_nil _ _ _ _ _ | exact Kd.Q_nil _ _ _ _ _ | exact Kd.S_nil _ _ _ _ _, by repeat (first | (with_reducible first | exact HB.out | apply below_alloc | apply pw_below_drewN | apply below_drew1 | refine below_set ?_ GE197.out | refine below_set ?_ GE202.out) | exact HB.out)⟩
end Go.Proofs.Ytdkahcolfcmmpaa.Pr
namespace Go.Proofs.Ytdkahcolfcmmpaa.Pr
open Go.RowKit Go.Proofs.YtdkahcolfcmmpaaW.PrintWords Go.Proofs.YtdkahcolfcmmpaaW.PrintLast Go.Proofs.YtdkahcolfcmmpaaW.PrintMore
attribute [local go_sem] max2_int min2_int max_two min_two max_three min_three max_four min_four   -- for this text's walks alone
set_option linter.unusedVariables false
set_option linter.unusedSimpArgs false
attribute [local go_sem high] eqA28 eqA48
def speculumlaw06_awake.f (k : Nat)  : Option (Bool) := (speculumlaw06_Four.f).bind fun bt211 => ((figure_Least.f k bt211.1 bt211.2.1 bt211.2.2).bind fun bt220 => ((speculumlaw06_Known.f).bind fun t224 => ((figure_Judge.f k t224 0 0).bind fun bt227 => ((speculumlaw06_Known.f).bind fun t232 => ((figure_Surface.f k t232 3 2).bind fun bt235 => (if bt220.2.2 = 0 then (if (bt220.1 == 12 && (bt220.2.1 == 1)) = true then (if bt227.2.2.2 = 0 then (if bt227.1 = (-1) then (if (bt227.2.1 == 2 && (bt227.2.2.1 == 0)) = true then (if bt235.2 = 0 then ((speculumbase_Ints.f k bt235.1 (([0, 1, 3] : List Int))).bind fun t242 => (some t242)) else (some false)) else (some false)) else (some false)) else (some false)) else (some false)) else (some false)))))))
theorem speculumlaw06_awake.mono : ∀ k, LeO (speculumlaw06_awake.f k ) (speculumlaw06_awake.f (k + 1) ) := by
 intro  k
 unfold speculumlaw06_awake.f
 repeat' first
   | (with_reducible exact figure_Judge.mono _ _ _ _)
   | (with_reducible exact figure_Least.mono _ _ _ _)
   | (with_reducible exact figure_Surface.mono _ _ _ _)
   | (with_reducible exact speculumbase_Ints.mono _ _ _)
   | (with_reducible exact LeO.refl _)
   | (with_reducible exact LeO.none _)
   | (with_reducible refine LeO.ite ?_ ?_)
   | (with_reducible refine LeO.bind ?_ (fun _ => ?_))
   | exact figure_Judge.mono _ _ _ _
   | exact figure_Least.mono _ _ _ _
   | exact figure_Surface.mono _ _ _ _
   | exact speculumbase_Ints.mono _ _ _
   | exact LeO.none _
   | refine LeO.ite ?_ ?_
   | refine LeO.bind ?_ (fun _ => ?_)
set_option maxHeartbeats 8000000 in
set_option maxRecDepth 100000 in
theorem speculumlaw06_awake.calls (k : Nat)  (r : Bool) (w : World) (hr_ : r = true) (h : speculumlaw06_awake.f k  = some r) :
  Calls Try.prog 14 #[] w fun e w' => e = .returned (.bool r) ∧ Below w.heap.size w w' := by
 have hu28 := Try.underlying28
 have hu59 := Try.underlying59
 have hu48 := Try.underlying48
 have HB := Aside0.mk (Below.refl w.heap.size w)
 have H : ((speculumlaw06_Four.f).bind fun bt211 => ((figure_Least.f k bt211.1 bt211.2.1 bt211.2.2).bind fun bt220 => ((speculumlaw06_Known.f).bind fun t224 => ((figure_Judge.f k t224 0 0).bind fun bt227 => ((speculumlaw06_Known.f).bind fun t232 => ((figure_Surface.f k t232 3 2).bind fun bt235 => (if bt220.2.2 = 0 then (if (bt220.1 == 12 && (bt220.2.1 == 1)) = true then (if bt227.2.2.2 = 0 then (if bt227.1 = (-1) then (if (bt227.2.1 == 2 && (bt227.2.2.1 == 0)) = true then (if bt235.2 = 0 then ((speculumbase_Ints.f k bt235.1 (([0, 1, 3] : List Int))).bind fun t242 => (some t242)) else (some false)) else (some false)) else (some false)) else (some false)) else (some false)) else (some false)))))))) = some r := h
 clear h
 replace H := Option.bind_eq_some_iff.mp H
 obtain ⟨⟨t211, t214, t217⟩, A10, H⟩ := H
 replace H : ((figure_Least.f k t211 t214 t217).bind fun bt220 => ((speculumlaw06_Known.f).bind fun t224 => ((figure_Judge.f k t224 0 0).bind fun bt227 => ((speculumlaw06_Known.f).bind fun t232 => ((figure_Surface.f k t232 3 2).bind fun bt235 => (if bt220.2.2 = 0 then (if (bt220.1 == 12 && (bt220.2.1 == 1)) = true then (if bt227.2.2.2 = 0 then (if bt227.1 = (-1) then (if (bt227.2.1 == 2 && (bt227.2.2.1 == 0)) = true then (if bt235.2 = 0 then ((speculumbase_Ints.f k bt235.1 (([0, 1, 3] : List Int))).bind fun t242 => (some t242)) else (some false)) else (some false)) else (some false)) else (some false)) else (some false)) else (some false))))))) = some r := H
 have A1 := Aside0.mk A10
 clear A10
 replace H := Option.bind_eq_some_iff.mp H
 obtain ⟨⟨t220, t221, t222⟩, A20, H⟩ := H
 replace H : ((speculumlaw06_Known.f).bind fun t224 => ((figure_Judge.f k t224 0 0).bind fun bt227 => ((speculumlaw06_Known.f).bind fun t232 => ((figure_Surface.f k t232 3 2).bind fun bt235 => (if t222 = 0 then (if (t220 == 12 && (t221 == 1)) = true then (if bt227.2.2.2 = 0 then (if bt227.1 = (-1) then (if (bt227.2.1 == 2 && (bt227.2.2.1 == 0)) = true then (if bt235.2 = 0 then ((speculumbase_Ints.f k bt235.1 (([0, 1, 3] : List Int))).bind fun t242 => (some t242)) else (some false)) else (some false)) else (some false)) else (some false)) else (some false)) else (some false)))))) = some r := H
 have A2 := Aside0.mk A20
 clear A20
 replace H := Option.bind_eq_some_iff.mp H
 obtain ⟨t224, A30, H⟩ := H
 replace H : ((figure_Judge.f k t224 0 0).bind fun bt227 => ((speculumlaw06_Known.f).bind fun t232 => ((figure_Surface.f k t232 3 2).bind fun bt235 => (if t222 = 0 then (if (t220 == 12 && (t221 == 1)) = true then (if bt227.2.2.2 = 0 then (if bt227.1 = (-1) then (if (bt227.2.1 == 2 && (bt227.2.2.1 == 0)) = true then (if bt235.2 = 0 then ((speculumbase_Ints.f k bt235.1 (([0, 1, 3] : List Int))).bind fun t242 => (some t242)) else (some false)) else (some false)) else (some false)) else (some false)) else (some false)) else (some false))))) = some r := H
 have A3 := Aside0.mk A30
 clear A30
 replace H := Option.bind_eq_some_iff.mp H
 obtain ⟨⟨t227, t228, t229, t230⟩, A40, H⟩ := H
 replace H : ((speculumlaw06_Known.f).bind fun t232 => ((figure_Surface.f k t232 3 2).bind fun bt235 => (if t222 = 0 then (if (t220 == 12 && (t221 == 1)) = true then (if t230 = 0 then (if t227 = (-1) then (if (t228 == 2 && (t229 == 0)) = true then (if bt235.2 = 0 then ((speculumbase_Ints.f k bt235.1 (([0, 1, 3] : List Int))).bind fun t242 => (some t242)) else (some false)) else (some false)) else (some false)) else (some false)) else (some false)) else (some false)))) = some r := H
 have A4 := Aside0.mk A40
 clear A40
 replace H := Option.bind_eq_some_iff.mp H
 obtain ⟨t232, A50, H⟩ := H
 replace H : ((figure_Surface.f k t232 3 2).bind fun bt235 => (if t222 = 0 then (if (t220 == 12 && (t221 == 1)) = true then (if t230 = 0 then (if t227 = (-1) then (if (t228 == 2 && (t229 == 0)) = true then (if bt235.2 = 0 then ((speculumbase_Ints.f k bt235.1 (([0, 1, 3] : List Int))).bind fun t242 => (some t242)) else (some false)) else (some false)) else (some false)) else (some false)) else (some false)) else (some false))) = some r := H
 have A5 := Aside0.mk A50
 clear A50
 replace H := Option.bind_eq_some_iff.mp H
 obtain ⟨⟨t235, t238⟩, A60, H⟩ := H
 replace H : (if t222 = 0 then (if (t220 == 12 && (t221 == 1)) = true then (if t230 = 0 then (if t227 = (-1) then (if (t228 == 2 && (t229 == 0)) = true then (if t238 = 0 then ((speculumbase_Ints.f k t235 (([0, 1, 3] : List Int))).bind fun t242 => (some t242)) else (some false)) else (some false)) else (some false)) else (some false)) else (some false)) else (some false)) = some r := H
 have A6 := Aside0.mk A60
 clear A60
 by_cases c7 : t222 = 0
 ·rw [if_pos c7] at H
  have c7b0 : (t222 == 0) = true := beq_iff_eq.mpr c7
  have c7b1 : (t222 != 0) = false := bne_eq_false_iff_eq.mpr c7
  clear c7
  by_cases c8 : (t220 == 12 && (t221 == 1)) = true
  ·rw [if_pos c8] at H
   have c8b0 : (t220 == 12 && (t221 == 1)) = true := c8
   (try (have c8b1 : decide (t220 = 12 && (t221 == 1)) = true := by simpa using c8))
   (try (have c8b2 : (t220 == 12 && (t221 == 1)) = true := by simpa using c8))
   clear c8
   by_cases c9 : t230 = 0
   ·rw [if_pos c9] at H
    have c9b0 : (t230 == 0) = true := beq_iff_eq.mpr c9
    have c9b1 : (t230 != 0) = false := bne_eq_false_iff_eq.mpr c9
    clear c9
    by_cases c10 : t227 = (-1)
    ·rw [if_pos c10] at H
     have c10b0 : (t227 == (-1)) = true := beq_iff_eq.mpr c10
     have c10b1 : (t227 != (-1)) = false := bne_eq_false_iff_eq.mpr c10
     clear c10
     by_cases c11 : (t228 == 2 && (t229 == 0)) = true
     ·rw [if_pos c11] at H
      have c11b0 : (t228 == 2 && (t229 == 0)) = true := c11
      (try (have c11b1 : decide (t228 = 2 && (t229 == 0)) = true := by simpa using c11))
      (try (have c11b2 : (t228 == 2 && (t229 == 0)) = true := by simpa using c11))
      clear c11
      by_cases c12 : t238 = 0
      ·rw [if_pos c12] at H
       have c12b0 : (t238 == 0) = true := beq_iff_eq.mpr c12
       have c12b1 : (t238 != 0) = false := bne_eq_false_iff_eq.mpr c12
       clear c12
       obtain ⟨y239, hy239⟩ : ∃ y_ : List Int, y_ = (([0, 1, 3] : List Int)) := ⟨_, rfl⟩
       replace H : ((speculumbase_Ints.f k t235 y239).bind fun t242 => (some t242)) = some r := by first | (rw [hy239]; with_reducible exact H) | (have H2_ := (Option.bind_some _ _).symm.trans H; rw [hy239]; with_reducible exact H2_) | (have H2_ := (Option.bind_some _ _).symm.trans H; with_reducible exact H2_) | with_reducible exact H | (rw [hy239]; exact H) | exact H
       have Ny239 := Aside0.mk hy239
       clear hy239
       replace H := Option.bind_eq_some_iff.mp H
       obtain ⟨t242, A130, H⟩ := H
       replace H : (some t242) = some r := H
       have A13 := Aside0.mk A130
       clear A130
       obtain rfl := Option.some.inj H
       go_enter Try.func14, Try.ntmps14
       go_wp2_with (first | ((with_reducible refine gate_callee (f := 58) rfl ?_); refine goesL_ (some 9) rfl rfl Try.func58 (by kernel_rfl) rfl #[] rfl ma_ ?_; (with_reducible refine (speculumlaw06_Four.calls  t211 t214 t217 _ A1.out).mono ?_); rintro e w14 ⟨v212, v215, v218, rfl, ho0, ho1, ho2, hb⟩; refine ⟨_, rfl, ?_⟩; have n0_ := Aside0.mk (Kd.R_lower ho0 (below_size (hb_ HB))); have n1_ := Aside0.mk (Kd.R_lower ho1 (below_size (hb_ HB))); have n2_ := Aside0.mk (Kd.R_lower ho2 (below_size (hb_ HB))); have n3_ := Aside0.mk (below_step (hb_ HB) hb); clear HB; have HO213 := n0_; have HO216 := n1_; have HO219 := n2_; have HB := n3_; clear n0_ n1_ n2_ n3_; (try clear hb); (try clear hb2); (try clear hk); (try clear hi); (try clear ho0); (try clear ho1); (try clear ho2); obtain ⟨Ao15, co15, eo15⟩ := Kd.R_slice HO213.out; subst eo15; obtain ⟨Ao16, co16, eo16⟩ := Kd.R_slice HO216.out; subst eo16; obtain ⟨Ao17, co17, eo17⟩ := Kd.R_slice HO219.out; subst eo17) | ((with_reducible refine gate_callee (f := 32) rfl ?_); refine goesL_ (some 10) rfl rfl Try.func32 (by kernel_rfl) rfl #[.agg #[.slice Ao15 t211.length co15, .slice Ao16 t214.length co16, .slice Ao17 t217.length co17]] rfl ma_ ?_; (with_reducible refine (figure_Least.calls k _ _ t211 _ _ t214 _ _ t217 t220 t221 t222 _ ?side1 ?side2 ?side3 ?side4 ?side5 ?side6 A2.out).mono ?_); (case side1 => repeat (first | exact (Kd.R_reads' HO213.out).2.2 | (with_reducible refine Kd.C_alloc ?_ _) | (with_reducible refine Kd.C_drewN ?_ _) | (with_reducible refine Kd.C_drew ?_))); (case side2 => exact (Kd.R_reads' HO213.out).2.1); (case side3 => repeat (first | exact (Kd.R_reads' HO216.out).2.2 | (with_reducible refine Kd.C_alloc ?_ _) | (with_reducible refine Kd.C_drewN ?_ _) | (with_reducible refine Kd.C_drew ?_))); (case side4 => exact (Kd.R_reads' HO216.out).2.1); (case side5 => repeat (first | exact (Kd.R_reads' HO219.out).2.2 | (with_reducible refine Kd.C_alloc ?_ _) | (with_reducible refine Kd.C_drewN ?_ _) | (with_reducible refine Kd.C_drew ?_))); (case side6 => exact (Kd.R_reads' HO219.out).2.1); rintro e w18 ⟨rfl, hb⟩; refine ⟨_, rfl, ?_⟩; have n0_ := Aside0.mk (Kd.R_below (rk_ HO213) hb); have n1_ := Aside0.mk (Kd.R_below (rk_ HO216) hb); have n2_ := Aside0.mk (Kd.R_below (rk_ HO219) hb); have n3_ := Aside0.mk (below_step (hb_ HB) hb); clear HO213; clear HO216; clear HO219; clear HB; have HO213 := n0_; have HO216 := n1_; have HO219 := n2_; have HB := n3_; clear n0_ n1_ n2_ n3_; (try clear hb); (try clear hb2); (try clear hk); (try clear hi)) | ((with_reducible refine gate_dst (N := 1) rfl ?_); (try (refine gate_guard (by rfl) ?_; dsimp only)); refine box_event ?hg (N := 1) ?hd (cs := #[.int .i64 0, .int .i64 0]) (t := 28) ?hr ?_; (case hd => rfl); (case hg => rfl); (case hr => exact gr_); intro gb223 hg w19 hbox hb; have n0_ := Aside0.mk (Kd.R_below (rk_ HO213) hb); have n1_ := Aside0.mk (Kd.R_below (rk_ HO216) hb); have n2_ := Aside0.mk (Kd.R_below (rk_ HO219) hb); have n3_ := Aside0.mk (below_step (hb_ HB) hb); have n4_ := Aside0.mk (hbox); have n5_ := Aside0.mk ((hz_ HB hg)); have n6_ := Aside0.mk ((hz_ HB hg)); clear HO213; clear HO216; clear HO219; clear HB; have HO213 := n0_; have HO216 := n1_; have HO219 := n2_; have HB := n3_; have BK223 := n4_; have GW223 := n5_; have GE223 := n6_; clear n0_ n1_ n2_ n3_ n4_ n5_ n6_; clear hb hbox hg; have hcz20_0 : w19.cell? ⟨gb223, 0, none⟩ = some (.int .i64 0) := (blk_cell BK223.out 0).trans rfl; have hcz20_1 : w19.cell? ⟨gb223, 1, none⟩ = some (.int .i64 0) := (blk_cell BK223.out 1).trans rfl; have hfz20_0 := blk_frozen BK223.out 0; have hfz20_1 := blk_frozen BK223.out 1) | ((with_reducible refine gate_callee (f := 60) rfl ?_); refine goesL_ (some 14) rfl rfl Try.func60 (by kernel_rfl) rfl #[] rfl ma_ ?_; (with_reducible refine (speculumlaw06_Known.calls  t224 _ A3.out).mono ?_); rintro e w21 ⟨v225, rfl, ho0, hb⟩; refine ⟨_, rfl, ?_⟩; have n0_ := Aside0.mk (Kd.R_below (by (with_reducible repeat (first | apply Kd.R_alloc | apply Kd.R_drewN | apply Kd.R_drew)); exact (Kd.R_mono (Kd.R_far (p := ⟨gb223, 1, none⟩) (Kd.R_far (p := ⟨gb223, 0, none⟩) (Kd.R_types HO213.out BK223.out di_) (fun _ hk => hk.2) (.int .i64 t220)) (fun _ hk => hk.2) (.int .i64 t221)) (fun _ h_ => h_.1))) hb); have n1_ := Aside0.mk (Kd.R_below (by (with_reducible repeat (first | apply Kd.R_alloc | apply Kd.R_drewN | apply Kd.R_drew)); exact (Kd.R_mono (Kd.R_far (p := ⟨gb223, 1, none⟩) (Kd.R_far (p := ⟨gb223, 0, none⟩) (Kd.R_types HO216.out BK223.out di_) (fun _ hk => hk.2) (.int .i64 t220)) (fun _ hk => hk.2) (.int .i64 t221)) (fun _ h_ => h_.1))) hb); have n2_ := Aside0.mk (Kd.R_below (by (with_reducible repeat (first | apply Kd.R_alloc | apply Kd.R_drewN | apply Kd.R_drew)); exact (Kd.R_mono (Kd.R_far (p := ⟨gb223, 1, none⟩) (Kd.R_far (p := ⟨gb223, 0, none⟩) (Kd.R_types HO219.out BK223.out di_) (fun _ hk => hk.2) (.int .i64 t220)) (fun _ hk => hk.2) (.int .i64 t221)) (fun _ h_ => h_.1))) hb); have n3_ := Aside0.mk (Kd.R_lower ho0 (below_size (hb_ HB))); have n4_ := Aside0.mk (blk_below (g := gb223) (o := .cells #[.int .i64 t220, .int .i64 t221] 28 (0, 0)) (by (with_reducible repeat (first | refine blk_drewN ?_ _ | refine blk_drew ?_ | refine blk_alloc ?_ _)); refine blk_put (cs := #[.int .i64 t220, .int .i64 0]) ?_ 1 _ rfl; (with_reducible repeat (first | refine blk_drewN ?_ _ | refine blk_drew ?_ | refine blk_alloc ?_ _)); refine blk_put (cs := #[.int .i64 0, .int .i64 0]) ?_ 0 _ rfl; (with_reducible repeat (first | refine blk_drewN ?_ _ | refine blk_drew ?_ | refine blk_alloc ?_ _)); exact BK223.out) hb); have n5_ := Aside0.mk (below_step (hb_ HB) hb); clear HO213; clear HO216; clear HO219; clear BK223; clear HB; have HO213 := n0_; have HO216 := n1_; have HO219 := n2_; have HO226 := n3_; have BK223 := n4_; have HB := n5_; clear n0_ n1_ n2_ n3_ n4_ n5_; (try clear hb); (try clear hb2); (try clear hk); (try clear hi); (try clear ho0); obtain ⟨Ao22, co22, eo22⟩ := Kd.R_slice HO226.out; subst eo22) | ((with_reducible refine gate_callee (f := 59) rfl ?_); refine goesL_ (some 16) rfl rfl Try.func59 (by kernel_rfl) rfl #[.slice Ao22 t224.length co22, .agg #[.int .i64 0, .int .i64 0]] rfl ma_ ?_; (with_reducible refine (figure_Judge.calls k _ _ t224 0 0 t227 t228 t229 t230 _ ?side1 ?side2 A4.out).mono ?_); (case side1 => repeat (first | exact (Kd.R_reads' HO226.out).2.2 | (with_reducible refine Kd.C_alloc ?_ _) | (with_reducible refine Kd.C_drewN ?_ _) | (with_reducible refine Kd.C_drew ?_))); (case side2 => exact (Kd.R_reads' HO226.out).2.1); rintro e w23 ⟨rfl, hb⟩; refine ⟨_, rfl, ?_⟩; have n0_ := Aside0.mk (Kd.R_below (rk_ HO213) hb); have n1_ := Aside0.mk (Kd.R_below (rk_ HO216) hb); have n2_ := Aside0.mk (Kd.R_below (rk_ HO219) hb); have n3_ := Aside0.mk (Kd.R_below (rk_ HO226) hb); have n4_ := Aside0.mk (bb_ BK223 hb); have n5_ := Aside0.mk (below_step (hb_ HB) hb); clear HO213; clear HO216; clear HO219; clear HO226; clear BK223; clear HB; have HO213 := n0_; have HO216 := n1_; have HO219 := n2_; have HO226 := n3_; have BK223 := n4_; have HB := n5_; clear n0_ n1_ n2_ n3_ n4_ n5_; (try clear hb); (try clear hb2); (try clear hk); (try clear hi)) | ((with_reducible refine gate_dst (N := 4) rfl ?_); (try (refine gate_guard (by rfl) ?_; dsimp only)); refine box_event ?hg (N := 4) ?hd (cs := #[.int .i64 0, .int .i64 0]) (t := 48) ?hr ?_; (case hd => rfl); (case hg => rfl); (case hr => exact gr_); intro gb231 hg w24 hbox hb; have n0_ := Aside0.mk (Kd.R_below (rk_ HO213) hb); have n1_ := Aside0.mk (Kd.R_below (rk_ HO216) hb); have n2_ := Aside0.mk (Kd.R_below (rk_ HO219) hb); have n3_ := Aside0.mk (Kd.R_below (rk_ HO226) hb); have n4_ := Aside0.mk (bb_ BK223 hb); have n5_ := Aside0.mk (below_step (hb_ HB) hb); have n6_ := Aside0.mk (hbox); have n7_ := Aside0.mk ((hz_ HB hg)); have n8_ := Aside0.mk ((hz_ HB hg)); have n9_ := Aside0.mk ((nl_ BK223 hg)); have n10_ := Aside0.mk ((ng_ BK223 hg)); clear HO213; clear HO216; clear HO219; clear HO226; clear BK223; clear HB; have HO213 := n0_; have HO216 := n1_; have HO219 := n2_; have HO226 := n3_; have BK223 := n4_; have HB := n5_; have BK231 := n6_; have GW231 := n7_; have GE231 := n8_; have NB223_231 := n9_; have NB231_223 := n10_; clear n0_ n1_ n2_ n3_ n4_ n5_ n6_ n7_ n8_ n9_ n10_; clear hb hbox hg; have hnb25 := NB231_223.out; have hnc25 := NB223_231.out; have hcz26_0 : w24.cell? ⟨gb231, 0, none⟩ = some (.int .i64 0) := (blk_cell BK231.out 0).trans rfl; have hcz26_1 : w24.cell? ⟨gb231, 1, none⟩ = some (.int .i64 0) := (blk_cell BK231.out 1).trans rfl; have hfz26_0 := blk_frozen BK231.out 0; have hfz26_1 := blk_frozen BK231.out 1) | ((with_reducible refine gate_callee (f := 60) rfl ?_); refine goesL_ (some 21) rfl rfl Try.func60 (by kernel_rfl) rfl #[] rfl ma_ ?_; (with_reducible refine (speculumlaw06_Known.calls  t232 _ A5.out).mono ?_); rintro e w27 ⟨v233, rfl, ho0, hb⟩; refine ⟨_, rfl, ?_⟩; have n0_ := Aside0.mk (Kd.R_below (by (with_reducible repeat (first | apply Kd.R_alloc | apply Kd.R_drewN | apply Kd.R_drew)); exact (Kd.R_mono (Kd.R_far (p := ⟨gb231, 1, none⟩) (Kd.R_far (p := ⟨gb231, 0, none⟩) (Kd.R_types HO213.out BK231.out di_) (fun _ hk => hk.2) (.int .i64 t228)) (fun _ hk => hk.2) (.int .i64 t229)) (fun _ h_ => h_.1))) hb); have n1_ := Aside0.mk (Kd.R_below (by (with_reducible repeat (first | apply Kd.R_alloc | apply Kd.R_drewN | apply Kd.R_drew)); exact (Kd.R_mono (Kd.R_far (p := ⟨gb231, 1, none⟩) (Kd.R_far (p := ⟨gb231, 0, none⟩) (Kd.R_types HO216.out BK231.out di_) (fun _ hk => hk.2) (.int .i64 t228)) (fun _ hk => hk.2) (.int .i64 t229)) (fun _ h_ => h_.1))) hb); have n2_ := Aside0.mk (Kd.R_below (by (with_reducible repeat (first | apply Kd.R_alloc | apply Kd.R_drewN | apply Kd.R_drew)); exact (Kd.R_mono (Kd.R_far (p := ⟨gb231, 1, none⟩) (Kd.R_far (p := ⟨gb231, 0, none⟩) (Kd.R_types HO219.out BK231.out di_) (fun _ hk => hk.2) (.int .i64 t228)) (fun _ hk => hk.2) (.int .i64 t229)) (fun _ h_ => h_.1))) hb); have n3_ := Aside0.mk (Kd.R_elder' (by (with_reducible repeat (first | apply Kd.R_alloc | apply Kd.R_drewN | apply Kd.R_drew)); exact (Kd.R_mono (Kd.R_far (p := ⟨gb231, 1, none⟩) (Kd.R_far (p := ⟨gb231, 0, none⟩) (Kd.R_types HO226.out BK231.out di_) (fun _ hk => hk.2) (.int .i64 t228)) (fun _ hk => hk.2) (.int .i64 t229)) (fun _ h_ => h_.1))) (Kd.R_base ho0) hb); have n4_ := Aside0.mk (Kd.R_lower (Kd.R_new' ho0 (Kd.R_lt (by (with_reducible repeat (first | apply Kd.R_alloc | apply Kd.R_drewN | apply Kd.R_drew)); exact (Kd.R_mono (Kd.R_far (p := ⟨gb231, 1, none⟩) (Kd.R_far (p := ⟨gb231, 0, none⟩) (Kd.R_types HO226.out BK231.out di_) (fun _ hk => hk.2) (.int .i64 t228)) (fun _ hk => hk.2) (.int .i64 t229)) (fun _ h_ => h_.1))))) (below_size (hb_ HB))); have n5_ := Aside0.mk (blk_below (g := gb223) (o := .cells #[.int .i64 t220, .int .i64 t221] 28 (0, 0)) (by (with_reducible repeat (first | refine blk_drewN ?_ _ | refine blk_drew ?_ | refine blk_alloc ?_ _)); refine blk_far ?_ NB223_231.out _; (with_reducible repeat (first | refine blk_drewN ?_ _ | refine blk_drew ?_ | refine blk_alloc ?_ _)); refine blk_far ?_ NB223_231.out _; (with_reducible repeat (first | refine blk_drewN ?_ _ | refine blk_drew ?_ | refine blk_alloc ?_ _)); exact BK223.out) hb); have n6_ := Aside0.mk (blk_below (g := gb231) (o := .cells #[.int .i64 t228, .int .i64 t229] 48 (0, 0)) (by (with_reducible repeat (first | refine blk_drewN ?_ _ | refine blk_drew ?_ | refine blk_alloc ?_ _)); refine blk_put (cs := #[.int .i64 t228, .int .i64 0]) ?_ 1 _ rfl; (with_reducible repeat (first | refine blk_drewN ?_ _ | refine blk_drew ?_ | refine blk_alloc ?_ _)); refine blk_put (cs := #[.int .i64 0, .int .i64 0]) ?_ 0 _ rfl; (with_reducible repeat (first | refine blk_drewN ?_ _ | refine blk_drew ?_ | refine blk_alloc ?_ _)); exact BK231.out) hb); have n7_ := Aside0.mk (below_step (hb_ HB) hb); clear HO213; clear HO216; clear HO219; clear HO226; clear BK223; clear BK231; clear HB; have HO213 := n0_; have HO216 := n1_; have HO219 := n2_; have HO226 := n3_; have HO234 := n4_; have BK223 := n5_; have BK231 := n6_; have HB := n7_; clear n0_ n1_ n2_ n3_ n4_ n5_ n6_ n7_; (try clear hb); (try clear hb2); (try clear hk); (try clear hi); (try clear ho0); obtain ⟨Ao28, co28, eo28⟩ := Kd.R_slice HO234.out; subst eo28) | ((with_reducible refine gate_callee (f := 61) rfl ?_); refine goesL_ (some 23) rfl rfl Try.func61 (by kernel_rfl) rfl #[.slice Ao28 t232.length co28, .agg #[.int .i64 3, .int .i64 2]] rfl ma_ ?_; (with_reducible refine (figure_Surface.calls k _ _ t232 3 2 t235 t238 _ ?side1 ?side2 A6.out).mono ?_); (case side1 => repeat (first | exact (Kd.R_reads' HO234.out).2.2 | (with_reducible refine Kd.C_alloc ?_ _) | (with_reducible refine Kd.C_drewN ?_ _) | (with_reducible refine Kd.C_drew ?_))); (case side2 => exact (Kd.R_reads' HO234.out).2.1); rintro e w29 ⟨v236, rfl, ho0, hb⟩; refine ⟨_, rfl, ?_⟩; have n0_ := Aside0.mk (Kd.R_elder' (rk_ HO213) (Kd.R_base ho0) hb); have n1_ := Aside0.mk (Kd.R_elder' (rk_ HO216) (Kd.R_base ho0) hb); have n2_ := Aside0.mk (Kd.R_elder' (rk_ HO219) (Kd.R_base ho0) hb); have n3_ := Aside0.mk (Kd.R_below (rk_ HO226) hb); have n4_ := Aside0.mk (Kd.R_below (rk_ HO234) hb); have n5_ := Aside0.mk (Kd.R_lower (Kd.R_new' (Kd.R_new' (Kd.R_new' ho0 (Kd.R_lt (rk_ HO213))) (Kd.R_lt (rk_ HO216))) (Kd.R_lt (rk_ HO219))) (below_size (hb_ HB))); have n6_ := Aside0.mk (bb_ BK223 hb); have n7_ := Aside0.mk (bb_ BK231 hb); have n8_ := Aside0.mk (below_step (hb_ HB) hb); clear HO213; clear HO216; clear HO219; clear HO226; clear HO234; clear BK223; clear BK231; clear HB; have HO213 := n0_; have HO216 := n1_; have HO219 := n2_; have HO226 := n3_; have HO234 := n4_; have HO237 := n5_; have BK223 := n6_; have BK231 := n7_; have HB := n8_; clear n0_ n1_ n2_ n3_ n4_ n5_ n6_ n7_ n8_; (try clear hb); (try clear hb2); (try clear hk); (try clear hi); (try clear ho0); have hcz30_0 : w29.cell? ⟨gb223, 0, none⟩ = some (.int .i64 t220) := (blk_cell BK223.out 0).trans rfl; have hcz30_1 : w29.cell? ⟨gb223, 1, none⟩ = some (.int .i64 t221) := (blk_cell BK223.out 1).trans rfl; have hfz30_0 := blk_frozen BK223.out 0; have hfz30_1 := blk_frozen BK223.out 1; have hcz31_0 : w29.cell? ⟨gb231, 0, none⟩ = some (.int .i64 t228) := (blk_cell BK231.out 0).trans rfl; have hcz31_1 : w29.cell? ⟨gb231, 1, none⟩ = some (.int .i64 t229) := (blk_cell BK231.out 1).trans rfl; have hfz31_0 := blk_frozen BK231.out 0; have hfz31_1 := blk_frozen BK231.out 1) | ((with_reducible refine gate_dst (N := 52) rfl ?_); (try (refine gate_guard (by rfl) ?_; dsimp only)); refine Kd.R_lit (Kd.int .i64) _ 3 ?hg (N := 52) ?hd (xs := ([0, 1, 3] : List Int)) (inner := [.int .i64 0, .int .i64 1, .int .i64 3]) (ok := fun _ => True) (okp := fun _ => True) ?hr ?hp (fun _ hk => hk) trivial (Below.refl _ _) (Nat.le_refl _) (by simp) ?_; (case hd => rfl); (case hg => rfl); (case hr => exact gr_); (case hp => exact (Reps.one (show Kd.M (Kd.int .i64) _ _ _ 0 [.int .i64 0] from rfl) (Reps.one (show Kd.M (Kd.int .i64) _ _ _ 1 [.int .i64 1] from rfl) (Reps.one (show Kd.M (Kd.int .i64) _ _ _ 3 [.int .i64 3] from rfl) (Reps.none _ _))))); intro v240 w32 ho33 hb hg_ hnew_; clear hg_ hnew_; (first | rw [← Ny239.out] at ho33 | (simp only [Int.reduceToNat] at ho33; rw [← Ny239.out] at ho33)); have n0_ := Aside0.mk (Kd.R_elder' (rk_ HO213) (Kd.R_base ho33) hb); have n1_ := Aside0.mk (Kd.R_elder' (rk_ HO216) (Kd.R_base ho33) hb); have n2_ := Aside0.mk (Kd.R_elder' (rk_ HO219) (Kd.R_base ho33) hb); have n3_ := Aside0.mk (Kd.R_below (rk_ HO226) hb); have n4_ := Aside0.mk (Kd.R_below (rk_ HO234) hb); have n5_ := Aside0.mk (Kd.R_elder' (rk_ HO237) (Kd.R_base ho33) hb); have n6_ := Aside0.mk (Kd.R_lower (Kd.R_new' (Kd.R_new' (Kd.R_new' (Kd.R_new' ho33 (Kd.R_lt (rk_ HO213))) (Kd.R_lt (rk_ HO216))) (Kd.R_lt (rk_ HO219))) (Kd.R_lt (rk_ HO237))) (below_size (hb_ HB))); have n7_ := Aside0.mk (bb_ BK223 hb); have n8_ := Aside0.mk (bb_ BK231 hb); have n9_ := Aside0.mk (below_step (hb_ HB) hb); clear HO213; clear HO216; clear HO219; clear HO226; clear HO234; clear HO237; clear BK223; clear BK231; clear HB; have HO213 := n0_; have HO216 := n1_; have HO219 := n2_; have HO226 := n3_; have HO234 := n4_; have HO237 := n5_; have HO241 := n6_; have BK223 := n7_; have BK231 := n8_; have HB := n9_; clear n0_ n1_ n2_ n3_ n4_ n5_ n6_ n7_ n8_ n9_; clear hb ho33; obtain ⟨Ao34, co34, eo34⟩ := Kd.R_slice HO237.out; subst eo34; obtain ⟨Ao35, co35, eo35⟩ := Kd.R_slice HO241.out; subst eo35) | (go_at_call 49; (with_reducible refine (speculumbase_Ints.calls k _ _ t235 _ _ y239 t242 _ ?side1 ?side2 ?side3 ?side4 A13.out).mono ?_); (case side1 => repeat (first | exact (Kd.R_reads' HO237.out).2.2 | (with_reducible refine Kd.C_alloc ?_ _) | (with_reducible refine Kd.C_drewN ?_ _) | (with_reducible refine Kd.C_drew ?_))); (case side2 => exact (Kd.R_reads' HO237.out).2.1); (case side3 => repeat (first | exact (Kd.R_reads' HO241.out).2.2 | (with_reducible refine Kd.C_alloc ?_ _) | (with_reducible refine Kd.C_drewN ?_ _) | (with_reducible refine Kd.C_drew ?_))); (case side4 => exact (Kd.R_reads' HO241.out).2.1); rintro e w' ⟨rfl, ⟨nd, rfl⟩⟩))
       go_ret
       exact ⟨by first | rfl | (simp [errW_none, errW_some] <;> rfl) | (simp [*, errW_none, errW_some] <;> rfl), by repeat (first | (with_reducible first | exact HB.out | apply below_alloc | apply pw_below_drewN | apply below_drew1 | refine below_set ?_ GE223.out | refine below_set ?_ GE231.out) | exact HB.out)⟩
      ·rw [if_neg c12] at H
       have c12b0 : (t238 == 0) = false := beq_eq_false_iff_ne.mpr c12
       have c12b1 : (t238 != 0) = true := bne_iff_ne.mpr c12
       exact absurd (Option.some.inj H) (by rw [hr_]; decide)
     ·rw [if_neg c11] at H
      have c11b0 : (t228 == 2 && (t229 == 0)) = false := by simpa using c11
      (try (have c11b1 : decide (t228 = 2 && (t229 == 0)) = false := by simpa using c11))
      (try (have c11b2 : (t228 == 2 && (t229 == 0)) = false := by simpa using c11))
      (try (have c11b3 : ¬ (t228 = 2 && (t229 == 0)) := by simpa using c11))
      clear c11
      exact absurd (Option.some.inj H) (by rw [hr_]; decide)
    ·rw [if_neg c10] at H
     have c10b0 : (t227 == (-1)) = false := beq_eq_false_iff_ne.mpr c10
     have c10b1 : (t227 != (-1)) = true := bne_iff_ne.mpr c10
     exact absurd (Option.some.inj H) (by rw [hr_]; decide)
   ·rw [if_neg c9] at H
    have c9b0 : (t230 == 0) = false := beq_eq_false_iff_ne.mpr c9
    have c9b1 : (t230 != 0) = true := bne_iff_ne.mpr c9
    exact absurd (Option.some.inj H) (by rw [hr_]; decide)
  ·rw [if_neg c8] at H
   have c8b0 : (t220 == 12 && (t221 == 1)) = false := by simpa using c8
   (try (have c8b1 : decide (t220 = 12 && (t221 == 1)) = false := by simpa using c8))
   (try (have c8b2 : (t220 == 12 && (t221 == 1)) = false := by simpa using c8))
   (try (have c8b3 : ¬ (t220 = 12 && (t221 == 1)) := by simpa using c8))
   clear c8
   exact absurd (Option.some.inj H) (by rw [hr_]; decide)
 ·rw [if_neg c7] at H
  have c7b0 : (t222 == 0) = false := beq_eq_false_iff_ne.mpr c7
  have c7b1 : (t222 != 0) = true := bne_iff_ne.mpr c7
  exact absurd (Option.some.inj H) (by rw [hr_]; decide)
end Go.Proofs.Ytdkahcolfcmmpaa.Pr
namespace Go.Proofs.Ytdkahcolfcmmpaa.Pr
open Go.RowKit Go.Proofs.YtdkahcolfcmmpaaW.PrintWords Go.Proofs.YtdkahcolfcmmpaaW.PrintLast Go.Proofs.YtdkahcolfcmmpaaW.PrintMore
attribute [local go_sem] max2_int min2_int max_two min_two max_three min_three max_four min_four   -- for this text's walks alone
set_option linter.unusedVariables false
set_option linter.unusedSimpArgs false
attribute [local go_sem high] eqA28
mutual
def speculumlaw06_FigureLines.j0 : Nat → Int → Int → List (S28) → Int → Int → List Int → List Int → List Int → Int → Int → Int → Int → Int → Int → Option (Bool)
 | 0, _, _, _, _, _, _, _, _, _, _, _, _, _, _ => none
 | k + 1, x5, x6, x7, x8, x9, x659000, x659001, x659002, x660000, x660001, x660002, x660003, x660004, x660005 => if x9 = 0 then ((speculumref06_CheckReference.f k x659000 x659001 x659002 x660000 x660001 x660002 x660003 x660004 x660005).bind fun bt688 => (if x6 = bt688.2 then (if x5 = bt688.1 then (if x8 = 0 then (speculumlaw06_FigureLines.j1 k x7 ((x7.length : Int) != (x659000.length : Int)) x659000 x659001 x659002 x660000 x660001 x660002 x660003 x660004 x660005) else (speculumlaw06_FigureLines.j1 k x7 true x659000 x659001 x659002 x660000 x660001 x660002 x660003 x660004 x660005)) else (speculumlaw06_FigureLines.j1 k x7 true x659000 x659001 x659002 x660000 x660001 x660002 x660003 x660004 x660005)) else (speculumlaw06_FigureLines.j1 k x7 true x659000 x659001 x659002 x660000 x660001 x660002 x660003 x660004 x660005))) else (if x6 = x9 then (if x8 = x9 then (if x5 = 0 then (some ((x7.length : Int) == 0)) else (some false)) else (some false)) else (some false))
def speculumlaw06_FigureLines.j1 : Nat → List (S28) → Bool → List Int → List Int → List Int → Int → Int → Int → Int → Int → Int → Option (Bool)
 | 0, _, _, _, _, _, _, _, _, _, _, _ => none
 | k + 1, x7, x81, x659000, x659001, x659002, x660000, x660001, x660002, x660003, x660004, x660005 => if x81 = true then (some false) else (speculumlaw06_FigureLines.l0 k x7 0 x659000 x659001 x659002 x660000 x660001 x660002 x660003 x660004 x660005)
def speculumlaw06_FigureLines.l0 : Nat → List (S28) → Int → List Int → List Int → List Int → Int → Int → Int → Int → Int → Int → Option (Bool)
 | 0, _, _, _, _, _, _, _, _, _, _, _ => none
 | k + 1, x7, x11, x659000, x659001, x659002, x660000, x660001, x660002, x660003, x660004, x660005 => if x11 < (x7.length : Int) then (if 0 ≤ x11 then ((speculumref06_Removal.f k x659000 x659001 x659002 x660000 x660001 x660002 x660003 x660004 x660005 x11).bind fun bt691 => (if (!(((rd_T28 x7 x11).f0) == bt691.1) || (!(((rd_T28 x7 x11).f1) == bt691.2))) = true then (some false) else (speculumlaw06_FigureLines.l0 k x7 (wrap64 (x11 + 1)) x659000 x659001 x659002 x660000 x660001 x660002 x660003 x660004 x660005))) else (none)) else (some true)
end
def speculumlaw06_FigureLines.f (k : Nat) (l0_0 : List Int) (l0_1 : List Int) (l0_2 : List Int) (a1_0 : Int) (a1_1 : Int) (a1_2 : Int) (a1_3 : Int) (a1_4 : Int) (a1_5 : Int) : Option (Bool) := (speculumlaw06_awake.f k).bind fun t660 => (if t660 = true then ((speculumlaw06_Few.f l0_0 l0_1 l0_2).bind fun t661 => (if t661 = true then ((speculumlaw06_mapped.f l0_0 l0_1 l0_2).bind fun bt662 => ((figure_CheckReference.f k bt662.1 bt662.2.1 bt662.2.2 a1_0 a1_1 a1_2 a1_3 a1_4 a1_5).bind fun bt671 => ((speculumlaw06_mapped.f l0_0 l0_1 l0_2).bind fun bt673 => ((figure_Removal.f k bt673.1 bt673.2.1 bt673.2.2 a1_0 a1_1 a1_2 a1_3 a1_4 a1_5).bind fun bt682 => ((speculumref06_CheckMap.f k l0_0 l0_1 l0_2).bind fun t686 => (if t686 = 0 then ((speculumref06_CheckLine.f k a1_0 a1_1 a1_2 a1_3 a1_4 a1_5).bind fun t687 => (speculumlaw06_FigureLines.j0 k bt671.1 bt671.2 bt682.1 bt682.2 t687 l0_0 l0_1 l0_2 a1_0 a1_1 a1_2 a1_3 a1_4 a1_5)) else (speculumlaw06_FigureLines.j0 k bt671.1 bt671.2 bt682.1 bt682.2 t686 l0_0 l0_1 l0_2 a1_0 a1_1 a1_2 a1_3 a1_4 a1_5))))))) else (some true))) else (some false))
def speculumlaw06_FigureLines.T5 : Bool × List (List Nat × List Nat) := (true, [([], []), ([0], [0]), ([], []), ([1, 2, 1], [1, 2]), ([3], [3]), ([4], [4]), ([4], [4]), ([5, 3, 0, 1, 2, 3, 4, 5], [5]), ([6, 7, 0, 1, 2, 3, 4, 5, 6, 7], [6])])
def speculumlaw06_FigureLines.B5 : List Nat := [0, 1, 0, 7, 15, 31, 31, 63, 255]
theorem speculumlaw06_FigureLines.tab5 : rtab .any (opsOf Try.f9 5) = speculumlaw06_FigureLines.T5 := by kernel_rfl
theorem speculumlaw06_FigureLines.bits5 : waitsOk speculumlaw06_FigureLines.T5.2 speculumlaw06_FigureLines.B5 = true := by kernel_rfl
def speculumlaw06_FigureLines.T6 : Bool × List (List Nat × List Nat) := (true, [([], []), ([0], [0]), ([], []), ([1, 2, 1], [1, 2]), ([3], [3]), ([4], [4]), ([4], [4]), ([5, 3, 0, 1, 2, 3, 4, 5], [5]), ([6, 7, 0, 1, 2, 3, 4, 5, 6, 7], [6])])
def speculumlaw06_FigureLines.B6 : List Nat := [0, 1, 0, 7, 15, 31, 31, 63, 255]
theorem speculumlaw06_FigureLines.tab6 : rtab .any (opsOf Try.f9 6) = speculumlaw06_FigureLines.T6 := by kernel_rfl
theorem speculumlaw06_FigureLines.bits6 : waitsOk speculumlaw06_FigureLines.T6.2 speculumlaw06_FigureLines.B6 = true := by kernel_rfl
def speculumlaw06_FigureLines.T18 : Bool × List (List Nat × List Nat) := (true, [([], []), ([], []), ([0, 1], [0, 1]), ([2], [2]), ([], []), ([], []), ([], []), ([4, 5, 6], [4, 5, 6]), ([3, 7], [3, 7])])
def speculumlaw06_FigureLines.B18 : List Nat := [0, 0, 3, 7, 0, 0, 0, 112, 255]
theorem speculumlaw06_FigureLines.tab18 : rtab .any (opsOf Try.f9 18) = speculumlaw06_FigureLines.T18 := by kernel_rfl
theorem speculumlaw06_FigureLines.bits18 : waitsOk speculumlaw06_FigureLines.T18.2 speculumlaw06_FigureLines.B18 = true := by kernel_rfl
set_option maxHeartbeats 8000000 in
set_option maxRecDepth 100000 in
theorem speculumlaw06_FigureLines.calls (k : Nat) (A0_0 : Option Addr) (c0_0 : Nat) (l0_0 : List Int) (A0_1 : Option Addr) (c0_1 : Nat) (l0_1 : List Int) (A0_2 : Option Addr) (c0_2 : Nat) (l0_2 : List Int) (a1_0 : Int) (a1_1 : Int) (a1_2 : Int) (a1_3 : Int) (a1_4 : Int) (a1_5 : Int) (r : Bool) (w : World) (hr0_0 : Kd.C (Kd.int .i64) w A0_0 l0_0.length l0_0) (hc0_0 : l0_0.length ≤ c0_0) (hr0_1 : Kd.C (Kd.int .i64) w A0_1 l0_1.length l0_1) (hc0_1 : l0_1.length ≤ c0_1) (hr0_2 : Kd.C (Kd.int .i64) w A0_2 l0_2.length l0_2) (hc0_2 : l0_2.length ≤ c0_2) (hr_ : r = true) (h : speculumlaw06_FigureLines.f k l0_0 l0_1 l0_2 a1_0 a1_1 a1_2 a1_3 a1_4 a1_5 = some r) :
  Calls Try.prog 9 #[.agg #[.slice A0_0 l0_0.length c0_0, .slice A0_1 l0_1.length c0_1, .slice A0_2 l0_2.length c0_2], .agg #[.int .i64 a1_0, .int .i64 a1_1, .int .i64 a1_2, .int .i64 a1_3, .int .i64 a1_4, .int .i64 a1_5]] w fun e w' => e = .returned (.bool r) ∧ Below w.heap.size w w' := by
 have hu24 := Try.underlying24
 have hu50 := Try.underlying50
 have hu28 := Try.underlying28
 have HR0_0 := Aside0.mk hr0_0
 have HC0_0 := Aside0.mk hc0_0
 clear hr0_0 hc0_0
 have HR0_1 := Aside0.mk hr0_1
 have HC0_1 := Aside0.mk hc0_1
 clear hr0_1 hc0_1
 have HR0_2 := Aside0.mk hr0_2
 have HC0_2 := Aside0.mk hc0_2
 clear hr0_2 hc0_2
 have HB := Aside0.mk (Below.refl w.heap.size w)
 have H : ((speculumlaw06_awake.f k).bind fun t660 => (if t660 = true then ((speculumlaw06_Few.f l0_0 l0_1 l0_2).bind fun t661 => (if t661 = true then ((speculumlaw06_mapped.f l0_0 l0_1 l0_2).bind fun bt662 => ((figure_CheckReference.f k bt662.1 bt662.2.1 bt662.2.2 a1_0 a1_1 a1_2 a1_3 a1_4 a1_5).bind fun bt671 => ((speculumlaw06_mapped.f l0_0 l0_1 l0_2).bind fun bt673 => ((figure_Removal.f k bt673.1 bt673.2.1 bt673.2.2 a1_0 a1_1 a1_2 a1_3 a1_4 a1_5).bind fun bt682 => ((speculumref06_CheckMap.f k l0_0 l0_1 l0_2).bind fun t686 => (if t686 = 0 then ((speculumref06_CheckLine.f k a1_0 a1_1 a1_2 a1_3 a1_4 a1_5).bind fun t687 => (speculumlaw06_FigureLines.j0 k bt671.1 bt671.2 bt682.1 bt682.2 t687 l0_0 l0_1 l0_2 a1_0 a1_1 a1_2 a1_3 a1_4 a1_5)) else (speculumlaw06_FigureLines.j0 k bt671.1 bt671.2 bt682.1 bt682.2 t686 l0_0 l0_1 l0_2 a1_0 a1_1 a1_2 a1_3 a1_4 a1_5))))))) else (some true))) else (some false))) = some r := h
 clear h
 replace H := Option.bind_eq_some_iff.mp H
 obtain ⟨t660, A30, H⟩ := H
 replace H : (if t660 = true then ((speculumlaw06_Few.f l0_0 l0_1 l0_2).bind fun t661 => (if t661 = true then ((speculumlaw06_mapped.f l0_0 l0_1 l0_2).bind fun bt662 => ((figure_CheckReference.f k bt662.1 bt662.2.1 bt662.2.2 a1_0 a1_1 a1_2 a1_3 a1_4 a1_5).bind fun bt671 => ((speculumlaw06_mapped.f l0_0 l0_1 l0_2).bind fun bt673 => ((figure_Removal.f k bt673.1 bt673.2.1 bt673.2.2 a1_0 a1_1 a1_2 a1_3 a1_4 a1_5).bind fun bt682 => ((speculumref06_CheckMap.f k l0_0 l0_1 l0_2).bind fun t686 => (if t686 = 0 then ((speculumref06_CheckLine.f k a1_0 a1_1 a1_2 a1_3 a1_4 a1_5).bind fun t687 => (speculumlaw06_FigureLines.j0 k bt671.1 bt671.2 bt682.1 bt682.2 t687 l0_0 l0_1 l0_2 a1_0 a1_1 a1_2 a1_3 a1_4 a1_5)) else (speculumlaw06_FigureLines.j0 k bt671.1 bt671.2 bt682.1 bt682.2 t686 l0_0 l0_1 l0_2 a1_0 a1_1 a1_2 a1_3 a1_4 a1_5))))))) else (some true))) else (some false)) = some r := H
 have A3 := Aside0.mk A30
 clear A30
 by_cases c4 : t660 = true
 ·subst c4
  have H1 : ((speculumlaw06_Few.f l0_0 l0_1 l0_2).bind fun t661 => (if t661 = true then ((speculumlaw06_mapped.f l0_0 l0_1 l0_2).bind fun bt662 => ((figure_CheckReference.f k bt662.1 bt662.2.1 bt662.2.2 a1_0 a1_1 a1_2 a1_3 a1_4 a1_5).bind fun bt671 => ((speculumlaw06_mapped.f l0_0 l0_1 l0_2).bind fun bt673 => ((figure_Removal.f k bt673.1 bt673.2.1 bt673.2.2 a1_0 a1_1 a1_2 a1_3 a1_4 a1_5).bind fun bt682 => ((speculumref06_CheckMap.f k l0_0 l0_1 l0_2).bind fun t686 => (if t686 = 0 then ((speculumref06_CheckLine.f k a1_0 a1_1 a1_2 a1_3 a1_4 a1_5).bind fun t687 => (speculumlaw06_FigureLines.j0 k bt671.1 bt671.2 bt682.1 bt682.2 t687 l0_0 l0_1 l0_2 a1_0 a1_1 a1_2 a1_3 a1_4 a1_5)) else (speculumlaw06_FigureLines.j0 k bt671.1 bt671.2 bt682.1 bt682.2 t686 l0_0 l0_1 l0_2 a1_0 a1_1 a1_2 a1_3 a1_4 a1_5))))))) else (some true))) = some r := by rw [if_pos rfl] at H; exact H
  clear H
  have H := H1
  clear H1
  replace H := Option.bind_eq_some_iff.mp H
  obtain ⟨t661, A50, H⟩ := H
  replace H : (if t661 = true then ((speculumlaw06_mapped.f l0_0 l0_1 l0_2).bind fun bt662 => ((figure_CheckReference.f k bt662.1 bt662.2.1 bt662.2.2 a1_0 a1_1 a1_2 a1_3 a1_4 a1_5).bind fun bt671 => ((speculumlaw06_mapped.f l0_0 l0_1 l0_2).bind fun bt673 => ((figure_Removal.f k bt673.1 bt673.2.1 bt673.2.2 a1_0 a1_1 a1_2 a1_3 a1_4 a1_5).bind fun bt682 => ((speculumref06_CheckMap.f k l0_0 l0_1 l0_2).bind fun t686 => (if t686 = 0 then ((speculumref06_CheckLine.f k a1_0 a1_1 a1_2 a1_3 a1_4 a1_5).bind fun t687 => (speculumlaw06_FigureLines.j0 k bt671.1 bt671.2 bt682.1 bt682.2 t687 l0_0 l0_1 l0_2 a1_0 a1_1 a1_2 a1_3 a1_4 a1_5)) else (speculumlaw06_FigureLines.j0 k bt671.1 bt671.2 bt682.1 bt682.2 t686 l0_0 l0_1 l0_2 a1_0 a1_1 a1_2 a1_3 a1_4 a1_5))))))) else (some true)) = some r := H
  have A5 := Aside0.mk A50
  clear A50
  by_cases c6 : t661 = true
  ·subst c6
   have H1 : ((speculumlaw06_mapped.f l0_0 l0_1 l0_2).bind fun bt662 => ((figure_CheckReference.f k bt662.1 bt662.2.1 bt662.2.2 a1_0 a1_1 a1_2 a1_3 a1_4 a1_5).bind fun bt671 => ((speculumlaw06_mapped.f l0_0 l0_1 l0_2).bind fun bt673 => ((figure_Removal.f k bt673.1 bt673.2.1 bt673.2.2 a1_0 a1_1 a1_2 a1_3 a1_4 a1_5).bind fun bt682 => ((speculumref06_CheckMap.f k l0_0 l0_1 l0_2).bind fun t686 => (if t686 = 0 then ((speculumref06_CheckLine.f k a1_0 a1_1 a1_2 a1_3 a1_4 a1_5).bind fun t687 => (speculumlaw06_FigureLines.j0 k bt671.1 bt671.2 bt682.1 bt682.2 t687 l0_0 l0_1 l0_2 a1_0 a1_1 a1_2 a1_3 a1_4 a1_5)) else (speculumlaw06_FigureLines.j0 k bt671.1 bt671.2 bt682.1 bt682.2 t686 l0_0 l0_1 l0_2 a1_0 a1_1 a1_2 a1_3 a1_4 a1_5))))))) = some r := by rw [if_pos rfl] at H; exact H
   clear H
   have H := H1
   clear H1
   replace H := Option.bind_eq_some_iff.mp H
   obtain ⟨⟨t662, t665, t668⟩, A70, H⟩ := H
   replace H : ((figure_CheckReference.f k t662 t665 t668 a1_0 a1_1 a1_2 a1_3 a1_4 a1_5).bind fun bt671 => ((speculumlaw06_mapped.f l0_0 l0_1 l0_2).bind fun bt673 => ((figure_Removal.f k bt673.1 bt673.2.1 bt673.2.2 a1_0 a1_1 a1_2 a1_3 a1_4 a1_5).bind fun bt682 => ((speculumref06_CheckMap.f k l0_0 l0_1 l0_2).bind fun t686 => (if t686 = 0 then ((speculumref06_CheckLine.f k a1_0 a1_1 a1_2 a1_3 a1_4 a1_5).bind fun t687 => (speculumlaw06_FigureLines.j0 k bt671.1 bt671.2 bt682.1 bt682.2 t687 l0_0 l0_1 l0_2 a1_0 a1_1 a1_2 a1_3 a1_4 a1_5)) else (speculumlaw06_FigureLines.j0 k bt671.1 bt671.2 bt682.1 bt682.2 t686 l0_0 l0_1 l0_2 a1_0 a1_1 a1_2 a1_3 a1_4 a1_5)))))) = some r := H
   have A7 := Aside0.mk A70
   clear A70
   replace H := Option.bind_eq_some_iff.mp H
   obtain ⟨⟨t671, t672⟩, A80, H⟩ := H
   replace H : ((speculumlaw06_mapped.f l0_0 l0_1 l0_2).bind fun bt673 => ((figure_Removal.f k bt673.1 bt673.2.1 bt673.2.2 a1_0 a1_1 a1_2 a1_3 a1_4 a1_5).bind fun bt682 => ((speculumref06_CheckMap.f k l0_0 l0_1 l0_2).bind fun t686 => (if t686 = 0 then ((speculumref06_CheckLine.f k a1_0 a1_1 a1_2 a1_3 a1_4 a1_5).bind fun t687 => (speculumlaw06_FigureLines.j0 k t671 t672 bt682.1 bt682.2 t687 l0_0 l0_1 l0_2 a1_0 a1_1 a1_2 a1_3 a1_4 a1_5)) else (speculumlaw06_FigureLines.j0 k t671 t672 bt682.1 bt682.2 t686 l0_0 l0_1 l0_2 a1_0 a1_1 a1_2 a1_3 a1_4 a1_5))))) = some r := H
   have A8 := Aside0.mk A80
   clear A80
   replace H := Option.bind_eq_some_iff.mp H
   obtain ⟨⟨t673, t676, t679⟩, A90, H⟩ := H
   replace H : ((figure_Removal.f k t673 t676 t679 a1_0 a1_1 a1_2 a1_3 a1_4 a1_5).bind fun bt682 => ((speculumref06_CheckMap.f k l0_0 l0_1 l0_2).bind fun t686 => (if t686 = 0 then ((speculumref06_CheckLine.f k a1_0 a1_1 a1_2 a1_3 a1_4 a1_5).bind fun t687 => (speculumlaw06_FigureLines.j0 k t671 t672 bt682.1 bt682.2 t687 l0_0 l0_1 l0_2 a1_0 a1_1 a1_2 a1_3 a1_4 a1_5)) else (speculumlaw06_FigureLines.j0 k t671 t672 bt682.1 bt682.2 t686 l0_0 l0_1 l0_2 a1_0 a1_1 a1_2 a1_3 a1_4 a1_5)))) = some r := H
   have A9 := Aside0.mk A90
   clear A90
   replace H := Option.bind_eq_some_iff.mp H
   obtain ⟨⟨t682, t685⟩, A100, H⟩ := H
   replace H : ((speculumref06_CheckMap.f k l0_0 l0_1 l0_2).bind fun t686 => (if t686 = 0 then ((speculumref06_CheckLine.f k a1_0 a1_1 a1_2 a1_3 a1_4 a1_5).bind fun t687 => (speculumlaw06_FigureLines.j0 k t671 t672 t682 t685 t687 l0_0 l0_1 l0_2 a1_0 a1_1 a1_2 a1_3 a1_4 a1_5)) else (speculumlaw06_FigureLines.j0 k t671 t672 t682 t685 t686 l0_0 l0_1 l0_2 a1_0 a1_1 a1_2 a1_3 a1_4 a1_5))) = some r := H
   have A10 := Aside0.mk A100
   clear A100
   replace H := Option.bind_eq_some_iff.mp H
   obtain ⟨t686, A110, H⟩ := H
   replace H : (if t686 = 0 then ((speculumref06_CheckLine.f k a1_0 a1_1 a1_2 a1_3 a1_4 a1_5).bind fun t687 => (speculumlaw06_FigureLines.j0 k t671 t672 t682 t685 t687 l0_0 l0_1 l0_2 a1_0 a1_1 a1_2 a1_3 a1_4 a1_5)) else (speculumlaw06_FigureLines.j0 k t671 t672 t682 t685 t686 l0_0 l0_1 l0_2 a1_0 a1_1 a1_2 a1_3 a1_4 a1_5)) = some r := H
   have A11 := Aside0.mk A110
   clear A110
   have HC12 := Aside0.mk H
   clear H
   go_enter Try.func9, Try.ntmps9
   try go_wp2_with (first | ((with_reducible refine gate_dst (N := 2) rfl ?_); (try (refine gate_guard (by rfl) ?_; dsimp only)); refine box_event ?hg (N := 2) ?hd (cs := #[.slice A0_0 l0_0.length c0_0, .slice A0_1 l0_1.length c0_1, .slice A0_2 l0_2.length c0_2]) (t := 24) ?hr ?_; (case hd => rfl); (case hg => rfl); (case hr => exact gr_); intro gb658 hg w13 hbox hb; have n0_ := Aside0.mk (below_step (hb_ HB) hb); have n1_ := Aside0.mk (hbox); have n2_ := Aside0.mk ((hz_ HB hg)); have n3_ := Aside0.mk ((hz_ HB hg)); clear HB; have HB := n0_; have BK658 := n1_; have GW658 := n2_; have GE658 := n3_; clear n0_ n1_ n2_ n3_; clear hb hbox hg) | ((with_reducible refine gate_dst (N := 3) rfl ?_); (try (refine gate_guard (by rfl) ?_; dsimp only)); refine box_event ?hg (N := 3) ?hd (cs := #[.int .i64 a1_0, .int .i64 a1_1, .int .i64 a1_2, .int .i64 a1_3, .int .i64 a1_4, .int .i64 a1_5]) (t := 50) ?hr ?_; (case hd => rfl); (case hg => rfl); (case hr => exact gr_); intro gb659 hg w14 hbox hb; have n0_ := Aside0.mk (bb_ BK658 hb); have n1_ := Aside0.mk (below_step (hb_ HB) hb); have n2_ := Aside0.mk (hbox); have n3_ := Aside0.mk ((hz_ HB hg)); have n4_ := Aside0.mk ((hz_ HB hg)); have n5_ := Aside0.mk ((nl_ BK658 hg)); have n6_ := Aside0.mk ((ng_ BK658 hg)); clear BK658; clear HB; have BK658 := n0_; have HB := n1_; have BK659 := n2_; have GW659 := n3_; have GE659 := n4_; have NB658_659 := n5_; have NB659_658 := n6_; clear n0_ n1_ n2_ n3_ n4_ n5_ n6_; clear hb hbox hg) | ((with_reducible refine gate_callee (f := 14) rfl ?_); refine goesL_ (some 12) rfl rfl Try.func14 (by kernel_rfl) rfl #[] rfl ma_ ?_; (with_reducible refine (speculumlaw06_awake.calls k  true _ rfl A3.out).mono ?_); rintro e w15 ⟨rfl, hb⟩; refine ⟨_, rfl, ?_⟩; have n0_ := Aside0.mk (bb_ BK658 hb); have n1_ := Aside0.mk (bb_ BK659 hb); have n2_ := Aside0.mk (below_step (hb_ HB) hb); clear BK658; clear BK659; clear HB; have BK658 := n0_; have BK659 := n1_; have HB := n2_; clear n0_ n1_ n2_; (try clear hb); (try clear hb2); (try clear hk); (try clear hi); have hnb16 := NB658_659.out; have hnc16 := NB659_658.out; have hcz17_0 : w15.cell? ⟨gb658, 0, none⟩ = some (.slice A0_0 l0_0.length c0_0) := (blk_cell BK658.out 0).trans rfl; have hcz17_1 : w15.cell? ⟨gb658, 1, none⟩ = some (.slice A0_1 l0_1.length c0_1) := (blk_cell BK658.out 1).trans rfl; have hcz17_2 : w15.cell? ⟨gb658, 2, none⟩ = some (.slice A0_2 l0_2.length c0_2) := (blk_cell BK658.out 2).trans rfl; have hfz17_0 := blk_frozen BK658.out 0; have hfz17_1 := blk_frozen BK658.out 1; have hfz17_2 := blk_frozen BK658.out 2) | ((with_reducible refine gate_callee (f := 15) rfl ?_); refine goesL_ (some 15) rfl rfl Try.func15 (by kernel_rfl) rfl #[.agg #[.slice A0_0 l0_0.length c0_0, .slice A0_1 l0_1.length c0_1, .slice A0_2 l0_2.length c0_2]] rfl ma_ ?_; (with_reducible refine (speculumlaw06_Few.calls _ _ l0_0 _ _ l0_1 _ _ l0_2 true _ ?side1 ?side2 ?side3 ?side4 ?side5 ?side6 A5.out).mono ?_); (case side1 => repeat (first | exact (Kd.C_below HR0_0.out HB.out) | (with_reducible refine Kd.C_alloc ?_ _) | (with_reducible refine Kd.C_drewN ?_ _) | (with_reducible refine Kd.C_drew ?_))); (case side2 => exact HC0_0.out); (case side3 => repeat (first | exact (Kd.C_below HR0_1.out HB.out) | (with_reducible refine Kd.C_alloc ?_ _) | (with_reducible refine Kd.C_drewN ?_ _) | (with_reducible refine Kd.C_drew ?_))); (case side4 => exact HC0_1.out); (case side5 => repeat (first | exact (Kd.C_below HR0_2.out HB.out) | (with_reducible refine Kd.C_alloc ?_ _) | (with_reducible refine Kd.C_drewN ?_ _) | (with_reducible refine Kd.C_drew ?_))); (case side6 => exact HC0_2.out); rintro e w18 ⟨rfl, hb⟩; refine ⟨_, rfl, ?_⟩; have n0_ := Aside0.mk (bb_ BK658 hb); have n1_ := Aside0.mk (bb_ BK659 hb); have n2_ := Aside0.mk (below_step (hb_ HB) hb); clear BK658; clear BK659; clear HB; have BK658 := n0_; have BK659 := n1_; have HB := n2_; clear n0_ n1_ n2_; (try clear hb); (try clear hb2); (try clear hk); (try clear hi)))
   have n0_ := Aside0.mk (blk_drew BK658.out)
   have n1_ := Aside0.mk (blk_drew BK659.out)
   have n2_ := Aside0.mk (below_drew1 HB.out)
   clear BK658
   clear BK659
   clear HB
   have BK658 := n0_
   have BK659 := n1_
   have HB := n2_
   clear n0_ n1_ n2_
   refine start_ (n := 9) (S := fun w' => w'.cell? ⟨gb658, 0, none⟩ = some (.slice A0_0 l0_0.length c0_0) ∧ w'.cell? ⟨gb658, 1, none⟩ = some (.slice A0_1 l0_1.length c0_1) ∧ w'.cell? ⟨gb658, 2, none⟩ = some (.slice A0_2 l0_2.length c0_2) ∧ w'.cell? ⟨gb659, 0, none⟩ = some (.int .i64 a1_0) ∧ w'.cell? ⟨gb659, 1, none⟩ = some (.int .i64 a1_1) ∧ w'.cell? ⟨gb659, 2, none⟩ = some (.int .i64 a1_2) ∧ w'.cell? ⟨gb659, 3, none⟩ = some (.int .i64 a1_3) ∧ w'.cell? ⟨gb659, 4, none⟩ = some (.int .i64 a1_4) ∧ w'.cell? ⟨gb659, 5, none⟩ = some (.int .i64 a1_5)) (ds := []) #[false, false, false, false, false, false, false, false, false] (by kernel_rfl) rfl rfl ⟨(blk_cell BK658.out 0).trans rfl, (blk_cell BK658.out 1).trans rfl, (blk_cell BK658.out 2).trans rfl, (blk_cell BK659.out 0).trans rfl, (blk_cell BK659.out 1).trans rfl, (blk_cell BK659.out 2).trans rfl, (blk_cell BK659.out 3).trans rfl, (blk_cell BK659.out 4).trans rfl, (blk_cell BK659.out 5).trans rfl⟩ (fun hHeld => ?_); refine with_tabW speculumlaw06_FigureLines.tab5 speculumlaw06_FigureLines.bits5 (fun HT_ HW_ => ?_)
   generalize w18.drew = w19 at BK658 BK659 HB hHeld ⊢
   refine take_ (i := 0) (N := some 18) (v := ?_) (a' := ?_) #[true, false, false, false, false, false, false, false, false] rfl rfl (take_ofW HT_.out HW_.out (by kernel_rfl)) (fun _ _ _ h => h) (Or.inl ⟨by rfl, ?_⟩) hHeld ?_ ?_
   rotate_left
   ·rintro w' ⟨s0, s1, s2, s3, s4, s5, s6, s7, s8⟩; go_simp; with_reducible rfl
   rotate_left
   ·simp only [Act.put, List.setIfInBounds_toArray, List.set_cons_zero, List.set_cons_succ, i64_w, i32_w]; rfl
   refine take_ (i := 2) (N := some 20) (v := ?_) (a' := ?_) #[true, false, true, false, false, false, false, false, false] rfl rfl (take_ofW HT_.out HW_.out (by kernel_rfl)) (fun _ _ _ h => h) (Or.inl ⟨by rfl, ?_⟩) hHeld ?_ ?_
   rotate_left
   ·rintro w' ⟨s0, s1, s2, s3, s4, s5, s6, s7, s8⟩; go_simp; with_reducible rfl
   rotate_left
   ·simp only [Act.put, List.setIfInBounds_toArray, List.set_cons_zero, List.set_cons_succ, i64_w, i32_w]; rfl
   refine one_ (i := 1) (N := some 19) #[true, true, true, false, false, false, false, false, false] rfl rfl (one_of HT_.out (by kernel_rfl)) di_ (fun K hK => ?_)
   refine goes_ Try.func17 (by kernel_rfl) rfl #[.agg #[.slice A0_0 l0_0.length c0_0, .slice A0_1 l0_1.length c0_1, .slice A0_2 l0_2.length c0_2]] (by rfl) rfl rfl ma_ ?_
   with_reducible refine (speculumlaw06_mapped.calls _ _ l0_0 _ _ l0_1 _ _ l0_2 t662 t665 t668 _ ?side1 ?side2 ?side3 ?side4 ?side5 ?side6 A7.out).mono ?_
   (case side1 => repeat (first | exact (Kd.C_below HR0_0.out HB.out) | (with_reducible refine Kd.C_alloc ?_ _) | (with_reducible refine Kd.C_drewN ?_ _) | (with_reducible refine Kd.C_drew ?_)))
   (case side2 => exact HC0_0.out)
   (case side3 => repeat (first | exact (Kd.C_below HR0_1.out HB.out) | (with_reducible refine Kd.C_alloc ?_ _) | (with_reducible refine Kd.C_drewN ?_ _) | (with_reducible refine Kd.C_drew ?_)))
   (case side4 => exact HC0_1.out)
   (case side5 => repeat (first | exact (Kd.C_below HR0_2.out HB.out) | (with_reducible refine Kd.C_alloc ?_ _) | (with_reducible refine Kd.C_drewN ?_ _) | (with_reducible refine Kd.C_drew ?_)))
   (case side6 => exact HC0_2.out)
   rintro e w20 ⟨v663, v666, v669, rfl, ho0, ho1, ho2, hb⟩
   refine ⟨_, rfl, ?_⟩
   have n0_ := Aside0.mk (Kd.R_lower ho0 (below_size (hb_ HB)))
   have n1_ := Aside0.mk (Kd.R_lower ho1 (below_size (hb_ HB)))
   have n2_ := Aside0.mk (Kd.R_lower ho2 (below_size (hb_ HB)))
   have n3_ := Aside0.mk (bb_ BK658 hb)
   have n4_ := Aside0.mk (bb_ BK659 hb)
   have n5_ := Aside0.mk (below_step (hb_ HB) hb)
   clear BK658
   clear BK659
   clear HB
   have HO664 := n0_
   have HO667 := n1_
   have HO670 := n2_
   have BK658 := n3_
   have BK659 := n4_
   have HB := n5_
   clear n0_ n1_ n2_ n3_ n4_ n5_
   (try clear hb)
   (try clear hb2)
   (try clear hk)
   (try clear hi)
   (try clear ho0)
   (try clear ho1)
   (try clear ho2)
   obtain ⟨Ao21, co21, eo21⟩ := Kd.R_slice HO664.out
   (first | subst eo21 | (injection eo21 with f1_ f2_ f3_; have f4_ := f1_.symm; have f5_ := f3_.symm; clear f1_ f2_ f3_; subst f4_; subst f5_))
   obtain ⟨Ao22, co22, eo22⟩ := Kd.R_slice HO667.out
   (first | subst eo22 | (injection eo22 with f1_ f2_ f3_; have f4_ := f1_.symm; have f5_ := f3_.symm; clear f1_ f2_ f3_; subst f4_; subst f5_))
   obtain ⟨Ao23, co23, eo23⟩ := Kd.R_slice HO670.out
   (first | subst eo23 | (injection eo23 with f1_ f2_ f3_; have f4_ := f1_.symm; have f5_ := f3_.symm; clear f1_ f2_ f3_; subst f4_; subst f5_))
   refine hK.out _ _ ⟨(blk_cell BK658.out 0).trans rfl, (blk_cell BK658.out 1).trans rfl, (blk_cell BK658.out 2).trans rfl, (blk_cell BK659.out 0).trans rfl, (blk_cell BK659.out 1).trans rfl, (blk_cell BK659.out 2).trans rfl, (blk_cell BK659.out 3).trans rfl, (blk_cell BK659.out 4).trans rfl, (blk_cell BK659.out 5).trans rfl⟩ (fun hHeld => ?_)
   clear hK K
   refine norm_ (a' := ?_) ?_ ?_
   rotate_left
   ·show Act.put _ (some 19) _ = _
    simp only [Act.put, List.setIfInBounds_toArray, List.set_cons_zero, List.set_cons_succ, i64_w, i32_w]
    rfl
   refine one_ (i := 3) (N := some 21) #[true, true, true, true, false, false, false, false, false] rfl rfl (one_of HT_.out (by kernel_rfl)) di_ (fun K hK => ?_)
   refine goes_ Try.func42 (by kernel_rfl) rfl #[.agg #[.slice Ao21 t662.length co21, .slice Ao22 t665.length co22, .slice Ao23 t668.length co23], .agg #[.int .i64 a1_0, .int .i64 a1_1, .int .i64 a1_2, .int .i64 a1_3, .int .i64 a1_4, .int .i64 a1_5]] (by rfl) rfl rfl ma_ ?_
   with_reducible refine (figure_CheckReference.calls k _ _ t662 _ _ t665 _ _ t668 a1_0 a1_1 a1_2 a1_3 a1_4 a1_5 t671 t672 _ ?side1 ?side2 ?side3 ?side4 ?side5 ?side6 A8.out).mono ?_
   (case side1 => repeat (first | exact (Kd.R_reads' HO664.out).2.2 | (with_reducible refine Kd.C_alloc ?_ _) | (with_reducible refine Kd.C_drewN ?_ _) | (with_reducible refine Kd.C_drew ?_)))
   (case side2 => exact (Kd.R_reads' HO664.out).2.1)
   (case side3 => repeat (first | exact (Kd.R_reads' HO667.out).2.2 | (with_reducible refine Kd.C_alloc ?_ _) | (with_reducible refine Kd.C_drewN ?_ _) | (with_reducible refine Kd.C_drew ?_)))
   (case side4 => exact (Kd.R_reads' HO667.out).2.1)
   (case side5 => repeat (first | exact (Kd.R_reads' HO670.out).2.2 | (with_reducible refine Kd.C_alloc ?_ _) | (with_reducible refine Kd.C_drewN ?_ _) | (with_reducible refine Kd.C_drew ?_)))
   (case side6 => exact (Kd.R_reads' HO670.out).2.1)
   rintro e w24 ⟨rfl, hb⟩
   refine ⟨_, rfl, ?_⟩
   have n0_ := Aside0.mk (Kd.R_below (rk_ HO664) hb)
   have n1_ := Aside0.mk (Kd.R_below (rk_ HO667) hb)
   have n2_ := Aside0.mk (Kd.R_below (rk_ HO670) hb)
   have n3_ := Aside0.mk (bb_ BK658 hb)
   have n4_ := Aside0.mk (bb_ BK659 hb)
   have n5_ := Aside0.mk (below_step (hb_ HB) hb)
   clear HO664
   clear HO667
   clear HO670
   clear BK658
   clear BK659
   clear HB
   have HO664 := n0_
   have HO667 := n1_
   have HO670 := n2_
   have BK658 := n3_
   have BK659 := n4_
   have HB := n5_
   clear n0_ n1_ n2_ n3_ n4_ n5_
   (try clear hb)
   (try clear hb2)
   (try clear hk)
   (try clear hi)
   refine hK.out _ _ ⟨(blk_cell BK658.out 0).trans rfl, (blk_cell BK658.out 1).trans rfl, (blk_cell BK658.out 2).trans rfl, (blk_cell BK659.out 0).trans rfl, (blk_cell BK659.out 1).trans rfl, (blk_cell BK659.out 2).trans rfl, (blk_cell BK659.out 3).trans rfl, (blk_cell BK659.out 4).trans rfl, (blk_cell BK659.out 5).trans rfl⟩ (fun hHeld => ?_)
   clear hK K
   refine norm_ (a' := ?_) ?_ ?_
   rotate_left
   ·show Act.put _ (some 21) _ = _
    simp only [Act.put, List.setIfInBounds_toArray, List.set_cons_zero, List.set_cons_succ, i64_w, i32_w]
    rfl
   refine pure_ (i := 4) (N := some 17) (v := ?_) (a' := ?_) #[true, true, true, true, true, false, false, false, false] rfl rfl (any_of HT_.out (by kernel_rfl)) (fun _ _ _ h => h) (Or.inl ⟨by rfl, ?_⟩) ?_ ?_
   rotate_left
   ·intro w'; go_simp; with_reducible rfl
   rotate_left
   ·simp only [Act.put, List.setIfInBounds_toArray, List.set_cons_zero, List.set_cons_succ, i64_w, i32_w]; rfl
   refine pure_ (i := 5) (N := some 22) (v := ?_) (a' := ?_) #[true, true, true, true, true, true, false, false, false] rfl rfl (any_of HT_.out (by kernel_rfl)) (fun _ _ _ h => h) (Or.inl ⟨by rfl, ?_⟩) ?_ ?_
   rotate_left
   ·intro w'; go_simp; with_reducible rfl
   rotate_left
   ·simp only [Act.put, List.setIfInBounds_toArray, List.set_cons_zero, List.set_cons_succ, i64_w, i32_w]; rfl
   refine pure_ (i := 6) (N := some 23) (v := ?_) (a' := ?_) #[true, true, true, true, true, true, true, false, false] rfl rfl (any_of HT_.out (by kernel_rfl)) (fun _ _ _ h => h) (Or.inl ⟨by rfl, ?_⟩) ?_ ?_
   rotate_left
   ·intro w'; go_simp; with_reducible rfl
   rotate_left
   ·simp only [Act.put, List.setIfInBounds_toArray, List.set_cons_zero, List.set_cons_succ, i64_w, i32_w]; rfl
   refine pure_ (i := 7) (N := some 5) (v := ?_) (a' := ?_) #[true, true, true, true, true, true, true, true, false] rfl rfl (any_of HT_.out (by kernel_rfl)) (fun _ _ _ h => h) (Or.inl ⟨by rfl, ?_⟩) ?_ ?_
   rotate_left
   ·intro w'; go_simp; with_reducible rfl
   rotate_left
   ·simp only [Act.put, List.setIfInBounds_toArray, List.set_cons_zero, List.set_cons_succ, i64_w, i32_w]; rfl
   refine pure_ (i := 8) (N := some 6) (v := ?_) (a' := ?_) #[true, true, true, true, true, true, true, true, true] rfl rfl (any_of HT_.out (by kernel_rfl)) (fun _ _ _ h => h) (Or.inl ⟨by rfl, ?_⟩) ?_ ?_
   rotate_left
   ·intro w'; go_simp; with_reducible rfl
   rotate_left
   ·simp only [Act.put, List.setIfInBounds_toArray, List.set_cons_zero, List.set_cons_succ, i64_w, i32_w]; rfl
   refine done_ (done_of HT_.out (by kernel_rfl)) ?_
   try go_wp2
   have n0_ := Aside0.mk (Kd.R_drew HO664.out)
   have n1_ := Aside0.mk (Kd.R_drew HO667.out)
   have n2_ := Aside0.mk (Kd.R_drew HO670.out)
   have n3_ := Aside0.mk (blk_drew BK658.out)
   have n4_ := Aside0.mk (blk_drew BK659.out)
   have n5_ := Aside0.mk (below_drew1 HB.out)
   clear HO664
   clear HO667
   clear HO670
   clear BK658
   clear BK659
   clear HB
   have HO664 := n0_
   have HO667 := n1_
   have HO670 := n2_
   have BK658 := n3_
   have BK659 := n4_
   have HB := n5_
   clear n0_ n1_ n2_ n3_ n4_ n5_
   refine start_ (n := 9) (S := fun w' => w'.cell? ⟨gb658, 0, none⟩ = some (.slice A0_0 l0_0.length c0_0) ∧ w'.cell? ⟨gb658, 1, none⟩ = some (.slice A0_1 l0_1.length c0_1) ∧ w'.cell? ⟨gb658, 2, none⟩ = some (.slice A0_2 l0_2.length c0_2) ∧ w'.cell? ⟨gb659, 0, none⟩ = some (.int .i64 a1_0) ∧ w'.cell? ⟨gb659, 1, none⟩ = some (.int .i64 a1_1) ∧ w'.cell? ⟨gb659, 2, none⟩ = some (.int .i64 a1_2) ∧ w'.cell? ⟨gb659, 3, none⟩ = some (.int .i64 a1_3) ∧ w'.cell? ⟨gb659, 4, none⟩ = some (.int .i64 a1_4) ∧ w'.cell? ⟨gb659, 5, none⟩ = some (.int .i64 a1_5)) (ds := []) #[false, false, false, false, false, false, false, false, false] (by kernel_rfl) rfl rfl ⟨(blk_cell BK658.out 0).trans rfl, (blk_cell BK658.out 1).trans rfl, (blk_cell BK658.out 2).trans rfl, (blk_cell BK659.out 0).trans rfl, (blk_cell BK659.out 1).trans rfl, (blk_cell BK659.out 2).trans rfl, (blk_cell BK659.out 3).trans rfl, (blk_cell BK659.out 4).trans rfl, (blk_cell BK659.out 5).trans rfl⟩ (fun hHeld => ?_); refine with_tabW speculumlaw06_FigureLines.tab6 speculumlaw06_FigureLines.bits6 (fun HT_ HW_ => ?_)
   generalize w24.drew = w25 at HO664 HO667 HO670 BK658 BK659 HB hHeld ⊢
   refine take_ (i := 0) (N := some 25) (v := ?_) (a' := ?_) #[true, false, false, false, false, false, false, false, false] rfl rfl (take_ofW HT_.out HW_.out (by kernel_rfl)) (fun _ _ _ h => h) (Or.inl ⟨by rfl, ?_⟩) hHeld ?_ ?_
   rotate_left
   ·rintro w' ⟨s0, s1, s2, s3, s4, s5, s6, s7, s8⟩; go_simp; with_reducible rfl
   rotate_left
   ·simp only [Act.put, List.setIfInBounds_toArray, List.set_cons_zero, List.set_cons_succ, i64_w, i32_w]; rfl
   refine take_ (i := 2) (N := some 27) (v := ?_) (a' := ?_) #[true, false, true, false, false, false, false, false, false] rfl rfl (take_ofW HT_.out HW_.out (by kernel_rfl)) (fun _ _ _ h => h) (Or.inl ⟨by rfl, ?_⟩) hHeld ?_ ?_
   rotate_left
   ·rintro w' ⟨s0, s1, s2, s3, s4, s5, s6, s7, s8⟩; go_simp; with_reducible rfl
   rotate_left
   ·simp only [Act.put, List.setIfInBounds_toArray, List.set_cons_zero, List.set_cons_succ, i64_w, i32_w]; rfl
   refine one_ (i := 1) (N := some 26) #[true, true, true, false, false, false, false, false, false] rfl rfl (one_of HT_.out (by kernel_rfl)) di_ (fun K hK => ?_)
   refine goes_ Try.func17 (by kernel_rfl) rfl #[.agg #[.slice A0_0 l0_0.length c0_0, .slice A0_1 l0_1.length c0_1, .slice A0_2 l0_2.length c0_2]] (by rfl) rfl rfl ma_ ?_
   with_reducible refine (speculumlaw06_mapped.calls _ _ l0_0 _ _ l0_1 _ _ l0_2 t673 t676 t679 _ ?side1 ?side2 ?side3 ?side4 ?side5 ?side6 A9.out).mono ?_
   (case side1 => repeat (first | exact (Kd.C_below HR0_0.out HB.out) | (with_reducible refine Kd.C_alloc ?_ _) | (with_reducible refine Kd.C_drewN ?_ _) | (with_reducible refine Kd.C_drew ?_)))
   (case side2 => exact HC0_0.out)
   (case side3 => repeat (first | exact (Kd.C_below HR0_1.out HB.out) | (with_reducible refine Kd.C_alloc ?_ _) | (with_reducible refine Kd.C_drewN ?_ _) | (with_reducible refine Kd.C_drew ?_)))
   (case side4 => exact HC0_1.out)
   (case side5 => repeat (first | exact (Kd.C_below HR0_2.out HB.out) | (with_reducible refine Kd.C_alloc ?_ _) | (with_reducible refine Kd.C_drewN ?_ _) | (with_reducible refine Kd.C_drew ?_)))
   (case side6 => exact HC0_2.out)
   rintro e w26 ⟨v674, v677, v680, rfl, ho0, ho1, ho2, hb⟩
   refine ⟨_, rfl, ?_⟩
   have n0_ := Aside0.mk (Kd.R_mono (Kd.R_told (Kd.R_told (Kd.R_told (Kd.R_old (rk_ HO664) hb) (Kd.R_base ho0)) (Kd.R_base ho1)) (Kd.R_base ho2)) (fun _ h_ => h_.1))
   have n1_ := Aside0.mk (Kd.R_mono (Kd.R_told (Kd.R_told (Kd.R_told (Kd.R_old (rk_ HO667) hb) (Kd.R_base ho0)) (Kd.R_base ho1)) (Kd.R_base ho2)) (fun _ h_ => h_.1))
   have n2_ := Aside0.mk (Kd.R_mono (Kd.R_told (Kd.R_told (Kd.R_told (Kd.R_old (rk_ HO670) hb) (Kd.R_base ho0)) (Kd.R_base ho1)) (Kd.R_base ho2)) (fun _ h_ => h_.1))
   have n3_ := Aside0.mk (Kd.R_lower (Kd.R_new' (Kd.R_new' (Kd.R_new' ho0 (Kd.R_lt (rk_ HO664))) (Kd.R_lt (rk_ HO667))) (Kd.R_lt (rk_ HO670))) (below_size (hb_ HB)))
   have n4_ := Aside0.mk (Kd.R_lower (Kd.R_new' (Kd.R_new' (Kd.R_new' ho1 (Kd.R_lt (rk_ HO664))) (Kd.R_lt (rk_ HO667))) (Kd.R_lt (rk_ HO670))) (below_size (hb_ HB)))
   have n5_ := Aside0.mk (Kd.R_lower (Kd.R_new' (Kd.R_new' (Kd.R_new' ho2 (Kd.R_lt (rk_ HO664))) (Kd.R_lt (rk_ HO667))) (Kd.R_lt (rk_ HO670))) (below_size (hb_ HB)))
   have n6_ := Aside0.mk (bb_ BK658 hb)
   have n7_ := Aside0.mk (bb_ BK659 hb)
   have n8_ := Aside0.mk (below_step (hb_ HB) hb)
   clear HO664
   clear HO667
   clear HO670
   clear BK658
   clear BK659
   clear HB
   have HO664 := n0_
   have HO667 := n1_
   have HO670 := n2_
   have HO675 := n3_
   have HO678 := n4_
   have HO681 := n5_
   have BK658 := n6_
   have BK659 := n7_
   have HB := n8_
   clear n0_ n1_ n2_ n3_ n4_ n5_ n6_ n7_ n8_
   (try clear hb)
   (try clear hb2)
   (try clear hk)
   (try clear hi)
   (try clear ho0)
   (try clear ho1)
   (try clear ho2)
   obtain ⟨Ao27, co27, eo27⟩ := Kd.R_slice HO675.out
   (first | subst eo27 | (injection eo27 with f1_ f2_ f3_; have f4_ := f1_.symm; have f5_ := f3_.symm; clear f1_ f2_ f3_; subst f4_; subst f5_))
   obtain ⟨Ao28, co28, eo28⟩ := Kd.R_slice HO678.out
   (first | subst eo28 | (injection eo28 with f1_ f2_ f3_; have f4_ := f1_.symm; have f5_ := f3_.symm; clear f1_ f2_ f3_; subst f4_; subst f5_))
   obtain ⟨Ao29, co29, eo29⟩ := Kd.R_slice HO681.out
   (first | subst eo29 | (injection eo29 with f1_ f2_ f3_; have f4_ := f1_.symm; have f5_ := f3_.symm; clear f1_ f2_ f3_; subst f4_; subst f5_))
   refine hK.out _ _ ⟨(blk_cell BK658.out 0).trans rfl, (blk_cell BK658.out 1).trans rfl, (blk_cell BK658.out 2).trans rfl, (blk_cell BK659.out 0).trans rfl, (blk_cell BK659.out 1).trans rfl, (blk_cell BK659.out 2).trans rfl, (blk_cell BK659.out 3).trans rfl, (blk_cell BK659.out 4).trans rfl, (blk_cell BK659.out 5).trans rfl⟩ (fun hHeld => ?_)
   clear hK K
   refine norm_ (a' := ?_) ?_ ?_
   rotate_left
   ·show Act.put _ (some 26) _ = _
    simp only [Act.put, List.setIfInBounds_toArray, List.set_cons_zero, List.set_cons_succ, i64_w, i32_w]
    rfl
   refine one_ (i := 3) (N := some 28) #[true, true, true, true, false, false, false, false, false] rfl rfl (one_of HT_.out (by kernel_rfl)) di_ (fun K hK => ?_)
   refine goes_ Try.func31 (by kernel_rfl) rfl #[.agg #[.slice Ao27 t673.length co27, .slice Ao28 t676.length co28, .slice Ao29 t679.length co29], .agg #[.int .i64 a1_0, .int .i64 a1_1, .int .i64 a1_2, .int .i64 a1_3, .int .i64 a1_4, .int .i64 a1_5]] (by rfl) rfl rfl ma_ ?_
   with_reducible refine (figure_Removal.calls k _ _ t673 _ _ t676 _ _ t679 a1_0 a1_1 a1_2 a1_3 a1_4 a1_5 t682 t685 _ ?side1 ?side2 ?side3 ?side4 ?side5 ?side6 A10.out).mono ?_
   (case side1 => repeat (first | exact (Kd.R_reads' HO675.out).2.2 | (with_reducible refine Kd.C_alloc ?_ _) | (with_reducible refine Kd.C_drewN ?_ _) | (with_reducible refine Kd.C_drew ?_)))
   (case side2 => exact (Kd.R_reads' HO675.out).2.1)
   (case side3 => repeat (first | exact (Kd.R_reads' HO678.out).2.2 | (with_reducible refine Kd.C_alloc ?_ _) | (with_reducible refine Kd.C_drewN ?_ _) | (with_reducible refine Kd.C_drew ?_)))
   (case side4 => exact (Kd.R_reads' HO678.out).2.1)
   (case side5 => repeat (first | exact (Kd.R_reads' HO681.out).2.2 | (with_reducible refine Kd.C_alloc ?_ _) | (with_reducible refine Kd.C_drewN ?_ _) | (with_reducible refine Kd.C_drew ?_)))
   (case side6 => exact (Kd.R_reads' HO681.out).2.1)
   rintro e w30 ⟨v683, rfl, ho0, hb⟩
   refine ⟨_, rfl, ?_⟩
   have n0_ := Aside0.mk (Kd.R_below (rk_ HO664) hb)
   have n1_ := Aside0.mk (Kd.R_below (rk_ HO667) hb)
   have n2_ := Aside0.mk (Kd.R_below (rk_ HO670) hb)
   have n3_ := Aside0.mk (Kd.R_below (rk_ HO675) hb)
   have n4_ := Aside0.mk (Kd.R_below (rk_ HO678) hb)
   have n5_ := Aside0.mk (Kd.R_below (rk_ HO681) hb)
   have n6_ := Aside0.mk (Kd.R_lower ho0 (below_size (hb_ HB)))
   have n7_ := Aside0.mk (bb_ BK658 hb)
   have n8_ := Aside0.mk (bb_ BK659 hb)
   have n9_ := Aside0.mk (below_step (hb_ HB) hb)
   clear HO664
   clear HO667
   clear HO670
   clear HO675
   clear HO678
   clear HO681
   clear BK658
   clear BK659
   clear HB
   have HO664 := n0_
   have HO667 := n1_
   have HO670 := n2_
   have HO675 := n3_
   have HO678 := n4_
   have HO681 := n5_
   have HO684 := n6_
   have BK658 := n7_
   have BK659 := n8_
   have HB := n9_
   clear n0_ n1_ n2_ n3_ n4_ n5_ n6_ n7_ n8_ n9_
   (try clear hb)
   (try clear hb2)
   (try clear hk)
   (try clear hi)
   (try clear ho0)
   refine hK.out _ _ ⟨(blk_cell BK658.out 0).trans rfl, (blk_cell BK658.out 1).trans rfl, (blk_cell BK658.out 2).trans rfl, (blk_cell BK659.out 0).trans rfl, (blk_cell BK659.out 1).trans rfl, (blk_cell BK659.out 2).trans rfl, (blk_cell BK659.out 3).trans rfl, (blk_cell BK659.out 4).trans rfl, (blk_cell BK659.out 5).trans rfl⟩ (fun hHeld => ?_)
   clear hK K
   refine norm_ (a' := ?_) ?_ ?_
   rotate_left
   ·show Act.put _ (some 28) _ = _
    simp only [Act.put, List.setIfInBounds_toArray, List.set_cons_zero, List.set_cons_succ, i64_w, i32_w]
    rfl
   refine pure_ (i := 4) (N := some 24) (v := ?_) (a' := ?_) #[true, true, true, true, true, false, false, false, false] rfl rfl (any_of HT_.out (by kernel_rfl)) (fun _ _ _ h => h) (Or.inl ⟨by rfl, ?_⟩) ?_ ?_
   rotate_left
   ·intro w'; go_simp; with_reducible rfl
   rotate_left
   ·simp only [Act.put, List.setIfInBounds_toArray, List.set_cons_zero, List.set_cons_succ, i64_w, i32_w]; rfl
   refine pure_ (i := 5) (N := some 29) (v := ?_) (a' := ?_) #[true, true, true, true, true, true, false, false, false] rfl rfl (any_of HT_.out (by kernel_rfl)) (fun _ _ _ h => h) (Or.inl ⟨by rfl, ?_⟩) ?_ ?_
   rotate_left
   ·intro w'; go_simp; with_reducible rfl
   rotate_left
   ·simp only [Act.put, List.setIfInBounds_toArray, List.set_cons_zero, List.set_cons_succ, i64_w, i32_w]; rfl
   refine pure_ (i := 6) (N := some 30) (v := ?_) (a' := ?_) #[true, true, true, true, true, true, true, false, false] rfl rfl (any_of HT_.out (by kernel_rfl)) (fun _ _ _ h => h) (Or.inl ⟨by rfl, ?_⟩) ?_ ?_
   rotate_left
   ·intro w'; go_simp; with_reducible rfl
   rotate_left
   ·simp only [Act.put, List.setIfInBounds_toArray, List.set_cons_zero, List.set_cons_succ, i64_w, i32_w]; rfl
   refine pure_ (i := 7) (N := some 7) (v := ?_) (a' := ?_) #[true, true, true, true, true, true, true, true, false] rfl rfl (any_of HT_.out (by kernel_rfl)) (fun _ _ _ h => h) (Or.inl ⟨by rfl, ?_⟩) ?_ ?_
   rotate_left
   ·intro w'; go_simp; with_reducible rfl
   rotate_left
   ·simp only [Act.put, List.setIfInBounds_toArray, List.set_cons_zero, List.set_cons_succ, i64_w, i32_w]; rfl
   refine pure_ (i := 8) (N := some 8) (v := ?_) (a' := ?_) #[true, true, true, true, true, true, true, true, true] rfl rfl (any_of HT_.out (by kernel_rfl)) (fun _ _ _ h => h) (Or.inl ⟨by rfl, ?_⟩) ?_ ?_
   rotate_left
   ·intro w'; go_simp; with_reducible rfl
   rotate_left
   ·simp only [Act.put, List.setIfInBounds_toArray, List.set_cons_zero, List.set_cons_succ, i64_w, i32_w]; rfl
   refine done_ (done_of HT_.out (by kernel_rfl)) ?_
   have hcz31_0 : w30.cell? ⟨gb658, 0, none⟩ = some (.slice A0_0 l0_0.length c0_0) := (blk_cell BK658.out 0).trans rfl
   have hcz31_1 : w30.cell? ⟨gb658, 1, none⟩ = some (.slice A0_1 l0_1.length c0_1) := (blk_cell BK658.out 1).trans rfl
   have hcz31_2 : w30.cell? ⟨gb658, 2, none⟩ = some (.slice A0_2 l0_2.length c0_2) := (blk_cell BK658.out 2).trans rfl
   have hfz31_0 := blk_frozen BK658.out 0
   have hfz31_1 := blk_frozen BK658.out 1
   have hfz31_2 := blk_frozen BK658.out 2
   go_upto_if 34 with (first | ((with_reducible refine gate_callee (f := 18) rfl ?_); refine goesL_ (some 32) rfl rfl Try.func18 (by kernel_rfl) rfl #[.agg #[.slice A0_0 l0_0.length c0_0, .slice A0_1 l0_1.length c0_1, .slice A0_2 l0_2.length c0_2]] rfl ma_ ?_; (with_reducible refine (speculumref06_CheckMap.calls k _ _ l0_0 _ _ l0_1 _ _ l0_2 t686 _ ?side1 ?side2 ?side3 ?side4 ?side5 ?side6 A11.out).mono ?_); (case side1 => repeat (first | exact (Kd.C_below HR0_0.out HB.out) | (with_reducible refine Kd.C_alloc ?_ _) | (with_reducible refine Kd.C_drewN ?_ _) | (with_reducible refine Kd.C_drew ?_))); (case side2 => exact HC0_0.out); (case side3 => repeat (first | exact (Kd.C_below HR0_1.out HB.out) | (with_reducible refine Kd.C_alloc ?_ _) | (with_reducible refine Kd.C_drewN ?_ _) | (with_reducible refine Kd.C_drew ?_))); (case side4 => exact HC0_1.out); (case side5 => repeat (first | exact (Kd.C_below HR0_2.out HB.out) | (with_reducible refine Kd.C_alloc ?_ _) | (with_reducible refine Kd.C_drewN ?_ _) | (with_reducible refine Kd.C_drew ?_))); (case side6 => exact HC0_2.out); rintro e w32 ⟨rfl, hb⟩; refine ⟨_, rfl, ?_⟩; have n0_ := Aside0.mk (Kd.R_below (rk_ HO664) hb); have n1_ := Aside0.mk (Kd.R_below (rk_ HO667) hb); have n2_ := Aside0.mk (Kd.R_below (rk_ HO670) hb); have n3_ := Aside0.mk (Kd.R_below (rk_ HO675) hb); have n4_ := Aside0.mk (Kd.R_below (rk_ HO678) hb); have n5_ := Aside0.mk (Kd.R_below (rk_ HO681) hb); have n6_ := Aside0.mk (Kd.R_below (rk_ HO684) hb); have n7_ := Aside0.mk (bb_ BK658 hb); have n8_ := Aside0.mk (bb_ BK659 hb); have n9_ := Aside0.mk (below_step (hb_ HB) hb); clear HO664; clear HO667; clear HO670; clear HO675; clear HO678; clear HO681; clear HO684; clear BK658; clear BK659; clear HB; have HO664 := n0_; have HO667 := n1_; have HO670 := n2_; have HO675 := n3_; have HO678 := n4_; have HO681 := n5_; have HO684 := n6_; have BK658 := n7_; have BK659 := n8_; have HB := n9_; clear n0_ n1_ n2_ n3_ n4_ n5_ n6_ n7_ n8_ n9_; (try clear hb); (try clear hb2); (try clear hk); (try clear hi)))
   (try simp only [Act.put, List.setIfInBounds_toArray, List.set_cons_zero, List.set_cons_succ])
   go_cut [9] (fun v9 wc => ∃ (kq : Nat) (x9_11 : Int), v9 = .int .i64 x9_11 ∧ Aside0 (speculumlaw06_FigureLines.j0 kq t671 t672 t682 t685 x9_11 l0_0 l0_1 l0_2 a1_0 a1_1 a1_2 a1_3 a1_4 a1_5 = some r) ∧ Aside0 (kq ≤ k) ∧ Aside0 (Kd.R k28 28 wc w.heap.size (fun _ => True) v683 t682) ∧ Aside0 (wc.heap[gb658]? = some (.cells #[(.slice A0_0 l0_0.length c0_0), (.slice A0_1 l0_1.length c0_1), (.slice A0_2 l0_2.length c0_2)] 24 (0, 0))) ∧ Aside0 (wc.heap[gb659]? = some (.cells #[.int .i64 a1_0, .int .i64 a1_1, .int .i64 a1_2, .int .i64 a1_3, .int .i64 a1_4, .int .i64 a1_5] 50 (0, 0))) ∧ Aside0 (Below w.heap.size w wc))
   case first =>
    have H := HC12.out
    clear HC12
    by_cases c33 : t686 = 0
    ·rw [if_pos c33] at H
     have c33b0 : (t686 == 0) = true := beq_iff_eq.mpr c33
     have c33b1 : (t686 != 0) = false := bne_eq_false_iff_eq.mpr c33
     clear c33
     (first | rw [c33b0] | (simp only [i64_w, i32_w]; rw [c33b0]) | skip)
     replace H := Option.bind_eq_some_iff.mp H
     obtain ⟨t687, A340, H⟩ := H
     replace H : (speculumlaw06_FigureLines.j0 k t671 t672 t682 t685 t687 l0_0 l0_1 l0_2 a1_0 a1_1 a1_2 a1_3 a1_4 a1_5) = some r := H
     have A34 := Aside0.mk A340
     clear A340
     have H' := Aside0.mk H
     clear H
     have hnb35 := NB659_658.out
     have hnc35 := NB658_659.out
     have hcz36_0 : w32.cell? ⟨gb659, 0, none⟩ = some (.int .i64 a1_0) := (blk_cell BK659.out 0).trans rfl
     have hcz36_1 : w32.cell? ⟨gb659, 1, none⟩ = some (.int .i64 a1_1) := (blk_cell BK659.out 1).trans rfl
     have hcz36_2 : w32.cell? ⟨gb659, 2, none⟩ = some (.int .i64 a1_2) := (blk_cell BK659.out 2).trans rfl
     have hcz36_3 : w32.cell? ⟨gb659, 3, none⟩ = some (.int .i64 a1_3) := (blk_cell BK659.out 3).trans rfl
     have hcz36_4 : w32.cell? ⟨gb659, 4, none⟩ = some (.int .i64 a1_4) := (blk_cell BK659.out 4).trans rfl
     have hcz36_5 : w32.cell? ⟨gb659, 5, none⟩ = some (.int .i64 a1_5) := (blk_cell BK659.out 5).trans rfl
     have hfz36_0 := blk_frozen BK659.out 0
     have hfz36_1 := blk_frozen BK659.out 1
     have hfz36_2 := blk_frozen BK659.out 2
     have hfz36_3 := blk_frozen BK659.out 3
     have hfz36_4 := blk_frozen BK659.out 4
     have hfz36_5 := blk_frozen BK659.out 5
     go_wp2_with (first | ((with_reducible refine gate_callee (f := 30) rfl ?_); refine goesL_ (some 36) rfl rfl Try.func30 (by kernel_rfl) rfl #[.agg #[.int .i64 a1_0, .int .i64 a1_1, .int .i64 a1_2, .int .i64 a1_3, .int .i64 a1_4, .int .i64 a1_5]] rfl ma_ ?_; (with_reducible refine (speculumref06_CheckLine.calls k a1_0 a1_1 a1_2 a1_3 a1_4 a1_5 t687 _ A34.out).mono ?_); rintro e w37 ⟨rfl, hb⟩; refine ⟨_, rfl, ?_⟩; have n0_ := Aside0.mk (Kd.R_below (rk_ HO664) hb); have n1_ := Aside0.mk (Kd.R_below (rk_ HO667) hb); have n2_ := Aside0.mk (Kd.R_below (rk_ HO670) hb); have n3_ := Aside0.mk (Kd.R_below (rk_ HO675) hb); have n4_ := Aside0.mk (Kd.R_below (rk_ HO678) hb); have n5_ := Aside0.mk (Kd.R_below (rk_ HO681) hb); have n6_ := Aside0.mk (Kd.R_below (rk_ HO684) hb); have n7_ := Aside0.mk (bb_ BK658 hb); have n8_ := Aside0.mk (bb_ BK659 hb); have n9_ := Aside0.mk (below_step (hb_ HB) hb); clear HO664; clear HO667; clear HO670; clear HO675; clear HO678; clear HO681; clear HO684; clear BK658; clear BK659; clear HB; have HO664 := n0_; have HO667 := n1_; have HO670 := n2_; have HO675 := n3_; have HO678 := n4_; have HO681 := n5_; have HO684 := n6_; have BK658 := n7_; have BK659 := n8_; have HB := n9_; clear n0_ n1_ n2_ n3_ n4_ n5_ n6_ n7_ n8_ n9_; (try clear hb); (try clear hb2); (try clear hk); (try clear hi)))
     go_meet
     case rel => exact ⟨_, (t687), rs_, H', ⟨by first | omega | exact Nat.le_refl _⟩, ⟨by (with_reducible repeat (first | apply Kd.R_alloc | apply Kd.R_drewN | apply Kd.R_drew)); exact HO684.out⟩, ⟨by (with_reducible repeat (first | refine blk_drewN ?_ _ | refine blk_drew ?_ | refine blk_alloc ?_ _)); exact BK658.out⟩, ⟨by (with_reducible repeat (first | refine blk_drewN ?_ _ | refine blk_drew ?_ | refine blk_alloc ?_ _)); exact BK659.out⟩, ⟨by repeat (first | (with_reducible first | exact HB.out | apply below_alloc | apply pw_below_drewN | apply below_drew1 | refine below_set ?_ GE658.out | refine below_set ?_ GE659.out) | exact HB.out)⟩⟩
    ·rw [if_neg c33] at H
     have c33b0 : (t686 == 0) = false := beq_eq_false_iff_ne.mpr c33
     have c33b1 : (t686 != 0) = true := bne_iff_ne.mpr c33
     (first | rw [c33b0] | (simp only [i64_w, i32_w]; rw [c33b0]) | skip)
     have H' := Aside0.mk H
     clear H
     go_wp2
     go_meet
     case rel => exact ⟨_, (t686), rs_, H', ⟨by first | omega | exact Nat.le_refl _⟩, ⟨by (with_reducible repeat (first | apply Kd.R_alloc | apply Kd.R_drewN | apply Kd.R_drew)); exact HO684.out⟩, ⟨by (with_reducible repeat (first | refine blk_drewN ?_ _ | refine blk_drew ?_ | refine blk_alloc ?_ _)); exact BK658.out⟩, ⟨by (with_reducible repeat (first | refine blk_drewN ?_ _ | refine blk_drew ?_ | refine blk_alloc ?_ _)); exact BK659.out⟩, ⟨by repeat (first | (with_reducible first | exact HB.out | apply below_alloc | apply pw_below_drewN | apply below_drew1 | refine below_set ?_ GE658.out | refine below_set ?_ GE659.out) | exact HB.out)⟩⟩
   case rest =>
    clear HC12
    try clear c1
    try clear p2
    try clear c3
    try clear c4
    try clear c6
    try clear c9
    try clear c14
    try clear c15
    try clear c16
    try clear c17
    try clear c18
    try clear c30
    try clear c31
    try clear c33
    try clear c33b0
    try clear c33b1
    try clear c35
    try clear hcz17_0
    try clear hcz17_1
    try clear hcz17_2
    try clear hcz31_0
    try clear hcz31_1
    try clear hcz31_2
    try clear hcz36_0
    try clear hcz36_1
    try clear hcz36_2
    try clear hcz36_3
    try clear hcz36_4
    try clear hcz36_5
    try clear hfz17_0
    try clear hfz17_1
    try clear hfz17_2
    try clear hfz31_0
    try clear hfz31_1
    try clear hfz31_2
    try clear hfz36_0
    try clear hfz36_1
    try clear hfz36_2
    try clear hfz36_3
    try clear hfz36_4
    try clear hfz36_5
    obtain ⟨kq, x9_11, rfl, HA, HJ11, HO_7, BK658, BK659, HB⟩ := hcut
    cases kq with
    | zero => exact absurd HA.out (by simp [speculumlaw06_FigureLines.j0])
    | succ kj11 =>
     have H := HA.out
     clear HA
     simp only [speculumlaw06_FigureLines.j0] at H
     by_cases c38 : x9_11 = 0
     ·rw [if_pos c38] at H
      have c38b0 : (x9_11 == 0) = true := beq_iff_eq.mpr c38
      have c38b1 : (x9_11 != 0) = false := bne_eq_false_iff_eq.mpr c38
      clear c38
      replace H := Option.bind_eq_some_iff.mp H
      obtain ⟨⟨t688, t689⟩, A390, H⟩ := H
      replace H : (if t672 = t689 then (if t671 = t688 then (if t685 = 0 then (speculumlaw06_FigureLines.j1 kj11 t682 ((t682.length : Int) != (l0_0.length : Int)) l0_0 l0_1 l0_2 a1_0 a1_1 a1_2 a1_3 a1_4 a1_5) else (speculumlaw06_FigureLines.j1 kj11 t682 true l0_0 l0_1 l0_2 a1_0 a1_1 a1_2 a1_3 a1_4 a1_5)) else (speculumlaw06_FigureLines.j1 kj11 t682 true l0_0 l0_1 l0_2 a1_0 a1_1 a1_2 a1_3 a1_4 a1_5)) else (speculumlaw06_FigureLines.j1 kj11 t682 true l0_0 l0_1 l0_2 a1_0 a1_1 a1_2 a1_3 a1_4 a1_5)) = some r := H
      have A39 := Aside0.mk A390
      clear A390
      have HC40 := Aside0.mk H
      clear H
      have hnb41 := NB658_659.out
      have hnc41 := NB659_658.out
      have hcz42_0 : wc.cell? ⟨gb658, 0, none⟩ = some (.slice A0_0 l0_0.length c0_0) := (blk_cell BK658.out 0).trans rfl
      have hcz42_1 : wc.cell? ⟨gb658, 1, none⟩ = some (.slice A0_1 l0_1.length c0_1) := (blk_cell BK658.out 1).trans rfl
      have hcz42_2 : wc.cell? ⟨gb658, 2, none⟩ = some (.slice A0_2 l0_2.length c0_2) := (blk_cell BK658.out 2).trans rfl
      have hfz42_0 := blk_frozen BK658.out 0
      have hfz42_1 := blk_frozen BK658.out 1
      have hfz42_2 := blk_frozen BK658.out 2
      have hcz43_0 : wc.cell? ⟨gb659, 0, none⟩ = some (.int .i64 a1_0) := (blk_cell BK659.out 0).trans rfl
      have hcz43_1 : wc.cell? ⟨gb659, 1, none⟩ = some (.int .i64 a1_1) := (blk_cell BK659.out 1).trans rfl
      have hcz43_2 : wc.cell? ⟨gb659, 2, none⟩ = some (.int .i64 a1_2) := (blk_cell BK659.out 2).trans rfl
      have hcz43_3 : wc.cell? ⟨gb659, 3, none⟩ = some (.int .i64 a1_3) := (blk_cell BK659.out 3).trans rfl
      have hcz43_4 : wc.cell? ⟨gb659, 4, none⟩ = some (.int .i64 a1_4) := (blk_cell BK659.out 4).trans rfl
      have hcz43_5 : wc.cell? ⟨gb659, 5, none⟩ = some (.int .i64 a1_5) := (blk_cell BK659.out 5).trans rfl
      have hfz43_0 := blk_frozen BK659.out 0
      have hfz43_1 := blk_frozen BK659.out 1
      have hfz43_2 := blk_frozen BK659.out 2
      have hfz43_3 := blk_frozen BK659.out 3
      have hfz43_4 := blk_frozen BK659.out 4
      have hfz43_5 := blk_frozen BK659.out 5
      go_upto_region 13 with (first | ((with_reducible refine gate_callee (f := 41) rfl ?_); refine goesL_ (some 59) rfl rfl Try.func41 (by kernel_rfl) rfl #[.agg #[.slice A0_0 l0_0.length c0_0, .slice A0_1 l0_1.length c0_1, .slice A0_2 l0_2.length c0_2], .agg #[.int .i64 a1_0, .int .i64 a1_1, .int .i64 a1_2, .int .i64 a1_3, .int .i64 a1_4, .int .i64 a1_5]] rfl ma_ ?_; (with_reducible refine (speculumref06_CheckReference.calls kj11 _ _ l0_0 _ _ l0_1 _ _ l0_2 a1_0 a1_1 a1_2 a1_3 a1_4 a1_5 t688 t689 _ ?side1 ?side2 ?side3 ?side4 ?side5 ?side6 A39.out).mono ?_); (case side1 => repeat (first | exact (Kd.C_below HR0_0.out HB.out) | (with_reducible refine Kd.C_alloc ?_ _) | (with_reducible refine Kd.C_drewN ?_ _) | (with_reducible refine Kd.C_drew ?_))); (case side2 => exact HC0_0.out); (case side3 => repeat (first | exact (Kd.C_below HR0_1.out HB.out) | (with_reducible refine Kd.C_alloc ?_ _) | (with_reducible refine Kd.C_drewN ?_ _) | (with_reducible refine Kd.C_drew ?_))); (case side4 => exact HC0_1.out); (case side5 => repeat (first | exact (Kd.C_below HR0_2.out HB.out) | (with_reducible refine Kd.C_alloc ?_ _) | (with_reducible refine Kd.C_drewN ?_ _) | (with_reducible refine Kd.C_drew ?_))); (case side6 => exact HC0_2.out); rintro e w44 ⟨rfl, hb⟩; refine ⟨_, rfl, ?_⟩; have n0_ := Aside0.mk (Kd.R_below (rk_ HO_7) hb); have n1_ := Aside0.mk (bb_ BK658 hb); have n2_ := Aside0.mk (bb_ BK659 hb); have n3_ := Aside0.mk (below_step (hb_ HB) hb); clear HO_7; clear BK658; clear BK659; clear HB; have HO_7 := n0_; have BK658 := n1_; have BK659 := n2_; have HB := n3_; clear n0_ n1_ n2_ n3_; (try clear hb); (try clear hb2); (try clear hk); (try clear hi)))
      (try simp only [Act.put, List.setIfInBounds_toArray, List.set_cons_zero, List.set_cons_succ])
      go_cut [81] (fun v81 wc => ∃ (kq : Nat) (x81_39 : Bool), v81 = .bool x81_39 ∧ Aside0 (speculumlaw06_FigureLines.j1 kq t682 x81_39 l0_0 l0_1 l0_2 a1_0 a1_1 a1_2 a1_3 a1_4 a1_5 = some r) ∧ Aside0 (kq ≤ kj11) ∧ Aside0 (Kd.R k28 28 wc w.heap.size (fun _ => True) v683 t682) ∧ Aside0 (wc.heap[gb658]? = some (.cells #[(.slice A0_0 l0_0.length c0_0), (.slice A0_1 l0_1.length c0_1), (.slice A0_2 l0_2.length c0_2)] 24 (0, 0))) ∧ Aside0 (wc.heap[gb659]? = some (.cells #[.int .i64 a1_0, .int .i64 a1_1, .int .i64 a1_2, .int .i64 a1_3, .int .i64 a1_4, .int .i64 a1_5] 50 (0, 0))) ∧ Aside0 (Below w.heap.size w wc))
      case first =>
       have H := HC40.out
       clear HC40
       by_cases c45 : t672 = t689
       ·rw [if_pos c45] at H
        have c45b0 : (t672 == t689) = true := beq_iff_eq.mpr c45
        have c45b1 : (t672 != t689) = false := bne_eq_false_iff_eq.mpr c45
        clear c45
        (first | rw [c45b0] | (simp only [i64_w, i32_w]; rw [c45b0]) | skip)
        by_cases c46 : t671 = t688
        ·rw [if_pos c46] at H
         have c46b0 : (t671 == t688) = true := beq_iff_eq.mpr c46
         have c46b1 : (t671 != t688) = false := bne_eq_false_iff_eq.mpr c46
         clear c46
         by_cases c47 : t685 = 0
         ·rw [if_pos c47] at H
          have c47b0 : (t685 == 0) = true := beq_iff_eq.mpr c47
          have c47b1 : (t685 != 0) = false := bne_eq_false_iff_eq.mpr c47
          clear c47
          have H' := Aside0.mk H
          clear H
          obtain ⟨Ao48, co48, eo48⟩ := Kd.R_slice HO_7.out
          subst eo48
          have hnb49 := NB658_659.out
          have hnc49 := NB659_658.out
          have hcz50_0 : w44.cell? ⟨gb658, 0, none⟩ = some (.slice A0_0 l0_0.length c0_0) := (blk_cell BK658.out 0).trans rfl
          have hcz50_1 : w44.cell? ⟨gb658, 1, none⟩ = some (.slice A0_1 l0_1.length c0_1) := (blk_cell BK658.out 1).trans rfl
          have hcz50_2 : w44.cell? ⟨gb658, 2, none⟩ = some (.slice A0_2 l0_2.length c0_2) := (blk_cell BK658.out 2).trans rfl
          have hfz50_0 := blk_frozen BK658.out 0
          have hfz50_1 := blk_frozen BK658.out 1
          have hfz50_2 := blk_frozen BK658.out 2
          go_wp2
          go_meet
          case rel => exact ⟨_, (((t682.length : Int) != (l0_0.length : Int))), rs_, H', ⟨by have := HJ11.out; first | omega | exact Nat.le_refl _⟩, ⟨by (with_reducible repeat (first | apply Kd.R_alloc | apply Kd.R_drewN | apply Kd.R_drew)); exact HO_7.out⟩, ⟨by (with_reducible repeat (first | refine blk_drewN ?_ _ | refine blk_drew ?_ | refine blk_alloc ?_ _)); exact BK658.out⟩, ⟨by (with_reducible repeat (first | refine blk_drewN ?_ _ | refine blk_drew ?_ | refine blk_alloc ?_ _)); exact BK659.out⟩, ⟨by repeat (first | (with_reducible first | exact HB.out | apply below_alloc | apply pw_below_drewN | apply below_drew1 | refine below_set ?_ GE658.out | refine below_set ?_ GE659.out) | exact HB.out)⟩⟩
         ·rw [if_neg c47] at H
          have c47b0 : (t685 == 0) = false := beq_eq_false_iff_ne.mpr c47
          have c47b1 : (t685 != 0) = true := bne_iff_ne.mpr c47
          have H' := Aside0.mk H
          clear H
          go_wp2
          go_meet
          case rel => exact ⟨_, (true), rs_, H', ⟨by have := HJ11.out; first | omega | exact Nat.le_refl _⟩, ⟨by (with_reducible repeat (first | apply Kd.R_alloc | apply Kd.R_drewN | apply Kd.R_drew)); exact HO_7.out⟩, ⟨by (with_reducible repeat (first | refine blk_drewN ?_ _ | refine blk_drew ?_ | refine blk_alloc ?_ _)); exact BK658.out⟩, ⟨by (with_reducible repeat (first | refine blk_drewN ?_ _ | refine blk_drew ?_ | refine blk_alloc ?_ _)); exact BK659.out⟩, ⟨by repeat (first | (with_reducible first | exact HB.out | apply below_alloc | apply pw_below_drewN | apply below_drew1 | refine below_set ?_ GE658.out | refine below_set ?_ GE659.out) | exact HB.out)⟩⟩
        ·rw [if_neg c46] at H
         have c46b0 : (t671 == t688) = false := beq_eq_false_iff_ne.mpr c46
         have c46b1 : (t671 != t688) = true := bne_iff_ne.mpr c46
         have H' := Aside0.mk H
         clear H
         go_wp2
         go_meet
         case rel => exact ⟨_, (true), rs_, H', ⟨by have := HJ11.out; first | omega | exact Nat.le_refl _⟩, ⟨by (with_reducible repeat (first | apply Kd.R_alloc | apply Kd.R_drewN | apply Kd.R_drew)); exact HO_7.out⟩, ⟨by (with_reducible repeat (first | refine blk_drewN ?_ _ | refine blk_drew ?_ | refine blk_alloc ?_ _)); exact BK658.out⟩, ⟨by (with_reducible repeat (first | refine blk_drewN ?_ _ | refine blk_drew ?_ | refine blk_alloc ?_ _)); exact BK659.out⟩, ⟨by repeat (first | (with_reducible first | exact HB.out | apply below_alloc | apply pw_below_drewN | apply below_drew1 | refine below_set ?_ GE658.out | refine below_set ?_ GE659.out) | exact HB.out)⟩⟩
       ·rw [if_neg c45] at H
        have c45b0 : (t672 == t689) = false := beq_eq_false_iff_ne.mpr c45
        have c45b1 : (t672 != t689) = true := bne_iff_ne.mpr c45
        (first | rw [c45b0] | (simp only [i64_w, i32_w]; rw [c45b0]) | skip)
        have H' := Aside0.mk H
        clear H
        go_wp2
        go_meet
        case rel => exact ⟨_, (true), rs_, H', ⟨by have := HJ11.out; first | omega | exact Nat.le_refl _⟩, ⟨by (with_reducible repeat (first | apply Kd.R_alloc | apply Kd.R_drewN | apply Kd.R_drew)); exact HO_7.out⟩, ⟨by (with_reducible repeat (first | refine blk_drewN ?_ _ | refine blk_drew ?_ | refine blk_alloc ?_ _)); exact BK658.out⟩, ⟨by (with_reducible repeat (first | refine blk_drewN ?_ _ | refine blk_drew ?_ | refine blk_alloc ?_ _)); exact BK659.out⟩, ⟨by repeat (first | (with_reducible first | exact HB.out | apply below_alloc | apply pw_below_drewN | apply below_drew1 | refine below_set ?_ GE658.out | refine below_set ?_ GE659.out) | exact HB.out)⟩⟩
      case rest =>
       clear HC40
       try clear c1
       try clear p2
       try clear c3
       try clear c4
       try clear c6
       try clear c9
       try clear c14
       try clear c15
       try clear c16
       try clear c17
       try clear c18
       try clear c30
       try clear c31
       try clear c33
       try clear c33b0
       try clear c33b1
       try clear c35
       try clear c38
       try clear c38b0
       try clear c38b1
       try clear c41
       try clear c42
       try clear c45
       try clear c45b0
       try clear c45b1
       try clear c46
       try clear c46b0
       try clear c46b1
       try clear c47
       try clear c47b0
       try clear c47b1
       try clear c49
       try clear hcz17_0
       try clear hcz17_1
       try clear hcz17_2
       try clear hcz31_0
       try clear hcz31_1
       try clear hcz31_2
       try clear hcz36_0
       try clear hcz36_1
       try clear hcz36_2
       try clear hcz36_3
       try clear hcz36_4
       try clear hcz36_5
       try clear hcz42_0
       try clear hcz42_1
       try clear hcz42_2
       try clear hcz43_0
       try clear hcz43_1
       try clear hcz43_2
       try clear hcz43_3
       try clear hcz43_4
       try clear hcz43_5
       try clear hcz50_0
       try clear hcz50_1
       try clear hcz50_2
       try clear hfz17_0
       try clear hfz17_1
       try clear hfz17_2
       try clear hfz31_0
       try clear hfz31_1
       try clear hfz31_2
       try clear hfz36_0
       try clear hfz36_1
       try clear hfz36_2
       try clear hfz36_3
       try clear hfz36_4
       try clear hfz36_5
       try clear hfz42_0
       try clear hfz42_1
       try clear hfz42_2
       try clear hfz43_0
       try clear hfz43_1
       try clear hfz43_2
       try clear hfz43_3
       try clear hfz43_4
       try clear hfz43_5
       try clear hfz50_0
       try clear hfz50_1
       try clear hfz50_2
       try clear p2
       obtain ⟨kq, x81_39, rfl, HA, HJ39, HO_7, BK658, BK659, HB⟩ := hcut
       cases kq with
       | zero => exact absurd HA.out (by simp [speculumlaw06_FigureLines.j1])
       | succ kj39 =>
        have H := HA.out
        clear HA
        simp only [speculumlaw06_FigureLines.j1] at H
        by_cases c51 : x81_39 = true
        ·subst c51
         have H1 : (some false) = some r := by rw [if_pos rfl] at H; exact H
         clear H
         have H := H1
         clear H1
         exact absurd (Option.some.inj H) (by rw [hr_]; decide)
        ·replace c51 := Bool.eq_false_iff.mpr c51
         subst c51
         have H1 : (speculumlaw06_FigureLines.l0 kj39 t682 0 l0_0 l0_1 l0_2 a1_0 a1_1 a1_2 a1_3 a1_4 a1_5) = some r := by rw [if_neg (show ¬ (false = true) by decide)] at H; exact H
         clear H
         have H := H1
         clear H1
         have H' := Aside0.mk H
         clear H
         go_wp2
         go_loopg [11] kj39 (fun kq v11 w' => ∃ (x11_3 : Int), v11 = .int .i64 x11_3 ∧ Aside0 (speculumlaw06_FigureLines.l0 kq t682 x11_3 l0_0 l0_1 l0_2 a1_0 a1_1 a1_2 a1_3 a1_4 a1_5 = some r) ∧ Aside0 (kq ≤ kj39) ∧ Aside0 (Kd.R k28 28 w' w.heap.size (fun _ => True) v683 t682) ∧ Aside0 (w'.heap[gb658]? = some (.cells #[(.slice A0_0 l0_0.length c0_0), (.slice A0_1 l0_1.length c0_1), (.slice A0_2 l0_2.length c0_2)] 24 (0, 0))) ∧ Aside0 (w'.heap[gb659]? = some (.cells #[.int .i64 a1_0, .int .i64 a1_1, .int .i64 a1_2, .int .i64 a1_3, .int .i64 a1_4, .int .i64 a1_5] 50 (0, 0))) ∧ Aside0 (Below w.heap.size w w'))
         case atStart => exact ⟨(0), rs_, H', ⟨Nat.le_refl _⟩, ⟨by (with_reducible repeat (first | apply Kd.R_alloc | apply Kd.R_drewN | apply Kd.R_drew)); exact HO_7.out⟩, ⟨by (with_reducible repeat (first | refine blk_drewN ?_ _ | refine blk_drew ?_ | refine blk_alloc ?_ _)); exact BK658.out⟩, ⟨by (with_reducible repeat (first | refine blk_drewN ?_ _ | refine blk_drew ?_ | refine blk_alloc ?_ _)); exact BK659.out⟩, ⟨by repeat (first | (with_reducible first | exact HB.out | apply below_alloc | apply pw_below_drewN | apply below_drew1 | refine below_set ?_ GE658.out | refine below_set ?_ GE659.out) | exact HB.out)⟩⟩
         case round =>
          clear H'
          try clear c1
          try clear p2
          try clear c3
          try clear c4
          try clear c5
          try clear c6
          try clear c9
          try clear c14
          try clear c15
          try clear c16
          try clear c17
          try clear c18
          try clear c30
          try clear c31
          try clear c33
          try clear c33b0
          try clear c33b1
          try clear c35
          try clear c38
          try clear c38b0
          try clear c38b1
          try clear c41
          try clear c42
          try clear c45
          try clear c45b0
          try clear c45b1
          try clear c46
          try clear c46b0
          try clear c46b1
          try clear c47
          try clear c47b0
          try clear c47b1
          try clear c49
          try clear c51
          try clear hcz17_0
          try clear hcz17_1
          try clear hcz17_2
          try clear hcz31_0
          try clear hcz31_1
          try clear hcz31_2
          try clear hcz36_0
          try clear hcz36_1
          try clear hcz36_2
          try clear hcz36_3
          try clear hcz36_4
          try clear hcz36_5
          try clear hcz42_0
          try clear hcz42_1
          try clear hcz42_2
          try clear hcz43_0
          try clear hcz43_1
          try clear hcz43_2
          try clear hcz43_3
          try clear hcz43_4
          try clear hcz43_5
          try clear hcz50_0
          try clear hcz50_1
          try clear hcz50_2
          try clear hfz17_0
          try clear hfz17_1
          try clear hfz17_2
          try clear hfz31_0
          try clear hfz31_1
          try clear hfz31_2
          try clear hfz36_0
          try clear hfz36_1
          try clear hfz36_2
          try clear hfz36_3
          try clear hfz36_4
          try clear hfz36_5
          try clear hfz42_0
          try clear hfz42_1
          try clear hfz42_2
          try clear hfz43_0
          try clear hfz43_1
          try clear hfz43_2
          try clear hfz43_3
          try clear hfz43_4
          try clear hfz43_5
          try clear hfz50_0
          try clear hfz50_1
          try clear hfz50_2
          try clear p2
          obtain ⟨x11_3, rfl, HA, HK3, HO_7, BK658, BK659, HB⟩ := hrel
          cases gk with
          | zero => exact absurd HA.out (by simp [speculumlaw06_FigureLines.l0])
          | succ k3 =>
           have H := HA.out
           clear HA
           simp only [speculumlaw06_FigureLines.l0] at H
           by_cases c52 : x11_3 < (t682.length : Int)
           ·rw [if_pos c52] at H
            have c52b0 : decide (x11_3 < (t682.length : Int)) = true := decide_eq_true c52
            clear c52
            by_cases c53 : 0 ≤ x11_3
            ·rw [if_pos c53] at H
             have c53b0 : decide (0 ≤ x11_3) = true := decide_eq_true c53
             clear c53
             replace H := Option.bind_eq_some_iff.mp H
             obtain ⟨⟨t691, t692⟩, A540, H⟩ := H
             replace H : (if (!(((rd_T28 t682 x11_3).f0) == t691) || (!(((rd_T28 t682 x11_3).f1) == t692))) = true then (some false) else (speculumlaw06_FigureLines.l0 k3 t682 (wrap64 (x11_3 + 1)) l0_0 l0_1 l0_2 a1_0 a1_1 a1_2 a1_3 a1_4 a1_5)) = some r := H
             have A54 := Aside0.mk A540
             clear A540
             by_cases c55 : (!(((rd_T28 t682 x11_3).f0) == t691) || (!(((rd_T28 t682 x11_3).f1) == t692))) = true
             ·rw [if_pos c55] at H
              have c55b0 : (!(((rd_T28 t682 x11_3).f0) == t691) || (!(((rd_T28 t682 x11_3).f1) == t692))) = true := c55
              clear c55
              exact absurd (Option.some.inj H) (by rw [hr_]; decide)
             ·rw [if_neg c55] at H
              have c55b0 : (!(((rd_T28 t682 x11_3).f0) == t691) || (!(((rd_T28 t682 x11_3).f1) == t692))) = false := by simpa using c55
              clear c55
              have H' := Aside0.mk H
              clear H
              obtain ⟨Ao59, co59, eo59⟩ := Kd.R_slice HO_7.out
              subst eo59
              try go_wp2
              have n0_ := Aside0.mk (Kd.R_drew HO_7.out)
              have n1_ := Aside0.mk (blk_drew BK658.out)
              have n2_ := Aside0.mk (blk_drew BK659.out)
              have n3_ := Aside0.mk (below_drew1 HB.out)
              clear HO_7
              clear BK658
              clear BK659
              clear HB
              have HO_7 := n0_
              have BK658 := n1_
              have BK659 := n2_
              have HB := n3_
              clear n0_ n1_ n2_ n3_
              have p690 : 0 ≤ (x11_3 : Int) := of_decide_eq_true as_
              have q690 : x11_3 < (t682.length : Int) := of_decide_eq_true as_
              obtain ⟨ad690, e690, hx690_0, hx690_1⟩ := at_T28 (Kd.R_reads' HO_7.out).2.2 x11_3 p690 q690
              cases e690
              replace p690 := eq_true p690
              replace q690 := eq_true q690
              refine start_ (n := 9) (S := fun w' => w'.cell? ⟨gb658, 0, none⟩ = some (.slice A0_0 l0_0.length c0_0) ∧ w'.cell? ⟨gb658, 1, none⟩ = some (.slice A0_1 l0_1.length c0_1) ∧ w'.cell? ⟨gb658, 2, none⟩ = some (.slice A0_2 l0_2.length c0_2) ∧ w'.cell? ⟨gb659, 0, none⟩ = some (.int .i64 a1_0) ∧ w'.cell? ⟨gb659, 1, none⟩ = some (.int .i64 a1_1) ∧ w'.cell? ⟨gb659, 2, none⟩ = some (.int .i64 a1_2) ∧ w'.cell? ⟨gb659, 3, none⟩ = some (.int .i64 a1_3) ∧ w'.cell? ⟨gb659, 4, none⟩ = some (.int .i64 a1_4) ∧ w'.cell? ⟨gb659, 5, none⟩ = some (.int .i64 a1_5) ∧ w'.cell? (ad690.add ((x11_3).toNat * 2)) = some (.int .i64 ((rd_T28 t682 x11_3).f0)) ∧ w'.cell? ⟨(ad690.add ((x11_3).toNat * 2)).block, (ad690.add ((x11_3).toNat * 2)).off + 1, none⟩ = some (.int .i64 ((rd_T28 t682 x11_3).f1))) (ds := []) #[false, false, false, false, false, false, false, false, false] (by kernel_rfl) rfl rfl ⟨(blk_cell BK658.out 0).trans rfl, (blk_cell BK658.out 1).trans rfl, (blk_cell BK658.out 2).trans rfl, (blk_cell BK659.out 0).trans rfl, (blk_cell BK659.out 1).trans rfl, (blk_cell BK659.out 2).trans rfl, (blk_cell BK659.out 3).trans rfl, (blk_cell BK659.out 4).trans rfl, (blk_cell BK659.out 5).trans rfl, hx690_0, hx690_1⟩ (fun hHeld => ?_); refine with_tabW speculumlaw06_FigureLines.tab18 speculumlaw06_FigureLines.bits18 (fun HT_ HW_ => ?_)
              generalize wr.drew = w60 at HO_7 BK658 BK659 HB hx690_0 hx690_1 hHeld ⊢
              refine pure_ (i := 0) (N := some 88) (v := ?_) (a' := ?_) #[true, false, false, false, false, false, false, false, false] rfl rfl (any_of HT_.out (by kernel_rfl)) (fun _ _ _ h => h) (Or.inl ⟨by rfl, ?_⟩) ?_ ?_
              rotate_left
              ·intro w'; go_simp; with_reducible rfl
              rotate_left
              ·simp only [Act.put, List.setIfInBounds_toArray, List.set_cons_zero, List.set_cons_succ, i64_w, i32_w]; rfl
              refine pure_ (i := 1) (N := some 89) (v := ?_) (a' := ?_) #[true, true, false, false, false, false, false, false, false] rfl rfl (any_of HT_.out (by kernel_rfl)) (fun _ _ _ h => h) (Or.inl ⟨by rfl, ?_⟩) ?_ ?_
              rotate_left
              ·intro w'; go_simp; with_reducible rfl
              rotate_left
              ·simp only [Act.put, List.setIfInBounds_toArray, List.set_cons_zero, List.set_cons_succ, i64_w, i32_w]; rfl
              refine pure_ (i := 2) (N := some 90) (v := ?_) (a' := ?_) #[true, true, true, false, false, false, false, false, false] rfl rfl (any_of HT_.out (by kernel_rfl)) (fun _ _ _ h => h) (Or.inl ⟨by rfl, ?_⟩) ?_ ?_
              rotate_left
              ·intro w'; go_simp; with_reducible rfl
              rotate_left
              ·simp only [Act.put, List.setIfInBounds_toArray, List.set_cons_zero, List.set_cons_succ, i64_w, i32_w]; rfl
              refine pure_ (i := 6) (N := some 94) (v := ?_) (a' := ?_) #[true, true, true, false, false, false, true, false, false] rfl rfl (any_of HT_.out (by kernel_rfl)) (fun _ _ _ h => h) (Or.inl ⟨by rfl, ?_⟩) ?_ ?_
              rotate_left
              ·intro w'; go_simp; with_reducible rfl
              rotate_left
              ·simp only [Act.put, List.setIfInBounds_toArray, List.set_cons_zero, List.set_cons_succ, i64_w, i32_w]; rfl
              refine take_ (i := 3) (N := some 91) (v := ?_) (a' := ?_) #[true, true, true, true, false, false, true, false, false] rfl rfl (take_ofW HT_.out HW_.out (by kernel_rfl)) (fun _ _ _ h => h) (Or.inl ⟨by rfl, ?_⟩) hHeld ?_ ?_
              rotate_left
              ·rintro w' ⟨s0, s1, s2, s3, s4, s5, s6, s7, s8, s9, s10⟩; go_simp; with_reducible rfl
              rotate_left
              ·simp only [Act.put, List.setIfInBounds_toArray, List.set_cons_zero, List.set_cons_succ, i64_w, i32_w]; rfl
              refine take_ (i := 4) (N := some 92) (v := ?_) (a' := ?_) #[true, true, true, true, true, false, true, false, false] rfl rfl (take_ofW HT_.out HW_.out (by kernel_rfl)) (fun _ _ _ h => h) (Or.inl ⟨by rfl, ?_⟩) hHeld ?_ ?_
              rotate_left
              ·rintro w' ⟨s0, s1, s2, s3, s4, s5, s6, s7, s8, s9, s10⟩; go_simp; with_reducible rfl
              rotate_left
              ·simp only [Act.put, List.setIfInBounds_toArray, List.set_cons_zero, List.set_cons_succ, i64_w, i32_w]; rfl
              refine take_ (i := 5) (N := some 93) (v := ?_) (a' := ?_) #[true, true, true, true, true, true, true, false, false] rfl rfl (take_ofW HT_.out HW_.out (by kernel_rfl)) (fun _ _ _ h => h) (Or.inl ⟨by rfl, ?_⟩) hHeld ?_ ?_
              rotate_left
              ·rintro w' ⟨s0, s1, s2, s3, s4, s5, s6, s7, s8, s9, s10⟩; go_simp; with_reducible rfl
              rotate_left
              ·simp only [Act.put, List.setIfInBounds_toArray, List.set_cons_zero, List.set_cons_succ, i64_w, i32_w]; rfl
              refine one_ (i := 7) (N := some 95) #[true, true, true, true, true, true, true, true, false] rfl rfl (one_of HT_.out (by kernel_rfl)) di_ (fun K hK => ?_)
              refine goes_ Try.func33 (by kernel_rfl) rfl #[.agg #[.slice A0_0 l0_0.length c0_0, .slice A0_1 l0_1.length c0_1, .slice A0_2 l0_2.length c0_2], .agg #[.int .i64 a1_0, .int .i64 a1_1, .int .i64 a1_2, .int .i64 a1_3, .int .i64 a1_4, .int .i64 a1_5], .int .i64 x11_3] (by rfl) rfl rfl ma_ ?_
              with_reducible refine (speculumref06_Removal.calls k3 _ _ l0_0 _ _ l0_1 _ _ l0_2 a1_0 a1_1 a1_2 a1_3 a1_4 a1_5 x11_3 t691 t692 _ ?side1 ?side2 ?side3 ?side4 ?side5 ?side6 A54.out).mono ?_
              (case side1 => repeat (first | exact (Kd.C_below HR0_0.out HB.out) | (with_reducible refine Kd.C_alloc ?_ _) | (with_reducible refine Kd.C_drewN ?_ _) | (with_reducible refine Kd.C_drew ?_)))
              (case side2 => exact HC0_0.out)
              (case side3 => repeat (first | exact (Kd.C_below HR0_1.out HB.out) | (with_reducible refine Kd.C_alloc ?_ _) | (with_reducible refine Kd.C_drewN ?_ _) | (with_reducible refine Kd.C_drew ?_)))
              (case side4 => exact HC0_1.out)
              (case side5 => repeat (first | exact (Kd.C_below HR0_2.out HB.out) | (with_reducible refine Kd.C_alloc ?_ _) | (with_reducible refine Kd.C_drewN ?_ _) | (with_reducible refine Kd.C_drew ?_)))
              (case side6 => exact HC0_2.out)
              rintro e w61 ⟨rfl, hb⟩
              have HS9_ := (hb.cell (World.block_lt_of_cell? _ _ (hHeld.2.2.2.2.2.2.2.2.2.1))).trans (hHeld.2.2.2.2.2.2.2.2.2.1)
              have HS10_ := (hb.cell (World.block_lt_of_cell? _ _ (hHeld.2.2.2.2.2.2.2.2.2.2))).trans (hHeld.2.2.2.2.2.2.2.2.2.2)
              refine ⟨_, rfl, ?_⟩
              have n0_ := Aside0.mk (Kd.R_below (rk_ HO_7) hb)
              have n1_ := Aside0.mk (bb_ BK658 hb)
              have n2_ := Aside0.mk (bb_ BK659 hb)
              have n3_ := Aside0.mk (below_step (hb_ HB) hb)
              clear HO_7
              clear BK658
              clear BK659
              clear HB
              have HO_7 := n0_
              have BK658 := n1_
              have BK659 := n2_
              have HB := n3_
              clear n0_ n1_ n2_ n3_
              (try clear hb)
              (try clear hb2)
              (try clear hk)
              (try clear hi)
              refine hK.out _ _ ⟨(blk_cell BK658.out 0).trans rfl, (blk_cell BK658.out 1).trans rfl, (blk_cell BK658.out 2).trans rfl, (blk_cell BK659.out 0).trans rfl, (blk_cell BK659.out 1).trans rfl, (blk_cell BK659.out 2).trans rfl, (blk_cell BK659.out 3).trans rfl, (blk_cell BK659.out 4).trans rfl, (blk_cell BK659.out 5).trans rfl, HS9_, HS10_⟩ (fun hHeld => ?_)
              clear hK K
              refine norm_ (a' := ?_) ?_ ?_
              rotate_left
              ·show Act.put _ (some 95) _ = _
               simp only [Act.put, List.setIfInBounds_toArray, List.set_cons_zero, List.set_cons_succ, i64_w, i32_w]
               rfl
              refine pure_ (i := 8) (N := some 96) (v := ?_) (a' := ?_) #[true, true, true, true, true, true, true, true, true] rfl rfl (any_of HT_.out (by kernel_rfl)) (fun _ _ _ h => h) (Or.inl ⟨by rfl, ?_⟩) ?_ ?_
              rotate_left
              ·intro w'; go_simp; with_reducible rfl
              rotate_left
              ·simp only [Act.put, List.setIfInBounds_toArray, List.set_cons_zero, List.set_cons_succ, i64_w, i32_w]; rfl
              refine done_ (done_of HT_.out (by kernel_rfl)) ?_
              try go_wp2
              go_roundg k3
              case measure => have := HJ11.out; have := HJ39.out; have := HK3.out; omega
              case rel => exact ⟨(wrap64 (x11_3 + 1)), rs_, H', ⟨by have := HJ11.out; have := HJ39.out; have := HK3.out; omega⟩, ⟨by (with_reducible repeat (first | apply Kd.R_alloc | apply Kd.R_drewN | apply Kd.R_drew)); exact HO_7.out⟩, ⟨by (with_reducible repeat (first | refine blk_drewN ?_ _ | refine blk_drew ?_ | refine blk_alloc ?_ _)); exact BK658.out⟩, ⟨by (with_reducible repeat (first | refine blk_drewN ?_ _ | refine blk_drew ?_ | refine blk_alloc ?_ _)); exact BK659.out⟩, ⟨by repeat (first | (with_reducible first | exact HB.out | apply below_alloc | apply pw_below_drewN | apply below_drew1 | refine below_set ?_ GE658.out | refine below_set ?_ GE659.out) | exact HB.out)⟩⟩
            ·rw [if_neg c53] at H
             exact absurd H (by simp)
           ·rw [if_neg c52] at H
            have c52b0 : decide (x11_3 < (t682.length : Int)) = false := decide_eq_false c52
            clear c52
            obtain rfl := Option.some.inj H
            obtain ⟨Ao62, co62, eo62⟩ := Kd.R_slice HO_7.out
            subst eo62
            go_wp2
            go_ret
            exact ⟨by first | rfl | (simp [errW_none, errW_some] <;> rfl) | (simp [*, errW_none, errW_some] <;> rfl), by repeat (first | (with_reducible first | exact HB.out | apply below_alloc | apply pw_below_drewN | apply below_drew1 | refine below_set ?_ GE658.out | refine below_set ?_ GE659.out) | exact HB.out)⟩
     ·rw [if_neg c38] at H
      have c38b0 : (x9_11 == 0) = false := beq_eq_false_iff_ne.mpr c38
      have c38b1 : (x9_11 != 0) = true := bne_iff_ne.mpr c38
      by_cases c63 : t672 = x9_11
      ·rw [if_pos c63] at H
       have c63b0 : (t672 == x9_11) = true := beq_iff_eq.mpr c63
       have c63b1 : (t672 != x9_11) = false := bne_eq_false_iff_eq.mpr c63
       clear c63
       by_cases c64 : t685 = x9_11
       ·rw [if_pos c64] at H
        have c64b0 : (t685 == x9_11) = true := beq_iff_eq.mpr c64
        have c64b1 : (t685 != x9_11) = false := bne_eq_false_iff_eq.mpr c64
        clear c64
        by_cases c65 : t671 = 0
        ·rw [if_pos c65] at H
         have c65b0 : (t671 == 0) = true := beq_iff_eq.mpr c65
         have c65b1 : (t671 != 0) = false := bne_eq_false_iff_eq.mpr c65
         clear c65
         obtain rfl := Option.some.inj H
         obtain ⟨Ao66, co66, eo66⟩ := Kd.R_slice HO_7.out
         subst eo66
         go_wp2
         go_ret
         exact ⟨by first | rfl | (simp [errW_none, errW_some] <;> rfl) | (simp [*, errW_none, errW_some] <;> rfl), by repeat (first | (with_reducible first | exact HB.out | apply below_alloc | apply pw_below_drewN | apply below_drew1 | refine below_set ?_ GE658.out | refine below_set ?_ GE659.out) | exact HB.out)⟩
        ·rw [if_neg c65] at H
         have c65b0 : (t671 == 0) = false := beq_eq_false_iff_ne.mpr c65
         have c65b1 : (t671 != 0) = true := bne_iff_ne.mpr c65
         exact absurd (Option.some.inj H) (by rw [hr_]; decide)
       ·rw [if_neg c64] at H
        have c64b0 : (t685 == x9_11) = false := beq_eq_false_iff_ne.mpr c64
        have c64b1 : (t685 != x9_11) = true := bne_iff_ne.mpr c64
        exact absurd (Option.some.inj H) (by rw [hr_]; decide)
      ·rw [if_neg c63] at H
       have c63b0 : (t672 == x9_11) = false := beq_eq_false_iff_ne.mpr c63
       have c63b1 : (t672 != x9_11) = true := bne_iff_ne.mpr c63
       exact absurd (Option.some.inj H) (by rw [hr_]; decide)
  ·replace c6 := Bool.eq_false_iff.mpr c6
   subst c6
   have H1 : (some true) = some r := by rw [if_neg (show ¬ (false = true) by decide)] at H; exact H
   clear H
   have H := H1
   clear H1
   obtain rfl := Option.some.inj H
   go_enter Try.func9, Try.ntmps9
   go_wp2_with (first | ((with_reducible refine gate_dst (N := 2) rfl ?_); (try (refine gate_guard (by rfl) ?_; dsimp only)); refine box_event ?hg (N := 2) ?hd (cs := #[.slice A0_0 l0_0.length c0_0, .slice A0_1 l0_1.length c0_1, .slice A0_2 l0_2.length c0_2]) (t := 24) ?hr ?_; (case hd => rfl); (case hg => rfl); (case hr => exact gr_); intro gb658 hg w67 hbox hb; have n0_ := Aside0.mk (below_step (hb_ HB) hb); have n1_ := Aside0.mk (hbox); have n2_ := Aside0.mk ((hz_ HB hg)); have n3_ := Aside0.mk ((hz_ HB hg)); clear HB; have HB := n0_; have BK658 := n1_; have GW658 := n2_; have GE658 := n3_; clear n0_ n1_ n2_ n3_; clear hb hbox hg) | ((with_reducible refine gate_dst (N := 3) rfl ?_); (try (refine gate_guard (by rfl) ?_; dsimp only)); refine box_event ?hg (N := 3) ?hd (cs := #[.int .i64 a1_0, .int .i64 a1_1, .int .i64 a1_2, .int .i64 a1_3, .int .i64 a1_4, .int .i64 a1_5]) (t := 50) ?hr ?_; (case hd => rfl); (case hg => rfl); (case hr => exact gr_); intro gb659 hg w68 hbox hb; have n0_ := Aside0.mk (bb_ BK658 hb); have n1_ := Aside0.mk (below_step (hb_ HB) hb); have n2_ := Aside0.mk (hbox); have n3_ := Aside0.mk ((hz_ HB hg)); have n4_ := Aside0.mk ((hz_ HB hg)); have n5_ := Aside0.mk ((nl_ BK658 hg)); have n6_ := Aside0.mk ((ng_ BK658 hg)); clear BK658; clear HB; have BK658 := n0_; have HB := n1_; have BK659 := n2_; have GW659 := n3_; have GE659 := n4_; have NB658_659 := n5_; have NB659_658 := n6_; clear n0_ n1_ n2_ n3_ n4_ n5_ n6_; clear hb hbox hg) | ((with_reducible refine gate_callee (f := 14) rfl ?_); refine goesL_ (some 12) rfl rfl Try.func14 (by kernel_rfl) rfl #[] rfl ma_ ?_; (with_reducible refine (speculumlaw06_awake.calls k  true _ rfl A3.out).mono ?_); rintro e w69 ⟨rfl, hb⟩; refine ⟨_, rfl, ?_⟩; have n0_ := Aside0.mk (bb_ BK658 hb); have n1_ := Aside0.mk (bb_ BK659 hb); have n2_ := Aside0.mk (below_step (hb_ HB) hb); clear BK658; clear BK659; clear HB; have BK658 := n0_; have BK659 := n1_; have HB := n2_; clear n0_ n1_ n2_; (try clear hb); (try clear hb2); (try clear hk); (try clear hi); have hnb70 := NB658_659.out; have hnc70 := NB659_658.out; have hcz71_0 : w69.cell? ⟨gb658, 0, none⟩ = some (.slice A0_0 l0_0.length c0_0) := (blk_cell BK658.out 0).trans rfl; have hcz71_1 : w69.cell? ⟨gb658, 1, none⟩ = some (.slice A0_1 l0_1.length c0_1) := (blk_cell BK658.out 1).trans rfl; have hcz71_2 : w69.cell? ⟨gb658, 2, none⟩ = some (.slice A0_2 l0_2.length c0_2) := (blk_cell BK658.out 2).trans rfl; have hfz71_0 := blk_frozen BK658.out 0; have hfz71_1 := blk_frozen BK658.out 1; have hfz71_2 := blk_frozen BK658.out 2) | ((with_reducible refine gate_callee (f := 15) rfl ?_); refine goesL_ (some 15) rfl rfl Try.func15 (by kernel_rfl) rfl #[.agg #[.slice A0_0 l0_0.length c0_0, .slice A0_1 l0_1.length c0_1, .slice A0_2 l0_2.length c0_2]] rfl ma_ ?_; (with_reducible refine (speculumlaw06_Few.calls _ _ l0_0 _ _ l0_1 _ _ l0_2 false _ ?side1 ?side2 ?side3 ?side4 ?side5 ?side6 A5.out).mono ?_); (case side1 => repeat (first | exact (Kd.C_below HR0_0.out HB.out) | (with_reducible refine Kd.C_alloc ?_ _) | (with_reducible refine Kd.C_drewN ?_ _) | (with_reducible refine Kd.C_drew ?_))); (case side2 => exact HC0_0.out); (case side3 => repeat (first | exact (Kd.C_below HR0_1.out HB.out) | (with_reducible refine Kd.C_alloc ?_ _) | (with_reducible refine Kd.C_drewN ?_ _) | (with_reducible refine Kd.C_drew ?_))); (case side4 => exact HC0_1.out); (case side5 => repeat (first | exact (Kd.C_below HR0_2.out HB.out) | (with_reducible refine Kd.C_alloc ?_ _) | (with_reducible refine Kd.C_drewN ?_ _) | (with_reducible refine Kd.C_drew ?_))); (case side6 => exact HC0_2.out); rintro e w72 ⟨rfl, hb⟩; refine ⟨_, rfl, ?_⟩; have n0_ := Aside0.mk (bb_ BK658 hb); have n1_ := Aside0.mk (bb_ BK659 hb); have n2_ := Aside0.mk (below_step (hb_ HB) hb); clear BK658; clear BK659; clear HB; have BK658 := n0_; have BK659 := n1_; have HB := n2_; clear n0_ n1_ n2_; (try clear hb); (try clear hb2); (try clear hk); (try clear hi)))
   go_ret
   exact ⟨by first | rfl | (simp [errW_none, errW_some] <;> rfl) | (simp [*, errW_none, errW_some] <;> rfl), by repeat (first | (with_reducible first | exact HB.out | apply below_alloc | apply pw_below_drewN | apply below_drew1 | refine below_set ?_ GE658.out | refine below_set ?_ GE659.out) | exact HB.out)⟩
 ·replace c4 := Bool.eq_false_iff.mpr c4
  subst c4
  have H1 : (some false) = some r := by rw [if_neg (show ¬ (false = true) by decide)] at H; exact H
  clear H
  have H := H1
  clear H1
  exact absurd (Option.some.inj H) (by rw [hr_]; decide)
end Go.Proofs.Ytdkahcolfcmmpaa.Pr
set_option linter.unusedVariables false
namespace Go.Proofs.Ytdkahcolfcmmpaa.Pure
open Go.RowKit Go.Proofs.Ytdkahcolfcmmpaa.Pr Go.Proofs.YtdkahcolfcmmpaaW.PrintWords Go.Proofs.YtdkahcolfcmmpaaW.PrintLast Go.Proofs.YtdkahcolfcmmpaaW.PrintMore
set_option maxRecDepth 100000 in
theorem awake60 : speculumlaw06_awake.f 60 = some true := by kernel_rfl
theorem awake_ev : Ev (fun k => speculumlaw06_awake.f k) true := Ev.of (fun k => speculumlaw06_awake.mono k) awake60
theorem w64 {n : Int} (h0 : -9223372036854775808 ≤ n) (h1 : n ≤ 9223372036854775807) : wrap64 n = n := by unfold wrap64; omega
theorem wi {i : Nat} (h : i ≤ 100000) : wrap64 ((i : Int) + 1) = ((i + 1 : Nat) : Int) := by rw [w64 (by omega) (by omega)]; omega
theorem rdn (l : List Int) (j : Nat) : rd l (j : Int) = l.getD j 0 := rfl
theorem Ev.s {α : Type} {g : Nat → Option α} {r : α} (h : Ev (fun k => g (k + 1)) r) : Ev g r := Ev.step (fun _ => rfl) h
theorem Ev.c {α : Type} {v r : α} (h : v = r) : Ev (fun _ => some v) r := h ▸ Ev.now v
theorem n0 (i : Nat) : (0 : Int) ≤ (i : Int) := Int.natCast_nonneg i
def inB (a b c : Int) : Bool := decide (b ≤ a) && decide (a ≤ c)
theorem inB_iff {a b c : Int} : inB a b c = true ↔ b ≤ a ∧ a ≤ c := by simp [inB]
theorem within_eq (a b c : Int) : figure_within.f a b c = some (inB a b c) := by
  unfold figure_within.f inB
  by_cases h : b ≤ a
  · rw [if_pos h, decide_eq_true h, Bool.true_and]
  · rw [if_neg h, decide_eq_false h, Bool.false_and]
theorem Within_eq (a b c : Int) : speculumbase_Within.f a b c = some (inB a b c) := by
  unfold speculumbase_Within.f inB
  by_cases h : b ≤ a
  · rw [if_pos h, decide_eq_true h, Bool.true_and]
  · rw [if_neg h, decide_eq_false h, Bool.false_and]
theorem isHeight_eq (a : Int) : speculumref06_isHeight.f a = some (inB a (-100000) 100000) := by
  unfold speculumref06_isHeight.f; rw [Within_eq]; rfl
theorem copy_eq (l : List Int) (h : l.length ≤ 100000) : speculumbase_CopyInts.f l = some l := by
  unfold speculumbase_CopyInts.f
  rw [Option.bind_some, if_pos (by simp only [List.length_nil]; omega), List.nil_append]
def hV (l : List Int) : Int := if 1 ≤ l.length ∧ l.length ≤ 40 then (if l.all (fun x => inB x (-100000) 100000) then 0 else 2) else 10
end Go.Proofs.Ytdkahcolfcmmpaa.Pure
set_option linter.unusedVariables false
namespace Go.Proofs.Ytdkahcolfcmmpaa.Pure
open Go.RowKit Go.Proofs.Ytdkahcolfcmmpaa.Pr Go.Proofs.YtdkahcolfcmmpaaW.PrintWords Go.Proofs.YtdkahcolfcmmpaaW.PrintLast Go.Proofs.YtdkahcolfcmmpaaW.PrintMore
theorem rd_nat (l : List Int) (j : Nat) : rd l (j : Int) = l.getD j 0 := rfl
theorem natAbs_tmod (a b : Int) : (Int.tmod a b).natAbs = a.natAbs % b.natAbs := Int.natAbs_tmod a b
theorem gcd_step (a b : Int) : Int.gcd b (Int.tmod a b) = Int.gcd a b := by
  unfold Int.gcd
  rw [natAbs_tmod, Nat.gcd_comm a.natAbs, Nat.gcd_rec b.natAbs a.natAbs, Nat.gcd_comm]
theorem size_w {a : Int} (h : a.natAbs ≤ 9223372036854775808) (h' : a < 9223372036854775808) : figure_size.f a = some (wrap64 (a.natAbs : Int)) := by
  unfold figure_size.f
  refine congrArg some ?_
  unfold mx wrap64
  split <;> omega
theorem Abs_w {a : Int} (h : a.natAbs ≤ 9223372036854775808) (h' : a < 9223372036854775808) : speculumbase_Abs.f a = some (wrap64 (a.natAbs : Int)) := by
  unfold speculumbase_Abs.f
  split
  · refine congrArg some ?_
    unfold wrap64; omega
  · refine congrArg some ?_
    unfold wrap64; omega
theorem gcd_ev : ∀ (n : Nat) (a b : Int), b.natAbs ≤ n → a.natAbs ≤ 9223372036854775808 → a < 9223372036854775808 → b.natAbs ≤ 9223372036854775808 → b < 9223372036854775808 →
    Ev (fun k => figure_gcd.l0 k a b) (wrap64 (Int.gcd a b : Int)) ∧ Ev (fun k => speculumbase_Gcd.l0 k a b) (wrap64 (Int.gcd a b : Int)) := by
  intro n
  induction n with
  | zero =>
    intro a b hb ha ha' hb1 hb2
    obtain rfl : b = 0 := by omega
    rw [Int.gcd_zero_right]
    refine ⟨Ev.s ?_, Ev.s ?_⟩
    · simp only [figure_gcd.l0, if_true, size_w ha ha', Option.bind_some]; exact Ev.now _
    · simp only [speculumbase_Gcd.l0, if_true, Abs_w ha ha', Option.bind_some]; exact Ev.now _
  | succ n ih =>
    intro a b hb ha ha' hb1 hb2
    by_cases hz : b = 0
    · subst hz
      rw [Int.gcd_zero_right]
      refine ⟨Ev.s ?_, Ev.s ?_⟩
      · simp only [figure_gcd.l0, if_true, size_w ha ha', Option.bind_some]; exact Ev.now _
      · simp only [speculumbase_Gcd.l0, if_true, Abs_w ha ha', Option.bind_some]; exact Ev.now _
    · have hm : (Int.tmod a b).natAbs < b.natAbs := by rw [natAbs_tmod]; exact Nat.mod_lt _ (by omega)
      obtain ⟨h1, h2⟩ := ih b (Int.tmod a b) (by omega) hb1 hb2 (by omega) (by omega)
      rw [gcd_step] at h1 h2
      refine ⟨Ev.s ?_, Ev.s ?_⟩
      · simp only [figure_gcd.l0, hz, if_false]; exact h1
      · simp only [speculumbase_Gcd.l0, hz, if_false]; exact h2
def lowV (a b : Int) : Int × Int := (Int.tdiv a (Int.gcd a b), Int.tdiv b (Int.gcd a b))
theorem low_facts (a : Int) {b : Int} (hb : 0 < b) : ∃ g : Int, 0 < g ∧ a = g * (lowV a b).1 ∧ b = g * (lowV a b).2 ∧ (Int.gcd a b : Int) = g := by
  have hg : 0 < Int.gcd a b := by
    rcases Nat.eq_zero_or_pos (Int.gcd a b) with h | h
    · have := (Int.gcd_eq_zero_iff.1 h).2; omega
    · exact h
  have h1 : ((Int.gcd a b : Nat) : Int) ∣ a := Int.gcd_dvd_left a b
  have h2 : ((Int.gcd a b : Nat) : Int) ∣ b := Int.gcd_dvd_right a b
  exact ⟨Int.gcd a b, by omega, (Int.mul_tdiv_cancel' h1).symm, (Int.mul_tdiv_cancel' h2).symm, rfl⟩
theorem low_sign (a : Int) {b : Int} (hb : 0 < b) : ((lowV a b).1 < 0 ↔ a < 0) ∧ ((lowV a b).1 = 0 ↔ a = 0) ∧ 0 < (lowV a b).2 := by
  obtain ⟨g, hg, ha, hb', _⟩ := low_facts a hb
  refine ⟨⟨fun h => ?_, fun h => ?_⟩, ⟨fun h => ?_, fun h => ?_⟩, ?_⟩
  · rw [ha]; exact Int.mul_neg_of_pos_of_neg hg h
  · rcases Int.lt_or_le (lowV a b).1 0 with h' | h'
    · exact h'
    · have := Int.mul_nonneg (Int.le_of_lt hg) h'; rw [← ha] at this; omega
  · rw [ha, h, Int.mul_zero]
  · rw [h] at ha
    rcases Int.mul_eq_zero.1 ha.symm with h' | h'
    · omega
    · rw [h]; exact h'
  · rcases Int.lt_or_le 0 (lowV a b).2 with h' | h'
    · exact h'
    · have := Int.mul_nonpos_of_nonneg_of_nonpos (Int.le_of_lt hg) h'; rw [← hb'] at this; omega
theorem low_abs (a : Int) {b : Int} (hb : 0 < b) : (lowV a b).1.natAbs ≤ a.natAbs ∧ (lowV a b).2 ≤ b := by
  obtain ⟨g, hg, ha, hb', _⟩ := low_facts a hb
  refine ⟨?_, ?_⟩
  · have : a.natAbs = g.natAbs * (lowV a b).1.natAbs := by rw [← Int.natAbs_mul, ← ha]
    rw [this]; exact Nat.le_mul_of_pos_left _ (by omega)
  · have h2 := (low_sign a hb).2.2
    have : 1 * (lowV a b).2 ≤ g * (lowV a b).2 := Int.mul_le_mul_of_nonneg_right (by omega) (by omega)
    omega
theorem lowest_ev {a b : Int} (ha : a.natAbs ≤ 4000000000000000000) (hb : 0 < b) (hb' : b ≤ 4000000000000000000) : Ev (fun k => figure_lowest.f k a b) (lowV a b) ∧ Ev (fun k => speculumbase_Lowest.f k a b) (lowV a b) := by
  obtain ⟨h1, h2⟩ := gcd_ev b.natAbs a b (Nat.le_refl _) (by omega) (by omega) (by omega) (by omega)
  obtain ⟨g, hg, e1, e2, e3⟩ := low_facts a hb
  have hgb : g ≤ b := by
    have h2 := (low_sign a hb).2.2
    have : g * 1 ≤ g * (lowV a b).2 := Int.mul_le_mul_of_nonneg_left (by omega) (by omega)
    omega
  have hab := low_abs a hb
  have hw : wrap64 (Int.gcd a b : Int) = g := by rw [e3]; exact w64 (by omega) (by omega)
  rw [hw] at h1 h2
  have p1 : Int.tdiv a g = (lowV a b).1 := by rw [← e3]; rfl
  have p2 : Int.tdiv b g = (lowV a b).2 := by rw [← e3]; rfl
  have q1 : wrap64 (lowV a b).1 = (lowV a b).1 := w64 (by omega) (by omega)
  have q2 : wrap64 (lowV a b).2 = (lowV a b).2 := w64 (by have := (low_sign a hb).2.2; omega) (by omega)
  refine ⟨?_, ?_⟩
  · unfold figure_lowest.f figure_gcd.f
    refine Ev.bind h1 ?_
    rw [if_neg (show ¬ g = 0 by omega), p1, p2, q1, q2]
    exact Ev.now _
  · unfold speculumbase_Lowest.f speculumbase_Gcd.f
    refine Ev.bind h2 ?_
    rw [if_neg (show ¬ b < 0 by omega), if_neg (show ¬ g = 0 by omega), p1, p2, q1, q2]
    exact Ev.now _
def okZ (l0 l1 l2 : List Int) (j : Nat) : Bool := inB (l0.getD j 0) (-100000) 100000 && inB (l1.getD j 0) 0 1000 && inB (l2.getD j 0) 0 1000
def allZ (l0 l1 l2 : List Int) : Nat → Nat → Bool
  | 0, _ => true
  | m + 1, i => okZ l0 l1 l2 i && allZ l0 l1 l2 m (i + 1)
theorem allZ_at {l0 l1 l2 : List Int} : ∀ (m i : Nat), allZ l0 l1 l2 m i = true → ∀ j, i ≤ j → j < i + m → okZ l0 l1 l2 j = true
  | 0, i, _, j, h1, h2 => by omega
  | m + 1, i, h, j, h1, h2 => by
    simp only [allZ, Bool.and_eq_true] at h
    rcases Nat.eq_or_lt_of_le h1 with e | e
    · subst e; exact h.1
    · exact allZ_at m (i + 1) h.2 j e (by omega)
theorem okZ_iff {l0 l1 l2 : List Int} {j : Nat} (h : okZ l0 l1 l2 j = true) : (-100000 ≤ l0.getD j 0 ∧ l0.getD j 0 ≤ 100000) ∧ (0 ≤ l1.getD j 0 ∧ l1.getD j 0 ≤ 1000) ∧ (0 ≤ l2.getD j 0 ∧ l2.getD j 0 ≤ 1000) := by
  simp only [okZ, Bool.and_eq_true, inB_iff] at h
  exact ⟨h.1.1, h.1.2, h.2⟩
theorem sums_bd {l0 l1 l2 : List Int} : ∀ (i : Nat), i ≤ 40 → (∀ j, j < i → okZ l0 l1 l2 j = true) →
    (0 ≤ (sumsTo l0 l1 l2 i).1 ∧ (sumsTo l0 l1 l2 i).1 ≤ 1000 * i) ∧ (0 ≤ (sumsTo l0 l1 l2 i).2.1 ∧ (sumsTo l0 l1 l2 i).2.1 ≤ 1000000 * i)
  | 0, _, _ => by simp [sumsTo]
  | i + 1, hi, h => by
    obtain ⟨⟨a0, a1⟩, ⟨b0, b1⟩⟩ := sums_bd i (by omega) (fun j hj => h j (by omega))
    obtain ⟨_, ⟨q0, q1⟩, ⟨w0, w1⟩⟩ := okZ_iff (h i (by omega))
    have p0 : 0 ≤ l2.getD i 0 * l1.getD i 0 := Int.mul_nonneg w0 q0
    have p1 : l2.getD i 0 * l1.getD i 0 ≤ 1000 * 1000 := Int.mul_le_mul w1 q1 q0 (by omega)
    simp only [sumsTo]
    rw [w64 (n := l2.getD i 0 * l1.getD i 0) (by omega) (by omega), w64 (by omega) (by omega), w64 (by omega) (by omega)]
    omega
theorem sums_step {l0 l1 l2 : List Int} {i : Nat} (hi : i < 40) (h : ∀ j, j ≤ i → okZ l0 l1 l2 j = true) : (sumsTo l0 l1 l2 (i + 1)).1 = (sumsTo l0 l1 l2 i).1 + l2.getD i 0 := by
  obtain ⟨⟨a0, a1⟩, _⟩ := sums_bd i (by omega) (fun j hj => h j (by omega))
  obtain ⟨_, _, ⟨w0, w1⟩⟩ := okZ_iff (h i (Nat.le_refl _))
  simp only [sumsTo]
  rw [w64 (by omega) (by omega)]
theorem max_loop {l0 l1 l2 : List Int} {n : Nat} (hn : n ≤ 40) (hl : l2.length = n) (hok : ∀ j, j < n → okZ l0 l1 l2 j = true) : ∀ (m i k : Nat) (x : Int), i + m = n → m < k → 0 ≤ x → (x = 0 ↔ (sumsTo l0 l1 l2 i).1 = 0) →
    ∃ v, slices_Max_int_int.l0 k l2 x i = some v ∧ (v = 0 ↔ (sumsTo l0 l1 l2 n).1 = 0) := by
  intro m
  induction m with
  | zero =>
    intro i k x hi hk hx hxs
    obtain ⟨k, rfl⟩ : ∃ j, k = j + 1 := ⟨k - 1, by omega⟩
    obtain rfl : i = n := by omega
    refine ⟨x, ?_, hxs⟩
    rw [slices_Max_int_int.l0, if_neg (by omega)]
  | succ m ih =>
    intro i k x hi hk hx hxs
    obtain ⟨k, rfl⟩ : ∃ j, k = j + 1 := ⟨k - 1, by omega⟩
    have hi40 : i < 40 := by omega
    obtain ⟨⟨a0, a1⟩, _⟩ := sums_bd (l0 := l0) (l1 := l1) (l2 := l2) i (by omega) (fun j hj => hok j (by omega))
    have hs := sums_step hi40 (fun j hj => hok j (by omega))
    obtain ⟨_, _, ⟨w0, w1⟩⟩ := okZ_iff (hok i (by omega))
    obtain ⟨v, h1, h2⟩ := ih (i + 1) k (mx x (l2.getD i 0)) (by omega) (by omega) (by unfold mx; split <;> omega) (by rw [hs]; unfold mx; split <;> omega)
    refine ⟨v, ?_, h2⟩
    rw [slices_Max_int_int.l0, if_pos (by omega), if_pos (by omega), wi (by omega), rd_nat]
    exact h1
theorem max_eq {l0 l1 l2 : List Int} {n k : Nat} (h1 : 1 ≤ n) (hn : n ≤ 40) (hl : l2.length = n) (hok : ∀ j, j < n → okZ l0 l1 l2 j = true) (hk : n < k) :
    ∃ v, slices_Max_int_int.f k l2 = some v ∧ (v = 0 ↔ (sumsTo l0 l1 l2 n).1 = 0) := by
  obtain ⟨_, _, ⟨w0, w1⟩⟩ := okZ_iff (hok 0 (by omega))
  have hs := sums_step (l0 := l0) (l1 := l1) (l2 := l2) (i := 0) (by omega) (fun j hj => hok j (by omega))
  obtain ⟨v, e, hv⟩ := max_loop hn hl hok (n - 1) 1 k (l2.getD 0 0) (by omega) (by omega) w0 (by rw [hs]; simp [sumsTo])
  refine ⟨v, ?_, hv⟩
  unfold slices_Max_int_int.f
  rw [if_neg (by omega), if_pos (by omega)]
  exact e
def checkV (l0 l1 l2 : List Int) : Int :=
  if 1 ≤ l0.length ∧ l0.length ≤ 40 ∧ l1.length = l0.length ∧ l2.length = l0.length then
    if allZ l0 l1 l2 l0.length 0 then (if (sumsTo l0 l1 l2 l0.length).1 = 0 then 11 else 0) else 2
  else 10
theorem fig_loop {l0 l1 l2 : List Int} {n : Nat} (h1 : 1 ≤ n) (hn : n ≤ 40) (e0 : l0.length = n) (e1 : l1.length = n) (e2 : l2.length = n) : ∀ (m i k : Nat), i + m = n → m + n + 1 < k → allZ l0 l1 l2 n 0 = allZ l0 l1 l2 m i →
    figure_CheckMap.l0 k l0 n i l0 l1 l2 = some (if allZ l0 l1 l2 m i then (if (sumsTo l0 l1 l2 n).1 = 0 then 11 else 0) else 2) := by
  intro m
  induction m with
  | zero =>
    intro i k hi hk hall
    obtain ⟨k, rfl⟩ : ∃ j, k = j + 1 := ⟨k - 1, by omega⟩
    have ht : allZ l0 l1 l2 n 0 = true := hall
    obtain ⟨v, e, hv⟩ := max_eq h1 hn e2 (fun j hj => allZ_at n 0 ht j (by omega) (by omega)) (k := k) (by omega)
    rw [figure_CheckMap.l0, if_neg (by omega), e, Option.bind_some]
    simp only [allZ, if_true]
    by_cases hz : v = 0
    · rw [if_pos hz, if_pos (hv.1 hz)]
    · rw [if_neg hz, if_neg (fun h => hz (hv.2 h))]
  | succ m ih =>
    intro i k hi hk hall
    obtain ⟨k, rfl⟩ : ∃ j, k = j + 1 := ⟨k - 1, by omega⟩
    rw [figure_CheckMap.l0, if_pos (by omega), if_pos (by omega), if_pos (by omega), within_eq, Option.bind_some, rd_nat]
    rw [if_pos (show (i : Int) < (l1.length : Int) by omega), if_pos (show (i : Int) < (l2.length : Int) by omega), within_eq, within_eq, Option.bind_some, Option.bind_some, rd_nat, rd_nat, wi (by omega)]
    cases a : inB (l0.getD i 0) (-100000) 100000
    · have hA : allZ l0 l1 l2 (m + 1) i = false := by simp only [allZ, okZ, a, Bool.false_and]
      simp only [hA, Bool.false_eq_true, if_false]
    · cases b : inB (l1.getD i 0) 0 1000
      · have hA : allZ l0 l1 l2 (m + 1) i = false := by simp only [allZ, okZ, a, b, Bool.and_false, Bool.false_and]
        simp only [hA, Bool.false_eq_true, if_false, if_true]
      · cases c : inB (l2.getD i 0) 0 1000
        · have hA : allZ l0 l1 l2 (m + 1) i = false := by simp only [allZ, okZ, a, b, c, Bool.and_false, Bool.false_and]
          simp only [hA, Bool.false_eq_true, if_false, if_true]
        · have ho : okZ l0 l1 l2 i = true := by simp only [okZ, a, b, c, Bool.and_self]
          have hA : allZ l0 l1 l2 (m + 1) i = allZ l0 l1 l2 m (i + 1) := by simp only [allZ, ho, Bool.true_and]
          rw [hA] at hall
          simp only [hA, if_true]
          exact ih (i + 1) k (by omega) (by omega) hall
theorem ref_loop {l0 l1 l2 : List Int} {n : Nat} (hn : n ≤ 40) (e0 : l0.length = n) (e1 : l1.length = n) (e2 : l2.length = n) : ∀ (m i k : Nat), i + m = n → m < k → (∀ j, j < i → okZ l0 l1 l2 j = true) →
    speculumref06_CheckMap.l0 k n (sumsTo l0 l1 l2 i).1 i l0 l1 l2 = some (if allZ l0 l1 l2 m i then (if (sumsTo l0 l1 l2 n).1 = 0 then 11 else 0) else 2) := by
  intro m
  induction m with
  | zero =>
    intro i k hi hk hall
    obtain ⟨k, rfl⟩ : ∃ j, k = j + 1 := ⟨k - 1, by omega⟩
    obtain rfl : i = n := by omega
    rw [speculumref06_CheckMap.l0, if_neg (by omega)]
    simp only [allZ, if_true]
    split <;> rfl
  | succ m ih =>
    intro i k hi hk hall
    obtain ⟨k, rfl⟩ : ∃ j, k = j + 1 := ⟨k - 1, by omega⟩
    rw [speculumref06_CheckMap.l0, if_pos (by omega), if_pos (by omega), if_pos (by omega), isHeight_eq, Option.bind_some, rd_nat]
    rw [if_pos (show (i : Int) < (l1.length : Int) by omega), if_pos (show (i : Int) < (l2.length : Int) by omega), Within_eq, Within_eq, Option.bind_some, Option.bind_some, rd_nat, rd_nat, wi (by omega)]
    cases a : inB (l0.getD i 0) (-100000) 100000
    · have hA : allZ l0 l1 l2 (m + 1) i = false := by simp only [allZ, okZ, a, Bool.false_and]
      simp only [hA, Bool.false_eq_true, if_false]
    · cases b : inB (l1.getD i 0) 0 1000
      · have hA : allZ l0 l1 l2 (m + 1) i = false := by simp only [allZ, okZ, a, b, Bool.and_false, Bool.false_and]
        simp only [hA, Bool.false_eq_true, if_false, if_true]
      · cases c : inB (l2.getD i 0) 0 1000
        · have hA : allZ l0 l1 l2 (m + 1) i = false := by simp only [allZ, okZ, a, b, c, Bool.and_false, Bool.false_and]
          simp only [hA, Bool.false_eq_true, if_false, if_true]
        · have ho : okZ l0 l1 l2 i = true := by simp only [okZ, a, b, c, Bool.and_self]
          have hA : allZ l0 l1 l2 (m + 1) i = allZ l0 l1 l2 m (i + 1) := by simp only [allZ, ho, Bool.true_and]
          simp only [hA, if_true]
          exact ih (i + 1) k (by omega) (by omega) (fun j hj => by
            rcases Nat.lt_or_ge j i with h | h
            · exact hall j h
            · obtain rfl : j = i := by omega
              exact ho)
theorem fig_check (l0 l1 l2 : List Int) (k : Nat) (hk : 100 ≤ k) : figure_CheckMap.f k l0 l1 l2 = some (checkV l0 l1 l2) := by
  obtain ⟨k, rfl⟩ : ∃ j, k = j + 1 := ⟨k - 1, by omega⟩
  unfold figure_CheckMap.f figure_isZones.f checkV
  rw [within_eq, Option.bind_some, Option.bind_some]
  by_cases hn : 1 ≤ l0.length ∧ l0.length ≤ 40
  · rw [if_pos (by rw [inB_iff]; omega)]
    by_cases h1 : l1.length = l0.length
    · rw [if_pos (by omega), figure_CheckMap.j0]
      by_cases h2 : l2.length = l0.length
      · rw [if_neg (by simp [h2]), if_pos ⟨hn.1, hn.2, h1, h2⟩]
        exact fig_loop hn.1 hn.2 rfl h1 h2 l0.length 0 k (by omega) (by omega) rfl
      · rw [if_pos (by simp; omega), if_neg (fun h => h2 h.2.2.2)]
    · rw [if_neg (by omega), figure_CheckMap.j0, if_pos rfl, if_neg (fun h => h1 h.2.2.1)]
  · rw [if_neg (by rw [inB_iff]; omega), figure_CheckMap.j0, if_pos rfl, if_neg (fun h => hn ⟨h.1, h.2.1⟩)]
theorem ref_check (l0 l1 l2 : List Int) (k : Nat) (hk : 100 ≤ k) : speculumref06_CheckMap.f k l0 l1 l2 = some (checkV l0 l1 l2) := by
  obtain ⟨k, rfl⟩ : ∃ j, k = j + 1 := ⟨k - 1, by omega⟩
  unfold speculumref06_CheckMap.f checkV
  rw [Within_eq, Option.bind_some]
  by_cases hn : 1 ≤ l0.length ∧ l0.length ≤ 40
  · rw [if_pos (by rw [inB_iff]; omega)]
    by_cases h1 : l1.length = l0.length
    · rw [if_pos (by omega), speculumref06_CheckMap.j0]
      by_cases h2 : l2.length = l0.length
      · rw [if_neg (by simp [h2]), if_pos ⟨hn.1, hn.2, h1, h2⟩]
        exact ref_loop hn.2 rfl h1 h2 l0.length 0 k (by omega) (by omega) (fun j hj => by omega)
      · rw [if_pos (by simp; omega), if_neg (fun h => h2 h.2.2.2)]
    · rw [if_neg (by omega), speculumref06_CheckMap.j0, if_pos rfl, if_neg (fun h => h1 h.2.2.1)]
  · rw [if_neg (by rw [inB_iff]; omega), speculumref06_CheckMap.j0, if_pos rfl, if_neg (fun h => hn ⟨h.1, h.2.1⟩)]
theorem checkV_0 {l0 l1 l2 : List Int} (h : checkV l0 l1 l2 = 0) : (1 ≤ l0.length ∧ l0.length ≤ 40 ∧ l1.length = l0.length ∧ l2.length = l0.length) ∧ (∀ j, j < l0.length → okZ l0 l1 l2 j = true) ∧ (sumsTo l0 l1 l2 l0.length).1 ≠ 0 := by
  unfold checkV at h
  split at h
  · rename_i hs
    split at h
    · rename_i ha
      split at h
      · omega
      · rename_i hz; exact ⟨hs, fun j hj => allZ_at _ 0 ha j (by omega) (by omega), hz⟩
    · omega
  · omega
theorem ref_mean {l0 l1 l2 : List Int} {n : Nat} (hn : n ≤ 40) (e1 : l1.length = n) (e2 : l2.length = n) (k' : Nat) : ∀ (m i : Nat), i + m = n →
    speculumref06_Mean.l0 (m + 1 + k') (sumsTo l0 l1 l2 i).2.1 (sumsTo l0 l1 l2 i).1 i l0 l1 l2 = (speculumbase_Lowest.f (k') (sumsTo l0 l1 l2 n).2.1 (sumsTo l0 l1 l2 n).1).bind fun x => some (x.1, x.2) := by
  intro m
  induction m with
  | zero =>
    intro i hi
    obtain rfl : i = n := by omega
    rw [show 0 + 1 + k' = k' + 1 by omega, speculumref06_Mean.l0, if_neg (by omega)]
  | succ m ih =>
    intro i hi
    rw [show m + 1 + 1 + k' = (m + 1 + k') + 1 by omega, speculumref06_Mean.l0, if_pos (by omega), if_pos (by omega), if_pos (by omega), wi (by omega)]
    exact ih (i + 1) (by omega)
theorem mapped_eq {l0 l1 l2 : List Int} (h0 : l0.length ≤ 1000) (h1 : l1.length ≤ 1000) (h2 : l2.length ≤ 1000) : speculumlaw06_mapped.f l0 l1 l2 = some (l0, l1, l2) := by
  unfold speculumlaw06_mapped.f
  rw [copy_eq _ (by omega), copy_eq _ (by omega), copy_eq _ (by omega)]; rfl
theorem few_len {l0 l1 l2 : List Int} (h : (fewB l0.length && fewB l1.length && fewB l2.length) = true) : l0.length ≤ 42 ∧ l1.length ≤ 42 ∧ l2.length ≤ 42 := by
  simp only [Bool.and_eq_true] at h
  have a := few_true h.1.1
  have b := few_true h.1.2
  have c := few_true h.2
  omega
end Go.Proofs.Ytdkahcolfcmmpaa.Pure
set_option linter.unusedVariables false
namespace Go.Proofs.Ytdkahcolfcmmpaa.Pure
open Go.RowKit Go.Proofs.Ytdkahcolfcmmpaa.Pr Go.Proofs.YtdkahcolfcmmpaaW.PrintWords Go.Proofs.YtdkahcolfcmmpaaW.PrintLast Go.Proofs.YtdkahcolfcmmpaaW.PrintMore
def lowB (n d : Int) : Bool := decide (0 < d) && decide (wrap64 (Int.gcd n d : Int) = 1)
def clV (a0 a1 a2 a3 : Int) : Int := if lowB a0 a1 = true then (if lowB a2 a3 = true then (if okR a0 a1 = true then (if okR a2 a3 = true then 0 else 2) else 2) else 3) else 3
def I64 (a : Int) : Prop := -9223372036854775808 ≤ a ∧ a < 9223372036854775808
theorem lowF_ev {n d : Int} (hn : I64 n) (hd : I64 d) : Ev (fun k => lowF k n d) (lowB n d) := by
  obtain ⟨n1, n2⟩ := hn
  obtain ⟨d1, d2⟩ := hd
  unfold lowF lowB
  by_cases h : d ≤ 0
  · simp only [h, if_true, show ¬ 0 < d by omega, decide_false, Bool.false_and]
    exact Ev.now _
  · simp only [h, if_false, show 0 < d by omega, decide_true, Bool.true_and]
    have hg := (gcd_ev d.natAbs n d (Nat.le_refl _) (by omega) (by omega) (by omega) (by omega)).1
    unfold figure_gcd.f
    exact Ev.bind hg (Ev.c (by rw [Bool.eq_iff_iff, beq_iff_eq, decide_eq_true_eq]))
theorem IsLowest_ev {n d : Int} (hn : I64 n) (hd : I64 d) : Ev (fun k => speculumbase_IsLowest.f k n d) (lowB n d) := by
  obtain ⟨n1, n2⟩ := hn
  obtain ⟨d1, d2⟩ := hd
  unfold speculumbase_IsLowest.f lowB
  by_cases h : d > 0
  · simp only [h, if_true, decide_true, Bool.true_and]
    have hg := (gcd_ev d.natAbs n d (Nat.le_refl _) (by omega) (by omega) (by omega) (by omega)).2
    unfold speculumbase_Gcd.f
    exact Ev.bind hg (Ev.c (by rw [Bool.eq_iff_iff, beq_iff_eq, decide_eq_true_eq]))
  · simp only [h, if_false, decide_false, Bool.false_and]
    exact Ev.now _
theorem checkLine_ev {a0 a1 a2 a3 : Int} (a4 a5 : Int) (h0 : I64 a0) (h1 : I64 a1) (h2 : I64 a2) (h3 : I64 a3) : Ev (fun k => figure_checkLine.f k a0 a1 a2 a3 a4 a5) (clV a0 a1 a2 a3) := by
  unfold figure_checkLine.f clV
  refine Ev.bind (lowF_ev h0 h1) ?_
  cases lowB a0 a1
  · simp only [Bool.false_eq_true, if_false]; exact Ev.now _
  · simp only [if_true]
    refine Ev.bind (lowF_ev h2 h3) ?_
    cases lowB a2 a3
    · simp only [Bool.false_eq_true, if_false]; exact Ev.now _
    · simp only [if_true]; exact Ev.now _
theorem CheckLine_ev {a0 a1 a2 a3 : Int} (a4 a5 : Int) (h0 : I64 a0) (h1 : I64 a1) (h2 : I64 a2) (h3 : I64 a3) : Ev (fun k => speculumref06_CheckLine.f k a0 a1 a2 a3 a4 a5) (clV a0 a1 a2 a3) := by
  unfold speculumref06_CheckLine.f clV
  refine Ev.bind (IsLowest_ev h0 h1) ?_
  cases lowB a0 a1
  · simp only [Bool.false_eq_true, if_false]; exact Ev.now _
  · simp only [if_true]
    refine Ev.bind (IsLowest_ev h2 h3) ?_
    cases lowB a2 a3
    · simp only [Bool.false_eq_true, if_false]; exact Ev.now _
    · simp only [if_true]; exact Ev.now _
theorem okR_true {n d : Int} (h : okR n d = true) : d ≤ 1000 ∧ -1000000000 ≤ n ∧ n ≤ 1000000000 := by
  unfold okR inR at h
  split at h
  · cases h
  · split at h
    · have := of_decide_eq_true h; omega
    · cases h
structure LineOk (a0 a1 a2 a3 : Int) : Prop where
  n0 : -1000000000 ≤ a0 ∧ a0 ≤ 1000000000
  d0 : 1 ≤ a1 ∧ a1 ≤ 1000
  n1 : -1000000000 ≤ a2 ∧ a2 ≤ 1000000000
  d1 : 1 ≤ a3 ∧ a3 ≤ 1000
theorem clV_0 {a0 a1 a2 a3 : Int} (h : clV a0 a1 a2 a3 = 0) : LineOk a0 a1 a2 a3 := by
  unfold clV at h
  split at h
  · rename_i l0
    split at h
    · rename_i l1
      split at h
      · rename_i o0
        split at h
        · rename_i o1
          unfold lowB at l0 l1
          rw [Bool.and_eq_true] at l0 l1
          have p0 := of_decide_eq_true l0.1
          have p1 := of_decide_eq_true l1.1
          have q0 := okR_true o0
          have q1 := okR_true o1
          exact ⟨q0.2, ⟨by omega, q0.1⟩, q1.2, ⟨by omega, q1.1⟩⟩
        · omega
      · omega
    · omega
  · omega
def rmN (l0 l1 : List Int) (a0 a1 a2 a3 : Int) (i : Nat) : Int := l0.getD i 0 * (a1 * a3) - a0 * a3 - a2 * l1.getD i 0 * a1
theorem whole_bd {a0 a1 a2 a3 : Int} (h : LineOk a0 a1 a2 a3) : 1 ≤ a1 * a3 ∧ a1 * a3 ≤ 1000000 := by
  obtain ⟨_, ⟨p, q⟩, _, ⟨r, s⟩⟩ := h
  have h1 : 1 * 1 ≤ a1 * a3 := Int.mul_le_mul p r (by omega) (by omega)
  have h2 : a1 * a3 ≤ 1000 * 1000 := Int.mul_le_mul q s (by omega) (by omega)
  omega
theorem mul_abs {a b A B : Int} (ha : -A ≤ a ∧ a ≤ A) (hb : -B ≤ b ∧ b ≤ B) (hA : 0 ≤ A) : -(A * B) ≤ a * b ∧ a * b ≤ A * B := by
  have h1 : (a * b).natAbs ≤ (A * B).natAbs := by
    rw [Int.natAbs_mul, Int.natAbs_mul]
    exact Nat.mul_le_mul (by omega) (by omega)
  have h2 : 0 ≤ A * B := Int.mul_nonneg hA (by omega)
  omega
theorem rem_bd' {l0 l1 l2 : List Int} {i : Nat} {a0 a1 a2 a3 : Int} (h : LineOk a0 a1 a2 a3) (hz : okZ l0 l1 l2 i = true) :
    remVal l0 l1 a0 a1 a2 a3 (i : Int) = rmN l0 l1 a0 a1 a2 a3 i ∧ (rmN l0 l1 a0 a1 a2 a3 i).natAbs ≤ 1002000000000000 ∧ wrap64 (a1 * a3) = a1 * a3 := by
  obtain ⟨⟨x0, x1⟩, ⟨y0, y1⟩, _⟩ := okZ_iff hz
  obtain ⟨w0, w1⟩ := whole_bd h
  obtain ⟨⟨p0, p1⟩, ⟨q0, q1⟩, ⟨r0, r1⟩, ⟨s0, s1⟩⟩ := h
  have m1 := mul_abs (a := l0.getD i 0) (b := a1 * a3) (A := 100000) (B := 1000000) ⟨by omega, by omega⟩ ⟨by omega, by omega⟩ (by omega)
  have m2 := mul_abs (a := a0) (b := a3) (A := 1000000000) (B := 1000) ⟨by omega, by omega⟩ ⟨by omega, by omega⟩ (by omega)
  have m3 := mul_abs (a := a2) (b := l1.getD i 0) (A := 1000000000) (B := 1000) ⟨by omega, by omega⟩ ⟨by omega, by omega⟩ (by omega)
  have m4 := mul_abs (a := a2 * l1.getD i 0) (b := a1) (A := 1000000000000) (B := 1000) ⟨by omega, by omega⟩ ⟨by omega, by omega⟩ (by omega)
  unfold remVal rmN
  rw [rdn, rdn]
  have e0 : wrap64 (a1 * a3) = a1 * a3 := w64 (by omega) (by omega)
  rw [e0, w64 (n := l0.getD i 0 * (a1 * a3)) (by omega) (by omega), w64 (n := a0 * a3) (by omega) (by omega), w64 (n := a2 * l1.getD i 0) (by omega) (by omega), w64 (n := a2 * l1.getD i 0 * a1) (by omega) (by omega), w64 (n := l0.getD i 0 * (a1 * a3) - a0 * a3) (by omega) (by omega), w64 (by omega) (by omega)]
  exact ⟨rfl, by omega, rfl⟩
def rmL (l0 l1 : List Int) (a0 a1 a2 a3 : Int) (i : Nat) : Int × Int := lowV (rmN l0 l1 a0 a1 a2 a3 i) (a1 * a3)
theorem refRemoval_ev {l0 l1 l2 : List Int} {i : Nat} {a0 a1 a2 a3 : Int} (a4 a5 : Int) (h : LineOk a0 a1 a2 a3) (hz : okZ l0 l1 l2 i = true) (h0 : i < l0.length) (h1 : i < l1.length) :
    Ev (fun k => speculumref06_Removal.f k l0 l1 l2 a0 a1 a2 a3 a4 a5 (i : Int)) (rmL l0 l1 a0 a1 a2 a3 i) := by
  obtain ⟨e1, e2, e3⟩ := rem_bd' h hz
  have hw := whole_bd h
  have hl0 : (i : Int) < (l0.length : Int) := by omega
  have hl1 : (i : Int) < (l1.length : Int) := by omega
  unfold speculumref06_Removal.f
  unfold remVal at e1
  rw [e3] at e1
  simp only [n0, hl0, hl1, if_true, e3, e1]
  exact Ev.bind (lowest_ev (by omega) (by omega) (by omega)).2 (Ev.now _)
theorem negL_ev {l0 l1 l2 : List Int} {a0 a1 a2 a3 : Int} (a4 a5 : Int) (h : LineOk a0 a1 a2 a3) {n : Nat} (hn : n = l0.length) (h1 : l1.length = n) (hz : ∀ j, j < n → okZ l0 l1 l2 j = true) : ∀ (m i : Nat), i + m = n →
    Ev (fun k => negL (speculumref06_Removal.f k l0 l1 l2 a0 a1 a2 a3 a4 a5) (List.range' i m)) ((List.range' i m).find? (fun j : Nat => decide (remVal l0 l1 a0 a1 a2 a3 (j : Int) < 0))) := by
  intro m
  induction m with
  | zero => intro i hi; exact Ev.now _
  | succ m ih =>
    intro i hi
    rw [List.range'_succ, List.find?_cons]
    have hzi := hz i (by omega)
    obtain ⟨e1, e2, e3⟩ := rem_bd' h hzi
    have hw := whole_bd h
    simp only [negL]
    refine Ev.bind (refRemoval_ev a4 a5 h hzi (by omega) (by omega)) ?_
    have hs := (low_sign (rmN l0 l1 a0 a1 a2 a3 i) (show 0 < a1 * a3 by omega)).1
    by_cases hneg : rmN l0 l1 a0 a1 a2 a3 i < 0
    · have hl : (rmL l0 l1 a0 a1 a2 a3 i).1 < 0 := hs.2 hneg
      rw [e1, decide_eq_true hneg]
      simp only [hl, if_true]
      exact Ev.now _
    · have hl : ¬ (rmL l0 l1 a0 a1 a2 a3 i).1 < 0 := fun hh => hneg (hs.1 hh)
      rw [e1, decide_eq_false hneg]
      simp only [hl, if_false]
      exact ih (i + 1) (by omega)
theorem mean_ev {l0 l1 l2 : List Int} (h : checkV l0 l1 l2 = 0) : Ev (fun k => speculumref06_Mean.f k l0 l1 l2) (lowV (sumsTo l0 l1 l2 l0.length).2.1 (sumsTo l0 l1 l2 l0.length).1) := by
  obtain ⟨⟨hn0, hn, h1, h2⟩, hok, hz⟩ := checkV_0 h
  obtain ⟨⟨a0, a1⟩, ⟨b0, b1⟩⟩ := sums_bd (l0 := l0) (l1 := l1) (l2 := l2) l0.length hn hok
  obtain ⟨K, hK⟩ := (lowest_ev (a := (sumsTo l0 l1 l2 l0.length).2.1) (b := (sumsTo l0 l1 l2 l0.length).1) (by omega) (by omega) (by omega)).2
  refine ⟨l0.length + 1 + K, fun k hk => ?_⟩
  obtain ⟨k', rfl⟩ : ∃ k', k = l0.length + 1 + k' := ⟨k - l0.length - 1, by omega⟩
  have := ref_mean (l0 := l0) (l1 := l1) (l2 := l2) hn h1 h2 k' l0.length 0 (by omega)
  have e := hK k' (by omega)
  simp only at e
  rw [e] at this
  exact this
theorem CheckMap_ev (l0 l1 l2 : List Int) : Ev (fun k => figure_CheckMap.f k l0 l1 l2) (checkV l0 l1 l2) := ⟨100, fun k hk => fig_check l0 l1 l2 k hk⟩
theorem refCheckMap_ev (l0 l1 l2 : List Int) : Ev (fun k => speculumref06_CheckMap.f k l0 l1 l2) (checkV l0 l1 l2) := ⟨100, fun k hk => ref_check l0 l1 l2 k hk⟩
theorem tzB_nat {n : Nat} {z : Int} (h : tzB n z = true) (h1 : 1 ≤ n) (h2 : n ≤ 100) : ∃ i : Nat, i < n ∧ z = (i : Int) := by
  have := tz_true h h1 (by omega)
  exact ⟨z.toNat, by omega, by omega⟩
theorem side_mean {q s t : Int} (hq : 0 ≤ q ∧ q ≤ 1000) (hs : 0 < s ∧ s ≤ 100000) (ht : 0 ≤ t ∧ t ≤ 100000000) :
    ((0 < sdV s t q) ↔ wrap64 (q * (lowV t s).2) > (lowV t s).1) ∧ ((sdV s t q < 0) ↔ wrap64 (q * (lowV t s).2) < (lowV t s).1) := by
  obtain ⟨g, hg, e1, e2, _⟩ := low_facts t hs.1
  have hab := low_abs t hs.1
  have hp := (low_sign t hs.1).2.2
  have b1 : 0 ≤ q * s := Int.mul_nonneg hq.1 (by omega)
  have b2 : q * s ≤ 1000 * 100000 := Int.mul_le_mul hq.2 hs.2 (by omega) (by omega)
  have c1 : 0 ≤ q * (lowV t s).2 := Int.mul_nonneg hq.1 (by omega)
  have c2 : q * (lowV t s).2 ≤ 1000 * 100000 := Int.mul_le_mul hq.2 (by omega) (by omega) (by omega)
  have hx : q * s = g * (q * (lowV t s).2) := by
    have : q * s = q * (g * (lowV t s).2) := by rw [← e2]
    rw [this, Int.mul_left_comm]
  unfold sdV
  rw [w64 (n := q * s) (by omega) (by omega), w64 (n := q * (lowV t s).2) (by omega) (by omega)]
  have k1 : q * s < t ↔ q * (lowV t s).2 < (lowV t s).1 := by
    rw [hx]
    constructor
    · intro h
      have h' : g * (q * (lowV t s).2) < g * (lowV t s).1 := by omega
      exact Int.lt_of_mul_lt_mul_left h' (by omega)
    · intro h
      have := Int.mul_lt_mul_of_pos_left h hg
      omega
  have k2 : q * s > t ↔ q * (lowV t s).2 > (lowV t s).1 := by
    rw [hx]
    constructor
    · intro h
      have h' : g * (lowV t s).1 < g * (q * (lowV t s).2) := by omega
      exact Int.lt_of_mul_lt_mul_left h' (by omega)
    · intro h
      have := Int.mul_lt_mul_of_pos_left h hg
      omega
  by_cases h1 : q * s < t
  · rw [if_pos h1]
    have := k1.1 h1
    constructor <;> constructor <;> intro h <;> omega
  · rw [if_neg h1]
    by_cases h2 : q * s > t
    · rw [if_pos h2]
      have := k2.1 h2
      constructor <;> constructor <;> intro h <;> omega
    · rw [if_neg h2]
      have n1 := fun h => h1 (k1.2 h)
      have n2 := fun h => h2 (k2.2 h)
      constructor <;> constructor <;> intro h <;> omega
theorem refCheckReference_ev {l0 l1 l2 : List Int} {a0 a1 a2 a3 : Int} (a4 a5 : Int) (hm : checkV l0 l1 l2 = 0) (h : LineOk a0 a1 a2 a3) : Ev (fun k => speculumref06_CheckReference.f k l0 l1 l2 a0 a1 a2 a3 a4 a5) (crV l0 l1 l2 a0 a1 a2 a3 a4 a5) := by
  obtain ⟨⟨hn0, hn, h1, h2⟩, hok, hz⟩ := checkV_0 hm
  obtain ⟨⟨s0, s1⟩, ⟨t0, t1⟩⟩ := sums_bd (l0 := l0) (l1 := l1) (l2 := l2) l0.length hn hok
  have hw := whole_bd h
  unfold speculumref06_CheckReference.f rcA crV
  simp only [hn0, if_true]
  refine Ev.bind (negL_ev a4 a5 h rfl h1 hok l0.length 0 (by omega)) ?_
  rw [← List.range_eq_range']
  cases (List.range l0.length).find? (fun j : Nat => decide (remVal l0 l1 a0 a1 a2 a3 (j : Int) < 0)) with
  | some i => exact Ev.now _
  | none =>
    dsimp only
    cases ht4 : tzB l0.length a4 with
    | false => simp only [Bool.false_eq_true, if_false]; exact Ev.now _
    | true =>
      cases ht5 : tzB l0.length a5 with
      | false => simp only [if_true, Bool.false_eq_true, if_false]; exact Ev.now _
      | true =>
        simp only [if_true]
        obtain ⟨i, hi, rfl⟩ := tzB_nat ht4 hn0 (by omega)
        obtain ⟨j, hj, rfl⟩ := tzB_nat ht5 hn0 (by omega)
        unfold rcT
        refine Ev.bind (mean_ev hm) (Ev.bind (refRemoval_ev _ _ h (hok i hi) (by omega) (by omega)) ?_)
        have zi := (low_sign (rmN l0 l1 a0 a1 a2 a3 i) (show 0 < a1 * a3 by omega)).2.1
        have zj := (low_sign (rmN l0 l1 a0 a1 a2 a3 j) (show 0 < a1 * a3 by omega)).2.1
        have ei := (rem_bd' h (hok i hi)).1
        have ej := (rem_bd' h (hok j hj)).1
        obtain ⟨_, qi, _⟩ := okZ_iff (hok i hi)
        obtain ⟨_, qj, _⟩ := okZ_iff (hok j hj)
        have mi := (side_mean (q := l1.getD i 0) (s := (sumsTo l0 l1 l2 l0.length).1) (t := (sumsTo l0 l1 l2 l0.length).2.1) qi (by omega) (by omega)).1
        have mj := (side_mean (q := l1.getD j 0) (s := (sumsTo l0 l1 l2 l0.length).1) (t := (sumsTo l0 l1 l2 l0.length).2.1) qj (by omega) (by omega)).2
        unfold tf0 tf1
        rw [h2, ei, ej, rdn, rdn]
        by_cases hi0 : rmN l0 l1 a0 a1 a2 a3 i = 0
        · have hi0' : (rmL l0 l1 a0 a1 a2 a3 i).1 = 0 := zi.2 hi0
          simp only [hi0, hi0', if_true]
          refine Ev.bind (refRemoval_ev _ _ h (hok j hj) (by omega) (by omega)) ?_
          by_cases hj0 : rmN l0 l1 a0 a1 a2 a3 j = 0
          · have hj0' : (rmL l0 l1 a0 a1 a2 a3 j).1 = 0 := zj.2 hj0
            simp only [hj0, hj0', if_true]
            refine Ev.c ?_
            unfold rcV
            rw [rdn, rdn]
            by_cases c4 : 0 < sdV (sumsTo l0 l1 l2 l0.length).1 (sumsTo l0 l1 l2 l0.length).2.1 (l1.getD i 0)
            · have p4 := mi.1 c4
              simp only [p4, c4, decide_true, if_true]
            · have n4 := (not_congr mi).1 c4
              by_cases c5 : sdV (sumsTo l0 l1 l2 l0.length).1 (sumsTo l0 l1 l2 l0.length).2.1 (l1.getD j 0) < 0
              · have p5 := mj.1 c5
                simp only [n4, c4, p5, c5, decide_false, decide_true, Bool.false_eq_true, if_false, if_true]
              · have n5 := (not_congr mj).1 c5
                simp only [n4, c4, n5, c5, decide_false, Bool.false_eq_true, if_false]
          · have hj0' : ¬ (rmL l0 l1 a0 a1 a2 a3 j).1 = 0 := fun hh => hj0 (zj.1 hh)
            simp only [hj0, hj0', if_false, if_true]
            refine Ev.c ?_
            split <;> rfl
        · have hi0' : ¬ (rmL l0 l1 a0 a1 a2 a3 i).1 = 0 := fun hh => hi0 (zi.1 hh)
          simp only [hi0, hi0', if_false, if_true]
          exact Ev.now _
theorem CheckReference_ev {l0 l1 l2 : List Int} {a0 a1 a2 a3 : Int} (a4 a5 : Int) (h0 : I64 a0) (h1 : I64 a1) (h2 : I64 a2) (h3 : I64 a3) : Ev (fun k => figure_CheckReference.f k l0 l1 l2 a0 a1 a2 a3 a4 a5) (if checkV l0 l1 l2 = 0 then (if clV a0 a1 a2 a3 = 0 then crV l0 l1 l2 a0 a1 a2 a3 a4 a5 else (0, clV a0 a1 a2 a3)) else (0, checkV l0 l1 l2)) := by
  unfold figure_CheckReference.f
  refine Ev.bind (CheckMap_ev l0 l1 l2) ?_
  by_cases hm : checkV l0 l1 l2 = 0
  · simp only [hm, if_true]
    refine Ev.bind (checkLine_ev a4 a5 h0 h1 h2 h3) ?_
    obtain ⟨⟨hn0, hn, e1, e2⟩, hok, hz⟩ := checkV_0 hm
    by_cases hc : clV a0 a1 a2 a3 = 0
    · simp only [hc, if_true, e1, e2, hn0, and_self]
      exact Ev.now _
    · simp only [hc, if_false]
      exact Ev.now _
  · simp only [hm, if_false]
    exact Ev.now _
def rmS (l0 l1 : List Int) (a0 a1 a2 a3 : Int) : Nat → List S28
  | 0 => []
  | i + 1 => rmS l0 l1 a0 a1 a2 a3 i ++ [⟨(rmL l0 l1 a0 a1 a2 a3 i).1, (rmL l0 l1 a0 a1 a2 a3 i).2⟩]
theorem rmS_len (l0 l1 : List Int) (a0 a1 a2 a3 : Int) : ∀ n, (rmS l0 l1 a0 a1 a2 a3 n).length = n
  | 0 => rfl
  | n + 1 => by rw [rmS, List.length_append, rmS_len l0 l1 a0 a1 a2 a3 n]; rfl
theorem rmS_at (l0 l1 : List Int) (a0 a1 a2 a3 : Int) (d : S28) : ∀ (n i : Nat), i < n → (rmS l0 l1 a0 a1 a2 a3 n).getD i d = ⟨(rmL l0 l1 a0 a1 a2 a3 i).1, (rmL l0 l1 a0 a1 a2 a3 i).2⟩
  | 0, i, h => by omega
  | n + 1, i, h => by
    rw [rmS, List.getD_eq_getElem?_getD]
    rcases Nat.lt_or_ge i n with hi | hi
    · rw [List.getElem?_append_left (by rw [rmS_len]; exact hi), ← List.getD_eq_getElem?_getD]
      exact rmS_at l0 l1 a0 a1 a2 a3 d n i hi
    · obtain rfl : i = n := by omega
      rw [List.getElem?_append_right (by rw [rmS_len]; omega), rmS_len, Nat.sub_self]; rfl
theorem removal_loop {l0 l1 l2 : List Int} {a0 a1 a2 a3 : Int} (a4 a5 : Int) (h : LineOk a0 a1 a2 a3) {n : Nat} (hn : n = l0.length) (h1 : l1.length = n) (hb : n ≤ 100) (hz : ∀ j, j < n → okZ l0 l1 l2 j = true) : ∀ (m i : Nat), i + m = n →
    Ev (fun k => figure_Removal.l0 k (rmS l0 l1 a0 a1 a2 a3 i) (n : Int) (i : Int) l0 l1 l2 a0 a1 a2 a3 a4 a5) (rmS l0 l1 a0 a1 a2 a3 n, 0) := by
  intro m
  induction m with
  | zero =>
    intro i hi
    have hlt : ¬ (i : Int) < (n : Int) := by omega
    refine Ev.s ?_
    simp only [figure_Removal.l0, hlt, if_false]
    exact Ev.c (by rw [show i = n by omega])
  | succ m ih =>
    intro i hi
    have hlt : (i : Int) < (n : Int) := by omega
    obtain ⟨e1, e2, e3⟩ := rem_bd' h (hz i (by omega))
    have hw := whole_bd h
    have hf := rem_f l0 l1 l2 a0 a1 a2 a3 a4 a5 (i : Int) (n0 i) (by omega) (by omega)
    have hlen : (rmS l0 l1 a0 a1 a2 a3 i).length < 8796093022208 := by rw [rmS_len]; omega
    refine Ev.s ?_
    simp only [figure_Removal.l0, hlt, if_true, hf, Option.bind_some, e1, e3]
    refine Ev.bind (lowest_ev (by omega) (by omega) (by omega)).1 ?_
    simp only [hlen, if_true, wi (show i ≤ 100000 by omega)]
    exact ih (i + 1) (by omega)
theorem Removal_ev {l0 l1 l2 : List Int} {a0 a1 a2 a3 : Int} (a4 a5 : Int) (h0 : I64 a0) (h1 : I64 a1) (h2 : I64 a2) (h3 : I64 a3) : Ev (fun k => figure_Removal.f k l0 l1 l2 a0 a1 a2 a3 a4 a5) (if checkV l0 l1 l2 = 0 then (if clV a0 a1 a2 a3 = 0 then (rmS l0 l1 a0 a1 a2 a3 l0.length, 0) else ([], clV a0 a1 a2 a3)) else ([], checkV l0 l1 l2)) := by
  unfold figure_Removal.f
  refine Ev.bind (CheckMap_ev l0 l1 l2) ?_
  by_cases hm : checkV l0 l1 l2 = 0
  · simp only [hm, if_true]
    refine Ev.bind (checkLine_ev a4 a5 h0 h1 h2 h3) ?_
    obtain ⟨⟨hn0, hn, e1, e2⟩, hok, hz⟩ := checkV_0 hm
    by_cases hc : clV a0 a1 a2 a3 = 0
    · simp only [hc, if_true]
      exact removal_loop a4 a5 (clV_0 hc) rfl e1 (by omega) hok l0.length 0 (by omega)
    · simp only [hc, if_false]
      exact Ev.now _
  · simp only [hm, if_false]
    exact Ev.now _
theorem lines_loop {l0 l1 l2 : List Int} {a0 a1 a2 a3 : Int} (a4 a5 : Int) (h : LineOk a0 a1 a2 a3) {n : Nat} (hn : n = l0.length) (h1 : l1.length = n) (hb : n ≤ 100) (hz : ∀ j, j < n → okZ l0 l1 l2 j = true) : ∀ (m i : Nat), i + m = n →
    Ev (fun k => speculumlaw06_FigureLines.l0 k (rmS l0 l1 a0 a1 a2 a3 n) (i : Int) l0 l1 l2 a0 a1 a2 a3 a4 a5) true := by
  intro m
  induction m with
  | zero =>
    intro i hi
    have hlt : ¬ (i : Int) < ((rmS l0 l1 a0 a1 a2 a3 n).length : Int) := by rw [rmS_len]; omega
    refine Ev.s ?_
    simp only [speculumlaw06_FigureLines.l0, hlt, if_false]
    exact Ev.now _
  | succ m ih =>
    intro i hi
    have hlt : (i : Int) < ((rmS l0 l1 a0 a1 a2 a3 n).length : Int) := by rw [rmS_len]; omega
    have hr : rd_T28 (rmS l0 l1 a0 a1 a2 a3 n) (i : Int) = ⟨(rmL l0 l1 a0 a1 a2 a3 i).1, (rmL l0 l1 a0 a1 a2 a3 i).2⟩ := rmS_at l0 l1 a0 a1 a2 a3 _ n i (by omega)
    refine Ev.s ?_
    simp only [speculumlaw06_FigureLines.l0, hlt, n0, if_true, hr]
    refine Ev.bind (refRemoval_ev a4 a5 h (hz i (by omega)) (by omega) (by omega)) ?_
    simp only [beq_self_eq_true, Bool.not_true, Bool.or_self, Bool.false_eq_true, if_false, wi (show i ≤ 100000 by omega)]
    exact ih (i + 1) (by omega)
theorem FigureLines (l0 l1 l2 : List Int) (a0 a1 a2 a3 a4 a5 : Int) (h0 : (Lit.int .i64 a0).wf = true) (h1 : (Lit.int .i64 a1).wf = true) (h2 : (Lit.int .i64 a2).wf = true) (h3 : (Lit.int .i64 a3).wf = true) : ∃ k, speculumlaw06_FigureLines.f k l0 l1 l2 a0 a1 a2 a3 a4 a5 = some true := by
  have i64 : ∀ {a : Int}, (Lit.int .i64 a).wf = true → I64 a := fun {a} h => by
    simp only [Lit.wf, Bool.and_eq_true, decide_eq_true_eq] at h
    have e1 : IntKind.i64.min = -9223372036854775808 := by decide
    have e2 : IntKind.i64.max = 9223372036854775807 := by decide
    rw [e1, e2] at h
    exact ⟨h.1, by omega⟩
  have j0 := i64 h0
  have j1 := i64 h1
  have j2 := i64 h2
  have j3 := i64 h3
  refine Ev.rounds (g := fun k => speculumlaw06_FigureLines.f k l0 l1 l2 a0 a1 a2 a3 a4 a5) ?_
  unfold speculumlaw06_FigureLines.f speculumlaw06_Few.f
  refine Ev.bind awake_ev ?_
  simp only [if_true, Option.bind_some]
  cases hf : fewB l0.length && fewB l1.length && fewB l2.length with
  | false => simp only [Bool.false_eq_true, if_false]; exact Ev.now _
  | true =>
    obtain ⟨b0, b1, b2⟩ := few_len hf
    simp only [if_true, mapped_eq (show l0.length ≤ 1000 by omega) (show l1.length ≤ 1000 by omega) (show l2.length ≤ 1000 by omega), Option.bind_some]
    refine Ev.bind (CheckReference_ev a4 a5 j0 j1 j2 j3) (Ev.bind (Removal_ev a4 a5 j0 j1 j2 j3) (Ev.bind (refCheckMap_ev l0 l1 l2) ?_))
    by_cases hm : checkV l0 l1 l2 = 0
    · simp only [hm, if_true]
      obtain ⟨⟨hn0, hn, e1, e2⟩, hok, hz⟩ := checkV_0 hm
      refine Ev.bind (CheckLine_ev a4 a5 j0 j1 j2 j3) (Ev.s ?_)
      by_cases hc : clV a0 a1 a2 a3 = 0
      · have hL := clV_0 hc
        simp only [speculumlaw06_FigureLines.j0, hc, if_true]
        refine Ev.bind (refCheckReference_ev a4 a5 hm hL) ?_
        simp only [if_true, rmS_len, bne_self_eq_false]
        refine Ev.s ?_
        simp only [speculumlaw06_FigureLines.j1, Bool.false_eq_true, if_false]
        exact lines_loop a4 a5 hL rfl e1 (by omega) hok l0.length 0 (by omega)
      · simp only [speculumlaw06_FigureLines.j0, hc, if_false, if_true, List.length_nil]
        exact Ev.now _
    · simp only [hm, if_false]
      refine Ev.s ?_
      simp only [speculumlaw06_FigureLines.j0, hm, if_false, if_true, List.length_nil]
      exact Ev.now _
end Go.Proofs.Ytdkahcolfcmmpaa.Pure
namespace Go.Proofs.Ytdkahcolfcmmpaa.figureLines
open Go.ChangeShapes Go.WideShapes Go.ChangeAt Go.RowKit Go.Proofs.Ytdkahcolfcmmpaa.RowB
open Go.ChangeMaps (open_string shut_string)
set_option linter.unusedVariables false
set_option maxRecDepth 100000 in
theorem lifted (os : Os) (started : os.Started) (H : Type) (enc : TypeId × Value → H) :
    ReturnsInHanded {} Try.checked os 9 .any (Rows.figureLinesSpec.pre6 enc Try.prog Try.f9 Rows.figureLinesRow.domain false) (Rows.figureLinesSpec.post enc Try.prog Try.f9 false true false false) := by
  refine returnsInHanded_of_change_sized (C := Try.checked) own started (by kernel_rfl) Try.func9
    (ChangeSpec.witness6 (enc := enc) (C := Try.checked) false ⟨#[], #[.agg #[.slice none 0 0, .slice none 0 0, .slice none 0 0], .agg #[.int .i64 0, .int .i64 0, .int .i64 0, .int .i64 0, .int .i64 0, .int .i64 0]], []⟩ 8 (by kernel_rfl) (by kernel_rfl) (by kernel_rfl) (by kernel_rfl)) ?_
  intro W base args ds gs before hval0 hW hcnd hsz0 _
  have hval : ∀ (j : Nat) t v, Try.f9.params[j]? = some t → args[j]? = some v → Value.okWide Try.prog W .any base t v := hval0
  have hW' := hW
  obtain ⟨p, q, hA0, hV, rfl, hfz, hnd⟩ := hW
  have hA : DataW.TrodAll enc Try.prog W 0 (fun _ => true) true Try.f9.params.toList args.toList ds p := hA0
  rw [Try.params9] at hA hval
  obtain ⟨v0, vs0, d0, ds0, p0, q0, hargs, rfl, rfl, h0, r0⟩ := trodAll_cons hA
  obtain ⟨v1, vs1, d1, ds1, p1, q1, rfl, rfl, rfl, h1, r1⟩ := trodAll_cons r0
  obtain ⟨rfl, rfl, rfl⟩ := trodAll_nil r1
  obtain rfl : args = #[v0, v1] := by cases args; simp_all
  obtain ⟨rfl, rfl⟩ := trodVars_none hV
  have k0 := h0
  have lt0 : ∀ x ∈ p0, x.block < W.heap.size := by obtain ⟨m, hm⟩ := k0; exact DataW.trod_lt m _ _ _ hm
  have k1 := h1
  have lt1 : ∀ x ∈ p1, x.block < W.heap.size := by obtain ⟨m, hm⟩ := k1; exact DataW.trod_lt m _ _ _ hm
  obtain ⟨u0_0, u0_1, u0_2, y0_0, y0_1, y0_2, n0, rfl, hd0, hp0, t0_0, t0_1, t0_2⟩ := Go.Joins.open_agg3 Try.underlying24 (by kernel_rfl) (by kernel_rfl) (hval 0 24 v0 rfl rfl) h0
  obtain ⟨a0_0, c0_0, l0_0, e0_0, hr0_0, hc0_0, hw0_0⟩ := isInts t0_0
  obtain rfl : u0_0 = _ := by simpa using e0_0
  obtain ⟨a0_1, c0_1, l0_1, e0_1, hr0_1, hc0_1, hw0_1⟩ := isInts t0_1
  obtain rfl : u0_1 = _ := by simpa using e0_1
  obtain ⟨a0_2, c0_2, l0_2, e0_2, hr0_2, hc0_2, hw0_2⟩ := isInts t0_2
  obtain rfl : u0_2 = _ := by simpa using e0_2
  obtain ⟨z1_0, z1_1, z1_2, z1_3, z1_4, z1_5, rfl, hw1_0, hw1_1, hw1_2, hw1_3, hw1_4, hw1_5⟩ := isLine (hval 1 50 v1 rfl rfl) h1
  clear hA0 hval0
  obtain ⟨k, h⟩ := Pure.FigureLines l0_0 l0_1 l0_2 z1_0 z1_1 z1_2 z1_3 z1_4 z1_5 hw1_0 hw1_1 hw1_2 hw1_3
  refine (Pr.speculumlaw06_FigureLines.calls k _ _ l0_0 _ _ l0_1 _ _ l0_2 z1_0 z1_1 z1_2 z1_3 z1_4 z1_5 true W hr0_0 hc0_0 hr0_1 hc0_1 hr0_2 hc0_2 rfl h).mono fun e W' ⟨he, bel⟩ => ?_
  subst he
  exact ⟨_, rfl, _, _, _, [], _, [], hW', trodAll_mk1 (shut_bool Try.underlying4 _), (trodAll_cons_mk (Below.trod laidOut (by kernel_rfl) (of_decide_eq_true (by kernel_rfl)) k0 bel lt0) (trodAll_cons_mk (Below.trod laidOut (by kernel_rfl) (of_decide_eq_true (by kernel_rfl)) k1 bel lt1) trodAll_mk0)), rfl, bel.frame _, fun h => by cases h⟩
theorem over : Rows.figureLinesRow.holds Try.pinned (OpenSpec.ofChange Rows.figureLinesSpec) :=
  OpenClaim.holds_of_wide 9 Try.f9 rfl rfl rfl rfl rfl rfl rfl ⟨rfl, rfl, rfl, rfl, rfl⟩ rfl rfl rfl rfl rfl (by kernel_rfl) Try.func9 (by kernel_rfl)
    (of_decide_eq_true (by kernel_rfl)) (by unfold Func.isWrapper; first | (rw [if_pos (by decide +kernel)]; kernel_rfl) | (rw [if_neg (by decide +kernel)]; exact ⟨rfl, rfl⟩))
    (fun os started H enc _ => lifted os started H enc)
theorem proved : Rows.FigureLinesSaid := over
end Go.Proofs.Ytdkahcolfcmmpaa.figureLines
namespace Go.Proofs.Ytdkahcolfcmmpaa
theorem figureLines_holds : Rows.FigureLinesSaid := figureLines.proved
end Go.Proofs.Ytdkahcolfcmmpaa
