import Derived.ChangeSlices
import Derived.LoopIn
import Derived.LoopNIn
import Derived.OwnWalkIn
import Derived.RangeFuncBound
import Derived.RangeFuncBox
import Derived.RangeFuncCalls
import Derived.RangeFuncLeaves
import Derived.RangeFuncNested
import Derived.Shelf.Abstract
import Derived.Shelf.RegionOpen
import Derived.SizedLaws
import Derived.Sort.BigQuietIn
import Derived.Sort.QuietThIn
import Derived.TacticsInMore
import Derived.Test.YtdkahcolfcmmpaaFd1
import Derived.Test.YtdkahcolfcmmpaaFd2
import Derived.Test.YtdkahcolfcmmpaaFd4
import Derived.Test.YtdkahcolfcmmpaaFd5
import Derived.Test.YtdkahcolfcmmpaaRows
import Derived.WalkKit
import Derived.WalkSpells
namespace Go.Proofs.Ytdkahcolfcmmpaa.Pr
open Go.RowKit Go.Shelf Go.Proofs.YtdkahcolfcmmpaaW.PrintWords Go.Proofs.YtdkahcolfcmmpaaW.PrintLast Go.Proofs.YtdkahcolfcmmpaaW.PrintMore
attribute [local go_sem] max2_int min2_int max_two min_two max_three min_three max_four min_four
set_option linter.unusedVariables false
set_option linter.unusedSimpArgs false
attribute [local go_sem] Oper.semAt_some
def rowUpto (i : Nat) : Nat → List (Nat × Nat)
  | 0 => []
  | n + 1 => if i = n then rowUpto i n else rowUpto i n ++ [(i, n)]
def rowsUpto (z : Nat) : Nat → List (Nat × Nat)
  | 0 => []
  | i + 1 => rowsUpto z i ++ rowUpto i z
def pairsL (z : Nat) : List (Nat × Nat) := rowsUpto z z
theorem rowUpto_length (i n : Nat) : (rowUpto i n).length ≤ n := by
  induction n with
  | zero => simp [rowUpto]
  | succ n ih =>
    rw [rowUpto]
    split
    · omega
    · rw [List.length_append, List.length_singleton]; omega
theorem rowsUpto_length (z i : Nat) : (rowsUpto z i).length ≤ i * z := by
  induction i with
  | zero => simp [rowsUpto]
  | succ i ih =>
    have := rowUpto_length i z
    rw [rowsUpto, List.length_append, Nat.succ_mul]; omega
theorem upto_lt {z i k : Nat} (hi : i < z) (hk : k < z) : (rowsUpto z i ++ rowUpto i k).length < z * z := by
  have h1 := rowsUpto_length z i
  have h2 := rowUpto_length i k
  have h3 : (i + 1) * z ≤ z * z := Nat.mul_le_mul_right _ hi
  rw [Nat.succ_mul] at h3
  rw [List.length_append]; omega
theorem rowUpto_prefix (i : Nat) : ∀ {k n : Nat}, k ≤ n → rowUpto i k <+: rowUpto i n
  | k, 0, h => by obtain rfl : k = 0 := by omega
                  exact List.prefix_refl _
  | k, n + 1, h => by
    rcases Nat.lt_or_ge n k with h' | h'
    · obtain rfl : k = n + 1 := by omega
      exact List.prefix_refl _
    · refine (rowUpto_prefix i h').trans ?_
      rw [rowUpto]; split
      · exact List.prefix_refl _
      · exact List.prefix_append _ _
theorem rowsUpto_prefix (z : Nat) : ∀ {i n : Nat}, i ≤ n → rowsUpto z i <+: rowsUpto z n
  | i, 0, h => by obtain rfl : i = 0 := by omega
                  exact List.prefix_refl _
  | i, n + 1, h => by
    rcases Nat.lt_or_ge n i with h' | h'
    · obtain rfl : i = n + 1 := by omega
      exact List.prefix_refl _
    · exact (rowsUpto_prefix z h').trans (List.prefix_append _ _)
theorem upto_prefix {z i k : Nat} (hi : i < z) (hk : k ≤ z) : rowsUpto z i ++ rowUpto i k <+: pairsL z := by
  refine List.IsPrefix.trans ?_ (rowsUpto_prefix z (show i + 1 ≤ z by omega))
  rw [rowsUpto]
  exact (List.prefix_append_right_inj _).2 (rowUpto_prefix i hk)
def KeepAt (b : Nat) (A B : World) : Prop := B.heap[b]? = A.heap[b]?
theorem KeepAt.refl (b : Nat) (A : World) : KeepAt b A A := rfl
theorem KeepAt.trans {b : Nat} {A B C : World} (h : KeepAt b A B) (k : KeepAt b B C) : KeepAt b A C := Eq.trans k h
theorem KeepAt.cell {b i : Nat} {A B : World} (h : KeepAt b A B) : B.cell? ⟨b, i, none⟩ = A.cell? ⟨b, i, none⟩ := World.cell?_of_block h
theorem keepAt_b {b : Nat} {w : World} (hn : b < w.heap.size) (W : World) (l : Nat) (o o' : Obj) (hl : w.heap.size ≤ l) (h : W.heap[l]? = some o) (_ : o.isCells = false) (_ : o.isWalk = false) : KeepAt b W (W.putObj l o') :=
  World.putObj_heap_other (by omega)
set_option maxRecDepth 100000 in
set_option maxHeartbeats 2000000 in
theorem pairs1_in (F : Fence) (n : Nat) (hF : F.fn 106) (hro : F.round = none) (hn : 1 ≤ n) (l Bz z : Nat) (hz : z ≤ 1000) (J Jx : List (Nat × Nat) → World → Prop)
    (hY : ∀ pre x W, x.1 < z ∧ x.2 < z → J pre W → pre.length < z * z → YieldAt F (n - 1) Try.prog l #[.int .i64 (x.1 : Int), .int .i64 (x.2 : Int)] W fun e W' =>
      (e = .returned (.bool true) ∧ J (pre ++ [x]) W' ∧ KeepAt Bz W W') ∨ (e = .returned (.bool false) ∧ Jx (pre ++ [x]) W'))
    (W : World) (hBz : W.cell? ⟨Bz, 0, none⟩ = some (.int .i64 z)) (h0 : J [] W) :
    CallsIn F n Try.prog 106 #[.func (.yield l) #[] #[], .pointer (some ⟨Bz, 0, none⟩)] W fun e W' => (∃ v, e = .returned v) ∧
      ((∃ ys, ys = pairsL z ∧ J ys W') ∨ (∃ pre, pre <+: pairsL z ∧ Jx pre W')) := by
  refine callsIn_of_wp Try.func106 rfl hF ?_ hro
  simp only [Try.ntmps106, List.size_toArray, List.length_cons, List.length_nil, Nat.reduceAdd, Nat.reduceSub, Array.replicate_succ, Array.replicate_zero, List.push_toArray, List.append_toArray, List.nil_append, List.cons_append]
  gi_wp2
  gi_loopw [6] (fun i wr => ∃ k : Nat, k ≤ z ∧ i = .int .i64 k ∧ J (rowsUpto z k) wr ∧ KeepAt Bz W wr) (fun i _ => z - (intOf i).toNat)
  case atStart => exact ⟨0, Nat.zero_le _, rfl, h0, KeepAt.refl _ _⟩
  case round =>
    obtain ⟨i, hi, rfl, hJs, hnx⟩ := hrel
    have hcz : wr.cell? ⟨Bz, 0, none⟩ = some (.int .i64 z) := hnx.cell.trans hBz
    by_cases hiz : i < z
    · gi_wp2
      gi_loopw [10] (fun kk wr2 => ∃ k : Nat, k ≤ z ∧ kk = .int .i64 k ∧ J (rowsUpto z i ++ rowUpto i k) wr2 ∧ KeepAt Bz W wr2) (fun kk _ => z - (intOf kk).toNat)
      case atStart => exact ⟨0, Nat.zero_le _, rfl, by simpa [rowUpto] using hJs, hnx⟩
      case round =>
        clear hcz hJs hnx
        obtain ⟨k, hk, rfl, hJs, hnx⟩ := hrel
        by_cases hkz : k < z
        · by_cases hik : i = k
          · have hJ2 : J (rowsUpto z i ++ rowUpto i (k + 1)) wr := by rw [rowUpto, if_pos hik]; exact hJs
            have hb1 : ((i : Int) != (k : Int)) = false := by simp [hik]
            have HJ2 := Aside0.mk hJ2
            have HN := Aside0.mk hnx
            clear hik hJs hnx hJ2
            gi_wp2
            refine ⟨fun _ h => (by cases h), ?_⟩
            gi_wp2
            go_roundw
            case rel => exact ⟨k + 1, by omega, by go_num, HJ2.out, HN.out⟩
            case measure => simp [intOf]; omega
          · obtain ⟨fn, tmps, assign, body, hy, hR⟩ := hY _ (i, k) wr ⟨hiz, hkz⟩ hJs (upto_lt hiz hkz)
            dsimp only at hy hR
            have hb1 : ((i : Int) != (k : Int)) = true := by rw [bne_iff_ne]; omega
            have HN := Aside0.mk hnx
            have HI := Aside0.mk hik
            clear hik hJs hnx
            gi_wp2
            refine hR.mono ?_
            rintro e W3 (⟨rfl, hJ3, hk3⟩ | ⟨rfl, hJx3⟩)
            · have HJ3 := Aside0.mk hJ3
              have HN3 := Aside0.mk (HN.out.trans hk3)
              clear hJ3 hk3
              gi_wp2
              go_roundw
              case rel => exact ⟨k + 1, by omega, by go_num, by rw [rowUpto, if_neg HI.out, ← List.append_assoc]; exact HJ3.out, HN3.out⟩
              case measure => simp [intOf]; omega
            · have HJ3 := Aside0.mk hJx3
              clear hJx3
              gi_wp2
              refine bodyPost_ret (results_none rfl _ _ _) rfl ?_
              refine ⟨⟨_, rfl⟩, .inr ⟨_, ?_, HJ3.out⟩⟩
              have := upto_prefix (z := z) (k := k + 1) hiz (by omega)
              rw [rowUpto, if_neg HI.out, ← List.append_assoc] at this
              exact this
        · obtain rfl : k = z := by omega
          have HJ := Aside0.mk hJs
          have HN := Aside0.mk hnx
          clear hJs hnx
          gi_wp2
          go_roundw
          case rel => exact ⟨i + 1, by omega, by go_num, HJ.out, HN.out⟩
          case measure => simp [intOf]; omega
    · obtain rfl : i = z := by omega
      gi_wp2
      go_end0
      exact ⟨⟨_, rfl⟩, .inl ⟨_, rfl, hJs⟩⟩
set_option maxHeartbeats 1000000 in
theorem pairs_in (F : Fence) (n : Nat) (hF : F.fn 68) (hro : F.round = none) (z : Int) (w : World) :
    CallsIn F n Try.prog 68 #[.int .i64 z] w fun e w' => e = .returned (.func (.func 106) #[] #[.pointer (some ⟨w.heap.size, 0, none⟩)]) ∧ w' = w.alloc (.cells #[.int .i64 z] 3) := by
  refine callsIn_of_wp Try.func68 rfl hF ?_ hro
  simp only [Try.ntmps68, List.size_toArray, List.length_cons, List.length_nil, Nat.reduceAdd, Nat.reduceSub, Array.replicate_succ, Array.replicate_zero, List.push_toArray, List.append_toArray, List.nil_append, List.cons_append]
  gi_wp2
  go_ret
  exact ⟨rfl, rfl⟩
abbrev PairIn (z : Nat) : Type := {x : Nat × Nat // x.1 < z ∧ x.2 < z}
theorem pairs_stops (F : Fence) (n : Nat) (hF : F.fn 106) (hro : F.round = none) (hn : 1 ≤ n) (Bz z : Nat) (hz : z ≤ 1000) (w : World) (hBz : Bz < w.heap.size)
    (hc : w.cell? ⟨Bz, 0, none⟩ = some (.int .i64 z)) :
    SeqStopsK F n Try.prog 106 #[.pointer (some ⟨Bz, 0, none⟩)] (fun x : PairIn z => #[Value.int .i64 (x.1.1 : Int), Value.int .i64 (x.1.2 : Int)]) (KeepAt Bz) (fun ys => ys.map Subtype.val = pairsL z) (fun pre => pre.map Subtype.val <+: pairsL z) (z * z) w := fun l J Jx W hW _ _ hY h0 =>
  (pairs1_in F n hF hro hn l Bz z hz (fun pre W => ∃ p : List (PairIn z), p.map Subtype.val = pre ∧ J p W) (fun pre W => ∃ p : List (PairIn z), p.map Subtype.val = pre ∧ Jx p W)
    (fun pre x W hx hJ hl => by
      obtain ⟨p, rfl, hJ⟩ := hJ
      obtain ⟨fn, tmps, assign, body, hy, hR⟩ := hY p ⟨x, hx⟩ W hJ (by simpa using hl)
      refine ⟨fn, tmps, assign, body, hy, hR.mono ?_⟩
      rintro e W' (⟨h1, h2, h3⟩ | ⟨h1, h2⟩)
      · exact .inl ⟨h1, ⟨p ++ [⟨x, hx⟩], by simp, h2⟩, h3⟩
      · exact .inr ⟨h1, ⟨p ++ [⟨x, hx⟩], by simp, h2⟩⟩)
    W ((hW.cell (p := ⟨Bz, 0, none⟩) hBz).trans hc) ⟨[], rfl, h0⟩).mono (by
      rintro e W' ⟨hv, h | h⟩
      · obtain ⟨ys, rfl, p, hp, hJ⟩ := h
        exact ⟨hv, .inl ⟨p, hp, hJ⟩⟩
      · obtain ⟨pre, hs, p, rfl, hJ⟩ := h
        exact ⟨hv, .inr ⟨p, hs, hJ⟩⟩)
end Go.Proofs.Ytdkahcolfcmmpaa.Pr
namespace Go
section
variable {F : Fence} {n : Nat} {P : Program} {ops : Array Oper} {C : World → Prop}
def noDefer (ops : Array Oper) : Bool := ops.all fun o => match o.op with | .defer _ => false | _ => true
theorem noDefer_at {ops : Array Oper} (h : noDefer ops = true) {i : Nat} {o : Oper} (ho : ops[i]? = some o) : ∀ c, o.op ≠ .defer c := by
  intro c hc
  unfold noDefer at h
  obtain ⟨hi, rfl⟩ := Array.getElem?_eq_some_iff.1 ho
  have := (Array.all_eq_true.1 h) i hi
  rw [hc] at this
  cases this
theorem Oper.wpIn_of_quiet_r {o : Oper} {a : Act} {K : Act → Prop} {K' : Act → World → Prop} {Q' : Exit → Act → World → Prop} {w : World} (hnd : ∀ c, o.op ≠ .defer c) (hw : C w) (h : ∀ a w', C w' → K a → K' a w')
    (ha : o.askedIn F P a C) (hh : o.quietIn F n P a C K) : o.wpIn F n P a w K' Q' := by
  obtain ⟨v, h1, h2⟩ := hh
  have h3 := h1 w hw
  unfold Oper.quietAtIn at h3
  unfold Oper.wpIn
  refine ⟨ha w hw, ?_⟩
  rw [Oper.semAt_eq _ _ _ hnd]
  generalize (execOp a.eval o).run P w = r at *
  cases r with
  | ok x w' =>
    cases x <;> simp only [Oper.quietUponIn] at h3 <;> simp only [Oper.uponIn]
    case value u =>
      obtain ⟨e1, e2⟩ := h3
      rw [e1, e2]
      exact h _ _ hw h2
    case skip =>
      obtain ⟨e1, e2⟩ := h3
      rw [e1, ← e2]
      exact h _ _ hw h2
    case enter f args =>
      obtain ⟨e1, hd, hc⟩ := h3
      rw [e1]
      exact ⟨hd, hc.mono fun e w'' ⟨he, hw''⟩ => by subst he; exact h _ _ hw'' h2⟩
  | halt x w' => simp only [Oper.quietUponIn] at h3
theorem wpOpIn_of_qOpIn_r {i : Nat} {a : Act} {K : Act → Prop} {K' : Act → World → Prop} {Q' : Exit → Act → World → Prop} {w : World} (hnd : noDefer ops = true) (hC : C w) (h : ∀ a w', C w' → K a → K' a w')
    (hh : qOpIn F n P ops C i K a) : wpOpIn F n P ops Q' i K' a w := by
  unfold qOpIn at hh
  unfold wpOpIn
  split
  · rename_i ho; simp only [ho] at hh; exact h _ _ hC hh
  · rename_i o ho
    simp only [ho] at hh
    obtain ⟨ha, hh⟩ := hh
    split
    · rename_i hw; simp only [hw, if_true] at hh; exact Oper.wpIn_of_quiet_r (noDefer_at hnd ho) hC h ha hh
    · rename_i hw; simp only [hw] at hh; exact ⟨ha w hC, h _ _ hC hh⟩
theorem wpAnyIn_of_quiet_r {md : Region.Mode} {Q : Act → Prop} {Q' : Exit → Act → World → Prop} (hnd : noDefer ops = true) (hQ : ∀ a w, C w → Q a → Q' .normal a w) : ∀ (fuel : Nat) (listed : Array Bool) (a : Act) (w : World), C w →
    wpAnyQIn F n P md ops C Q fuel listed a → wpAnyIn F n P md ops Q' fuel listed a w
  | 0, _, _, _, hw, h => ⟨h.1, hQ _ _ hw h.2⟩
  | fuel + 1, _, _, _, hw, h => ⟨fun h0 => hQ _ _ hw (h.1 h0), fun i hi => wpOpIn_of_qOpIn_r hnd hw (fun a' w' hw' => wpAnyIn_of_quiet_r hnd hQ fuel _ a' w' hw') (h.2 i hi)⟩
theorem wpIn_region_quiet_r {id : Nat} {Q : Exit → Act → World → Prop} {a : Act} {w : World} (hnd : noDefer ops = true) (hm : P.follows .mixedOrders = true) (hB : Region.lexB .any ops = true) (hC : C { w with drawn := w.drawn + 1 })
    (h : wpQuietIn F n P ops C (fun a' => ∀ w', C w' → Q .normal a' w') ops.toList a) : (Code.region id ops true).wpIn F n P Q a w := by
  simp only [Region.lexB, Bool.and_eq_true] at hB
  refine wpIn_region_any hm (wpAnyIn_of_quiet_r (Q := fun a' => ∀ w', C w' → Q .normal a' w') hnd (fun _ w' hw' h => h w' hw') _ _ _ _ hC ?_)
  have := wpAnyQIn_lex (F := F) (n := n) (C := C) (md := .any) hB.1 ops.toList 0 (Array.replicate ops.size false) a (by simp) (by simpa using hB.2) h
  simpa using this
theorem wpIn_region_quiet_lit_r {id : Nat} {Q : Exit → Act → World → Prop} {a : Act} {w : World} {l : List Oper} (hnd : noDefer l.toArray = true) (hm : P.follows .mixedOrders = true) (hB : Region.lexB .any l.toArray = true)
    (h : wpQuietIn F n P l.toArray (fun w' => ∃ n, w' = w.drewN n) (fun a' => ∀ w', (∃ n, w' = w.drewN n) → Q .normal a' w') l a) : (Code.region id l.toArray true).wpIn F n P Q a w :=
  wpIn_region_quiet_r (C := fun w' => ∃ n, w' = w.drewN n) hnd hm hB ⟨1, rfl⟩ (by simpa using h)
end
end Go
namespace Go.Proofs.Ytdkahcolfcmmpaa.Pr
open Go.RowKit Go.Shelf Go.Proofs.YtdkahcolfcmmpaaW.PrintWords Go.Proofs.YtdkahcolfcmmpaaW.PrintLast Go.Proofs.YtdkahcolfcmmpaaW.PrintMore
attribute [local go_sem] max2_int min2_int max_two min_two max_three min_three max_four min_four
set_option linter.unusedVariables false
set_option linter.unusedSimpArgs false
attribute [local go_sem] Oper.semAt_some
def bd (p s : Int) (i k : Nat) : Int := mn p (wrap64 (s * (mx (wrap64 ((i : Int) - k)) (wrap64 (-(wrap64 ((i : Int) - k)))))))
theorem bd_f (p s : Int) (i k : Nat) : figure_tolerance_bound.f p s i k = some (bd p s i k) := rfl
def jRef (p s : Int) (l : List S38) (x : Nat × Nat) : Bool := decide (bd p s x.1 x.2 < wrap64 ((rd_T38 l x.1).f0 - (rd_T38 l x.2).f1))
def jUnd (p s : Int) (l : List S38) (x : Nat × Nat) : Bool := decide (bd p s x.1 x.2 < wrap64 ((rd_T38 l x.1).f1 - (rd_T38 l x.2).f0))
def figure_tolerance_judge.f (a0_0 : Int) (a0_1 : Int) (l1 : List (S38)) : Option (Int × Int × Int) :=
  if l1.length ≤ 1000 then
    some (match (pairsL l1.length).find? (jRef a0_0 a0_1 l1) with
      | some x => (-1, x.1, x.2)
      | none => if (pairsL l1.length).any (jUnd a0_0 a0_1 l1) then (0, 0, 0) else (1, 0, 0))
  else none
theorem hcell {W : World} {b : Nat} {cs : Array Value} {t : TypeId} (h : W.heap[b]? = some (.cells cs t (0, 0))) (i : Nat) : W.cell? ⟨b, i, none⟩ = cs[i]? := by
  simp [World.cell?, h]
theorem hfro {W : World} {b : Nat} {cs : Array Value} {t : TypeId} (h : W.heap[b]? = some (.cells cs t (0, 0))) (i : Nat) : W.frozen? ⟨b, i, none⟩ = false := by
  simp [World.frozen?, h]
theorem hset {W : World} {b : Nat} {cs : Array Value} {t : TypeId} (h : W.heap[b]? = some (.cells cs t (0, 0))) (i : Nat) (v : Value) : (W.setCell ⟨b, i, none⟩ v).heap[b]? = some (.cells (cs.setIfInBounds i v) t (0, 0)) := by
  simp [World.setCell, Array.getElem?_modify, h]
theorem hlt {W : World} {b : Nat} {o : Obj} (h : W.heap[b]? = some o) : b < W.heap.size := (Array.getElem?_eq_some_iff.1 h).1
theorem hold {W W' : World} {b n : Nat} {o : Obj} (h : W.heap[b]? = some o) (hB : Below n W W') (hn : b < n) : W'.heap[b]? = some o := (hB.block b hn).trans h
theorem alloc_at (W : World) (o : Obj) (k : Nat) : (W.alloc o).heap[k]? = if k = W.heap.size then some o else W.heap[k]? := by
  show (W.heap.push o)[k]? = _
  rw [Array.getElem?_push]
def JSt (b : Nat) (sl : Value) (p s r x y ans : Int) (W : World) : Prop :=
  W.heap[b]? = some (.cells #[.int .i64 p, .int .i64 s] 118 (0, 0)) ∧ W.heap[b + 1]? = some (.cells #[sl] 36 (0, 0)) ∧ W.heap[b + 1 + 1]? = some (.cells #[.int .i64 r] 3 (0, 0)) ∧
  W.heap[b + 1 + 1 + 1]? = some (.cells #[.int .i64 x, .int .i64 y] 48 (0, 0)) ∧ W.heap[b + 1 + 1 + 1 + 1]? = some (.cells #[.int .i64 ans] 3 (0, 0)) ∧ b + 6 ≤ W.heap.size
theorem JSt.grown {b : Nat} {sl : Value} {p s r x y ans : Int} {A B : World} {row : Option Nat} (h : JSt b sl p s r x y ans A) (hg : A.grownBy B row) (hr : ∀ r, row = some r → ∃ o : Obj, A.heap[r]? = some o ∧ o.isCells = false) : JSt b sl p s r x y ans B :=
  ⟨(grownBy_keeps_cells hg hr h.1 rfl).trans h.1, (grownBy_keeps_cells hg hr h.2.1 rfl).trans h.2.1, (grownBy_keeps_cells hg hr h.2.2.1 rfl).trans h.2.2.1, (grownBy_keeps_cells hg hr h.2.2.2.1 rfl).trans h.2.2.2.1, (grownBy_keeps_cells hg hr h.2.2.2.2.1 rfl).trans h.2.2.2.2.1, Nat.le_trans h.2.2.2.2.2 hg.size⟩
theorem JSt.below {b : Nat} {sl : Value} {p s r x y ans : Int} {A B : World} (h : JSt b sl p s r x y ans A) (hB : Below A.heap.size A B) : JSt b sl p s r x y ans B :=
  ⟨hold h.1 hB (hlt h.1), hold h.2.1 hB (hlt h.2.1), hold h.2.2.1 hB (hlt h.2.2.1), hold h.2.2.2.1 hB (hlt h.2.2.2.1), hold h.2.2.2.2.1 hB (hlt h.2.2.2.2.1), Nat.le_trans h.2.2.2.2.2 hB.size⟩
theorem keeps_of_below {A B : World} (h : Below A.heap.size A B) : KeepsOthers A B := ⟨h.size, fun k o hk _ => (h.block k (hlt hk)).trans hk⟩
def JI (w : World) (sl : Value) (p s : Int) (l : List S38) (pre : List (PairIn l.length)) (W : World) : Prop :=
  ((∀ x ∈ pre, jRef p s l x.1 = false) ∧ JSt w.heap.size sl p s 0 0 0 (if pre.any (fun x => jUnd p s l x.1) then 0 else 1) W) ∧ Below w.heap.size w W
def JIx (w : World) (sl : Value) (p s : Int) (l : List S38) (c : Code) (pre : List (PairIn l.length)) (W : World) : Prop :=
  (c = .ret ∧ ∃ ini last, pre = ini ++ [last] ∧ (∀ x ∈ ini, jRef p s l x.1 = false) ∧ jRef p s l last.1 = true ∧ ∃ z, JSt w.heap.size sl p s (-1) last.1.1 last.1.2 z W) ∧ Below w.heap.size w W
set_option maxRecDepth 100000 in
set_option maxHeartbeats 4000000 in
theorem figure_tolerance_judge.calls (a0_0 : Int) (a0_1 : Int) (A1 : Option Addr) (c1 : Nat) (l1 : List (S38)) (r1 : Int) (r2 : Int) (r3 : Int) (w : World) (hr1 : Kd.C k38 w A1 l1.length l1) (hc1 : l1.length ≤ c1) (h : figure_tolerance_judge.f a0_0 a0_1 l1 = some (r1, r2, r3)) :
    Calls Try.prog 103 #[.agg #[.int .i64 a0_0, .int .i64 a0_1], .slice A1 l1.length c1] w fun e w' => e = .returned (.tuple #[.int .i64 r1, .agg #[.int .i64 r2, .int .i64 r3]]) ∧ Below w.heap.size w w' := by
  have hu118 := Try.underlying118
  have hu48 := Try.underlying48
  have hz : l1.length ≤ 1000 := by
    unfold figure_tolerance_judge.f at h; split at h
    · assumption
    · cases h
  refine (callsIn_wide (n := 3)).1 ?_
  refine callsIn_of_wp_marks Try.func103 rfl trivial ?_ rfl
  simp only [Try.ntmps103, List.size_toArray, List.length_cons, List.length_nil, Nat.reduceAdd, Nat.reduceSub, Array.replicate_succ, Array.replicate_zero, List.push_toArray, List.append_toArray, List.nil_append, List.cons_append]
  gi_wp2_with (refine ⟨trivial, ?_⟩; gi_at_call 68; refine (pairs_in Fence.wide _ trivial rfl _ _).mono ?_; rintro e w' ⟨rfl, rfl⟩)
  generalize hw6 : World.alloc _ (Obj.cells #[Value.int IntKind.i64 (l1.length : Int)] 3) = w6
  obtain ⟨hs6, hJ6, hz6, hB6⟩ : w6.heap.size = w.heap.size + 6 ∧ JSt w.heap.size (.slice A1 l1.length c1) a0_0 a0_1 0 0 0 1 w6 ∧ w6.heap[w.heap.size + 1 + 1 + 1 + 1 + 1]? = some (.cells #[.int .i64 l1.length] 3 (0, 0)) ∧ Below w.heap.size w w6 := by
    subst hw6
    refine ⟨by simp, ?_, ?_, ?_⟩
    · refine ⟨?_, ?_, ?_, ?_, ?_, by simp only [World.size_alloc]; omega⟩ <;> (simp only [alloc_at, World.size_alloc, ↓reduceIte]; (repeat' split) <;> (first | rfl | (exfalso; omega)))
    · simp only [alloc_at, World.size_alloc, ↓reduceIte]
    · exact (((((((Below.refl _ w).alloc (Nat.le_refl _) _).alloc (by simp) _).alloc (by simp; omega) _).alloc (by simp; omega) _).alloc (by simp; omega) _).alloc (by simp; omega) _)
  clear hw6
  have fin : ∀ (W : World) (r x y : Int) (a : Act) (D : Nat), w.heap.size ≤ D → W.heap[w.heap.size + 1 + 1]? = some (.cells #[.int .i64 r] 3 (0, 0)) → W.heap[w.heap.size + 1 + 1 + 1]? = some (.cells #[.int .i64 x, .int .i64 y] 48 (0, 0)) → W.heap[D]? = some (.deferred (some [])) → Below w.heap.size w W →
      a.defers = [{ target := .collected D, args := #[] }] → a.tmps[4]? = some (.pointer (some ⟨w.heap.size + 1 + 1, 0, none⟩)) → a.tmps[5]? = some (.pointer (some ⟨w.heap.size + 1 + 1 + 1, 0, none⟩)) → (r1, r2, r3) = (r, x, y) →
      bodyPostM Fence.wide 3 Try.prog Try.f103 (fun e w' => e = .returned (.tuple #[.int .i64 r1, .agg #[.int .i64 r2, .int .i64 r3]]) ∧ Below w.heap.size w w') .ret a W := by
    rintro W r x y ⟨tm, df⟩ D hD k2 k3 hK hB rfl h4 h5 he
    cases he
    dsimp only at h4 h5
    refine ⟨by simp, .inl ⟨_, _, rfl, run_takeDeferred hK, ?_⟩⟩
    have q2 := cell_kept (hcell k2 0) (grownBy_putObj' _ D (.deferred none)) (fun r e => by cases e; exact ⟨_, hK, rfl⟩)
    have q3 := cell_kept (hcell k3 0) (grownBy_putObj' _ D (.deferred none)) (fun r e => by cases e; exact ⟨_, hK, rfl⟩)
    have q31 := cell_kept (hcell k3 1) (grownBy_putObj' _ D (.deferred none)) (fun r e => by cases e; exact ⟨_, hK, rfl⟩)
    refine ⟨.tuple #[.int .i64 r1, .agg #[.int .i64 r2, .int .i64 r3]], ?_, rfl, hB.trans (belowK_b (w := w) (Nat.le_refl _) W D _ _ hD hK rfl rfl)⟩
    simp [results, Try.f103, go_sem, q2, q3, q31, h4, h5, hu48]
  refine wpIn_rangeFunc_ownG rfl (by omega) (gf := 106) (lb := #[.pointer (some ⟨w.heap.size + 1 + 1 + 1 + 1 + 1, 0, none⟩)]) rfl trivial (enters_of Try.func106 (by kernel_rfl) rfl)
    (pairs_stops Fence.wide _ trivial rfl (by omega) (w.heap.size + 1 + 1 + 1 + 1 + 1) l1.length hz w6 (by omega) ((hcell hz6 0).trans rfl)) KeepAt.trans (keepAt_b (by omega)) (Below.refl _ _) (fun _ => rfl)
    (JI w (.slice A1 l1.length c1) a0_0 a0_1 l1) (JIx w (.slice A1 l1.length c1) a0_0 a0_1 l1)
    (OwnFrom.and (Own.from (fun s A B row hs hg hr => ⟨hs.1, hs.2.grown hg hr⟩) _) (ownFrom_below (Nat.le_refl _) (by omega)))
    (fun c => OwnFrom.and (Own.from (fun s A B row hs hg hr => by obtain ⟨hc, ini, last, e1, e2, e3, z, e4⟩ := hs; exact ⟨hc, ini, last, e1, e2, e3, z, e4.grown hg hr⟩) _) (ownFrom_below (Nat.le_refl _) (by omega)))
    ⟨⟨by simp, hJ6⟩, hB6⟩
    (fun x => { tmps := #[.agg #[.int .i64 a0_0, .int .i64 a0_1], .slice A1 l1.length c1, .pointer (some ⟨w.heap.size, 0, none⟩), .pointer (some ⟨w.heap.size + 1, 0, none⟩), .pointer (some ⟨w.heap.size + 1 + 1, 0, none⟩), .pointer (some ⟨w.heap.size + 1 + 1 + 1, 0, none⟩), .pointer (some ⟨w.heap.size + 1 + 1 + 1 + 1, 0, none⟩), .int .i64 (x.1.1 : Int), .int .i64 (x.1.2 : Int), undef, .slice A1 l1.length c1, .int .i64 l1.length, .func (.func 106) #[] #[.pointer (some ⟨w.heap.size + 1 + 1 + 1 + 1 + 1, 0, none⟩)], .int .i64 (x.1.1 : Int), .int .i64 (x.1.2 : Int), undef, undef, undef, undef, undef, undef, undef, undef, undef, undef, undef, undef, undef, undef, undef, undef, undef, undef, undef, undef, undef, undef, undef, undef, undef, undef, undef, undef, undef, undef, undef, undef, undef, undef, undef], defers := [] }) ?assign ?body ?done ?stop
  case assign =>
    intro l x W K hK
    gi_wp2
    exact hK
  case body =>
    rintro l pre ⟨⟨x1, x2⟩, hx1, hx2⟩ W ⟨⟨hp, hJ⟩, hB⟩ _
    dsimp only at hx1 hx2
    obtain ⟨k0, k1, k2, k3, k4, k6⟩ := hJ
    have c0 := (hcell k0 0).trans rfl
    have c01 := (hcell k0 1).trans rfl
    have c1' := (hcell k1 0).trans rfl
    gi_wp2_with (refine ⟨trivial, ?_⟩; gi_at_call 104; refine (CallsIn.inRound l (callsIn_wide.2 (figure_tolerance_bound.calls _ _ _ _ _ _ (bd_f a0_0 a0_1 x1 x2)))).mono ?_; rintro e W2 ⟨rfl, hB2⟩; have hJ2 := JSt.below ⟨k0, k1, k2, k3, k4, k6⟩ hB2)
    have hbd : jRef a0_0 a0_1 l1 (x1, x2) = decide (bd a0_0 a0_1 x1 x2 < wrap64 ((rd_T38 l1 x1).f0 - (rd_T38 l1 x2).f1)) := rfl
    have hbu : jUnd a0_0 a0_1 l1 (x1, x2) = decide (bd a0_0 a0_1 x1 x2 < wrap64 ((rd_T38 l1 x1).f1 - (rd_T38 l1 x2).f0)) := rfl
    generalize hbe : bd a0_0 a0_1 x1 x2 = bb at *
    have hK2 := (keeps_of_below hB2).from w6.heap.size
    have hBn := hB2.mono hB.size
    have hz5 : w.heap.size + 1 + 1 + 1 + 1 + 1 < W.heap.size := by omega
    have hk5 : KeepAt (w.heap.size + 1 + 1 + 1 + 1 + 1) W W2 := hB2.block _ hz5
    have hBw : Below w.heap.size w W2 := hB.trans hBn
    clear k0 k1 k2 k3 k4 k6 c0 c01 c1' hJ6
    obtain ⟨k0, k1, k2, k3, k4, k6⟩ := hJ2
    have c1' := (hcell k1 0).trans rfl
    obtain ⟨ad, hA, hi0, hi1⟩ := at_T38 (Kd.C_below hr1 hBw) x1 (by omega) (by omega)
    obtain ⟨ad', hA', hk0, hk1⟩ := at_T38 (Kd.C_below hr1 hBw) x2 (by omega) (by omega)
    obtain rfl : ad = ad' := by rw [hA] at hA'; exact Option.some.inj hA'
    subst hA
    simp only [Int.toNat_natCast] at hi0 hi1 hk0 hk1
    have d4 : W2.cell? ⟨w.heap.size + 1 + 1 + 1 + 1, 0, none⟩ = some (.int .i64 (if pre.any (fun x => jUnd a0_0 a0_1 l1 x.1) then 0 else 1)) := hcell k4 0
    have e4 : W2.frozen? ⟨w.heap.size + 1 + 1 + 1 + 1, 0, none⟩ = false := hfro k4 0
    (refine wpIn_region_quiet_lit_r (by kernel_rfl) (by kernel_rfl) (by kernel_rfl) ?_; (repeat (gi_big_quiet_step (fail))); refine wpQuietIn_nil ?_; intro _ hw'; obtain ⟨nq, hw''⟩ := hw'; subst hw'')
    replace k2 : (W2.drewN nq).heap[w.heap.size + 1 + 1]? = _ := k2
    replace k3 : (W2.drewN nq).heap[w.heap.size + 1 + 1 + 1]? = _ := k3
    replace k4 : (W2.drewN nq).heap[w.heap.size + 1 + 1 + 1 + 1]? = _ := k4
    have d2 := (hcell k2 0).trans rfl
    have e2 := hfro k2 0
    have k3' : ∀ v, ((W2.drewN nq).setCell ⟨w.heap.size + 1 + 1, 0, none⟩ v).heap[w.heap.size + 1 + 1 + 1]? = _ := fun v => (Deep.blk_setCell_other _ _ _ _ (by dsimp only; omega)).trans k3
    have d3 := fun v => (hcell (k3' v) 0).trans rfl
    have e3 := fun v => hfro (k3' v) 0
    have d31 := fun v v' => (hcell (hset (k3' v) 0 v') 1).trans rfl
    have e31 := fun v v' => hfro (hset (k3' v) 0 v') 1
    gi_wp2
    · have hr : jRef a0_0 a0_1 l1 (x1, x2) = true := by rw [hbd]; exact decide_eq_true (by assumption)
      try rw [← hs6]
      refine ⟨hK2.trans (KeepsFrom.trans (Y := W2.drewN nq) ⟨Nat.le_refl _, fun _ _ _ h _ => h⟩ ((KeepsOthers.setCell _ _ _).trans ((KeepsOthers.setCell _ _ _).trans (KeepsOthers.setCell _ _ _)) |>.from _)), ⟨rfl, pre, ⟨(x1, x2), hx1, hx2⟩, rfl, hp, hr, (if pre.any (fun x => jUnd a0_0 a0_1 l1 x.1) then 0 else 1), ?_, ?_, ?_, ?_, ?_, by simpa using k6⟩, ?_⟩
      · rw [Deep.blk_setCell_other _ _ _ _ (by dsimp only; omega), Deep.blk_setCell_other _ _ _ _ (by dsimp only; omega), Deep.blk_setCell_other _ _ _ _ (by dsimp only; omega)]; exact k0
      · rw [Deep.blk_setCell_other _ _ _ _ (by dsimp only; omega), Deep.blk_setCell_other _ _ _ _ (by dsimp only; omega), Deep.blk_setCell_other _ _ _ _ (by dsimp only; omega)]; exact k1
      · rw [Deep.blk_setCell_other _ _ _ _ (by dsimp only; omega), Deep.blk_setCell_other _ _ _ _ (by dsimp only; omega)]; exact hset k2 0 _
      · exact hset (hset (k3' _) 0 _) 1 _
      · rw [Deep.blk_setCell_other _ _ _ _ (by dsimp only; omega), Deep.blk_setCell_other _ _ _ _ (by dsimp only; omega), Deep.blk_setCell_other _ _ _ _ (by dsimp only; omega)]; exact k4
      · exact (((pw_below_drewN hBw nq).setCell (by simp; omega) _).setCell (by simp; omega) _).setCell (by simp; omega) _
    · have hr : jRef a0_0 a0_1 l1 (x1, x2) = false := by rw [hbd]; exact decide_eq_false (by omega)
      (refine wpIn_region_quiet_lit_r (by kernel_rfl) (by kernel_rfl) (by kernel_rfl) ?_; (repeat (gi_big_quiet_step (fail))); refine wpQuietIn_nil ?_; intro _ hw'; obtain ⟨nq, hw''⟩ := hw'; subst hw'')
      gi_wp2
      · have hu : jUnd a0_0 a0_1 l1 (x1, x2) = true := by rw [hbu]; exact decide_eq_true (by assumption)
        try rw [← hs6]
        refine ⟨hK2.trans (KeepsFrom.trans (Y := W2.drewN _) ⟨Nat.le_refl _, fun _ _ _ h _ => h⟩ ((KeepsOthers.setCell _ _ _).from _)), (hk5.trans (Deep.blk_setCell_other _ _ _ _ (by dsimp only; omega))), ⟨?_, ?_, ?_, ?_, ?_, ?_, by simpa using k6⟩, ?_⟩
        · intro y hy
          rcases List.mem_append.1 hy with hy | hy
          · exact hp y hy
          · rw [List.mem_singleton.1 hy]; exact hr
        · rw [Deep.blk_setCell_other _ _ _ _ (by dsimp only; omega)]; exact k0
        · rw [Deep.blk_setCell_other _ _ _ _ (by dsimp only; omega)]; exact k1
        · rw [Deep.blk_setCell_other _ _ _ _ (by dsimp only; omega)]; exact k2
        · rw [Deep.blk_setCell_other _ _ _ _ (by dsimp only; omega)]; exact k3
        · rw [List.any_append]
          simp only [List.any_cons, hu, Bool.true_or, Bool.or_true, if_true]
          exact hset k4 0 _
        · exact (pw_below_drewN hBw _).setCell (by simp; omega) _
      · have hu : jUnd a0_0 a0_1 l1 (x1, x2) = false := by rw [hbu]; exact decide_eq_false (by omega)
        try rw [← hs6]
        refine ⟨hK2.trans ⟨Nat.le_refl _, fun _ _ _ h _ => h⟩, hk5, ⟨?_, k0, k1, k2, k3, ?_, k6⟩, pw_below_drewN (pw_below_drewN hBw _) _⟩
        · intro y hy
          rcases List.mem_append.1 hy with hy | hy
          · exact hp y hy
          · rw [List.mem_singleton.1 hy]; exact hr
        · rw [List.any_append]
          simp only [List.any_cons, List.any_nil, hu, Bool.or_false]
          exact k4
  case done =>
    rintro D ys W hD hys ⟨⟨hne, hJ⟩, hB⟩ hK
    have hfind : (pairsL l1.length).find? (jRef a0_0 a0_1 l1) = none := by
      rw [← hys, List.find?_eq_none]
      intro x hx
      obtain ⟨y, hy, rfl⟩ := List.mem_map.1 hx
      rw [hne y hy]; simp
    have hany : (pairsL l1.length).any (jUnd a0_0 a0_1 l1) = ys.any (fun x => jUnd a0_0 a0_1 l1 x.1) := by rw [← hys, List.any_map]; rfl
    unfold figure_tolerance_judge.f at h
    rw [if_pos hz, hfind, hany] at h
    obtain ⟨k0, k1, k2, k3, k4, k6⟩ := hJ
    have d4 : W.cell? ⟨w.heap.size + 1 + 1 + 1 + 1, 0, none⟩ = some (.int .i64 (if ys.any (fun x => jUnd a0_0 a0_1 l1 x.1) then 0 else 1)) := hcell k4 0
    have d2 : W.cell? ⟨w.heap.size + 1 + 1, 0, none⟩ = some (.int .i64 0) := hcell k2 0
    have e2 := hfro k2 0
    have k3' : ∀ v, (W.setCell ⟨w.heap.size + 1 + 1, 0, none⟩ v).heap[w.heap.size + 1 + 1 + 1]? = _ := fun v => (Deep.blk_setCell_other _ _ _ _ (by dsimp only; omega)).trans k3
    have d3 := fun v => (hcell (k3' v) 0).trans rfl
    have e3 := fun v => hfro (k3' v) 0
    have d31 := fun v v' => (hcell (hset (k3' v) 0 v') 1).trans rfl
    have e31 := fun v v' => hfro (hset (k3' v) 0 v') 1
    cases hb : ys.any (fun x => jUnd a0_0 a0_1 l1 x.1)
    · rw [hb] at h d4
      simp only [Bool.false_eq_true, if_false] at d4
      gi_wp2
      refine fin _ 1 0 0 _ D (by omega) ((Deep.blk_setCell_other _ _ _ _ (by dsimp only; omega)).trans ((Deep.blk_setCell_other _ _ _ _ (by dsimp only; omega)).trans (hset k2 0 _))) (hset (hset (k3' _) 0 _) 1 _) ((KeepsOthers.setCell _ _ _).trans ((KeepsOthers.setCell _ _ _).trans (KeepsOthers.setCell _ _ _)) |>.same D _ hK rfl) (((hB.setCell (by simp; omega) _).setCell (by simp; omega) _).setCell (by simp; omega) _) rfl rfl rfl ?_
      simpa using h.symm
    · rw [hb] at h d4
      simp only [if_true] at d4
      gi_wp2
      refine fin _ 0 0 0 _ D (by omega) ((Deep.blk_setCell_other _ _ _ _ (by dsimp only; omega)).trans ((Deep.blk_setCell_other _ _ _ _ (by dsimp only; omega)).trans (hset k2 0 _))) (hset (hset (k3' _) 0 _) 1 _) ((KeepsOthers.setCell _ _ _).trans ((KeepsOthers.setCell _ _ _).trans (KeepsOthers.setCell _ _ _)) |>.same D _ hK rfl) (((hB.setCell (by simp; omega) _).setCell (by simp; omega) _).setCell (by simp; omega) _) rfl rfl rfl ?_
      simpa using h.symm
  case stop =>
    rintro D c pre W hD hpre ⟨⟨rfl, ini, last, e1, e2, e3, z, hJ⟩, hB⟩ hK
    gi_wp2
    obtain ⟨k0, k1, k2, k3, k4, k6⟩ := hJ
    refine fin _ _ _ _ _ D (by omega) k2 k3 hK hB rfl rfl rfl ?_
    have hfind : (pairsL l1.length).find? (jRef a0_0 a0_1 l1) = some last.1 := by
      obtain ⟨post, hpost⟩ := hpre
      rw [← hpost, e1, List.map_append, List.find?_append, List.find?_append, List.find?_eq_none.2]
      · simp [e3]
      · intro x hx
        obtain ⟨y, hy, rfl⟩ := List.mem_map.1 hx
        rw [e2 y hy]; simp
    unfold figure_tolerance_judge.f at h
    rw [if_pos hz, hfind] at h
    simpa using h.symm
end Go.Proofs.Ytdkahcolfcmmpaa.Pr
namespace Go.Proofs.Ytdkahcolfcmmpaa.Pr
open Go.RowKit Go.Proofs.YtdkahcolfcmmpaaW.PrintWords Go.Proofs.YtdkahcolfcmmpaaW.PrintLast Go.Proofs.YtdkahcolfcmmpaaW.PrintMore
attribute [local go_sem] max2_int min2_int max_two min_two max_three min_three max_four min_four   -- for this text's walks alone
set_option linter.unusedVariables false
set_option linter.unusedSimpArgs false
def figure_Judge.f (k : Nat) (l0 : List (S38)) (a1_0 : Int) (a1_1 : Int) : Option (Int × Int × Int × Int) := (figure_checkAll.f k l0 a1_0 a1_1).bind fun t189 => (if t189 = 0 then ((figure_tolerance_judge.f a1_0 a1_1 l0).bind fun bt190 => (some (bt190.1, bt190.2.1, bt190.2.2, 0))) else (some (0, 0, 0, t189)))
theorem figure_Judge.mono : ∀ a0 a1 a2 k, LeO (figure_Judge.f k a0 a1 a2) (figure_Judge.f (k + 1) a0 a1 a2) := by
 intro a0 a1 a2 k
 unfold figure_Judge.f
 repeat' first
   | (with_reducible exact figure_checkAll.mono _ _ _ _)
   | (with_reducible exact LeO.refl _)
   | (with_reducible exact LeO.none _)
   | (with_reducible refine LeO.ite ?_ ?_)
   | (with_reducible refine LeO.bind ?_ (fun _ => ?_))
   | exact figure_checkAll.mono _ _ _ _
   | exact LeO.none _
   | refine LeO.ite ?_ ?_
   | refine LeO.bind ?_ (fun _ => ?_)
set_option maxHeartbeats 8000000 in
set_option maxRecDepth 100000 in
theorem figure_Judge.calls (k : Nat) (A0 : Option Addr) (c0 : Nat) (l0 : List (S38)) (a1_0 : Int) (a1_1 : Int) (r1 : Int) (r2 : Int) (r3 : Int) (r4 : Int) (w : World) (hr0 : Kd.C k38 w A0 l0.length l0) (hc0 : l0.length ≤ c0) (h : figure_Judge.f k l0 a1_0 a1_1 = some (r1, r2, r3, r4)) :
  Calls Try.prog 59 #[.slice A0 l0.length c0, .agg #[.int .i64 a1_0, .int .i64 a1_1]] w fun e w' => e = .returned (.tuple #[.int .i64 r1, .agg #[.int .i64 r2, .int .i64 r3], .int .i64 r4]) ∧ Below w.heap.size w w' := by
 have hu59 := Try.underlying59
 have hu48 := Try.underlying48
 have hu118 := Try.underlying118
 have HR0 := Aside0.mk hr0
 have HC0 := Aside0.mk hc0
 clear hr0 hc0
 have HB := Aside0.mk (Below.refl w.heap.size w)
 have H : ((figure_checkAll.f k l0 a1_0 a1_1).bind fun t189 => (if t189 = 0 then ((figure_tolerance_judge.f a1_0 a1_1 l0).bind fun bt190 => (some (bt190.1, bt190.2.1, bt190.2.2, 0))) else (some (0, 0, 0, t189)))) = some (r1, r2, r3, r4) := h
 clear h
 replace H := Option.bind_eq_some_iff.mp H
 obtain ⟨t189, A30, H⟩ := H
 replace H : (if t189 = 0 then ((figure_tolerance_judge.f a1_0 a1_1 l0).bind fun bt190 => (some (bt190.1, bt190.2.1, bt190.2.2, 0))) else (some (0, 0, 0, t189))) = some (r1, r2, r3, r4) := H
 have A3 := Aside0.mk A30
 clear A30
 by_cases c4 : t189 = 0
 ·rw [if_pos c4] at H
  have c4b0 : (t189 == 0) = true := beq_iff_eq.mpr c4
  have c4b1 : (t189 != 0) = false := bne_eq_false_iff_eq.mpr c4
  clear c4
  replace H := Option.bind_eq_some_iff.mp H
  obtain ⟨⟨t190, t191, t192⟩, A50, H⟩ := H
  replace H : (some (t190, t191, t192, 0)) = some (r1, r2, r3, r4) := H
  have A5 := Aside0.mk A50
  clear A50
  simp only [Option.some.injEq, Prod.mk.injEq] at H
  obtain ⟨rfl, rfl, rfl, rfl⟩ := H
  go_enter Try.func59, Try.ntmps59
  try go_wp2_with (first | ((with_reducible refine gate_dst (N := 3) rfl ?_); refine box_event ?hg (N := 3) ?hd (cs := #[.int .i64 a1_0, .int .i64 a1_1]) (t := 59) ?hr ?_; (case hd => rfl); (case hg => rfl); (case hr => exact gr_); intro gb187 hg w6 hbox hb; have n0_ := Aside0.mk (below_step (hb_ HB) hb); have n1_ := Aside0.mk (hbox); have n2_ := Aside0.mk ((hz_ HB hg)); have n3_ := Aside0.mk ((hz_ HB hg)); clear HB; have HB := n0_; have BK187 := n1_; have GW187 := n2_; have GE187 := n3_; clear n0_ n1_ n2_ n3_; clear hb hbox hg) | ((with_reducible refine gate_dst (N := 5) rfl ?_); refine box_event ?hg (N := 5) ?hd (cs := #[.int .i64 0, .int .i64 0]) (t := 48) ?hr ?_; (case hd => rfl); (case hg => rfl); (case hr => exact gr_); intro gb188 hg w7 hbox hb; have n0_ := Aside0.mk (bb_ BK187 hb); have n1_ := Aside0.mk (below_step (hb_ HB) hb); have n2_ := Aside0.mk (hbox); have n3_ := Aside0.mk ((hz_ HB hg)); have n4_ := Aside0.mk ((hz_ HB hg)); have n5_ := Aside0.mk ((nl_ BK187 hg)); have n6_ := Aside0.mk ((ng_ BK187 hg)); clear BK187; clear HB; have BK187 := n0_; have HB := n1_; have BK188 := n2_; have GW188 := n3_; have GE188 := n4_; have NB187_188 := n5_; have NB188_187 := n6_; clear n0_ n1_ n2_ n3_ n4_ n5_ n6_; clear hb hbox hg; have hnb8 := NB187_188.out; have hnc8 := NB188_187.out; have hcz9_0 : w7.cell? ⟨gb187, 0, none⟩ = some (.int .i64 a1_0) := (blk_cell BK187.out 0).trans rfl; have hcz9_1 : w7.cell? ⟨gb187, 1, none⟩ = some (.int .i64 a1_1) := (blk_cell BK187.out 1).trans rfl; have hfz9_0 := blk_frozen BK187.out 0; have hfz9_1 := blk_frozen BK187.out 1) | ((with_reducible refine gate_callee (f := 102) rfl ?_); refine goesL_ (some 12) rfl rfl Try.func102 (by kernel_rfl) rfl #[.slice A0 l0.length c0, .agg #[.int .i64 a1_0, .int .i64 a1_1]] rfl ma_ ?_; (with_reducible refine (figure_checkAll.calls k _ _ l0 a1_0 a1_1 t189 _ ?side1 ?side2 A3.out).mono ?_); (case side1 => repeat (first | exact (Kd.C_below HR0.out HB.out) | (with_reducible refine Kd.C_alloc ?_ _) | (with_reducible refine Kd.C_drewN ?_ _) | (with_reducible refine Kd.C_drew ?_))); (case side2 => exact HC0.out); rintro e w10 ⟨rfl, hb⟩; refine ⟨_, rfl, ?_⟩; have n0_ := Aside0.mk (bb_ BK187 hb); have n1_ := Aside0.mk (bb_ BK188 hb); have n2_ := Aside0.mk (below_step (hb_ HB) hb); clear BK187; clear BK188; clear HB; have BK187 := n0_; have BK188 := n1_; have HB := n2_; clear n0_ n1_ n2_; (try clear hb); (try clear hb2); (try clear hk); (try clear hi); have hcz11_0 : w10.cell? ⟨gb187, 0, none⟩ = some (.int .i64 a1_0) := (blk_cell BK187.out 0).trans rfl; have hcz11_1 : w10.cell? ⟨gb187, 1, none⟩ = some (.int .i64 a1_1) := (blk_cell BK187.out 1).trans rfl; have hfz11_0 := blk_frozen BK187.out 0; have hfz11_1 := blk_frozen BK187.out 1) | ((with_reducible refine gate_callee (f := 103) rfl ?_); refine goesL_ (some 21) rfl rfl Try.func103 (by kernel_rfl) rfl #[.agg #[.int .i64 a1_0, .int .i64 a1_1], .slice A0 l0.length c0] rfl ma_ ?_; (with_reducible refine (figure_tolerance_judge.calls a1_0 a1_1 _ _ l0 t190 t191 t192 _ ?side1 ?side2 A5.out).mono ?_); (case side1 => repeat (first | exact (Kd.C_below HR0.out HB.out) | (with_reducible refine Kd.C_alloc ?_ _) | (with_reducible refine Kd.C_drewN ?_ _) | (with_reducible refine Kd.C_drew ?_))); (case side2 => exact HC0.out); rintro e w12 ⟨rfl, hb⟩; refine ⟨_, rfl, ?_⟩; have n0_ := Aside0.mk (bb_ BK187 hb); have n1_ := Aside0.mk (bb_ BK188 hb); have n2_ := Aside0.mk (below_step (hb_ HB) hb); clear BK187; clear BK188; clear HB; have BK187 := n0_; have BK188 := n1_; have HB := n2_; clear n0_ n1_ n2_; (try clear hb); (try clear hb2); (try clear hk); (try clear hi)) | ((with_reducible refine gate_dst (N := 9) rfl ?_); refine box_event ?hg (N := 9) ?hd (cs := #[.int .i64 0, .int .i64 0]) (t := 48) ?hr ?_; (case hd => rfl); (case hg => rfl); (case hr => exact gr_); intro gb193 hg w13 hbox hb; have n0_ := Aside0.mk (bb_ BK187 hb); have n1_ := Aside0.mk (bb_ BK188 hb); have n2_ := Aside0.mk (below_step (hb_ HB) hb); have n3_ := Aside0.mk (hbox); have n4_ := Aside0.mk ((hz_ HB hg)); have n5_ := Aside0.mk ((hz_ HB hg)); have n6_ := Aside0.mk ((nl_ BK187 hg)); have n7_ := Aside0.mk ((ng_ BK187 hg)); have n8_ := Aside0.mk ((nl_ BK188 hg)); have n9_ := Aside0.mk ((ng_ BK188 hg)); clear BK187; clear BK188; clear HB; have BK187 := n0_; have BK188 := n1_; have HB := n2_; have BK193 := n3_; have GW193 := n4_; have GE193 := n5_; have NB187_193 := n6_; have NB193_187 := n7_; have NB188_193 := n8_; have NB193_188 := n9_; clear n0_ n1_ n2_ n3_ n4_ n5_ n6_ n7_ n8_ n9_; clear hb hbox hg; have hnb14 := NB193_187.out; have hnc14 := NB187_193.out; have hnb15 := NB193_188.out; have hnc15 := NB188_193.out; have hcz16_0 : w13.cell? ⟨gb193, 0, none⟩ = some (.int .i64 0) := (blk_cell BK193.out 0).trans rfl; have hcz16_1 : w13.cell? ⟨gb193, 1, none⟩ = some (.int .i64 0) := (blk_cell BK193.out 1).trans rfl; have hfz16_0 := blk_frozen BK193.out 0; have hfz16_1 := blk_frozen BK193.out 1))
  have n0_ : Aside0 (((w13.setCell ⟨gb193, 0, none⟩ (.int .i64 t191)).setCell ⟨gb193, 1, none⟩ (.int .i64 t192)).heap[gb187]? = some (.cells #[.int .i64 a1_0, .int .i64 a1_1] 59 (0, 0))) := ⟨by (with_reducible repeat (first | refine blk_drewN ?_ _ | refine blk_drew ?_ | refine blk_alloc ?_ _)); refine blk_far ?_ NB187_193.out _; (with_reducible repeat (first | refine blk_drewN ?_ _ | refine blk_drew ?_ | refine blk_alloc ?_ _)); refine blk_far ?_ NB187_193.out _; (with_reducible repeat (first | refine blk_drewN ?_ _ | refine blk_drew ?_ | refine blk_alloc ?_ _)); exact BK187.out⟩
  have n1_ : Aside0 (((w13.setCell ⟨gb193, 0, none⟩ (.int .i64 t191)).setCell ⟨gb193, 1, none⟩ (.int .i64 t192)).heap[gb188]? = some (.cells #[.int .i64 0, .int .i64 0] 48 (0, 0))) := ⟨by (with_reducible repeat (first | refine blk_drewN ?_ _ | refine blk_drew ?_ | refine blk_alloc ?_ _)); refine blk_far ?_ NB188_193.out _; (with_reducible repeat (first | refine blk_drewN ?_ _ | refine blk_drew ?_ | refine blk_alloc ?_ _)); refine blk_far ?_ NB188_193.out _; (with_reducible repeat (first | refine blk_drewN ?_ _ | refine blk_drew ?_ | refine blk_alloc ?_ _)); exact BK188.out⟩
  have n2_ : Aside0 (((w13.setCell ⟨gb193, 0, none⟩ (.int .i64 t191)).setCell ⟨gb193, 1, none⟩ (.int .i64 t192)).heap[gb193]? = some (.cells #[.int .i64 t191, .int .i64 t192] 48 (0, 0))) := ⟨by (with_reducible repeat (first | refine blk_drewN ?_ _ | refine blk_drew ?_ | refine blk_alloc ?_ _)); refine blk_put (cs := #[.int .i64 t191, .int .i64 0]) ?_ 1 _ rfl; (with_reducible repeat (first | refine blk_drewN ?_ _ | refine blk_drew ?_ | refine blk_alloc ?_ _)); refine blk_put (cs := #[.int .i64 0, .int .i64 0]) ?_ 0 _ rfl; (with_reducible repeat (first | refine blk_drewN ?_ _ | refine blk_drew ?_ | refine blk_alloc ?_ _)); exact BK193.out⟩
  have n3_ : Aside0 (Below w.heap.size w ((w13.setCell ⟨gb193, 0, none⟩ (.int .i64 t191)).setCell ⟨gb193, 1, none⟩ (.int .i64 t192))) := ⟨by repeat (first | (with_reducible first | exact HB.out | apply below_alloc | apply pw_below_drewN | apply below_drew1 | refine below_set ?_ GE187.out | refine below_set ?_ GE188.out | refine below_set ?_ GE193.out) | exact HB.out)⟩
  (try clear BK187)
  (try clear BK188)
  (try clear BK193)
  (try clear HB)
  generalize ((w13.setCell ⟨gb193, 0, none⟩ (.int .i64 t191)).setCell ⟨gb193, 1, none⟩ (.int .i64 t192)) = w17 at n0_ n1_ n2_ n3_ ⊢
  have BK187 := n0_
  have BK188 := n1_
  have BK193 := n2_
  have HB := n3_
  clear n0_ n1_ n2_ n3_
  have n0_ := Aside0.mk (blk_drew BK187.out)
  have n1_ := Aside0.mk (blk_drew BK188.out)
  have n2_ := Aside0.mk (blk_drew BK193.out)
  have n3_ := Aside0.mk (below_drew1 HB.out)
  clear BK187
  clear BK188
  clear BK193
  clear HB
  have BK187 := n0_
  have BK188 := n1_
  have BK193 := n2_
  have HB := n3_
  clear n0_ n1_ n2_ n3_
  refine start_ (n := 5) (S := fun w' => w'.cell? ⟨gb193, 0, none⟩ = some (.int .i64 t191) ∧ w'.cell? ⟨gb193, 1, none⟩ = some (.int .i64 t192)) (ds := []) #[false, false, false, false, false] (by kernel_rfl) rfl rfl ⟨(blk_cell BK193.out 0).trans rfl, (blk_cell BK193.out 1).trans rfl⟩ (fun hHeld => ?_)
  generalize w17.drew = w18 at BK187 BK188 BK193 HB hHeld ⊢
  refine pure_ (i := 0) (N := some 24) (v := ?_) (a' := ?_) #[true, false, false, false, false] rfl rfl (by kernel_rfl) (fun _ _ _ h => h) (Or.inl ⟨by rfl, ?_⟩) ?_ ?_
  rotate_left
  ·intro w'; go_simp; with_reducible rfl
  rotate_left
  ·simp only [Act.put, List.setIfInBounds_toArray, List.set_cons_zero, List.set_cons_succ, i64_w, i32_w]; rfl
  refine pure_ (i := 2) (N := some 4) (v := ?_) (a' := ?_) #[true, false, true, false, false] rfl rfl (by kernel_rfl) (fun _ _ _ h => h) (Or.inl ⟨by rfl, ?_⟩) ?_ ?_
  rotate_left
  ·intro w'; go_simp; with_reducible rfl
  rotate_left
  ·simp only [Act.put, List.setIfInBounds_toArray, List.set_cons_zero, List.set_cons_succ, i64_w, i32_w]; rfl
  refine take_ (i := 1) (N := some 25) (v := ?_) (a' := ?_) #[true, true, true, false, false] rfl rfl (by kernel_rfl) (fun _ _ _ h => h) (Or.inl ⟨by rfl, ?_⟩) hHeld ?_ ?_
  rotate_left
  ·rintro w' ⟨s0, s1⟩; go_simp; with_reducible rfl
  rotate_left
  ·simp only [Act.put, List.setIfInBounds_toArray, List.set_cons_zero, List.set_cons_succ, i64_w, i32_w]; rfl
  refine one_ (i := 3) (N := none) #[true, true, true, true, false] rfl rfl (by kernel_rfl) di_ (fun K hK => ?_)
  have hs19 : w18.cell? ⟨gb188, 0, none⟩ = some (.int .i64 0) := (blk_cell BK188.out 0).trans rfl
  have hfs19 := blk_frozen BK188.out 0
  have hns19_0 := NB187_188.out
  have hns19_2 := NB193_188.out
  have hms19_0 := NB188_187.out
  have hms19_2 := NB188_193.out
  have hs20 : w18.cell? ⟨gb188, 1, none⟩ = some (.int .i64 0) := (blk_cell BK188.out 1).trans rfl
  have hfs20 := blk_frozen BK188.out 1
  have hns20_0 := NB187_188.out
  have hns20_2 := NB193_188.out
  have hms20_0 := NB188_187.out
  have hms20_2 := NB188_193.out
  refine skip_ (w1 := ?_) (by rfl) rfl ?_ ?_
  rotate_left
  ·go_simp
   rfl
  refine hK.out _ _ ⟨((cell_far (p := ⟨gb188, _, none⟩) NB193_188.out _).trans (((cell_far (p := ⟨gb188, _, none⟩) NB193_188.out _).trans (hHeld.1)))), ((cell_far (p := ⟨gb188, _, none⟩) NB193_188.out _).trans (((cell_far (p := ⟨gb188, _, none⟩) NB193_188.out _).trans (hHeld.2))))⟩ (fun hHeld => ?_)
  clear hK K
  refine pure_ (i := 4) (N := some 6) (v := ?_) (a' := ?_) #[true, true, true, true, true] rfl rfl (by kernel_rfl) (fun _ _ _ h => h) (Or.inl ⟨by rfl, ?_⟩) ?_ ?_
  rotate_left
  ·intro w'; go_simp; with_reducible rfl
  rotate_left
  ·simp only [Act.put, List.setIfInBounds_toArray, List.set_cons_zero, List.set_cons_succ, i64_w, i32_w]; rfl
  refine done_ (by kernel_rfl) ?_
  try go_wp2
  refine bodyPost_ret (results_list (rs := [.tmp 4, .cell 5 48, .tmp 6]) rfl (by simp) (.tmp (.cell gb188 48 #[.int .i64 t191, .int .i64 t192] (0, 0) _ rfl (by (with_reducible repeat (first | refine blk_drewN ?_ _ | refine blk_drew ?_ | refine blk_alloc ?_ _)); refine blk_put (cs := #[.int .i64 t191, .int .i64 0]) ?_ 1 _ rfl; (with_reducible repeat (first | refine blk_drewN ?_ _ | refine blk_drew ?_ | refine blk_alloc ?_ _)); refine blk_put (cs := #[.int .i64 0, .int .i64 0]) ?_ 0 _ rfl; (with_reducible repeat (first | refine blk_drewN ?_ _ | refine blk_drew ?_ | refine blk_alloc ?_ _)); exact BK188.out) Try.underlying48 rfl (by kernel_rfl) (.tmp .nil)))) rfl ?_
  exact ⟨by first | rfl | (simp [errW_none, errW_some] <;> rfl) | (simp [*, errW_none, errW_some] <;> rfl), by repeat (first | (with_reducible first | exact HB.out | apply below_alloc | apply pw_below_drewN | apply below_drew1 | refine below_set ?_ GE187.out | refine below_set ?_ GE188.out | refine below_set ?_ GE193.out) | exact HB.out)⟩
 ·rw [if_neg c4] at H
  have c4b0 : (t189 == 0) = false := beq_eq_false_iff_ne.mpr c4
  have c4b1 : (t189 != 0) = true := bne_iff_ne.mpr c4
  simp only [Option.some.injEq, Prod.mk.injEq] at H
  obtain ⟨rfl, rfl, rfl, rfl⟩ := H
  go_enter Try.func59, Try.ntmps59
  go_wp2_with (first | ((with_reducible refine gate_dst (N := 3) rfl ?_); refine box_event ?hg (N := 3) ?hd (cs := #[.int .i64 a1_0, .int .i64 a1_1]) (t := 59) ?hr ?_; (case hd => rfl); (case hg => rfl); (case hr => exact gr_); intro gb187 hg w21 hbox hb; have n0_ := Aside0.mk (below_step (hb_ HB) hb); have n1_ := Aside0.mk (hbox); have n2_ := Aside0.mk ((hz_ HB hg)); have n3_ := Aside0.mk ((hz_ HB hg)); clear HB; have HB := n0_; have BK187 := n1_; have GW187 := n2_; have GE187 := n3_; clear n0_ n1_ n2_ n3_; clear hb hbox hg) | ((with_reducible refine gate_dst (N := 5) rfl ?_); refine box_event ?hg (N := 5) ?hd (cs := #[.int .i64 0, .int .i64 0]) (t := 48) ?hr ?_; (case hd => rfl); (case hg => rfl); (case hr => exact gr_); intro gb188 hg w22 hbox hb; have n0_ := Aside0.mk (bb_ BK187 hb); have n1_ := Aside0.mk (below_step (hb_ HB) hb); have n2_ := Aside0.mk (hbox); have n3_ := Aside0.mk ((hz_ HB hg)); have n4_ := Aside0.mk ((hz_ HB hg)); have n5_ := Aside0.mk ((nl_ BK187 hg)); have n6_ := Aside0.mk ((ng_ BK187 hg)); clear BK187; clear HB; have BK187 := n0_; have HB := n1_; have BK188 := n2_; have GW188 := n3_; have GE188 := n4_; have NB187_188 := n5_; have NB188_187 := n6_; clear n0_ n1_ n2_ n3_ n4_ n5_ n6_; clear hb hbox hg; have hnb23 := NB187_188.out; have hnc23 := NB188_187.out; have hcz24_0 : w22.cell? ⟨gb187, 0, none⟩ = some (.int .i64 a1_0) := (blk_cell BK187.out 0).trans rfl; have hcz24_1 : w22.cell? ⟨gb187, 1, none⟩ = some (.int .i64 a1_1) := (blk_cell BK187.out 1).trans rfl; have hfz24_0 := blk_frozen BK187.out 0; have hfz24_1 := blk_frozen BK187.out 1) | ((with_reducible refine gate_callee (f := 102) rfl ?_); refine goesL_ (some 12) rfl rfl Try.func102 (by kernel_rfl) rfl #[.slice A0 l0.length c0, .agg #[.int .i64 a1_0, .int .i64 a1_1]] rfl ma_ ?_; (with_reducible refine (figure_checkAll.calls k _ _ l0 a1_0 a1_1 t189 _ ?side1 ?side2 A3.out).mono ?_); (case side1 => repeat (first | exact (Kd.C_below HR0.out HB.out) | (with_reducible refine Kd.C_alloc ?_ _) | (with_reducible refine Kd.C_drewN ?_ _) | (with_reducible refine Kd.C_drew ?_))); (case side2 => exact HC0.out); rintro e w25 ⟨rfl, hb⟩; refine ⟨_, rfl, ?_⟩; have n0_ := Aside0.mk (bb_ BK187 hb); have n1_ := Aside0.mk (bb_ BK188 hb); have n2_ := Aside0.mk (below_step (hb_ HB) hb); clear BK187; clear BK188; clear HB; have BK187 := n0_; have BK188 := n1_; have HB := n2_; clear n0_ n1_ n2_; (try clear hb); (try clear hb2); (try clear hk); (try clear hi); have hcz26_0 : w25.cell? ⟨gb188, 0, none⟩ = some (.int .i64 0) := (blk_cell BK188.out 0).trans rfl; have hcz26_1 : w25.cell? ⟨gb188, 1, none⟩ = some (.int .i64 0) := (blk_cell BK188.out 1).trans rfl; have hfz26_0 := blk_frozen BK188.out 0; have hfz26_1 := blk_frozen BK188.out 1))
  refine bodyPost_ret (results_list (rs := [.tmp 4, .cell 5 48, .tmp 6]) rfl (by simp) (.tmp (.cell gb188 48 #[.int .i64 0, .int .i64 0] (0, 0) _ rfl (by (with_reducible repeat (first | refine blk_drewN ?_ _ | refine blk_drew ?_ | refine blk_alloc ?_ _)); refine blk_put (cs := #[.int .i64 0, .int .i64 0]) ?_ 1 _ rfl; (with_reducible repeat (first | refine blk_drewN ?_ _ | refine blk_drew ?_ | refine blk_alloc ?_ _)); refine blk_put (cs := #[.int .i64 0, .int .i64 0]) ?_ 0 _ rfl; (with_reducible repeat (first | refine blk_drewN ?_ _ | refine blk_drew ?_ | refine blk_alloc ?_ _)); exact BK188.out) Try.underlying48 rfl (by kernel_rfl) (.tmp .nil)))) rfl ?_
  exact ⟨by first | rfl | (simp [errW_none, errW_some] <;> rfl) | (simp [*, errW_none, errW_some] <;> rfl), by repeat (first | (with_reducible first | exact HB.out | apply below_alloc | apply pw_below_drewN | apply below_drew1 | refine below_set ?_ GE187.out | refine below_set ?_ GE188.out) | exact HB.out)⟩
end Go.Proofs.Ytdkahcolfcmmpaa.Pr
namespace Go.Proofs.Ytdkahcolfcmmpaa.Pr
open Go.RowKit Go.Proofs.YtdkahcolfcmmpaaW.PrintWords Go.Proofs.YtdkahcolfcmmpaaW.PrintLast Go.Proofs.YtdkahcolfcmmpaaW.PrintMore
attribute [local go_sem] max2_int min2_int max_two min_two max_three min_three max_four min_four   -- for this text's walks alone
set_option linter.unusedVariables false
set_option linter.unusedSimpArgs false
mutual
def figure_Surface.l0 : Nat → List (S38) → List Int → List (S38) → Int → Int → Int → Int → Option (List Int × Int)
 | 0, _, _, _, _, _, _, _ => none
 | k + 1, x0, x9, x29, x30, x31, x198000, x198001 => if x31 < x30 then (if 0 ≤ x31 then (if x31 < (x29.length : Int) then (figure_Surface.l1 k x0 x9 x31 ((rd_T38 x29 x31).f0) x29 x30 x31 x0 (x0.length : Int) 0 x198000 x198001) else (none)) else (none)) else (some (x9, 0))
def figure_Surface.l1 : Nat → List (S38) → List Int → Int → Int → List (S38) → Int → Int → List (S38) → Int → Int → Int → Int → Option (List Int × Int)
 | 0, _, _, _, _, _, _, _, _, _, _, _, _ => none
 | k + 1, x0, x9, x10, x12, x29, x30, x31, x38, x39, x40, x198000, x198001 => if x40 < x39 then (if 0 ≤ x40 then (if x40 < (x38.length : Int) then ((figure_tolerance_bound.f x198000 x198001 x10 x40).bind fun t207 => (figure_Surface.l1 k x0 x9 x10 (mx x12 (wrap64 (((rd_T38 x38 x40).f0) - t207))) x29 x30 x31 x38 x39 (wrap64 (x40 + 1)) x198000 x198001)) else (none)) else (none)) else (if x9.length < 17592186044416 then (figure_Surface.l0 k x0 (x9 ++ [x12]) x29 x30 (wrap64 (x31 + 1)) x198000 x198001) else (none))
end
def figure_Surface.f (k : Nat) (l0 : List (S38)) (a1_0 : Int) (a1_1 : Int) : Option (List Int × Int) := (figure_Judge.f k l0 a1_0 a1_1).bind fun bt198 => (if bt198.2.2.2 = 0 then (if bt198.1 = (-1) then (some (([] : List Int), 12)) else (figure_Surface.l0 k l0 ([] : List Int) l0 (l0.length : Int) 0 a1_0 a1_1)) else (some (([] : List Int), bt198.2.2.2)))
theorem figure_Surface.mono_l : ∀ k, (∀ y0 y1 y2 y3 y4 y5 y6, LeO (figure_Surface.l0 k y0 y1 y2 y3 y4 y5 y6) (figure_Surface.l0 (k + 1) y0 y1 y2 y3 y4 y5 y6)) ∧ (∀ y0 y1 y2 y3 y4 y5 y6 y7 y8 y9 y10 y11, LeO (figure_Surface.l1 k y0 y1 y2 y3 y4 y5 y6 y7 y8 y9 y10 y11) (figure_Surface.l1 (k + 1) y0 y1 y2 y3 y4 y5 y6 y7 y8 y9 y10 y11))
 | 0 => ⟨fun _ _ _ _ _ _ _ r h => by simp [figure_Surface.l0] at h, fun _ _ _ _ _ _ _ _ _ _ _ _ r h => by simp [figure_Surface.l1] at h⟩
 | k + 1 => by
  obtain ⟨ih0, ih1⟩ := figure_Surface.mono_l k
  refine ⟨?_, ?_⟩
  ·intro y0 y1 y2 y3 y4 y5 y6
   unfold figure_Surface.l0
   repeat' first
   | (with_reducible exact ih0 _ _ _ _ _ _ _)
   | (with_reducible exact ih1 _ _ _ _ _ _ _ _ _ _ _ _)
   | (with_reducible exact figure_Judge.mono _ _ _ _)
   | (with_reducible exact LeO.refl _)
   | (with_reducible exact LeO.none _)
   | (with_reducible refine LeO.ite ?_ ?_)
   | (with_reducible refine LeO.bind ?_ (fun _ => ?_))
   | exact ih0 _ _ _ _ _ _ _
   | exact ih1 _ _ _ _ _ _ _ _ _ _ _ _
   | exact figure_Judge.mono _ _ _ _
   | exact LeO.none _
   | refine LeO.ite ?_ ?_
   | refine LeO.bind ?_ (fun _ => ?_)
  ·intro y0 y1 y2 y3 y4 y5 y6 y7 y8 y9 y10 y11
   unfold figure_Surface.l1
   repeat' first
   | (with_reducible exact ih0 _ _ _ _ _ _ _)
   | (with_reducible exact ih1 _ _ _ _ _ _ _ _ _ _ _ _)
   | (with_reducible exact figure_Judge.mono _ _ _ _)
   | (with_reducible exact LeO.refl _)
   | (with_reducible exact LeO.none _)
   | (with_reducible refine LeO.ite ?_ ?_)
   | (with_reducible refine LeO.bind ?_ (fun _ => ?_))
   | exact ih0 _ _ _ _ _ _ _
   | exact ih1 _ _ _ _ _ _ _ _ _ _ _ _
   | exact figure_Judge.mono _ _ _ _
   | exact LeO.none _
   | refine LeO.ite ?_ ?_
   | refine LeO.bind ?_ (fun _ => ?_)
theorem figure_Surface.mono : ∀ a0 a1 a2 k, LeO (figure_Surface.f k a0 a1 a2) (figure_Surface.f (k + 1) a0 a1 a2) := by
 intro a0 a1 a2 k
 obtain ⟨ih0, ih1⟩ := figure_Surface.mono_l k
 unfold figure_Surface.f
 repeat' first
   | (with_reducible exact ih0 _ _ _ _ _ _ _)
   | (with_reducible exact ih1 _ _ _ _ _ _ _ _ _ _ _ _)
   | (with_reducible exact figure_Judge.mono _ _ _ _)
   | (with_reducible exact LeO.refl _)
   | (with_reducible exact LeO.none _)
   | (with_reducible refine LeO.ite ?_ ?_)
   | (with_reducible refine LeO.bind ?_ (fun _ => ?_))
   | exact ih0 _ _ _ _ _ _ _
   | exact ih1 _ _ _ _ _ _ _ _ _ _ _ _
   | exact figure_Judge.mono _ _ _ _
   | exact LeO.none _
   | refine LeO.ite ?_ ?_
   | refine LeO.bind ?_ (fun _ => ?_)
def figure_Surface.T14 : Bool × List (List Nat × List Nat) := (true, [([], []), ([], []), ([1], [1]), ([], []), ([3], [3]), ([], []), ([], []), ([4, 5, 6], [4, 5, 6]), ([2, 7], [2, 7]), ([0, 8], [0, 8]), ([9, 7, 0, 1, 2, 3, 4, 5, 6, 7, 8, 9], [0, 9])])
def figure_Surface.B14 : List Nat := [0, 0, 2, 0, 8, 0, 0, 120, 254, 511, 1023]
theorem figure_Surface.tab14 : rtab .any (opsOf Try.f61 14) = figure_Surface.T14 := by kernel_rfl
theorem figure_Surface.bits14 : waitsOk figure_Surface.T14.2 figure_Surface.B14 = true := by kernel_rfl
set_option maxHeartbeats 8000000 in
set_option maxRecDepth 100000 in
theorem figure_Surface.calls (k : Nat) (A0 : Option Addr) (c0 : Nat) (l0 : List (S38)) (a1_0 : Int) (a1_1 : Int) (r1 : List Int) (r2 : Int) (w : World) (hr0 : Kd.C k38 w A0 l0.length l0) (hc0 : l0.length ≤ c0) (h : figure_Surface.f k l0 a1_0 a1_1 = some (r1, r2)) :
  Calls Try.prog 61 #[.slice A0 l0.length c0, .agg #[.int .i64 a1_0, .int .i64 a1_1]] w fun e w' => ∃ v0_ : Value, e = .returned (.tuple #[v0_, .int .i64 r2]) ∧ Kd.R (Kd.int .i64) 3 w' w.heap.size (fun _ => True) v0_ r1 ∧ Below w.heap.size w w' := by
 have hu59 := Try.underlying59
 have hu48 := Try.underlying48
 have hu38 := Try.underlying38
 have hu118 := Try.underlying118
 have HR0 := Aside0.mk hr0
 have HC0 := Aside0.mk hc0
 clear hr0 hc0
 have HB := Aside0.mk (Below.refl w.heap.size w)
 have H : ((figure_Judge.f k l0 a1_0 a1_1).bind fun bt198 => (if bt198.2.2.2 = 0 then (if bt198.1 = (-1) then (some (([] : List Int), 12)) else (figure_Surface.l0 k l0 ([] : List Int) l0 (l0.length : Int) 0 a1_0 a1_1)) else (some (([] : List Int), bt198.2.2.2)))) = some (r1, r2) := h
 clear h
 replace H := Option.bind_eq_some_iff.mp H
 obtain ⟨⟨t198, t199, t200, t201⟩, A30, H⟩ := H
 replace H : (if t201 = 0 then (if t198 = (-1) then (some (([] : List Int), 12)) else (figure_Surface.l0 k l0 ([] : List Int) l0 (l0.length : Int) 0 a1_0 a1_1)) else (some (([] : List Int), t201))) = some (r1, r2) := H
 have A3 := Aside0.mk A30
 clear A30
 by_cases c4 : t201 = 0
 ·rw [if_pos c4] at H
  have c4b0 : (t201 == 0) = true := beq_iff_eq.mpr c4
  have c4b1 : (t201 != 0) = false := bne_eq_false_iff_eq.mpr c4
  clear c4
  by_cases c5 : t198 = (-1)
  ·rw [if_pos c5] at H
   have c5b0 : (t198 == (-1)) = true := beq_iff_eq.mpr c5
   have c5b1 : (t198 != (-1)) = false := bne_eq_false_iff_eq.mpr c5
   clear c5
   simp only [Option.some.injEq, Prod.mk.injEq] at H
   obtain ⟨rfl, rfl⟩ := H
   go_enter Try.func61, Try.ntmps61
   go_wp2_with (first | ((with_reducible refine gate_dst (N := 3) rfl ?_); refine box_event ?hg (N := 3) ?hd (cs := #[.int .i64 a1_0, .int .i64 a1_1]) (t := 59) ?hr ?_; (case hd => rfl); (case hg => rfl); (case hr => exact gr_); intro gb197 hg w6 hbox hb; have n0_ := Aside0.mk (below_step (hb_ HB) hb); have n1_ := Aside0.mk (hbox); have n2_ := Aside0.mk ((hz_ HB hg)); have n3_ := Aside0.mk ((hz_ HB hg)); clear HB; have HB := n0_; have BK197 := n1_; have GW197 := n2_; have GE197 := n3_; clear n0_ n1_ n2_ n3_; clear hb hbox hg; have hcz7_0 : w6.cell? ⟨gb197, 0, none⟩ = some (.int .i64 a1_0) := (blk_cell BK197.out 0).trans rfl; have hcz7_1 : w6.cell? ⟨gb197, 1, none⟩ = some (.int .i64 a1_1) := (blk_cell BK197.out 1).trans rfl; have hfz7_0 := blk_frozen BK197.out 0; have hfz7_1 := blk_frozen BK197.out 1) | ((with_reducible refine gate_callee (f := 59) rfl ?_); refine goesL_ (some 18) rfl rfl Try.func59 (by kernel_rfl) rfl #[.slice A0 l0.length c0, .agg #[.int .i64 a1_0, .int .i64 a1_1]] rfl ma_ ?_; (with_reducible refine (figure_Judge.calls k _ _ l0 a1_0 a1_1 t198 t199 t200 t201 _ ?side1 ?side2 A3.out).mono ?_); (case side1 => repeat (first | exact (Kd.C_below HR0.out HB.out) | (with_reducible refine Kd.C_alloc ?_ _) | (with_reducible refine Kd.C_drewN ?_ _) | (with_reducible refine Kd.C_drew ?_))); (case side2 => exact HC0.out); rintro e w8 ⟨rfl, hb⟩; refine ⟨_, rfl, ?_⟩; have n0_ := Aside0.mk (bb_ BK197 hb); have n1_ := Aside0.mk (below_step (hb_ HB) hb); clear BK197; clear HB; have BK197 := n0_; have HB := n1_; clear n0_ n1_; (try clear hb); (try clear hb2); (try clear hk); (try clear hi)) | ((with_reducible refine gate_dst (N := 7) rfl ?_); refine box_event ?hg (N := 7) ?hd (cs := #[.int .i64 0, .int .i64 0]) (t := 48) ?hr ?_; (case hd => rfl); (case hg => rfl); (case hr => exact gr_); intro gb202 hg w9 hbox hb; have n0_ := Aside0.mk (bb_ BK197 hb); have n1_ := Aside0.mk (below_step (hb_ HB) hb); have n2_ := Aside0.mk (hbox); have n3_ := Aside0.mk ((hz_ HB hg)); have n4_ := Aside0.mk ((hz_ HB hg)); have n5_ := Aside0.mk ((nl_ BK197 hg)); have n6_ := Aside0.mk ((ng_ BK197 hg)); clear BK197; clear HB; have BK197 := n0_; have HB := n1_; have BK202 := n2_; have GW202 := n3_; have GE202 := n4_; have NB197_202 := n5_; have NB202_197 := n6_; clear n0_ n1_ n2_ n3_ n4_ n5_ n6_; clear hb hbox hg; have hnb10 := NB202_197.out; have hnc10 := NB197_202.out; have hcz11_0 : w9.cell? ⟨gb202, 0, none⟩ = some (.int .i64 0) := (blk_cell BK202.out 0).trans rfl; have hcz11_1 : w9.cell? ⟨gb202, 1, none⟩ = some (.int .i64 0) := (blk_cell BK202.out 1).trans rfl; have hfz11_0 := blk_frozen BK202.out 0; have hfz11_1 := blk_frozen BK202.out 1))
   go_ret2
   exact ⟨_, by first | rfl | (simp [errW_none, errW_some] <;> rfl) | (simp [*, errW_none, errW_some] <;> rfl), by first | exact Kd.R_nil _ _ _ _ _ | exact Kd.N_nil _ _ _ _ _ | exact Kd.V_nil _ _ _ _ _ | exact Kd.Q_nil _ _ _ _ _ | exact Kd.S_nil _ _ _ _ _, by repeat (first | (with_reducible first | exact HB.out | apply below_alloc | apply pw_below_drewN | apply below_drew1 | refine below_set ?_ GE197.out | refine below_set ?_ GE202.out) | exact HB.out)⟩
  ·rw [if_neg c5] at H
   have c5b0 : (t198 == (-1)) = false := beq_eq_false_iff_ne.mpr c5
   have c5b1 : (t198 != (-1)) = true := bne_iff_ne.mpr c5
   have H' := Aside0.mk H
   clear H
   go_enter Try.func61, Try.ntmps61
   go_wp2_with (first | ((with_reducible refine gate_dst (N := 3) rfl ?_); refine box_event ?hg (N := 3) ?hd (cs := #[.int .i64 a1_0, .int .i64 a1_1]) (t := 59) ?hr ?_; (case hd => rfl); (case hg => rfl); (case hr => exact gr_); intro gb197 hg w12 hbox hb; have n0_ := Aside0.mk (below_step (hb_ HB) hb); have n1_ := Aside0.mk (hbox); have n2_ := Aside0.mk ((hz_ HB hg)); have n3_ := Aside0.mk ((hz_ HB hg)); clear HB; have HB := n0_; have BK197 := n1_; have GW197 := n2_; have GE197 := n3_; clear n0_ n1_ n2_ n3_; clear hb hbox hg; have hcz13_0 : w12.cell? ⟨gb197, 0, none⟩ = some (.int .i64 a1_0) := (blk_cell BK197.out 0).trans rfl; have hcz13_1 : w12.cell? ⟨gb197, 1, none⟩ = some (.int .i64 a1_1) := (blk_cell BK197.out 1).trans rfl; have hfz13_0 := blk_frozen BK197.out 0; have hfz13_1 := blk_frozen BK197.out 1) | ((with_reducible refine gate_callee (f := 59) rfl ?_); refine goesL_ (some 18) rfl rfl Try.func59 (by kernel_rfl) rfl #[.slice A0 l0.length c0, .agg #[.int .i64 a1_0, .int .i64 a1_1]] rfl ma_ ?_; (with_reducible refine (figure_Judge.calls k _ _ l0 a1_0 a1_1 t198 t199 t200 t201 _ ?side1 ?side2 A3.out).mono ?_); (case side1 => repeat (first | exact (Kd.C_below HR0.out HB.out) | (with_reducible refine Kd.C_alloc ?_ _) | (with_reducible refine Kd.C_drewN ?_ _) | (with_reducible refine Kd.C_drew ?_))); (case side2 => exact HC0.out); rintro e w14 ⟨rfl, hb⟩; refine ⟨_, rfl, ?_⟩; have n0_ := Aside0.mk (bb_ BK197 hb); have n1_ := Aside0.mk (below_step (hb_ HB) hb); clear BK197; clear HB; have BK197 := n0_; have HB := n1_; clear n0_ n1_; (try clear hb); (try clear hb2); (try clear hk); (try clear hi)) | ((with_reducible refine gate_dst (N := 7) rfl ?_); refine box_event ?hg (N := 7) ?hd (cs := #[.int .i64 0, .int .i64 0]) (t := 48) ?hr ?_; (case hd => rfl); (case hg => rfl); (case hr => exact gr_); intro gb202 hg w15 hbox hb; have n0_ := Aside0.mk (bb_ BK197 hb); have n1_ := Aside0.mk (below_step (hb_ HB) hb); have n2_ := Aside0.mk (hbox); have n3_ := Aside0.mk ((hz_ HB hg)); have n4_ := Aside0.mk ((hz_ HB hg)); have n5_ := Aside0.mk ((nl_ BK197 hg)); have n6_ := Aside0.mk ((ng_ BK197 hg)); clear BK197; clear HB; have BK197 := n0_; have HB := n1_; have BK202 := n2_; have GW202 := n3_; have GE202 := n4_; have NB197_202 := n5_; have NB202_197 := n6_; clear n0_ n1_ n2_ n3_ n4_ n5_ n6_; clear hb hbox hg; have hnb16 := NB202_197.out; have hnc16 := NB197_202.out; have hcz17_0 : w15.cell? ⟨gb202, 0, none⟩ = some (.int .i64 0) := (blk_cell BK202.out 0).trans rfl; have hcz17_1 : w15.cell? ⟨gb202, 1, none⟩ = some (.int .i64 0) := (blk_cell BK202.out 1).trans rfl; have hfz17_0 := blk_frozen BK202.out 0; have hfz17_1 := blk_frozen BK202.out 1))
   go_loopg [9, 31] k (fun kq v9 v31 w' => ∃ (x9_1 : List Int) (x31_1 : Int), v31 = .int .i64 x31_1 ∧ Aside0 (figure_Surface.l0 kq l0 x9_1 l0 (l0.length : Int) x31_1 a1_0 a1_1 = some (r1, r2)) ∧ Aside0 (kq ≤ k) ∧ Aside0 (Kd.R (Kd.int .i64) 3 w' w.heap.size (fun _ => True) v9 x9_1) ∧ Aside0 (w'.heap[gb197]? = some (.cells #[.int .i64 a1_0, .int .i64 a1_1] 59 (0, 0))) ∧ Aside0 (w'.heap[gb202]? = some (.cells #[.int .i64 t199, .int .i64 t200] 48 (0, 0))) ∧ Aside0 (Below w.heap.size w w'))
   case atStart => exact ⟨(([] : List Int)), (0), rs_, H', ⟨Nat.le_refl _⟩, ⟨by first | exact Kd.R_nil _ _ _ _ _ | exact Kd.N_nil _ _ _ _ _ | exact Kd.V_nil _ _ _ _ _ | exact Kd.Q_nil _ _ _ _ _ | exact Kd.S_nil _ _ _ _ _⟩, ⟨by (with_reducible repeat (first | refine blk_drewN ?_ _ | refine blk_drew ?_ | refine blk_alloc ?_ _)); refine blk_far ?_ NB197_202.out _; (with_reducible repeat (first | refine blk_drewN ?_ _ | refine blk_drew ?_ | refine blk_alloc ?_ _)); refine blk_far ?_ NB197_202.out _; (with_reducible repeat (first | refine blk_drewN ?_ _ | refine blk_drew ?_ | refine blk_alloc ?_ _)); exact BK197.out⟩, ⟨by (with_reducible repeat (first | refine blk_drewN ?_ _ | refine blk_drew ?_ | refine blk_alloc ?_ _)); refine blk_put (cs := #[.int .i64 t199, .int .i64 0]) ?_ 1 _ rfl; (with_reducible repeat (first | refine blk_drewN ?_ _ | refine blk_drew ?_ | refine blk_alloc ?_ _)); refine blk_put (cs := #[.int .i64 0, .int .i64 0]) ?_ 0 _ rfl; (with_reducible repeat (first | refine blk_drewN ?_ _ | refine blk_drew ?_ | refine blk_alloc ?_ _)); exact BK202.out⟩, ⟨by repeat (first | (with_reducible first | exact HB.out | apply below_alloc | apply pw_below_drewN | apply below_drew1 | refine below_set ?_ GE197.out | refine below_set ?_ GE202.out) | exact HB.out)⟩⟩
   case round =>
    clear H'
    try clear c1
    try clear p2
    try clear c4
    try clear c4b0
    try clear c4b1
    try clear c5
    try clear c5b0
    try clear c5b1
    try clear c6
    try clear c10
    try clear c16
    try clear hcz11_0
    try clear hcz11_1
    try clear hcz13_0
    try clear hcz13_1
    try clear hcz17_0
    try clear hcz17_1
    try clear hcz7_0
    try clear hcz7_1
    try clear hfz11_0
    try clear hfz11_1
    try clear hfz13_0
    try clear hfz13_1
    try clear hfz17_0
    try clear hfz17_1
    try clear hfz7_0
    try clear hfz7_1
    obtain ⟨x9_1, x31_1, rfl, HA, HK1, HO_9, BK197, BK202, HB⟩ := hrel
    cases gk with
    | zero => exact absurd HA.out (by simp [figure_Surface.l0])
    | succ k1 =>
     have H := HA.out
     clear HA
     simp only [figure_Surface.l0] at H
     by_cases c18 : x31_1 < (l0.length : Int)
     ·rw [if_pos c18] at H
      have c18b0 : decide (x31_1 < (l0.length : Int)) = true := decide_eq_true c18
      clear c18
      by_cases c19 : 0 ≤ x31_1
      ·rw [if_pos c19] at H
       have c19b0 : decide (0 ≤ x31_1) = true := decide_eq_true c19
       clear c19
       by_cases c20 : x31_1 < (l0.length : Int)
       ·rw [if_pos c20] at H
        have c20b0 : decide (x31_1 < (l0.length : Int)) = true := decide_eq_true c20
        clear c20
        have H' := Aside0.mk H
        clear H
        have p203 : 0 ≤ (x31_1 : Int) := of_decide_eq_true as_
        have q203 : x31_1 < (l0.length : Int) := of_decide_eq_true as_
        obtain ⟨ad203, e203, hx203_0, hx203_1⟩ := at_T38 HR0.out x31_1 p203 q203
        cases e203
        replace hx203_0 := (HB.out.cell (World.block_lt_of_cell? w _ hx203_0)).trans hx203_0
        replace hx203_1 := (HB.out.cell (World.block_lt_of_cell? w _ hx203_1)).trans hx203_1
        replace p203 := eq_true p203
        replace q203 := eq_true q203
        go_wp2_with (first | ((with_reducible refine gate_dst (N := 11) rfl ?_); refine box_event ?hg (N := 11) ?hd (cs := #[.int .i64 0, .int .i64 0]) (t := 38) ?hr ?_; (case hd => rfl); (case hg => rfl); (case hr => exact gr_); intro gb204 hg w21 hbox hb; have n0_ := Aside0.mk (Kd.R_below (rk_ HO_9) hb); have n1_ := Aside0.mk (bb_ BK197 hb); have n2_ := Aside0.mk (bb_ BK202 hb); have n3_ := Aside0.mk (below_step (hb_ HB) hb); have n4_ := Aside0.mk (hbox); have n5_ := Aside0.mk ((hz_ HB hg)); have n6_ := Aside0.mk ((hz_ HB hg)); have n7_ := Aside0.mk ((nl_ BK197 hg)); have n8_ := Aside0.mk ((ng_ BK197 hg)); have n9_ := Aside0.mk ((nl_ BK202 hg)); have n10_ := Aside0.mk ((ng_ BK202 hg)); clear HO_9; clear BK197; clear BK202; clear HB; have HO_9 := n0_; have BK197 := n1_; have BK202 := n2_; have HB := n3_; have BK204 := n4_; have GW204 := n5_; have GE204 := n6_; have NB197_204 := n7_; have NB204_197 := n8_; have NB202_204 := n9_; have NB204_202 := n10_; clear n0_ n1_ n2_ n3_ n4_ n5_ n6_ n7_ n8_ n9_ n10_; clear hb hbox hg; have hnb22 := NB204_197.out; have hnc22 := NB197_204.out; have hnb23 := NB204_202.out; have hnc23 := NB202_204.out; have hcz24_0 : w21.cell? ⟨gb204, 0, none⟩ = some (.int .i64 0) := (blk_cell BK204.out 0).trans rfl; have hcz24_1 : w21.cell? ⟨gb204, 1, none⟩ = some (.int .i64 0) := (blk_cell BK204.out 1).trans rfl; have hfz24_0 := blk_frozen BK204.out 0; have hfz24_1 := blk_frozen BK204.out 1))
        go_loopg [12, 40] k1 (fun kq v12 v40 w' => ∃ (x12_2 : Int) (x40_2 : Int), v12 = .int .i64 x12_2 ∧ v40 = .int .i64 x40_2 ∧ Aside0 (figure_Surface.l1 kq l0 x9_1 x31_1 x12_2 l0 (l0.length : Int) x31_1 l0 (l0.length : Int) x40_2 a1_0 a1_1 = some (r1, r2)) ∧ Aside0 (kq ≤ k1) ∧ Aside0 (Kd.R (Kd.int .i64) 3 w' w.heap.size (fun _ => True) u9 x9_1) ∧ Aside0 (w'.heap[gb197]? = some (.cells #[.int .i64 a1_0, .int .i64 a1_1] 59 (0, 0))) ∧ Aside0 (w'.heap[gb202]? = some (.cells #[.int .i64 t199, .int .i64 t200] 48 (0, 0))) ∧ Aside0 (w'.heap[gb204]? = some (.cells #[.int .i64 ((rd_T38 l0 x31_1).f0), .int .i64 ((rd_T38 l0 x31_1).f1)] 38 (0, 0))) ∧ Aside0 (Below w.heap.size w w'))
        case atStart => exact ⟨((rd_T38 l0 x31_1).f0), (0), rs_, rs_, H', ⟨Nat.le_refl _⟩, ⟨by (with_reducible repeat (first | apply Kd.R_alloc | apply Kd.R_drewN | apply Kd.R_drew)); exact Kd.R_mono (Kd.R_far (p := ⟨gb204, 1, none⟩) (Kd.R_far (p := ⟨gb204, 0, none⟩) (Kd.R_types HO_9.out BK204.out di_) (fun _ hk => hk.2) (.int .i64 ((rd_T38 l0 x31_1).f0))) (fun _ hk => hk.2) (.int .i64 ((rd_T38 l0 x31_1).f1))) (fun _ hk => trivial)⟩, ⟨by (with_reducible repeat (first | refine blk_drewN ?_ _ | refine blk_drew ?_ | refine blk_alloc ?_ _)); refine blk_far ?_ NB197_204.out _; (with_reducible repeat (first | refine blk_drewN ?_ _ | refine blk_drew ?_ | refine blk_alloc ?_ _)); refine blk_far ?_ NB197_204.out _; (with_reducible repeat (first | refine blk_drewN ?_ _ | refine blk_drew ?_ | refine blk_alloc ?_ _)); exact BK197.out⟩, ⟨by (with_reducible repeat (first | refine blk_drewN ?_ _ | refine blk_drew ?_ | refine blk_alloc ?_ _)); refine blk_far ?_ NB202_204.out _; (with_reducible repeat (first | refine blk_drewN ?_ _ | refine blk_drew ?_ | refine blk_alloc ?_ _)); refine blk_far ?_ NB202_204.out _; (with_reducible repeat (first | refine blk_drewN ?_ _ | refine blk_drew ?_ | refine blk_alloc ?_ _)); exact BK202.out⟩, ⟨by (with_reducible repeat (first | refine blk_drewN ?_ _ | refine blk_drew ?_ | refine blk_alloc ?_ _)); refine blk_put (cs := #[.int .i64 ((rd_T38 l0 x31_1).f0), .int .i64 0]) ?_ 1 _ rfl; (with_reducible repeat (first | refine blk_drewN ?_ _ | refine blk_drew ?_ | refine blk_alloc ?_ _)); refine blk_put (cs := #[.int .i64 0, .int .i64 0]) ?_ 0 _ rfl; (with_reducible repeat (first | refine blk_drewN ?_ _ | refine blk_drew ?_ | refine blk_alloc ?_ _)); exact BK204.out⟩, ⟨by repeat (first | (with_reducible first | exact HB.out | apply below_alloc | apply pw_below_drewN | apply below_drew1 | refine below_set ?_ GE197.out | refine below_set ?_ GE202.out | refine below_set ?_ GE204.out) | exact HB.out)⟩⟩
        case round =>
         clear H'
         try clear c1
         try clear c2
         try clear p2
         try clear q2
         try clear hx2
         try clear c4
         try clear c4b0
         try clear c4b1
         try clear c5
         try clear c5b0
         try clear c5b1
         try clear c6
         try clear c10
         try clear c16
         try clear c18
         try clear c18b0
         try clear c19
         try clear c19b0
         try clear c20
         try clear c20b0
         try clear p20
         try clear q20
         try clear hx20
         try clear c22
         try clear c23
         try clear hcz11_0
         try clear hcz11_1
         try clear hcz13_0
         try clear hcz13_1
         try clear hcz17_0
         try clear hcz17_1
         try clear hcz24_0
         try clear hcz24_1
         try clear hcz7_0
         try clear hcz7_1
         try clear hfz11_0
         try clear hfz11_1
         try clear hfz13_0
         try clear hfz13_1
         try clear hfz17_0
         try clear hfz17_1
         try clear hfz24_0
         try clear hfz24_1
         try clear hfz7_0
         try clear hfz7_1
         try clear hx203_0
         try clear hx203_1
         try clear p2
         try clear p203
         try clear q203
         obtain ⟨x12_2, x40_2, rfl, rfl, HA, HK2, HO_9, BK197, BK202, BK204, HB⟩ := hrel
         cases gk with
         | zero => exact absurd HA.out (by simp [figure_Surface.l1])
         | succ k2 =>
          have H := HA.out
          clear HA
          simp only [figure_Surface.l1] at H
          by_cases c25 : x40_2 < (l0.length : Int)
          ·rw [if_pos c25] at H
           have c25b0 : decide (x40_2 < (l0.length : Int)) = true := decide_eq_true c25
           clear c25
           by_cases c26 : 0 ≤ x40_2
           ·rw [if_pos c26] at H
            have c26b0 : decide (0 ≤ x40_2) = true := decide_eq_true c26
            clear c26
            by_cases c27 : x40_2 < (l0.length : Int)
            ·rw [if_pos c27] at H
             have c27b0 : decide (x40_2 < (l0.length : Int)) = true := decide_eq_true c27
             clear c27
             replace H := Option.bind_eq_some_iff.mp H
             obtain ⟨t207, A280, H⟩ := H
             replace H : (figure_Surface.l1 k2 l0 x9_1 x31_1 (mx x12_2 (wrap64 (((rd_T38 l0 x40_2).f0) - t207))) l0 (l0.length : Int) x31_1 l0 (l0.length : Int) (wrap64 (x40_2 + 1)) a1_0 a1_1) = some (r1, r2) := H
             have A28 := Aside0.mk A280
             clear A280
             obtain ⟨ji29, hji29⟩ : ∃ j_ : Int, (mx x12_2 (wrap64 (((rd_T38 l0 x40_2).f0) - t207))) = j_ := ⟨_, rfl⟩
             replace H : (figure_Surface.l1 k2 l0 x9_1 x31_1 ji29 l0 (l0.length : Int) x31_1 l0 (l0.length : Int) (wrap64 (x40_2 + 1)) a1_0 a1_1) = some (r1, r2) := by first | (rw [hji29] at H; exact H) | (simp only [hji29] at H ⊢; exact H)
             (try rw [hji29] at A28)
             have hji29_ : (if x12_2 < (wrap64 (((rd_T38 l0 x40_2).f0) - t207)) then (wrap64 (((rd_T38 l0 x40_2).f0) - t207)) else x12_2) = ji29 := hji29
             have H' := Aside0.mk H
             clear H
             have p205 : 0 ≤ (x40_2 : Int) := of_decide_eq_true as_
             have q205 : x40_2 < (l0.length : Int) := of_decide_eq_true as_
             obtain ⟨ad205, e205, hx205_0, hx205_1⟩ := at_T38 HR0.out x40_2 p205 q205
             obtain rfl : ad203 = ad205 := (by injection e205)
             replace hx205_0 := (HB.out.cell (World.block_lt_of_cell? w _ hx205_0)).trans hx205_0
             replace hx205_1 := (HB.out.cell (World.block_lt_of_cell? w _ hx205_1)).trans hx205_1
             replace p205 := eq_true p205
             replace q205 := eq_true q205
             try go_wp2_with (first | ((with_reducible refine gate_dst (N := 14) rfl ?_); refine box_event ?hg (N := 14) ?hd (cs := #[.int .i64 0, .int .i64 0]) (t := 38) ?hr ?_; (case hd => rfl); (case hg => rfl); (case hr => exact gr_); intro gb206 hg w30 hbox hb; have n0_ := Aside0.mk (Kd.R_below (rk_ HO_9) hb); have n1_ := Aside0.mk (bb_ BK197 hb); have n2_ := Aside0.mk (bb_ BK202 hb); have n3_ := Aside0.mk (bb_ BK204 hb); have n4_ := Aside0.mk (below_step (hb_ HB) hb); have n5_ := Aside0.mk (hbox); have n6_ := Aside0.mk ((hz_ HB hg)); have n7_ := Aside0.mk ((hz_ HB hg)); have n8_ := Aside0.mk ((nl_ BK197 hg)); have n9_ := Aside0.mk ((ng_ BK197 hg)); have n10_ := Aside0.mk ((nl_ BK202 hg)); have n11_ := Aside0.mk ((ng_ BK202 hg)); have n12_ := Aside0.mk ((nl_ BK204 hg)); have n13_ := Aside0.mk ((ng_ BK204 hg)); clear HO_9; clear BK197; clear BK202; clear BK204; clear HB; have HO_9 := n0_; have BK197 := n1_; have BK202 := n2_; have BK204 := n3_; have HB := n4_; have BK206 := n5_; have GW206 := n6_; have GE206 := n7_; have NB197_206 := n8_; have NB206_197 := n9_; have NB202_206 := n10_; have NB206_202 := n11_; have NB204_206 := n12_; have NB206_204 := n13_; clear n0_ n1_ n2_ n3_ n4_ n5_ n6_ n7_ n8_ n9_ n10_ n11_ n12_ n13_; clear hb hbox hg; have hnb31 := NB206_197.out; have hnc31 := NB197_206.out; have hnb32 := NB206_202.out; have hnc32 := NB202_206.out; have hnb33 := NB206_204.out; have hnc33 := NB204_206.out; have hcz34_0 : w30.cell? ⟨gb206, 0, none⟩ = some (.int .i64 0) := (blk_cell BK206.out 0).trans rfl; have hcz34_1 : w30.cell? ⟨gb206, 1, none⟩ = some (.int .i64 0) := (blk_cell BK206.out 1).trans rfl; have hfz34_0 := blk_frozen BK206.out 0; have hfz34_1 := blk_frozen BK206.out 1))
             have n0_ : Aside0 (Kd.R (Kd.int .i64) 3 ((w30.setCell ⟨gb206, 0, none⟩ (.int .i64 ((rd_T38 l0 x40_2).f0))).setCell ⟨gb206, 1, none⟩ (.int .i64 ((rd_T38 l0 x40_2).f1))) w.heap.size (fun _ => True) u9 x9_1) := ⟨by (with_reducible repeat (first | apply Kd.R_alloc | apply Kd.R_drewN | apply Kd.R_drew)); exact Kd.R_mono (Kd.R_far (p := ⟨gb206, 1, none⟩) (Kd.R_far (p := ⟨gb206, 0, none⟩) (Kd.R_types HO_9.out BK206.out di_) (fun _ hk => hk.2) (.int .i64 ((rd_T38 l0 x40_2).f0))) (fun _ hk => hk.2) (.int .i64 ((rd_T38 l0 x40_2).f1))) (fun _ hk => trivial)⟩
             have n1_ : Aside0 (((w30.setCell ⟨gb206, 0, none⟩ (.int .i64 ((rd_T38 l0 x40_2).f0))).setCell ⟨gb206, 1, none⟩ (.int .i64 ((rd_T38 l0 x40_2).f1))).heap[gb197]? = some (.cells #[.int .i64 a1_0, .int .i64 a1_1] 59 (0, 0))) := ⟨by (with_reducible repeat (first | refine blk_drewN ?_ _ | refine blk_drew ?_ | refine blk_alloc ?_ _)); refine blk_far ?_ NB197_206.out _; (with_reducible repeat (first | refine blk_drewN ?_ _ | refine blk_drew ?_ | refine blk_alloc ?_ _)); refine blk_far ?_ NB197_206.out _; (with_reducible repeat (first | refine blk_drewN ?_ _ | refine blk_drew ?_ | refine blk_alloc ?_ _)); exact BK197.out⟩
             have n2_ : Aside0 (((w30.setCell ⟨gb206, 0, none⟩ (.int .i64 ((rd_T38 l0 x40_2).f0))).setCell ⟨gb206, 1, none⟩ (.int .i64 ((rd_T38 l0 x40_2).f1))).heap[gb202]? = some (.cells #[.int .i64 t199, .int .i64 t200] 48 (0, 0))) := ⟨by (with_reducible repeat (first | refine blk_drewN ?_ _ | refine blk_drew ?_ | refine blk_alloc ?_ _)); refine blk_far ?_ NB202_206.out _; (with_reducible repeat (first | refine blk_drewN ?_ _ | refine blk_drew ?_ | refine blk_alloc ?_ _)); refine blk_far ?_ NB202_206.out _; (with_reducible repeat (first | refine blk_drewN ?_ _ | refine blk_drew ?_ | refine blk_alloc ?_ _)); exact BK202.out⟩
             have n3_ : Aside0 (((w30.setCell ⟨gb206, 0, none⟩ (.int .i64 ((rd_T38 l0 x40_2).f0))).setCell ⟨gb206, 1, none⟩ (.int .i64 ((rd_T38 l0 x40_2).f1))).heap[gb204]? = some (.cells #[.int .i64 ((rd_T38 l0 x31_1).f0), .int .i64 ((rd_T38 l0 x31_1).f1)] 38 (0, 0))) := ⟨by (with_reducible repeat (first | refine blk_drewN ?_ _ | refine blk_drew ?_ | refine blk_alloc ?_ _)); refine blk_far ?_ NB204_206.out _; (with_reducible repeat (first | refine blk_drewN ?_ _ | refine blk_drew ?_ | refine blk_alloc ?_ _)); refine blk_far ?_ NB204_206.out _; (with_reducible repeat (first | refine blk_drewN ?_ _ | refine blk_drew ?_ | refine blk_alloc ?_ _)); exact BK204.out⟩
             have n4_ : Aside0 (((w30.setCell ⟨gb206, 0, none⟩ (.int .i64 ((rd_T38 l0 x40_2).f0))).setCell ⟨gb206, 1, none⟩ (.int .i64 ((rd_T38 l0 x40_2).f1))).heap[gb206]? = some (.cells #[.int .i64 ((rd_T38 l0 x40_2).f0), .int .i64 ((rd_T38 l0 x40_2).f1)] 38 (0, 0))) := ⟨by (with_reducible repeat (first | refine blk_drewN ?_ _ | refine blk_drew ?_ | refine blk_alloc ?_ _)); refine blk_put (cs := #[.int .i64 ((rd_T38 l0 x40_2).f0), .int .i64 0]) ?_ 1 _ rfl; (with_reducible repeat (first | refine blk_drewN ?_ _ | refine blk_drew ?_ | refine blk_alloc ?_ _)); refine blk_put (cs := #[.int .i64 0, .int .i64 0]) ?_ 0 _ rfl; (with_reducible repeat (first | refine blk_drewN ?_ _ | refine blk_drew ?_ | refine blk_alloc ?_ _)); exact BK206.out⟩
             have n5_ : Aside0 (Below w.heap.size w ((w30.setCell ⟨gb206, 0, none⟩ (.int .i64 ((rd_T38 l0 x40_2).f0))).setCell ⟨gb206, 1, none⟩ (.int .i64 ((rd_T38 l0 x40_2).f1)))) := ⟨by repeat (first | (with_reducible first | exact HB.out | apply below_alloc | apply pw_below_drewN | apply below_drew1 | refine below_set ?_ GE197.out | refine below_set ?_ GE202.out | refine below_set ?_ GE204.out | refine below_set ?_ GE206.out) | exact HB.out)⟩
             (try clear HO_9)
             (try clear BK197)
             (try clear BK202)
             (try clear BK204)
             (try clear BK206)
             (try clear HB)
             generalize ((w30.setCell ⟨gb206, 0, none⟩ (.int .i64 ((rd_T38 l0 x40_2).f0))).setCell ⟨gb206, 1, none⟩ (.int .i64 ((rd_T38 l0 x40_2).f1))) = w35 at n0_ n1_ n2_ n3_ n4_ n5_ ⊢
             have HO_9 := n0_
             have BK197 := n1_
             have BK202 := n2_
             have BK204 := n3_
             have BK206 := n4_
             have HB := n5_
             clear n0_ n1_ n2_ n3_ n4_ n5_
             have n0_ := Aside0.mk (Kd.R_drew HO_9.out)
             have n1_ := Aside0.mk (blk_drew BK197.out)
             have n2_ := Aside0.mk (blk_drew BK202.out)
             have n3_ := Aside0.mk (blk_drew BK204.out)
             have n4_ := Aside0.mk (blk_drew BK206.out)
             have n5_ := Aside0.mk (below_drew1 HB.out)
             clear HO_9
             clear BK197
             clear BK202
             clear BK204
             clear BK206
             clear HB
             have HO_9 := n0_
             have BK197 := n1_
             have BK202 := n2_
             have BK204 := n3_
             have BK206 := n4_
             have HB := n5_
             clear n0_ n1_ n2_ n3_ n4_ n5_
             refine start_ (n := 11) (S := fun w' => w'.cell? ⟨gb206, 0, none⟩ = some (.int .i64 ((rd_T38 l0 x40_2).f0)) ∧ w'.cell? ⟨gb206, 1, none⟩ = some (.int .i64 ((rd_T38 l0 x40_2).f1)) ∧ w'.cell? ⟨gb197, 0, none⟩ = some (.int .i64 a1_0) ∧ w'.cell? ⟨gb197, 1, none⟩ = some (.int .i64 a1_1)) (ds := []) #[false, false, false, false, false, false, false, false, false, false, false] (by kernel_rfl) rfl rfl ⟨(blk_cell BK206.out 0).trans rfl, (blk_cell BK206.out 1).trans rfl, (blk_cell BK197.out 0).trans rfl, (blk_cell BK197.out 1).trans rfl⟩ (fun hHeld => ?_); refine with_tabW figure_Surface.tab14 figure_Surface.bits14 (fun HT_ HW_ => ?_)
             generalize w35.drew = w36 at HO_9 BK197 BK202 BK204 BK206 HB hHeld ⊢
             refine pure_ (i := 0) (N := some 45) (v := ?_) (a' := ?_) #[true, false, false, false, false, false, false, false, false, false, false] rfl rfl (any_of HT_.out (by kernel_rfl)) (fun _ _ _ h => h) (Or.inl ⟨by rfl, ?_⟩) ?_ ?_
             rotate_left
             ·intro w'; go_simp; with_reducible rfl
             rotate_left
             ·simp only [Act.put, List.setIfInBounds_toArray, List.set_cons_zero, List.set_cons_succ, i64_w, i32_w]; rfl
             refine pure_ (i := 1) (N := some 46) (v := ?_) (a' := ?_) #[true, true, false, false, false, false, false, false, false, false, false] rfl rfl (any_of HT_.out (by kernel_rfl)) (fun _ _ _ h => h) (Or.inl ⟨by rfl, ?_⟩) ?_ ?_
             rotate_left
             ·intro w'; go_simp; with_reducible rfl
             rotate_left
             ·simp only [Act.put, List.setIfInBounds_toArray, List.set_cons_zero, List.set_cons_succ, i64_w, i32_w]; rfl
             refine pure_ (i := 5) (N := some 50) (v := ?_) (a' := ?_) #[true, true, false, false, false, true, false, false, false, false, false] rfl rfl (any_of HT_.out (by kernel_rfl)) (fun _ _ _ h => h) (Or.inl ⟨by rfl, ?_⟩) ?_ ?_
             rotate_left
             ·intro w'; go_simp; with_reducible rfl
             rotate_left
             ·simp only [Act.put, List.setIfInBounds_toArray, List.set_cons_zero, List.set_cons_succ, i64_w, i32_w]; rfl
             refine pure_ (i := 6) (N := some 51) (v := ?_) (a' := ?_) #[true, true, false, false, false, true, true, false, false, false, false] rfl rfl (any_of HT_.out (by kernel_rfl)) (fun _ _ _ h => h) (Or.inl ⟨by rfl, ?_⟩) ?_ ?_
             rotate_left
             ·intro w'; go_simp; with_reducible rfl
             rotate_left
             ·simp only [Act.put, List.setIfInBounds_toArray, List.set_cons_zero, List.set_cons_succ, i64_w, i32_w]; rfl
             refine take_ (i := 2) (N := some 47) (v := ?_) (a' := ?_) #[true, true, true, false, false, true, true, false, false, false, false] rfl rfl (take_ofW HT_.out HW_.out (by kernel_rfl)) (fun _ _ _ h => h) (Or.inl ⟨by rfl, ?_⟩) hHeld ?_ ?_
             rotate_left
             ·rintro w' ⟨s0, s1, s2, s3⟩; go_simp; with_reducible rfl
             rotate_left
             ·simp only [Act.put, List.setIfInBounds_toArray, List.set_cons_zero, List.set_cons_succ, i64_w, i32_w]; rfl
             refine take_ (i := 3) (N := some 48) (v := ?_) (a' := ?_) #[true, true, true, true, false, true, true, false, false, false, false] rfl rfl (take_ofW HT_.out HW_.out (by kernel_rfl)) (fun _ _ _ h => h) (Or.inl ⟨by rfl, ?_⟩) hHeld ?_ ?_
             rotate_left
             ·rintro w' ⟨s0, s1, s2, s3⟩; go_simp; with_reducible rfl
             rotate_left
             ·simp only [Act.put, List.setIfInBounds_toArray, List.set_cons_zero, List.set_cons_succ, i64_w, i32_w]; rfl
             refine pure_ (i := 4) (N := some 49) (v := ?_) (a' := ?_) #[true, true, true, true, true, true, true, false, false, false, false] rfl rfl (any_of HT_.out (by kernel_rfl)) (fun _ _ _ h => h) (Or.inl ⟨by rfl, ?_⟩) ?_ ?_
             rotate_left
             ·intro w'; go_simp; with_reducible rfl
             rotate_left
             ·simp only [Act.put, List.setIfInBounds_toArray, List.set_cons_zero, List.set_cons_succ, i64_w, i32_w]; rfl
             refine one_ (i := 7) (N := some 52) #[true, true, true, true, true, true, true, true, false, false, false] rfl rfl (one_of HT_.out (by kernel_rfl)) di_ (fun K hK => ?_)
             refine goes_ Try.func104 (by kernel_rfl) rfl #[.agg #[.int .i64 a1_0, .int .i64 a1_1], .int .i64 x31_1, .int .i64 x40_2] (by rfl) rfl rfl ma_ ?_
             with_reducible refine (figure_tolerance_bound.calls a1_0 a1_1 x31_1 x40_2 t207 _ A28.out).mono ?_
             rintro e w37 ⟨rfl, hb⟩
             refine ⟨_, rfl, ?_⟩
             have n0_ := Aside0.mk (Kd.R_below (rk_ HO_9) hb)
             have n1_ := Aside0.mk (bb_ BK197 hb)
             have n2_ := Aside0.mk (bb_ BK202 hb)
             have n3_ := Aside0.mk (bb_ BK204 hb)
             have n4_ := Aside0.mk (bb_ BK206 hb)
             have n5_ := Aside0.mk (below_step (hb_ HB) hb)
             clear HO_9
             clear BK197
             clear BK202
             clear BK204
             clear BK206
             clear HB
             have HO_9 := n0_
             have BK197 := n1_
             have BK202 := n2_
             have BK204 := n3_
             have BK206 := n4_
             have HB := n5_
             clear n0_ n1_ n2_ n3_ n4_ n5_
             (try clear hb)
             (try clear hb2)
             (try clear hk)
             (try clear hi)
             refine hK.out _ _ ⟨(blk_cell BK206.out 0).trans rfl, (blk_cell BK206.out 1).trans rfl, (blk_cell BK197.out 0).trans rfl, (blk_cell BK197.out 1).trans rfl⟩ (fun hHeld => ?_)
             clear hK K
             refine norm_ (a' := ?_) ?_ ?_
             rotate_left
             ·show Act.put _ (some 52) _ = _
              simp only [Act.put, List.setIfInBounds_toArray, List.set_cons_zero, List.set_cons_succ, i64_w, i32_w]
              rfl
             refine pure_ (i := 8) (N := some 53) (v := ?_) (a' := ?_) #[true, true, true, true, true, true, true, true, true, false, false] rfl rfl (any_of HT_.out (by kernel_rfl)) (fun _ _ _ h => h) (Or.inl ⟨by rfl, ?_⟩) ?_ ?_
             rotate_left
             ·intro w'; go_simp; with_reducible rfl
             rotate_left
             ·simp only [Act.put, List.setIfInBounds_toArray, List.set_cons_zero, List.set_cons_succ, i64_w, i32_w]; rfl
             refine pure_ (i := 9) (N := some 54) (v := ?_) (a' := ?_) #[true, true, true, true, true, true, true, true, true, true, false] rfl rfl (any_of HT_.out (by kernel_rfl)) (fun _ _ _ h => h) (Or.inl ⟨by rfl, ?_⟩) ?_ ?_
             rotate_left
             ·intro w'; go_simp; with_reducible rfl
             rotate_left
             ·simp only [Act.put, List.setIfInBounds_toArray, List.set_cons_zero, List.set_cons_succ, i64_w, i32_w]; rfl
             refine pure_ (i := 10) (N := some 12) (v := ?_) (a' := ?_) #[true, true, true, true, true, true, true, true, true, true, true] rfl rfl (any_of HT_.out (by kernel_rfl)) (fun _ _ _ h => h) (Or.inl ⟨by rfl, ?_⟩) ?_ ?_
             rotate_left
             ·intro w'; go_simp; with_reducible rfl
             rotate_left
             ·simp only [Act.put, List.setIfInBounds_toArray, List.set_cons_zero, List.set_cons_succ, i64_w, i32_w]; rfl
             refine done_ (done_of HT_.out (by kernel_rfl)) ?_
             try go_wp2
             go_roundg k2
             case measure => have := HK1.out; have := HK2.out; omega
             case rel => exact ⟨(ji29), (wrap64 (x40_2 + 1)), (by first | rfl | (simp; done) | (simp only [← hji29] <;> (first | rfl | simp)) | (simp [*]; done)), rs_, H', ⟨by have := HK1.out; have := HK2.out; omega⟩, ⟨by (with_reducible repeat (first | apply Kd.R_alloc | apply Kd.R_drewN | apply Kd.R_drew)); exact HO_9.out⟩, ⟨by (with_reducible repeat (first | refine blk_drewN ?_ _ | refine blk_drew ?_ | refine blk_alloc ?_ _)); exact BK197.out⟩, ⟨by (with_reducible repeat (first | refine blk_drewN ?_ _ | refine blk_drew ?_ | refine blk_alloc ?_ _)); exact BK202.out⟩, ⟨by (with_reducible repeat (first | refine blk_drewN ?_ _ | refine blk_drew ?_ | refine blk_alloc ?_ _)); exact BK204.out⟩, ⟨by repeat (first | (with_reducible first | exact HB.out | apply below_alloc | apply pw_below_drewN | apply below_drew1 | refine below_set ?_ GE197.out | refine below_set ?_ GE202.out | refine below_set ?_ GE204.out | refine below_set ?_ GE206.out) | exact HB.out)⟩⟩
            ·rw [if_neg c27] at H
             exact absurd H (by simp)
           ·rw [if_neg c26] at H
            exact absurd H (by simp)
          ·rw [if_neg c25] at H
           have c25b0 : decide (x40_2 < (l0.length : Int)) = false := decide_eq_false c25
           clear c25
           by_cases c38 : x9_1.length < 17592186044416
           ·rw [if_pos c38] at H
            have LMc38 := Aside0.mk c38
            clear c38
            obtain ⟨y208, hy208⟩ : ∃ y_ : List Int, y_ = (x9_1 ++ [x12_2]) := ⟨_, rfl⟩
            replace H : (figure_Surface.l0 k2 l0 y208 l0 (l0.length : Int) (wrap64 (x31_1 + 1)) a1_0 a1_1) = some (r1, r2) := by first | (rw [hy208]; with_reducible exact H) | (have H2_ := (Option.bind_some _ _).symm.trans H; rw [hy208]; with_reducible exact H2_) | (have H2_ := (Option.bind_some _ _).symm.trans H; with_reducible exact H2_) | with_reducible exact H | (rw [hy208]; exact H) | exact H
            have Ny208 := Aside0.mk hy208
            clear hy208
            have H' := Aside0.mk H
            clear H
            go_wp2_with (first | ((with_reducible refine gate_builtin (b := .append) (xs := #[.tmp 56, .tmp 58]) rfl ?_); at_builtin; refine Kd.R_append (Kd.int .i64) (w0 := w) w.heap.size rfl (.tmp 56) (.tmp 58) 22 3 (.int .i64 0) 8 rfl Try.underlying22 info3 rfl di_ (by omega) u9 x9_1 x12_2 [.int .i64 x12_2] (fun _ => True) (fun _ => False) rfl rfl ?aP (fun _ hk => hk.elim) ?aF ?aO ?aB ?aS ?aL ?_; (case aP => exact rfl); (case aB => exact (hb_ HB)); (case aF => exact (fun _ _ => trivial)); (case aO => exact (rk_ HO_9)); (case aS => exact (below_size (hb_ HB))); (case aL => have := LMc38.out; omega); intro v209 w39 ho hb hg hat; rw [← Ny208.out] at ho; have n0_ := Aside0.mk (blk_grown (g := gb197) (o := .cells #[.int .i64 a1_0, .int .i64 a1_1] 59 (0, 0)) (bk_ BK197) hg (Kd.R_ne HO_9.out BK197.out di_)); have n1_ := Aside0.mk (blk_grown (g := gb202) (o := .cells #[.int .i64 t199, .int .i64 t200] 48 (0, 0)) (bk_ BK202) hg (Kd.R_ne HO_9.out BK202.out di_)); have n2_ := Aside0.mk (blk_grown (g := gb204) (o := .cells #[.int .i64 ((rd_T38 l0 x31_1).f0), .int .i64 ((rd_T38 l0 x31_1).f1)] 38 (0, 0)) (bk_ BK204) hg (Kd.R_ne HO_9.out BK204.out di_)); have n3_ := Aside0.mk (hb); have n4_ := Aside0.mk (ho); clear BK197; clear BK202; clear BK204; clear HB; clear HO_9; have BK197 := n0_; have BK202 := n1_; have BK204 := n2_; have HB := n3_; have HO210 := n4_; clear n0_ n1_ n2_ n3_ n4_; clear ho hb hg hat))
            go_roundg k2
            case measure => have := HK1.out; have := HK2.out; omega
            case rel => exact ⟨(y208), (wrap64 (x31_1 + 1)), rs_, H', ⟨by have := HK1.out; have := HK2.out; omega⟩, ⟨by (with_reducible repeat (first | apply Kd.R_alloc | apply Kd.R_drewN | apply Kd.R_drew)); exact HO210.out⟩, ⟨by (with_reducible repeat (first | refine blk_drewN ?_ _ | refine blk_drew ?_ | refine blk_alloc ?_ _)); exact BK197.out⟩, ⟨by (with_reducible repeat (first | refine blk_drewN ?_ _ | refine blk_drew ?_ | refine blk_alloc ?_ _)); exact BK202.out⟩, ⟨by repeat (first | (with_reducible first | exact HB.out | apply below_alloc | apply pw_below_drewN | apply below_drew1 | refine below_set ?_ GE197.out | refine below_set ?_ GE202.out | refine below_set ?_ GE204.out) | exact HB.out)⟩⟩
           ·rw [if_neg c38] at H
            exact absurd H (by simp)
       ·rw [if_neg c20] at H
        exact absurd H (by simp)
      ·rw [if_neg c19] at H
       exact absurd H (by simp)
     ·rw [if_neg c18] at H
      have c18b0 : decide (x31_1 < (l0.length : Int)) = false := decide_eq_false c18
      clear c18
      simp only [Option.some.injEq, Prod.mk.injEq] at H
      obtain ⟨rfl, rfl⟩ := H
      go_wp2
      go_ret2
      exact ⟨_, by first | rfl | (simp [errW_none, errW_some] <;> rfl) | (simp [*, errW_none, errW_some] <;> rfl), by (with_reducible repeat (first | apply Kd.R_alloc | apply Kd.R_drewN | apply Kd.R_drew)); exact HO_9.out, by repeat (first | (with_reducible first | exact HB.out | apply below_alloc | apply pw_below_drewN | apply below_drew1 | refine below_set ?_ GE197.out | refine below_set ?_ GE202.out) | exact HB.out)⟩
 ·rw [if_neg c4] at H
  have c4b0 : (t201 == 0) = false := beq_eq_false_iff_ne.mpr c4
  have c4b1 : (t201 != 0) = true := bne_iff_ne.mpr c4
  simp only [Option.some.injEq, Prod.mk.injEq] at H
  obtain ⟨rfl, rfl⟩ := H
  go_enter Try.func61, Try.ntmps61
  go_wp2_with (first | ((with_reducible refine gate_dst (N := 3) rfl ?_); refine box_event ?hg (N := 3) ?hd (cs := #[.int .i64 a1_0, .int .i64 a1_1]) (t := 59) ?hr ?_; (case hd => rfl); (case hg => rfl); (case hr => exact gr_); intro gb197 hg w40 hbox hb; have n0_ := Aside0.mk (below_step (hb_ HB) hb); have n1_ := Aside0.mk (hbox); have n2_ := Aside0.mk ((hz_ HB hg)); have n3_ := Aside0.mk ((hz_ HB hg)); clear HB; have HB := n0_; have BK197 := n1_; have GW197 := n2_; have GE197 := n3_; clear n0_ n1_ n2_ n3_; clear hb hbox hg; have hcz41_0 : w40.cell? ⟨gb197, 0, none⟩ = some (.int .i64 a1_0) := (blk_cell BK197.out 0).trans rfl; have hcz41_1 : w40.cell? ⟨gb197, 1, none⟩ = some (.int .i64 a1_1) := (blk_cell BK197.out 1).trans rfl; have hfz41_0 := blk_frozen BK197.out 0; have hfz41_1 := blk_frozen BK197.out 1) | ((with_reducible refine gate_callee (f := 59) rfl ?_); refine goesL_ (some 18) rfl rfl Try.func59 (by kernel_rfl) rfl #[.slice A0 l0.length c0, .agg #[.int .i64 a1_0, .int .i64 a1_1]] rfl ma_ ?_; (with_reducible refine (figure_Judge.calls k _ _ l0 a1_0 a1_1 t198 t199 t200 t201 _ ?side1 ?side2 A3.out).mono ?_); (case side1 => repeat (first | exact (Kd.C_below HR0.out HB.out) | (with_reducible refine Kd.C_alloc ?_ _) | (with_reducible refine Kd.C_drewN ?_ _) | (with_reducible refine Kd.C_drew ?_))); (case side2 => exact HC0.out); rintro e w42 ⟨rfl, hb⟩; refine ⟨_, rfl, ?_⟩; have n0_ := Aside0.mk (bb_ BK197 hb); have n1_ := Aside0.mk (below_step (hb_ HB) hb); clear BK197; clear HB; have BK197 := n0_; have HB := n1_; clear n0_ n1_; (try clear hb); (try clear hb2); (try clear hk); (try clear hi)) | ((with_reducible refine gate_dst (N := 7) rfl ?_); refine box_event ?hg (N := 7) ?hd (cs := #[.int .i64 0, .int .i64 0]) (t := 48) ?hr ?_; (case hd => rfl); (case hg => rfl); (case hr => exact gr_); intro gb202 hg w43 hbox hb; have n0_ := Aside0.mk (bb_ BK197 hb); have n1_ := Aside0.mk (below_step (hb_ HB) hb); have n2_ := Aside0.mk (hbox); have n3_ := Aside0.mk ((hz_ HB hg)); have n4_ := Aside0.mk ((hz_ HB hg)); have n5_ := Aside0.mk ((nl_ BK197 hg)); have n6_ := Aside0.mk ((ng_ BK197 hg)); clear BK197; clear HB; have BK197 := n0_; have HB := n1_; have BK202 := n2_; have GW202 := n3_; have GE202 := n4_; have NB197_202 := n5_; have NB202_197 := n6_; clear n0_ n1_ n2_ n3_ n4_ n5_ n6_; clear hb hbox hg; have hnb44 := NB202_197.out; have hnc44 := NB197_202.out; have hcz45_0 : w43.cell? ⟨gb202, 0, none⟩ = some (.int .i64 0) := (blk_cell BK202.out 0).trans rfl; have hcz45_1 : w43.cell? ⟨gb202, 1, none⟩ = some (.int .i64 0) := (blk_cell BK202.out 1).trans rfl; have hfz45_0 := blk_frozen BK202.out 0; have hfz45_1 := blk_frozen BK202.out 1))
  go_ret2
  exact ⟨_, by first | rfl | (simp [errW_none, errW_some] <;> rfl) | (simp [*, errW_none, errW_some] <;> rfl), by first | exact Kd.R_nil _ _ _ _ _ | exact Kd.N_nil _ _ _ _ _ | exact Kd.V_nil _ _ _ _ _ | exact Kd.Q_nil _ _ _ _ _ | exact Kd.S_nil _ _ _ _ _, by repeat (first | (with_reducible first | exact HB.out | apply below_alloc | apply pw_below_drewN | apply below_drew1 | refine below_set ?_ GE197.out | refine below_set ?_ GE202.out) | exact HB.out)⟩
end Go.Proofs.Ytdkahcolfcmmpaa.Pr
namespace Go.Proofs.Ytdkahcolfcmmpaa.Pr
open Go.RowKit Go.Proofs.YtdkahcolfcmmpaaW.PrintWords Go.Proofs.YtdkahcolfcmmpaaW.PrintLast Go.Proofs.YtdkahcolfcmmpaaW.PrintMore
attribute [local go_sem] max2_int min2_int max_two min_two max_three min_three max_four min_four   -- for this text's walks alone
set_option linter.unusedVariables false
set_option linter.unusedSimpArgs false
attribute [local go_sem high] eqA28 eqA48
def speculumlaw06_awake.f (k : Nat)  : Option (Bool) := (speculumlaw06_Four.f).bind fun bt211 => ((figure_Least.f k bt211.1 bt211.2.1 bt211.2.2).bind fun bt220 => ((speculumlaw06_Known.f).bind fun t224 => ((figure_Judge.f k t224 0 0).bind fun bt227 => ((speculumlaw06_Known.f).bind fun t232 => ((figure_Surface.f k t232 3 2).bind fun bt235 => (if bt220.2.2 = 0 then (if (bt220.1 == 12 && (bt220.2.1 == 1)) = true then (if bt227.2.2.2 = 0 then (if bt227.1 = (-1) then (if (bt227.2.1 == 2 && (bt227.2.2.1 == 0)) = true then (if bt235.2 = 0 then ((speculumbase_Ints.f k bt235.1 (([0, 1, 3] : List Int))).bind fun t242 => (some t242)) else (some false)) else (some false)) else (some false)) else (some false)) else (some false)) else (some false)))))))
theorem speculumlaw06_awake.mono : ∀ k, LeO (speculumlaw06_awake.f k ) (speculumlaw06_awake.f (k + 1) ) := by
 intro  k
 unfold speculumlaw06_awake.f
 repeat' first
   | (with_reducible exact figure_Judge.mono _ _ _ _)
   | (with_reducible exact figure_Least.mono _ _ _ _)
   | (with_reducible exact figure_Surface.mono _ _ _ _)
   | (with_reducible exact speculumbase_Ints.mono _ _ _)
   | (with_reducible exact LeO.refl _)
   | (with_reducible exact LeO.none _)
   | (with_reducible refine LeO.ite ?_ ?_)
   | (with_reducible refine LeO.bind ?_ (fun _ => ?_))
   | exact figure_Judge.mono _ _ _ _
   | exact figure_Least.mono _ _ _ _
   | exact figure_Surface.mono _ _ _ _
   | exact speculumbase_Ints.mono _ _ _
   | exact LeO.none _
   | refine LeO.ite ?_ ?_
   | refine LeO.bind ?_ (fun _ => ?_)
set_option maxHeartbeats 8000000 in
set_option maxRecDepth 100000 in
theorem speculumlaw06_awake.calls (k : Nat)  (r : Bool) (w : World) (hr_ : r = true) (h : speculumlaw06_awake.f k  = some r) :
  Calls Try.prog 14 #[] w fun e w' => e = .returned (.bool r) ∧ Below w.heap.size w w' := by
 have hu28 := Try.underlying28
 have hu59 := Try.underlying59
 have hu48 := Try.underlying48
 have HB := Aside0.mk (Below.refl w.heap.size w)
 have H : ((speculumlaw06_Four.f).bind fun bt211 => ((figure_Least.f k bt211.1 bt211.2.1 bt211.2.2).bind fun bt220 => ((speculumlaw06_Known.f).bind fun t224 => ((figure_Judge.f k t224 0 0).bind fun bt227 => ((speculumlaw06_Known.f).bind fun t232 => ((figure_Surface.f k t232 3 2).bind fun bt235 => (if bt220.2.2 = 0 then (if (bt220.1 == 12 && (bt220.2.1 == 1)) = true then (if bt227.2.2.2 = 0 then (if bt227.1 = (-1) then (if (bt227.2.1 == 2 && (bt227.2.2.1 == 0)) = true then (if bt235.2 = 0 then ((speculumbase_Ints.f k bt235.1 (([0, 1, 3] : List Int))).bind fun t242 => (some t242)) else (some false)) else (some false)) else (some false)) else (some false)) else (some false)) else (some false)))))))) = some r := h
 clear h
 replace H := Option.bind_eq_some_iff.mp H
 obtain ⟨⟨t211, t214, t217⟩, A10, H⟩ := H
 replace H : ((figure_Least.f k t211 t214 t217).bind fun bt220 => ((speculumlaw06_Known.f).bind fun t224 => ((figure_Judge.f k t224 0 0).bind fun bt227 => ((speculumlaw06_Known.f).bind fun t232 => ((figure_Surface.f k t232 3 2).bind fun bt235 => (if bt220.2.2 = 0 then (if (bt220.1 == 12 && (bt220.2.1 == 1)) = true then (if bt227.2.2.2 = 0 then (if bt227.1 = (-1) then (if (bt227.2.1 == 2 && (bt227.2.2.1 == 0)) = true then (if bt235.2 = 0 then ((speculumbase_Ints.f k bt235.1 (([0, 1, 3] : List Int))).bind fun t242 => (some t242)) else (some false)) else (some false)) else (some false)) else (some false)) else (some false)) else (some false))))))) = some r := H
 have A1 := Aside0.mk A10
 clear A10
 replace H := Option.bind_eq_some_iff.mp H
 obtain ⟨⟨t220, t221, t222⟩, A20, H⟩ := H
 replace H : ((speculumlaw06_Known.f).bind fun t224 => ((figure_Judge.f k t224 0 0).bind fun bt227 => ((speculumlaw06_Known.f).bind fun t232 => ((figure_Surface.f k t232 3 2).bind fun bt235 => (if t222 = 0 then (if (t220 == 12 && (t221 == 1)) = true then (if bt227.2.2.2 = 0 then (if bt227.1 = (-1) then (if (bt227.2.1 == 2 && (bt227.2.2.1 == 0)) = true then (if bt235.2 = 0 then ((speculumbase_Ints.f k bt235.1 (([0, 1, 3] : List Int))).bind fun t242 => (some t242)) else (some false)) else (some false)) else (some false)) else (some false)) else (some false)) else (some false)))))) = some r := H
 have A2 := Aside0.mk A20
 clear A20
 replace H := Option.bind_eq_some_iff.mp H
 obtain ⟨t224, A30, H⟩ := H
 replace H : ((figure_Judge.f k t224 0 0).bind fun bt227 => ((speculumlaw06_Known.f).bind fun t232 => ((figure_Surface.f k t232 3 2).bind fun bt235 => (if t222 = 0 then (if (t220 == 12 && (t221 == 1)) = true then (if bt227.2.2.2 = 0 then (if bt227.1 = (-1) then (if (bt227.2.1 == 2 && (bt227.2.2.1 == 0)) = true then (if bt235.2 = 0 then ((speculumbase_Ints.f k bt235.1 (([0, 1, 3] : List Int))).bind fun t242 => (some t242)) else (some false)) else (some false)) else (some false)) else (some false)) else (some false)) else (some false))))) = some r := H
 have A3 := Aside0.mk A30
 clear A30
 replace H := Option.bind_eq_some_iff.mp H
 obtain ⟨⟨t227, t228, t229, t230⟩, A40, H⟩ := H
 replace H : ((speculumlaw06_Known.f).bind fun t232 => ((figure_Surface.f k t232 3 2).bind fun bt235 => (if t222 = 0 then (if (t220 == 12 && (t221 == 1)) = true then (if t230 = 0 then (if t227 = (-1) then (if (t228 == 2 && (t229 == 0)) = true then (if bt235.2 = 0 then ((speculumbase_Ints.f k bt235.1 (([0, 1, 3] : List Int))).bind fun t242 => (some t242)) else (some false)) else (some false)) else (some false)) else (some false)) else (some false)) else (some false)))) = some r := H
 have A4 := Aside0.mk A40
 clear A40
 replace H := Option.bind_eq_some_iff.mp H
 obtain ⟨t232, A50, H⟩ := H
 replace H : ((figure_Surface.f k t232 3 2).bind fun bt235 => (if t222 = 0 then (if (t220 == 12 && (t221 == 1)) = true then (if t230 = 0 then (if t227 = (-1) then (if (t228 == 2 && (t229 == 0)) = true then (if bt235.2 = 0 then ((speculumbase_Ints.f k bt235.1 (([0, 1, 3] : List Int))).bind fun t242 => (some t242)) else (some false)) else (some false)) else (some false)) else (some false)) else (some false)) else (some false))) = some r := H
 have A5 := Aside0.mk A50
 clear A50
 replace H := Option.bind_eq_some_iff.mp H
 obtain ⟨⟨t235, t238⟩, A60, H⟩ := H
 replace H : (if t222 = 0 then (if (t220 == 12 && (t221 == 1)) = true then (if t230 = 0 then (if t227 = (-1) then (if (t228 == 2 && (t229 == 0)) = true then (if t238 = 0 then ((speculumbase_Ints.f k t235 (([0, 1, 3] : List Int))).bind fun t242 => (some t242)) else (some false)) else (some false)) else (some false)) else (some false)) else (some false)) else (some false)) = some r := H
 have A6 := Aside0.mk A60
 clear A60
 by_cases c7 : t222 = 0
 ·rw [if_pos c7] at H
  have c7b0 : (t222 == 0) = true := beq_iff_eq.mpr c7
  have c7b1 : (t222 != 0) = false := bne_eq_false_iff_eq.mpr c7
  clear c7
  by_cases c8 : (t220 == 12 && (t221 == 1)) = true
  ·rw [if_pos c8] at H
   have c8b0 : (t220 == 12 && (t221 == 1)) = true := c8
   (try (have c8b1 : decide (t220 = 12 && (t221 == 1)) = true := by simpa using c8))
   (try (have c8b2 : (t220 == 12 && (t221 == 1)) = true := by simpa using c8))
   clear c8
   by_cases c9 : t230 = 0
   ·rw [if_pos c9] at H
    have c9b0 : (t230 == 0) = true := beq_iff_eq.mpr c9
    have c9b1 : (t230 != 0) = false := bne_eq_false_iff_eq.mpr c9
    clear c9
    by_cases c10 : t227 = (-1)
    ·rw [if_pos c10] at H
     have c10b0 : (t227 == (-1)) = true := beq_iff_eq.mpr c10
     have c10b1 : (t227 != (-1)) = false := bne_eq_false_iff_eq.mpr c10
     clear c10
     by_cases c11 : (t228 == 2 && (t229 == 0)) = true
     ·rw [if_pos c11] at H
      have c11b0 : (t228 == 2 && (t229 == 0)) = true := c11
      (try (have c11b1 : decide (t228 = 2 && (t229 == 0)) = true := by simpa using c11))
      (try (have c11b2 : (t228 == 2 && (t229 == 0)) = true := by simpa using c11))
      clear c11
      by_cases c12 : t238 = 0
      ·rw [if_pos c12] at H
       have c12b0 : (t238 == 0) = true := beq_iff_eq.mpr c12
       have c12b1 : (t238 != 0) = false := bne_eq_false_iff_eq.mpr c12
       clear c12
       obtain ⟨y239, hy239⟩ : ∃ y_ : List Int, y_ = (([0, 1, 3] : List Int)) := ⟨_, rfl⟩
       replace H : ((speculumbase_Ints.f k t235 y239).bind fun t242 => (some t242)) = some r := by first | (rw [hy239]; with_reducible exact H) | (have H2_ := (Option.bind_some _ _).symm.trans H; rw [hy239]; with_reducible exact H2_) | (have H2_ := (Option.bind_some _ _).symm.trans H; with_reducible exact H2_) | with_reducible exact H | (rw [hy239]; exact H) | exact H
       have Ny239 := Aside0.mk hy239
       clear hy239
       replace H := Option.bind_eq_some_iff.mp H
       obtain ⟨t242, A130, H⟩ := H
       replace H : (some t242) = some r := H
       have A13 := Aside0.mk A130
       clear A130
       obtain rfl := Option.some.inj H
       go_enter Try.func14, Try.ntmps14
       go_wp2_with (first | ((with_reducible refine gate_callee (f := 58) rfl ?_); refine goesL_ (some 9) rfl rfl Try.func58 (by kernel_rfl) rfl #[] rfl ma_ ?_; (with_reducible refine (speculumlaw06_Four.calls  t211 t214 t217 _ A1.out).mono ?_); rintro e w14 ⟨v212, v215, v218, rfl, ho0, ho1, ho2, hb⟩; refine ⟨_, rfl, ?_⟩; have n0_ := Aside0.mk (Kd.R_lower ho0 (below_size (hb_ HB))); have n1_ := Aside0.mk (Kd.R_lower ho1 (below_size (hb_ HB))); have n2_ := Aside0.mk (Kd.R_lower ho2 (below_size (hb_ HB))); have n3_ := Aside0.mk (below_step (hb_ HB) hb); clear HB; have HO213 := n0_; have HO216 := n1_; have HO219 := n2_; have HB := n3_; clear n0_ n1_ n2_ n3_; (try clear hb); (try clear hb2); (try clear hk); (try clear hi); (try clear ho0); (try clear ho1); (try clear ho2); obtain ⟨Ao15, co15, eo15⟩ := Kd.R_slice HO213.out; subst eo15; obtain ⟨Ao16, co16, eo16⟩ := Kd.R_slice HO216.out; subst eo16; obtain ⟨Ao17, co17, eo17⟩ := Kd.R_slice HO219.out; subst eo17) | ((with_reducible refine gate_callee (f := 32) rfl ?_); refine goesL_ (some 10) rfl rfl Try.func32 (by kernel_rfl) rfl #[.agg #[.slice Ao15 t211.length co15, .slice Ao16 t214.length co16, .slice Ao17 t217.length co17]] rfl ma_ ?_; (with_reducible refine (figure_Least.calls k _ _ t211 _ _ t214 _ _ t217 t220 t221 t222 _ ?side1 ?side2 ?side3 ?side4 ?side5 ?side6 A2.out).mono ?_); (case side1 => repeat (first | exact (Kd.R_reads' HO213.out).2.2 | (with_reducible refine Kd.C_alloc ?_ _) | (with_reducible refine Kd.C_drewN ?_ _) | (with_reducible refine Kd.C_drew ?_))); (case side2 => exact (Kd.R_reads' HO213.out).2.1); (case side3 => repeat (first | exact (Kd.R_reads' HO216.out).2.2 | (with_reducible refine Kd.C_alloc ?_ _) | (with_reducible refine Kd.C_drewN ?_ _) | (with_reducible refine Kd.C_drew ?_))); (case side4 => exact (Kd.R_reads' HO216.out).2.1); (case side5 => repeat (first | exact (Kd.R_reads' HO219.out).2.2 | (with_reducible refine Kd.C_alloc ?_ _) | (with_reducible refine Kd.C_drewN ?_ _) | (with_reducible refine Kd.C_drew ?_))); (case side6 => exact (Kd.R_reads' HO219.out).2.1); rintro e w18 ⟨rfl, hb⟩; refine ⟨_, rfl, ?_⟩; have n0_ := Aside0.mk (Kd.R_below (rk_ HO213) hb); have n1_ := Aside0.mk (Kd.R_below (rk_ HO216) hb); have n2_ := Aside0.mk (Kd.R_below (rk_ HO219) hb); have n3_ := Aside0.mk (below_step (hb_ HB) hb); clear HO213; clear HO216; clear HO219; clear HB; have HO213 := n0_; have HO216 := n1_; have HO219 := n2_; have HB := n3_; clear n0_ n1_ n2_ n3_; (try clear hb); (try clear hb2); (try clear hk); (try clear hi)) | ((with_reducible refine gate_dst (N := 1) rfl ?_); (try (refine gate_guard (by rfl) ?_; dsimp only)); refine box_event ?hg (N := 1) ?hd (cs := #[.int .i64 0, .int .i64 0]) (t := 28) ?hr ?_; (case hd => rfl); (case hg => rfl); (case hr => exact gr_); intro gb223 hg w19 hbox hb; have n0_ := Aside0.mk (Kd.R_below (rk_ HO213) hb); have n1_ := Aside0.mk (Kd.R_below (rk_ HO216) hb); have n2_ := Aside0.mk (Kd.R_below (rk_ HO219) hb); have n3_ := Aside0.mk (below_step (hb_ HB) hb); have n4_ := Aside0.mk (hbox); have n5_ := Aside0.mk ((hz_ HB hg)); have n6_ := Aside0.mk ((hz_ HB hg)); clear HO213; clear HO216; clear HO219; clear HB; have HO213 := n0_; have HO216 := n1_; have HO219 := n2_; have HB := n3_; have BK223 := n4_; have GW223 := n5_; have GE223 := n6_; clear n0_ n1_ n2_ n3_ n4_ n5_ n6_; clear hb hbox hg; have hcz20_0 : w19.cell? ⟨gb223, 0, none⟩ = some (.int .i64 0) := (blk_cell BK223.out 0).trans rfl; have hcz20_1 : w19.cell? ⟨gb223, 1, none⟩ = some (.int .i64 0) := (blk_cell BK223.out 1).trans rfl; have hfz20_0 := blk_frozen BK223.out 0; have hfz20_1 := blk_frozen BK223.out 1) | ((with_reducible refine gate_callee (f := 60) rfl ?_); refine goesL_ (some 14) rfl rfl Try.func60 (by kernel_rfl) rfl #[] rfl ma_ ?_; (with_reducible refine (speculumlaw06_Known.calls  t224 _ A3.out).mono ?_); rintro e w21 ⟨v225, rfl, ho0, hb⟩; refine ⟨_, rfl, ?_⟩; have n0_ := Aside0.mk (Kd.R_below (by (with_reducible repeat (first | apply Kd.R_alloc | apply Kd.R_drewN | apply Kd.R_drew)); exact (Kd.R_mono (Kd.R_far (p := ⟨gb223, 1, none⟩) (Kd.R_far (p := ⟨gb223, 0, none⟩) (Kd.R_types HO213.out BK223.out di_) (fun _ hk => hk.2) (.int .i64 t220)) (fun _ hk => hk.2) (.int .i64 t221)) (fun _ h_ => h_.1))) hb); have n1_ := Aside0.mk (Kd.R_below (by (with_reducible repeat (first | apply Kd.R_alloc | apply Kd.R_drewN | apply Kd.R_drew)); exact (Kd.R_mono (Kd.R_far (p := ⟨gb223, 1, none⟩) (Kd.R_far (p := ⟨gb223, 0, none⟩) (Kd.R_types HO216.out BK223.out di_) (fun _ hk => hk.2) (.int .i64 t220)) (fun _ hk => hk.2) (.int .i64 t221)) (fun _ h_ => h_.1))) hb); have n2_ := Aside0.mk (Kd.R_below (by (with_reducible repeat (first | apply Kd.R_alloc | apply Kd.R_drewN | apply Kd.R_drew)); exact (Kd.R_mono (Kd.R_far (p := ⟨gb223, 1, none⟩) (Kd.R_far (p := ⟨gb223, 0, none⟩) (Kd.R_types HO219.out BK223.out di_) (fun _ hk => hk.2) (.int .i64 t220)) (fun _ hk => hk.2) (.int .i64 t221)) (fun _ h_ => h_.1))) hb); have n3_ := Aside0.mk (Kd.R_lower ho0 (below_size (hb_ HB))); have n4_ := Aside0.mk (blk_below (g := gb223) (o := .cells #[.int .i64 t220, .int .i64 t221] 28 (0, 0)) (by (with_reducible repeat (first | refine blk_drewN ?_ _ | refine blk_drew ?_ | refine blk_alloc ?_ _)); refine blk_put (cs := #[.int .i64 t220, .int .i64 0]) ?_ 1 _ rfl; (with_reducible repeat (first | refine blk_drewN ?_ _ | refine blk_drew ?_ | refine blk_alloc ?_ _)); refine blk_put (cs := #[.int .i64 0, .int .i64 0]) ?_ 0 _ rfl; (with_reducible repeat (first | refine blk_drewN ?_ _ | refine blk_drew ?_ | refine blk_alloc ?_ _)); exact BK223.out) hb); have n5_ := Aside0.mk (below_step (hb_ HB) hb); clear HO213; clear HO216; clear HO219; clear BK223; clear HB; have HO213 := n0_; have HO216 := n1_; have HO219 := n2_; have HO226 := n3_; have BK223 := n4_; have HB := n5_; clear n0_ n1_ n2_ n3_ n4_ n5_; (try clear hb); (try clear hb2); (try clear hk); (try clear hi); (try clear ho0); obtain ⟨Ao22, co22, eo22⟩ := Kd.R_slice HO226.out; subst eo22) | ((with_reducible refine gate_callee (f := 59) rfl ?_); refine goesL_ (some 16) rfl rfl Try.func59 (by kernel_rfl) rfl #[.slice Ao22 t224.length co22, .agg #[.int .i64 0, .int .i64 0]] rfl ma_ ?_; (with_reducible refine (figure_Judge.calls k _ _ t224 0 0 t227 t228 t229 t230 _ ?side1 ?side2 A4.out).mono ?_); (case side1 => repeat (first | exact (Kd.R_reads' HO226.out).2.2 | (with_reducible refine Kd.C_alloc ?_ _) | (with_reducible refine Kd.C_drewN ?_ _) | (with_reducible refine Kd.C_drew ?_))); (case side2 => exact (Kd.R_reads' HO226.out).2.1); rintro e w23 ⟨rfl, hb⟩; refine ⟨_, rfl, ?_⟩; have n0_ := Aside0.mk (Kd.R_below (rk_ HO213) hb); have n1_ := Aside0.mk (Kd.R_below (rk_ HO216) hb); have n2_ := Aside0.mk (Kd.R_below (rk_ HO219) hb); have n3_ := Aside0.mk (Kd.R_below (rk_ HO226) hb); have n4_ := Aside0.mk (bb_ BK223 hb); have n5_ := Aside0.mk (below_step (hb_ HB) hb); clear HO213; clear HO216; clear HO219; clear HO226; clear BK223; clear HB; have HO213 := n0_; have HO216 := n1_; have HO219 := n2_; have HO226 := n3_; have BK223 := n4_; have HB := n5_; clear n0_ n1_ n2_ n3_ n4_ n5_; (try clear hb); (try clear hb2); (try clear hk); (try clear hi)) | ((with_reducible refine gate_dst (N := 4) rfl ?_); (try (refine gate_guard (by rfl) ?_; dsimp only)); refine box_event ?hg (N := 4) ?hd (cs := #[.int .i64 0, .int .i64 0]) (t := 48) ?hr ?_; (case hd => rfl); (case hg => rfl); (case hr => exact gr_); intro gb231 hg w24 hbox hb; have n0_ := Aside0.mk (Kd.R_below (rk_ HO213) hb); have n1_ := Aside0.mk (Kd.R_below (rk_ HO216) hb); have n2_ := Aside0.mk (Kd.R_below (rk_ HO219) hb); have n3_ := Aside0.mk (Kd.R_below (rk_ HO226) hb); have n4_ := Aside0.mk (bb_ BK223 hb); have n5_ := Aside0.mk (below_step (hb_ HB) hb); have n6_ := Aside0.mk (hbox); have n7_ := Aside0.mk ((hz_ HB hg)); have n8_ := Aside0.mk ((hz_ HB hg)); have n9_ := Aside0.mk ((nl_ BK223 hg)); have n10_ := Aside0.mk ((ng_ BK223 hg)); clear HO213; clear HO216; clear HO219; clear HO226; clear BK223; clear HB; have HO213 := n0_; have HO216 := n1_; have HO219 := n2_; have HO226 := n3_; have BK223 := n4_; have HB := n5_; have BK231 := n6_; have GW231 := n7_; have GE231 := n8_; have NB223_231 := n9_; have NB231_223 := n10_; clear n0_ n1_ n2_ n3_ n4_ n5_ n6_ n7_ n8_ n9_ n10_; clear hb hbox hg; have hnb25 := NB231_223.out; have hnc25 := NB223_231.out; have hcz26_0 : w24.cell? ⟨gb231, 0, none⟩ = some (.int .i64 0) := (blk_cell BK231.out 0).trans rfl; have hcz26_1 : w24.cell? ⟨gb231, 1, none⟩ = some (.int .i64 0) := (blk_cell BK231.out 1).trans rfl; have hfz26_0 := blk_frozen BK231.out 0; have hfz26_1 := blk_frozen BK231.out 1) | ((with_reducible refine gate_callee (f := 60) rfl ?_); refine goesL_ (some 21) rfl rfl Try.func60 (by kernel_rfl) rfl #[] rfl ma_ ?_; (with_reducible refine (speculumlaw06_Known.calls  t232 _ A5.out).mono ?_); rintro e w27 ⟨v233, rfl, ho0, hb⟩; refine ⟨_, rfl, ?_⟩; have n0_ := Aside0.mk (Kd.R_below (by (with_reducible repeat (first | apply Kd.R_alloc | apply Kd.R_drewN | apply Kd.R_drew)); exact (Kd.R_mono (Kd.R_far (p := ⟨gb231, 1, none⟩) (Kd.R_far (p := ⟨gb231, 0, none⟩) (Kd.R_types HO213.out BK231.out di_) (fun _ hk => hk.2) (.int .i64 t228)) (fun _ hk => hk.2) (.int .i64 t229)) (fun _ h_ => h_.1))) hb); have n1_ := Aside0.mk (Kd.R_below (by (with_reducible repeat (first | apply Kd.R_alloc | apply Kd.R_drewN | apply Kd.R_drew)); exact (Kd.R_mono (Kd.R_far (p := ⟨gb231, 1, none⟩) (Kd.R_far (p := ⟨gb231, 0, none⟩) (Kd.R_types HO216.out BK231.out di_) (fun _ hk => hk.2) (.int .i64 t228)) (fun _ hk => hk.2) (.int .i64 t229)) (fun _ h_ => h_.1))) hb); have n2_ := Aside0.mk (Kd.R_below (by (with_reducible repeat (first | apply Kd.R_alloc | apply Kd.R_drewN | apply Kd.R_drew)); exact (Kd.R_mono (Kd.R_far (p := ⟨gb231, 1, none⟩) (Kd.R_far (p := ⟨gb231, 0, none⟩) (Kd.R_types HO219.out BK231.out di_) (fun _ hk => hk.2) (.int .i64 t228)) (fun _ hk => hk.2) (.int .i64 t229)) (fun _ h_ => h_.1))) hb); have n3_ := Aside0.mk (Kd.R_elder' (by (with_reducible repeat (first | apply Kd.R_alloc | apply Kd.R_drewN | apply Kd.R_drew)); exact (Kd.R_mono (Kd.R_far (p := ⟨gb231, 1, none⟩) (Kd.R_far (p := ⟨gb231, 0, none⟩) (Kd.R_types HO226.out BK231.out di_) (fun _ hk => hk.2) (.int .i64 t228)) (fun _ hk => hk.2) (.int .i64 t229)) (fun _ h_ => h_.1))) (Kd.R_base ho0) hb); have n4_ := Aside0.mk (Kd.R_lower (Kd.R_new' ho0 (Kd.R_lt (by (with_reducible repeat (first | apply Kd.R_alloc | apply Kd.R_drewN | apply Kd.R_drew)); exact (Kd.R_mono (Kd.R_far (p := ⟨gb231, 1, none⟩) (Kd.R_far (p := ⟨gb231, 0, none⟩) (Kd.R_types HO226.out BK231.out di_) (fun _ hk => hk.2) (.int .i64 t228)) (fun _ hk => hk.2) (.int .i64 t229)) (fun _ h_ => h_.1))))) (below_size (hb_ HB))); have n5_ := Aside0.mk (blk_below (g := gb223) (o := .cells #[.int .i64 t220, .int .i64 t221] 28 (0, 0)) (by (with_reducible repeat (first | refine blk_drewN ?_ _ | refine blk_drew ?_ | refine blk_alloc ?_ _)); refine blk_far ?_ NB223_231.out _; (with_reducible repeat (first | refine blk_drewN ?_ _ | refine blk_drew ?_ | refine blk_alloc ?_ _)); refine blk_far ?_ NB223_231.out _; (with_reducible repeat (first | refine blk_drewN ?_ _ | refine blk_drew ?_ | refine blk_alloc ?_ _)); exact BK223.out) hb); have n6_ := Aside0.mk (blk_below (g := gb231) (o := .cells #[.int .i64 t228, .int .i64 t229] 48 (0, 0)) (by (with_reducible repeat (first | refine blk_drewN ?_ _ | refine blk_drew ?_ | refine blk_alloc ?_ _)); refine blk_put (cs := #[.int .i64 t228, .int .i64 0]) ?_ 1 _ rfl; (with_reducible repeat (first | refine blk_drewN ?_ _ | refine blk_drew ?_ | refine blk_alloc ?_ _)); refine blk_put (cs := #[.int .i64 0, .int .i64 0]) ?_ 0 _ rfl; (with_reducible repeat (first | refine blk_drewN ?_ _ | refine blk_drew ?_ | refine blk_alloc ?_ _)); exact BK231.out) hb); have n7_ := Aside0.mk (below_step (hb_ HB) hb); clear HO213; clear HO216; clear HO219; clear HO226; clear BK223; clear BK231; clear HB; have HO213 := n0_; have HO216 := n1_; have HO219 := n2_; have HO226 := n3_; have HO234 := n4_; have BK223 := n5_; have BK231 := n6_; have HB := n7_; clear n0_ n1_ n2_ n3_ n4_ n5_ n6_ n7_; (try clear hb); (try clear hb2); (try clear hk); (try clear hi); (try clear ho0); obtain ⟨Ao28, co28, eo28⟩ := Kd.R_slice HO234.out; subst eo28) | ((with_reducible refine gate_callee (f := 61) rfl ?_); refine goesL_ (some 23) rfl rfl Try.func61 (by kernel_rfl) rfl #[.slice Ao28 t232.length co28, .agg #[.int .i64 3, .int .i64 2]] rfl ma_ ?_; (with_reducible refine (figure_Surface.calls k _ _ t232 3 2 t235 t238 _ ?side1 ?side2 A6.out).mono ?_); (case side1 => repeat (first | exact (Kd.R_reads' HO234.out).2.2 | (with_reducible refine Kd.C_alloc ?_ _) | (with_reducible refine Kd.C_drewN ?_ _) | (with_reducible refine Kd.C_drew ?_))); (case side2 => exact (Kd.R_reads' HO234.out).2.1); rintro e w29 ⟨v236, rfl, ho0, hb⟩; refine ⟨_, rfl, ?_⟩; have n0_ := Aside0.mk (Kd.R_elder' (rk_ HO213) (Kd.R_base ho0) hb); have n1_ := Aside0.mk (Kd.R_elder' (rk_ HO216) (Kd.R_base ho0) hb); have n2_ := Aside0.mk (Kd.R_elder' (rk_ HO219) (Kd.R_base ho0) hb); have n3_ := Aside0.mk (Kd.R_below (rk_ HO226) hb); have n4_ := Aside0.mk (Kd.R_below (rk_ HO234) hb); have n5_ := Aside0.mk (Kd.R_lower (Kd.R_new' (Kd.R_new' (Kd.R_new' ho0 (Kd.R_lt (rk_ HO213))) (Kd.R_lt (rk_ HO216))) (Kd.R_lt (rk_ HO219))) (below_size (hb_ HB))); have n6_ := Aside0.mk (bb_ BK223 hb); have n7_ := Aside0.mk (bb_ BK231 hb); have n8_ := Aside0.mk (below_step (hb_ HB) hb); clear HO213; clear HO216; clear HO219; clear HO226; clear HO234; clear BK223; clear BK231; clear HB; have HO213 := n0_; have HO216 := n1_; have HO219 := n2_; have HO226 := n3_; have HO234 := n4_; have HO237 := n5_; have BK223 := n6_; have BK231 := n7_; have HB := n8_; clear n0_ n1_ n2_ n3_ n4_ n5_ n6_ n7_ n8_; (try clear hb); (try clear hb2); (try clear hk); (try clear hi); (try clear ho0); have hcz30_0 : w29.cell? ⟨gb223, 0, none⟩ = some (.int .i64 t220) := (blk_cell BK223.out 0).trans rfl; have hcz30_1 : w29.cell? ⟨gb223, 1, none⟩ = some (.int .i64 t221) := (blk_cell BK223.out 1).trans rfl; have hfz30_0 := blk_frozen BK223.out 0; have hfz30_1 := blk_frozen BK223.out 1; have hcz31_0 : w29.cell? ⟨gb231, 0, none⟩ = some (.int .i64 t228) := (blk_cell BK231.out 0).trans rfl; have hcz31_1 : w29.cell? ⟨gb231, 1, none⟩ = some (.int .i64 t229) := (blk_cell BK231.out 1).trans rfl; have hfz31_0 := blk_frozen BK231.out 0; have hfz31_1 := blk_frozen BK231.out 1) | ((with_reducible refine gate_dst (N := 52) rfl ?_); (try (refine gate_guard (by rfl) ?_; dsimp only)); refine Kd.R_lit (Kd.int .i64) _ 3 ?hg (N := 52) ?hd (xs := ([0, 1, 3] : List Int)) (inner := [.int .i64 0, .int .i64 1, .int .i64 3]) (ok := fun _ => True) (okp := fun _ => True) ?hr ?hp (fun _ hk => hk) trivial (Below.refl _ _) (Nat.le_refl _) (by simp) ?_; (case hd => rfl); (case hg => rfl); (case hr => exact gr_); (case hp => exact (Reps.one (show Kd.M (Kd.int .i64) _ _ _ 0 [.int .i64 0] from rfl) (Reps.one (show Kd.M (Kd.int .i64) _ _ _ 1 [.int .i64 1] from rfl) (Reps.one (show Kd.M (Kd.int .i64) _ _ _ 3 [.int .i64 3] from rfl) (Reps.none _ _))))); intro v240 w32 ho33 hb hg_ hnew_; clear hg_ hnew_; (first | rw [← Ny239.out] at ho33 | (simp only [Int.reduceToNat] at ho33; rw [← Ny239.out] at ho33)); have n0_ := Aside0.mk (Kd.R_elder' (rk_ HO213) (Kd.R_base ho33) hb); have n1_ := Aside0.mk (Kd.R_elder' (rk_ HO216) (Kd.R_base ho33) hb); have n2_ := Aside0.mk (Kd.R_elder' (rk_ HO219) (Kd.R_base ho33) hb); have n3_ := Aside0.mk (Kd.R_below (rk_ HO226) hb); have n4_ := Aside0.mk (Kd.R_below (rk_ HO234) hb); have n5_ := Aside0.mk (Kd.R_elder' (rk_ HO237) (Kd.R_base ho33) hb); have n6_ := Aside0.mk (Kd.R_lower (Kd.R_new' (Kd.R_new' (Kd.R_new' (Kd.R_new' ho33 (Kd.R_lt (rk_ HO213))) (Kd.R_lt (rk_ HO216))) (Kd.R_lt (rk_ HO219))) (Kd.R_lt (rk_ HO237))) (below_size (hb_ HB))); have n7_ := Aside0.mk (bb_ BK223 hb); have n8_ := Aside0.mk (bb_ BK231 hb); have n9_ := Aside0.mk (below_step (hb_ HB) hb); clear HO213; clear HO216; clear HO219; clear HO226; clear HO234; clear HO237; clear BK223; clear BK231; clear HB; have HO213 := n0_; have HO216 := n1_; have HO219 := n2_; have HO226 := n3_; have HO234 := n4_; have HO237 := n5_; have HO241 := n6_; have BK223 := n7_; have BK231 := n8_; have HB := n9_; clear n0_ n1_ n2_ n3_ n4_ n5_ n6_ n7_ n8_ n9_; clear hb ho33; obtain ⟨Ao34, co34, eo34⟩ := Kd.R_slice HO237.out; subst eo34; obtain ⟨Ao35, co35, eo35⟩ := Kd.R_slice HO241.out; subst eo35) | (go_at_call 49; (with_reducible refine (speculumbase_Ints.calls k _ _ t235 _ _ y239 t242 _ ?side1 ?side2 ?side3 ?side4 A13.out).mono ?_); (case side1 => repeat (first | exact (Kd.R_reads' HO237.out).2.2 | (with_reducible refine Kd.C_alloc ?_ _) | (with_reducible refine Kd.C_drewN ?_ _) | (with_reducible refine Kd.C_drew ?_))); (case side2 => exact (Kd.R_reads' HO237.out).2.1); (case side3 => repeat (first | exact (Kd.R_reads' HO241.out).2.2 | (with_reducible refine Kd.C_alloc ?_ _) | (with_reducible refine Kd.C_drewN ?_ _) | (with_reducible refine Kd.C_drew ?_))); (case side4 => exact (Kd.R_reads' HO241.out).2.1); rintro e w' ⟨rfl, ⟨nd, rfl⟩⟩))
       go_ret
       exact ⟨by first | rfl | (simp [errW_none, errW_some] <;> rfl) | (simp [*, errW_none, errW_some] <;> rfl), by repeat (first | (with_reducible first | exact HB.out | apply below_alloc | apply pw_below_drewN | apply below_drew1 | refine below_set ?_ GE223.out | refine below_set ?_ GE231.out) | exact HB.out)⟩
      ·rw [if_neg c12] at H
       have c12b0 : (t238 == 0) = false := beq_eq_false_iff_ne.mpr c12
       have c12b1 : (t238 != 0) = true := bne_iff_ne.mpr c12
       exact absurd (Option.some.inj H) (by rw [hr_]; decide)
     ·rw [if_neg c11] at H
      have c11b0 : (t228 == 2 && (t229 == 0)) = false := by simpa using c11
      (try (have c11b1 : decide (t228 = 2 && (t229 == 0)) = false := by simpa using c11))
      (try (have c11b2 : (t228 == 2 && (t229 == 0)) = false := by simpa using c11))
      (try (have c11b3 : ¬ (t228 = 2 && (t229 == 0)) := by simpa using c11))
      clear c11
      exact absurd (Option.some.inj H) (by rw [hr_]; decide)
    ·rw [if_neg c10] at H
     have c10b0 : (t227 == (-1)) = false := beq_eq_false_iff_ne.mpr c10
     have c10b1 : (t227 != (-1)) = true := bne_iff_ne.mpr c10
     exact absurd (Option.some.inj H) (by rw [hr_]; decide)
   ·rw [if_neg c9] at H
    have c9b0 : (t230 == 0) = false := beq_eq_false_iff_ne.mpr c9
    have c9b1 : (t230 != 0) = true := bne_iff_ne.mpr c9
    exact absurd (Option.some.inj H) (by rw [hr_]; decide)
  ·rw [if_neg c8] at H
   have c8b0 : (t220 == 12 && (t221 == 1)) = false := by simpa using c8
   (try (have c8b1 : decide (t220 = 12 && (t221 == 1)) = false := by simpa using c8))
   (try (have c8b2 : (t220 == 12 && (t221 == 1)) = false := by simpa using c8))
   (try (have c8b3 : ¬ (t220 = 12 && (t221 == 1)) := by simpa using c8))
   clear c8
   exact absurd (Option.some.inj H) (by rw [hr_]; decide)
 ·rw [if_neg c7] at H
  have c7b0 : (t222 == 0) = false := beq_eq_false_iff_ne.mpr c7
  have c7b1 : (t222 != 0) = true := bne_iff_ne.mpr c7
  exact absurd (Option.some.inj H) (by rw [hr_]; decide)
end Go.Proofs.Ytdkahcolfcmmpaa.Pr
namespace Go.Proofs.Ytdkahcolfcmmpaa.Pr
open Go.RowKit Go.Proofs.YtdkahcolfcmmpaaW.PrintWords Go.Proofs.YtdkahcolfcmmpaaW.PrintLast Go.Proofs.YtdkahcolfcmmpaaW.PrintMore
attribute [local go_sem] max2_int min2_int max_two min_two max_three min_three max_four min_four   -- for this text's walks alone
set_option linter.unusedVariables false
set_option linter.unusedSimpArgs false
def figure_tolerance_decides.l0 : Nat → List (S38) → Int → List (S38) → Int → Int → Int → Option (Bool)
 | 0, _, _, _, _, _, _ => none
 | k + 1, x1, x2, x7, x8, x445000, x445001 => if 0 ≤ x2 then (if x2 < (x1.length : Int) then (if x8 ≤ ((rd_T38 x1 x2).f1) then (if x2 < (x7.length : Int) then ((some (x7.set (x2 : Int).toNat (⟨x8, x8⟩ : S38) : List (S38))).bind fun y450 => ((figure_tolerance_judge.f x445000 x445001 y450).bind fun bt451 => (if bt451.1 = 0 then (some false) else (figure_tolerance_decides.l0 k x1 x2 y450 (wrap64 (x8 + 1)) x445000 x445001)))) else (none)) else (some true)) else (none)) else (none)
def figure_tolerance_decides.f (k : Nat) (a0_0 : Int) (a0_1 : Int) (l1 : List (S38)) (a2 : Int) : Option (Bool) := (slices_Clone_Range.f l1).bind fun t445 => (if 0 ≤ a2 then (if a2 < (l1.length : Int) then (figure_tolerance_decides.l0 k l1 a2 t445 ((rd_T38 l1 a2).f0) a0_0 a0_1) else (none)) else (none))
set_option maxHeartbeats 8000000 in
set_option maxRecDepth 100000 in
theorem figure_tolerance_decides.calls (k : Nat) (a0_0 : Int) (a0_1 : Int) (A1 : Option Addr) (c1 : Nat) (l1 : List (S38)) (a2 : Int) (r : Bool) (w : World) (hr1 : Kd.C k38 w A1 l1.length l1) (hc1 : l1.length ≤ c1) (h : figure_tolerance_decides.f k a0_0 a0_1 l1 a2 = some r) :
  Calls Try.prog 77 #[.agg #[.int .i64 a0_0, .int .i64 a0_1], .slice A1 l1.length c1, .int .i64 a2] w fun e w' => e = .returned (.bool r) ∧ Below w.heap.size w w' := by
 have hu118 := Try.underlying118
 have hu38 := Try.underlying38
 have hu48 := Try.underlying48
 have HR1 := Aside0.mk hr1
 have HC1 := Aside0.mk hc1
 clear hr1 hc1
 have HB := Aside0.mk (Below.refl w.heap.size w)
 have H : ((slices_Clone_Range.f l1).bind fun t445 => (if 0 ≤ a2 then (if a2 < (l1.length : Int) then (figure_tolerance_decides.l0 k l1 a2 t445 ((rd_T38 l1 a2).f0) a0_0 a0_1) else (none)) else (none))) = some r := h
 clear h
 replace H := Option.bind_eq_some_iff.mp H
 obtain ⟨t445, A40, H⟩ := H
 replace H : (if 0 ≤ a2 then (if a2 < (l1.length : Int) then (figure_tolerance_decides.l0 k l1 a2 t445 ((rd_T38 l1 a2).f0) a0_0 a0_1) else (none)) else (none)) = some r := H
 have A4 := Aside0.mk A40
 clear A40
 by_cases c5 : 0 ≤ a2
 ·rw [if_pos c5] at H
  have c5b0 : decide (0 ≤ a2) = true := decide_eq_true c5
  clear c5
  by_cases c6 : a2 < (l1.length : Int)
  ·rw [if_pos c6] at H
   have c6b0 : decide (a2 < (l1.length : Int)) = true := decide_eq_true c6
   clear c6
   have H' := Aside0.mk H
   clear H
   go_enter Try.func77, Try.ntmps77
   go_wp2_with (first | ((with_reducible refine gate_dst (N := 3) rfl ?_); refine box_event ?hg (N := 3) ?hd (cs := #[.int .i64 a0_0, .int .i64 a0_1]) (t := 118) ?hr ?_; (case hd => rfl); (case hg => rfl); (case hr => exact gr_); intro gb444 hg w7 hbox hb; have n0_ := Aside0.mk (below_step (hb_ HB) hb); have n1_ := Aside0.mk (hbox); have n2_ := Aside0.mk ((hz_ HB hg)); have n3_ := Aside0.mk ((hz_ HB hg)); clear HB; have HB := n0_; have BK444 := n1_; have GW444 := n2_; have GE444 := n3_; clear n0_ n1_ n2_ n3_; clear hb hbox hg) | ((with_reducible refine gate_callee (f := 112) rfl ?_); refine goesL_ (some 12) rfl rfl Try.func112 (by kernel_rfl) rfl #[.slice A1 l1.length c1] rfl ma_ ?_; (with_reducible refine (slices_Clone_Range.calls _ _ l1 t445 _ ?side1 ?side2 A4.out).mono ?_); (case side1 => repeat (first | exact (Kd.C_below HR1.out HB.out) | (with_reducible refine Kd.C_alloc ?_ _) | (with_reducible refine Kd.C_drewN ?_ _) | (with_reducible refine Kd.C_drew ?_))); (case side2 => exact HC1.out); rintro e w8 ⟨v446, rfl, ho0, hb⟩; refine ⟨_, rfl, ?_⟩; have n0_ := Aside0.mk (Kd.R_lower ho0 (below_size (hb_ HB))); have n1_ := Aside0.mk (bb_ BK444 hb); have n2_ := Aside0.mk (below_step (hb_ HB) hb); clear BK444; clear HB; have HO447 := n0_; have BK444 := n1_; have HB := n2_; clear n0_ n1_ n2_; (try clear hb); (try clear hb2); (try clear hk); (try clear hi); (try clear ho0); have p448 : 0 ≤ (a2 : Int) := of_decide_eq_true as_; have q448 : a2 < (l1.length : Int) := of_decide_eq_true as_; obtain ⟨ad448, e448, hx448_0, hx448_1⟩ := at_T38 HR1.out a2 p448 q448; cases e448; replace hx448_0 := (HB.out.cell (World.block_lt_of_cell? w _ hx448_0)).trans hx448_0; replace hx448_1 := (HB.out.cell (World.block_lt_of_cell? w _ hx448_1)).trans hx448_1; replace p448 := eq_true p448; replace q448 := eq_true q448))
   go_loopg [8] k (fun kq v8 w' => ∃ (x7_1 : List (S38)) (x8_1 : Int), v8 = .int .i64 x8_1 ∧ Aside0 (figure_tolerance_decides.l0 kq l1 a2 x7_1 x8_1 a0_0 a0_1 = some r) ∧ Aside0 (kq ≤ k) ∧ Aside0 (Kd.R k38 38 w' w.heap.size (fun _ => True) v446 x7_1) ∧ Aside0 (w'.heap[gb444]? = some (.cells #[.int .i64 a0_0, .int .i64 a0_1] 118 (0, 0))) ∧ Aside0 (Below w.heap.size w w'))
   case atStart => exact ⟨(t445), ((rd_T38 l1 a2).f0), rs_, H', ⟨Nat.le_refl _⟩, ⟨by (with_reducible repeat (first | apply Kd.R_alloc | apply Kd.R_drewN | apply Kd.R_drew)); exact HO447.out⟩, ⟨by (with_reducible repeat (first | refine blk_drewN ?_ _ | refine blk_drew ?_ | refine blk_alloc ?_ _)); exact BK444.out⟩, ⟨by repeat (first | (with_reducible first | exact HB.out | apply below_alloc | apply pw_below_drewN | apply below_drew1 | refine below_set ?_ GE444.out) | exact HB.out)⟩⟩
   case round =>
    clear H'
    try clear c1
    try clear p2
    try clear p4
    try clear q4
    try clear hx4
    try clear c5
    try clear c5b0
    try clear c6
    try clear c6b0
    try clear c7
    try clear hx448_0
    try clear hx448_1
    try clear p448
    try clear q448
    obtain ⟨x7_1, x8_1, rfl, HA, HK1, HO_7, BK444, HB⟩ := hrel
    cases gk with
    | zero => exact absurd HA.out (by simp [figure_tolerance_decides.l0])
    | succ k1 =>
     have H := HA.out
     clear HA
     simp only [figure_tolerance_decides.l0] at H
     by_cases c9 : 0 ≤ a2
     ·rw [if_pos c9] at H
      have c9b0 : decide (0 ≤ a2) = true := decide_eq_true c9
      clear c9
      by_cases c10 : a2 < (l1.length : Int)
      ·rw [if_pos c10] at H
       have c10b0 : decide (a2 < (l1.length : Int)) = true := decide_eq_true c10
       clear c10
       by_cases c11 : x8_1 ≤ ((rd_T38 l1 a2).f1)
       ·rw [if_pos c11] at H
        have c11b0 : decide (x8_1 ≤ ((rd_T38 l1 a2).f1)) = true := decide_eq_true c11
        clear c11
        by_cases c12 : a2 < (x7_1.length : Int)
        ·rw [if_pos c12] at H
         have c12b0 : decide (a2 < (x7_1.length : Int)) = true := decide_eq_true c12
         clear c12
         obtain ⟨y450, hy450⟩ : ∃ y_ : List (S38), y_ = (x7_1.set (a2 : Int).toNat (⟨x8_1, x8_1⟩ : S38)) := ⟨_, rfl⟩
         replace H : ((figure_tolerance_judge.f a0_0 a0_1 y450).bind fun bt451 => (if bt451.1 = 0 then (some false) else (figure_tolerance_decides.l0 k1 l1 a2 y450 (wrap64 (x8_1 + 1)) a0_0 a0_1))) = some r := by first | (rw [hy450]; with_reducible exact H) | (have H2_ := (Option.bind_some _ _).symm.trans H; rw [hy450]; with_reducible exact H2_) | (have H2_ := (Option.bind_some _ _).symm.trans H; with_reducible exact H2_) | with_reducible exact H | (rw [hy450]; exact H) | exact H
         have Ny450 := Aside0.mk hy450
         clear hy450
         replace H := Option.bind_eq_some_iff.mp H
         obtain ⟨⟨t451, t452, t453⟩, A140, H⟩ := H
         replace H : (if t451 = 0 then (some false) else (figure_tolerance_decides.l0 k1 l1 a2 y450 (wrap64 (x8_1 + 1)) a0_0 a0_1)) = some r := H
         have A14 := Aside0.mk A140
         clear A140
         by_cases c15 : t451 = 0
         ·rw [if_pos c15] at H
          have c15b0 : (t451 == 0) = true := beq_iff_eq.mpr c15
          have c15b1 : (t451 != 0) = false := bne_eq_false_iff_eq.mpr c15
          clear c15
          obtain rfl := Option.some.inj H
          have p449 : 0 ≤ (a2 : Int) := of_decide_eq_true as_
          have q449 : a2 < (l1.length : Int) := of_decide_eq_true as_
          obtain ⟨ad449, e449, hx449_0, hx449_1⟩ := at_T38 HR1.out a2 p449 q449
          obtain rfl : ad448 = ad449 := (by injection e449)
          replace hx449_0 := (HB.out.cell (World.block_lt_of_cell? w _ hx449_0)).trans hx449_0
          replace hx449_1 := (HB.out.cell (World.block_lt_of_cell? w _ hx449_1)).trans hx449_1
          replace p449 := eq_true p449
          replace q449 := eq_true q449
          have p13 : 0 ≤ (a2 : Int) := of_decide_eq_true as_
          have q13 : (a2 : Int) < ((x7_1.length : Int) : Int) := of_decide_eq_true as_
          obtain ⟨go13, co13, eo13, gb13, gl13, cl13, HG13⟩ := Kd.R_form HO_7.out (by omega)
          (first | cases eo13 | (injection eo13 with ea_ en_ ec_; (first | subst ea_ | (injection ea_ with ea_; subst ea_)); subst ec_; clear en_))
          have GB13 := Aside0.mk gb13
          have GG13 := Aside0.mk HG13
          clear gb13 gl13 HG13
          obtain ⟨ce13, hcl13, hM13, hcc13, hfr13⟩ := Kd.R_elem HO_7.out z38 (a2 : Int) p13 q13
          obtain rfl := k38_openM hM13
          have hx13_0 : wr.cell? ⟨go13, (a2 : Int).toNat * 2, none⟩ = some (.int .i64 ((rd_T38 x7_1 a2).f0)) := hcc13 0 _ rfl
          have hx13_1 : wr.cell? ⟨go13, (a2 : Int).toNat * 2 + 1, none⟩ = some (.int .i64 ((rd_T38 x7_1 a2).f1)) := hcc13 1 _ rfl
          have hf13_0 : wr.frozen? ⟨go13, (a2 : Int).toNat * 2, none⟩ = false := hfr13 0
          have hf13_1 : wr.frozen? ⟨go13, (a2 : Int).toNat * 2 + 1, none⟩ = false := hfr13 1
          clear hcl13 hcc13 hfr13; (try clear hM13)
          replace p13 := eq_true p13
          replace q13 := eq_true q13
          have HX16 := Aside0.mk (show Kd.R k38 38 wr w.heap.size (fun _ => True) (.slice (some ⟨go13, 0, none⟩) x7_1.length co13) x7_1 from (rk_ HO_7))
          obtain ⟨ce16, hcl16, hM16, hcc16, hfr16⟩ := Kd.R_elem HX16.out z38 (a2 : Int) (of_decide_eq_true as_) (by have h_ : (a2 : Int) < ((x7_1.length : Int) : Int) := of_decide_eq_true as_; first | exact h_ | (have e_ := (Kd.R_reads' HO_7.out).1; omega) | simpa using h_)
          obtain rfl := k38_openM hM16
          have HP16 := Kd.R_seg HX16.out (a2 : Int) (of_decide_eq_true as_) (by have h_ : (a2 : Int) < ((x7_1.length : Int) : Int) := of_decide_eq_true as_; first | exact h_ | (have e_ := (Kd.R_reads' HO_7.out).1; omega) | simpa using h_) (seg := [.int .i64 x8_1, .int .i64 x8_1]) (j := 0) hcl16 hcc16 (show 2 ≤ 2 from by decide) (x' := (⟨x8_1, x8_1⟩ : S38)) (k38_mkM _ _ _ (⟨x8_1, x8_1⟩ : S38) ) (fun _ hk => hk)
          have hx16_0 := hcc16 0 _ rfl
          (try simp only [show (k38).sz = 2 from rfl, Nat.mul_one, Nat.add_zero] at hx16_0)
          have hf16_0 := hfr16 0
          (try simp only [show (k38).sz = 2 from rfl, Nat.mul_one, Nat.add_zero] at hf16_0)
          have hx16_1 := hcc16 1 _ rfl
          (try simp only [show (k38).sz = 2 from rfl, Nat.mul_one, Nat.add_zero] at hx16_1)
          have hf16_1 := hfr16 1
          (try simp only [show (k38).sz = 2 from rfl, Nat.mul_one, Nat.add_zero] at hf16_1)
          clear hcl16 hcc16 hfr16; (try clear hM16)
          go_wp2_with (first | ((with_reducible refine gate_store (t := 38) (p := 32) rfl ?_); refine store_event (t := 38) (p := 32) (v := ?vo_w17) (w1 := ((wr.setCell ⟨go13, (a2 : Int).toNat * 2, none⟩ (.int .i64 x8_1)).setCell ⟨go13, (a2 : Int).toNat * 2 + 1, none⟩ (.int .i64 x8_1))) ?hg ?ho ?hn ?hr ?_; (case ho => rfl); (case hg => rfl); (case hn => rfl); (case hr => exact gr_); intro w17 hw; have hg : wr.grownBy w17 (some go13) := (by rw [hw]; exact HP16.2); have hp_ : Kd.R k38 38 w17 w.heap.size (fun _ => True) (.slice (some ⟨go13, 0, none⟩) x7_1.length co13) y450 := (by rw [hw, Ny450.out]; exact HP16.1); clear HP16; have n0_ := Aside0.mk (hp_); have n1_ := Aside0.mk (blk_grown (g := gb444) (o := .cells #[.int .i64 a0_0, .int .i64 a0_1] 118 (0, 0)) (bk_ BK444) hg (Kd.R_ne HO_7.out BK444.out di_)); have n2_ := Aside0.mk ((by rw [hw]; exact below_set (below_set (HB.out) GB13.out) GB13.out : Below w.heap.size w w17)); clear HO_7; clear BK444; clear HB; have HO_7 := n0_; have BK444 := n1_; have HB := n2_; clear n0_ n1_ n2_; clear hg hw hp_; have hcz18_0 : w17.cell? ⟨gb444, 0, none⟩ = some (.int .i64 a0_0) := (blk_cell BK444.out 0).trans rfl; have hcz18_1 : w17.cell? ⟨gb444, 1, none⟩ = some (.int .i64 a0_1) := (blk_cell BK444.out 1).trans rfl; have hfz18_0 := blk_frozen BK444.out 0; have hfz18_1 := blk_frozen BK444.out 1) | ((with_reducible refine gate_callee (f := 103) rfl ?_); refine goesL_ (some 36) rfl rfl Try.func103 (by kernel_rfl) rfl #[.agg #[.int .i64 a0_0, .int .i64 a0_1], .slice (some ⟨go13, 0, none⟩) y450.length co13] rfl (by (try simp only [List.map_toArray, List.map_cons, List.map_nil]); first | done | (rw [show y450.length = x7_1.length from (Kd.R_reads' HO_7.out).1.symm] <;> rfl) | rfl | (simp only [List.length_drop, List.length_take]; rfl)) ?_; (with_reducible refine (figure_tolerance_judge.calls a0_0 a0_1 _ _ y450 t451 t452 t453 _ ?side1 ?side2 A14.out).mono ?_); (case side1 => repeat (first | exact (Kd.R_reads' HO_7.out).2.2 | (with_reducible refine Kd.C_alloc ?_ _) | (with_reducible refine Kd.C_drewN ?_ _) | (with_reducible refine Kd.C_drew ?_))); (case side2 => rw [show y450.length = x7_1.length from (Kd.R_reads' HO_7.out).1.symm]; exact (Kd.R_reads' HO_7.out).2.1); rintro e w19 ⟨rfl, hb⟩; refine ⟨_, rfl, ?_⟩; have n0_ := Aside0.mk (Kd.R_below (rk_ HO_7) hb); have n1_ := Aside0.mk (bb_ BK444 hb); have n2_ := Aside0.mk (below_step (hb_ HB) hb); clear HO_7; clear BK444; clear HB; have HO_7 := n0_; have BK444 := n1_; have HB := n2_; clear n0_ n1_ n2_; (try clear hb); (try clear hb2); (try clear hk); (try clear hi)) | ((with_reducible refine gate_dst (N := 10) rfl ?_); refine box_event ?hg (N := 10) ?hd (cs := #[.int .i64 0, .int .i64 0]) (t := 48) ?hr ?_; (case hd => rfl); (case hg => rfl); (case hr => exact gr_); intro gb454 hg w20 hbox hb; have n0_ := Aside0.mk (Kd.R_below (rk_ HO_7) hb); have n1_ := Aside0.mk (bb_ BK444 hb); have n2_ := Aside0.mk (below_step (hb_ HB) hb); have n3_ := Aside0.mk (hbox); have n4_ := Aside0.mk ((hz_ HB hg)); have n5_ := Aside0.mk ((hz_ HB hg)); have n6_ := Aside0.mk ((nl_ BK444 hg)); have n7_ := Aside0.mk ((ng_ BK444 hg)); clear HO_7; clear BK444; clear HB; have HO_7 := n0_; have BK444 := n1_; have HB := n2_; have BK454 := n3_; have GW454 := n4_; have GE454 := n5_; have NB444_454 := n6_; have NB454_444 := n7_; clear n0_ n1_ n2_ n3_ n4_ n5_ n6_ n7_; clear hb hbox hg; have hnb21 := NB454_444.out; have hnc21 := NB444_454.out; have hcz22_0 : w20.cell? ⟨gb454, 0, none⟩ = some (.int .i64 0) := (blk_cell BK454.out 0).trans rfl; have hcz22_1 : w20.cell? ⟨gb454, 1, none⟩ = some (.int .i64 0) := (blk_cell BK454.out 1).trans rfl; have hfz22_0 := blk_frozen BK454.out 0; have hfz22_1 := blk_frozen BK454.out 1))
          go_ret
          exact ⟨by first | rfl | (simp [errW_none, errW_some] <;> rfl) | (simp [*, errW_none, errW_some] <;> rfl), by repeat (first | (with_reducible first | exact HB.out | apply below_alloc | apply pw_below_drewN | apply below_drew1 | refine below_set ?_ GE444.out | refine below_set ?_ GE454.out) | exact HB.out)⟩
         ·rw [if_neg c15] at H
          have c15b0 : (t451 == 0) = false := beq_eq_false_iff_ne.mpr c15
          have c15b1 : (t451 != 0) = true := bne_iff_ne.mpr c15
          have H' := Aside0.mk H
          clear H
          have p449 : 0 ≤ (a2 : Int) := of_decide_eq_true as_
          have q449 : a2 < (l1.length : Int) := of_decide_eq_true as_
          obtain ⟨ad449, e449, hx449_0, hx449_1⟩ := at_T38 HR1.out a2 p449 q449
          obtain rfl : ad448 = ad449 := (by injection e449)
          replace hx449_0 := (HB.out.cell (World.block_lt_of_cell? w _ hx449_0)).trans hx449_0
          replace hx449_1 := (HB.out.cell (World.block_lt_of_cell? w _ hx449_1)).trans hx449_1
          replace p449 := eq_true p449
          replace q449 := eq_true q449
          have p13 : 0 ≤ (a2 : Int) := of_decide_eq_true as_
          have q13 : (a2 : Int) < ((x7_1.length : Int) : Int) := of_decide_eq_true as_
          obtain ⟨go13, co13, eo13, gb13, gl13, cl13, HG13⟩ := Kd.R_form HO_7.out (by omega)
          (first | cases eo13 | (injection eo13 with ea_ en_ ec_; (first | subst ea_ | (injection ea_ with ea_; subst ea_)); subst ec_; clear en_))
          have GB13 := Aside0.mk gb13
          have GG13 := Aside0.mk HG13
          clear gb13 gl13 HG13
          obtain ⟨ce13, hcl13, hM13, hcc13, hfr13⟩ := Kd.R_elem HO_7.out z38 (a2 : Int) p13 q13
          obtain rfl := k38_openM hM13
          have hx13_0 : wr.cell? ⟨go13, (a2 : Int).toNat * 2, none⟩ = some (.int .i64 ((rd_T38 x7_1 a2).f0)) := hcc13 0 _ rfl
          have hx13_1 : wr.cell? ⟨go13, (a2 : Int).toNat * 2 + 1, none⟩ = some (.int .i64 ((rd_T38 x7_1 a2).f1)) := hcc13 1 _ rfl
          have hf13_0 : wr.frozen? ⟨go13, (a2 : Int).toNat * 2, none⟩ = false := hfr13 0
          have hf13_1 : wr.frozen? ⟨go13, (a2 : Int).toNat * 2 + 1, none⟩ = false := hfr13 1
          clear hcl13 hcc13 hfr13; (try clear hM13)
          replace p13 := eq_true p13
          replace q13 := eq_true q13
          have HX23 := Aside0.mk (show Kd.R k38 38 wr w.heap.size (fun _ => True) (.slice (some ⟨go13, 0, none⟩) x7_1.length co13) x7_1 from (rk_ HO_7))
          obtain ⟨ce23, hcl23, hM23, hcc23, hfr23⟩ := Kd.R_elem HX23.out z38 (a2 : Int) (of_decide_eq_true as_) (by have h_ : (a2 : Int) < ((x7_1.length : Int) : Int) := of_decide_eq_true as_; first | exact h_ | (have e_ := (Kd.R_reads' HO_7.out).1; omega) | simpa using h_)
          obtain rfl := k38_openM hM23
          have HP23 := Kd.R_seg HX23.out (a2 : Int) (of_decide_eq_true as_) (by have h_ : (a2 : Int) < ((x7_1.length : Int) : Int) := of_decide_eq_true as_; first | exact h_ | (have e_ := (Kd.R_reads' HO_7.out).1; omega) | simpa using h_) (seg := [.int .i64 x8_1, .int .i64 x8_1]) (j := 0) hcl23 hcc23 (show 2 ≤ 2 from by decide) (x' := (⟨x8_1, x8_1⟩ : S38)) (k38_mkM _ _ _ (⟨x8_1, x8_1⟩ : S38) ) (fun _ hk => hk)
          have hx23_0 := hcc23 0 _ rfl
          (try simp only [show (k38).sz = 2 from rfl, Nat.mul_one, Nat.add_zero] at hx23_0)
          have hf23_0 := hfr23 0
          (try simp only [show (k38).sz = 2 from rfl, Nat.mul_one, Nat.add_zero] at hf23_0)
          have hx23_1 := hcc23 1 _ rfl
          (try simp only [show (k38).sz = 2 from rfl, Nat.mul_one, Nat.add_zero] at hx23_1)
          have hf23_1 := hfr23 1
          (try simp only [show (k38).sz = 2 from rfl, Nat.mul_one, Nat.add_zero] at hf23_1)
          clear hcl23 hcc23 hfr23; (try clear hM23)
          go_wp2_with (first | ((with_reducible refine gate_store (t := 38) (p := 32) rfl ?_); refine store_event (t := 38) (p := 32) (v := ?vo_w24) (w1 := ((wr.setCell ⟨go13, (a2 : Int).toNat * 2, none⟩ (.int .i64 x8_1)).setCell ⟨go13, (a2 : Int).toNat * 2 + 1, none⟩ (.int .i64 x8_1))) ?hg ?ho ?hn ?hr ?_; (case ho => rfl); (case hg => rfl); (case hn => rfl); (case hr => exact gr_); intro w24 hw; have hg : wr.grownBy w24 (some go13) := (by rw [hw]; exact HP23.2); have hp_ : Kd.R k38 38 w24 w.heap.size (fun _ => True) (.slice (some ⟨go13, 0, none⟩) x7_1.length co13) y450 := (by rw [hw, Ny450.out]; exact HP23.1); clear HP23; have n0_ := Aside0.mk (hp_); have n1_ := Aside0.mk (blk_grown (g := gb444) (o := .cells #[.int .i64 a0_0, .int .i64 a0_1] 118 (0, 0)) (bk_ BK444) hg (Kd.R_ne HO_7.out BK444.out di_)); have n2_ := Aside0.mk ((by rw [hw]; exact below_set (below_set (HB.out) GB13.out) GB13.out : Below w.heap.size w w24)); clear HO_7; clear BK444; clear HB; have HO_7 := n0_; have BK444 := n1_; have HB := n2_; clear n0_ n1_ n2_; clear hg hw hp_; have hcz25_0 : w24.cell? ⟨gb444, 0, none⟩ = some (.int .i64 a0_0) := (blk_cell BK444.out 0).trans rfl; have hcz25_1 : w24.cell? ⟨gb444, 1, none⟩ = some (.int .i64 a0_1) := (blk_cell BK444.out 1).trans rfl; have hfz25_0 := blk_frozen BK444.out 0; have hfz25_1 := blk_frozen BK444.out 1) | ((with_reducible refine gate_callee (f := 103) rfl ?_); refine goesL_ (some 36) rfl rfl Try.func103 (by kernel_rfl) rfl #[.agg #[.int .i64 a0_0, .int .i64 a0_1], .slice (some ⟨go13, 0, none⟩) y450.length co13] rfl (by (try simp only [List.map_toArray, List.map_cons, List.map_nil]); first | done | (rw [show y450.length = x7_1.length from (Kd.R_reads' HO_7.out).1.symm] <;> rfl) | rfl | (simp only [List.length_drop, List.length_take]; rfl)) ?_; (with_reducible refine (figure_tolerance_judge.calls a0_0 a0_1 _ _ y450 t451 t452 t453 _ ?side1 ?side2 A14.out).mono ?_); (case side1 => repeat (first | exact (Kd.R_reads' HO_7.out).2.2 | (with_reducible refine Kd.C_alloc ?_ _) | (with_reducible refine Kd.C_drewN ?_ _) | (with_reducible refine Kd.C_drew ?_))); (case side2 => rw [show y450.length = x7_1.length from (Kd.R_reads' HO_7.out).1.symm]; exact (Kd.R_reads' HO_7.out).2.1); rintro e w26 ⟨rfl, hb⟩; refine ⟨_, rfl, ?_⟩; have n0_ := Aside0.mk (Kd.R_below (rk_ HO_7) hb); have n1_ := Aside0.mk (bb_ BK444 hb); have n2_ := Aside0.mk (below_step (hb_ HB) hb); clear HO_7; clear BK444; clear HB; have HO_7 := n0_; have BK444 := n1_; have HB := n2_; clear n0_ n1_ n2_; (try clear hb); (try clear hb2); (try clear hk); (try clear hi)) | ((with_reducible refine gate_dst (N := 10) rfl ?_); refine box_event ?hg (N := 10) ?hd (cs := #[.int .i64 0, .int .i64 0]) (t := 48) ?hr ?_; (case hd => rfl); (case hg => rfl); (case hr => exact gr_); intro gb454 hg w27 hbox hb; have n0_ := Aside0.mk (Kd.R_below (rk_ HO_7) hb); have n1_ := Aside0.mk (bb_ BK444 hb); have n2_ := Aside0.mk (below_step (hb_ HB) hb); have n3_ := Aside0.mk (hbox); have n4_ := Aside0.mk ((hz_ HB hg)); have n5_ := Aside0.mk ((hz_ HB hg)); have n6_ := Aside0.mk ((nl_ BK444 hg)); have n7_ := Aside0.mk ((ng_ BK444 hg)); clear HO_7; clear BK444; clear HB; have HO_7 := n0_; have BK444 := n1_; have HB := n2_; have BK454 := n3_; have GW454 := n4_; have GE454 := n5_; have NB444_454 := n6_; have NB454_444 := n7_; clear n0_ n1_ n2_ n3_ n4_ n5_ n6_ n7_; clear hb hbox hg; have hnb28 := NB454_444.out; have hnc28 := NB444_454.out; have hcz29_0 : w27.cell? ⟨gb454, 0, none⟩ = some (.int .i64 0) := (blk_cell BK454.out 0).trans rfl; have hcz29_1 : w27.cell? ⟨gb454, 1, none⟩ = some (.int .i64 0) := (blk_cell BK454.out 1).trans rfl; have hfz29_0 := blk_frozen BK454.out 0; have hfz29_1 := blk_frozen BK454.out 1))
          go_roundg k1
          case measure => have := HK1.out; omega
          case rel => exact ⟨(y450), (wrap64 (x8_1 + 1)), rs_, H', ⟨by have := HK1.out; omega⟩, ⟨by (with_reducible repeat (first | apply Kd.R_alloc | apply Kd.R_drewN | apply Kd.R_drew)); exact Kd.R_mono (Kd.R_far (p := ⟨gb454, 1, none⟩) (Kd.R_far (p := ⟨gb454, 0, none⟩) (Kd.R_types HO_7.out BK454.out di_) (fun _ hk => hk.2) (.int .i64 t452)) (fun _ hk => hk.2) (.int .i64 t453)) (fun _ hk => trivial)⟩, ⟨by (with_reducible repeat (first | refine blk_drewN ?_ _ | refine blk_drew ?_ | refine blk_alloc ?_ _)); refine blk_far ?_ NB444_454.out _; (with_reducible repeat (first | refine blk_drewN ?_ _ | refine blk_drew ?_ | refine blk_alloc ?_ _)); refine blk_far ?_ NB444_454.out _; (with_reducible repeat (first | refine blk_drewN ?_ _ | refine blk_drew ?_ | refine blk_alloc ?_ _)); exact BK444.out⟩, ⟨by repeat (first | (with_reducible first | exact HB.out | apply below_alloc | apply pw_below_drewN | apply below_drew1 | refine below_set ?_ GE444.out | refine below_set ?_ GE454.out) | exact HB.out)⟩⟩
        ·rw [if_neg c12] at H
         exact absurd H (by simp)
       ·rw [if_neg c11] at H
        have c11b0 : decide (x8_1 ≤ ((rd_T38 l1 a2).f1)) = false := decide_eq_false c11
        clear c11
        obtain rfl := Option.some.inj H
        have p449 : 0 ≤ (a2 : Int) := of_decide_eq_true as_
        have q449 : a2 < (l1.length : Int) := of_decide_eq_true as_
        obtain ⟨ad449, e449, hx449_0, hx449_1⟩ := at_T38 HR1.out a2 p449 q449
        obtain rfl : ad448 = ad449 := (by injection e449)
        replace hx449_0 := (HB.out.cell (World.block_lt_of_cell? w _ hx449_0)).trans hx449_0
        replace hx449_1 := (HB.out.cell (World.block_lt_of_cell? w _ hx449_1)).trans hx449_1
        replace p449 := eq_true p449
        replace q449 := eq_true q449
        go_wp2
        go_ret
        exact ⟨by first | rfl | (simp [errW_none, errW_some] <;> rfl) | (simp [*, errW_none, errW_some] <;> rfl), by repeat (first | (with_reducible first | exact HB.out | apply below_alloc | apply pw_below_drewN | apply below_drew1 | refine below_set ?_ GE444.out) | exact HB.out)⟩
      ·rw [if_neg c10] at H
       exact absurd H (by simp)
     ·rw [if_neg c9] at H
      exact absurd H (by simp)
  ·rw [if_neg c6] at H
   exact absurd H (by simp)
 ·rw [if_neg c5] at H
  exact absurd H (by simp)
end Go.Proofs.Ytdkahcolfcmmpaa.Pr
namespace Go.Proofs.Ytdkahcolfcmmpaa.Pr
open Go.RowKit Go.Proofs.YtdkahcolfcmmpaaW.PrintWords Go.Proofs.YtdkahcolfcmmpaaW.PrintLast Go.Proofs.YtdkahcolfcmmpaaW.PrintMore
attribute [local go_sem] max2_int min2_int max_two min_two max_three min_three max_four min_four   -- for this text's walks alone
set_option linter.unusedVariables false
set_option linter.unusedSimpArgs false
def figure_Deciding.l0 : Nat → List (S38) → Int → Int → Int → Int → Option (Int × Int)
 | 0, _, _, _, _, _ => none
 | k + 1, x0, x28, x29, x459000, x459001 => if x29 < x28 then ((figure_tolerance_decides.f k x459000 x459001 x0 x29).bind fun t465 => (if t465 = true then (some (x29, 0)) else (figure_Deciding.l0 k x0 x28 (wrap64 (x29 + 1)) x459000 x459001))) else (some (0, 12))
def figure_Deciding.f (k : Nat) (l0 : List (S38)) (a1_0 : Int) (a1_1 : Int) : Option (Int × Int) := (figure_Judge.f k l0 a1_0 a1_1).bind fun bt459 => (if bt459.2.2.2 = 0 then (if bt459.1 = 0 then ((api_Range_75__figure_Deciding_1.f k l0).bind fun t464 => (if t464 = true then (some (0, 8)) else (figure_Deciding.l0 k l0 (l0.length : Int) 0 a1_0 a1_1))) else (some (0, 24))) else (some (0, bt459.2.2.2)))
set_option maxHeartbeats 8000000 in
set_option maxRecDepth 100000 in
theorem figure_Deciding.calls (k : Nat) (A0 : Option Addr) (c0 : Nat) (l0 : List (S38)) (a1_0 : Int) (a1_1 : Int) (r1 : Int) (r2 : Int) (w : World) (hr0 : Kd.C k38 w A0 l0.length l0) (hc0 : l0.length ≤ c0) (h : figure_Deciding.f k l0 a1_0 a1_1 = some (r1, r2)) :
  Calls Try.prog 35 #[.slice A0 l0.length c0, .agg #[.int .i64 a1_0, .int .i64 a1_1]] w fun e w' => e = .returned (.tuple #[.int .i64 r1, .int .i64 r2]) ∧ Below w.heap.size w w' := by
 have hu59 := Try.underlying59
 have hu48 := Try.underlying48
 have hu118 := Try.underlying118
 have HR0 := Aside0.mk hr0
 have HC0 := Aside0.mk hc0
 clear hr0 hc0
 have HB := Aside0.mk (Below.refl w.heap.size w)
 have H : ((figure_Judge.f k l0 a1_0 a1_1).bind fun bt459 => (if bt459.2.2.2 = 0 then (if bt459.1 = 0 then ((api_Range_75__figure_Deciding_1.f k l0).bind fun t464 => (if t464 = true then (some (0, 8)) else (figure_Deciding.l0 k l0 (l0.length : Int) 0 a1_0 a1_1))) else (some (0, 24))) else (some (0, bt459.2.2.2)))) = some (r1, r2) := h
 clear h
 replace H := Option.bind_eq_some_iff.mp H
 obtain ⟨⟨t459, t460, t461, t462⟩, A30, H⟩ := H
 replace H : (if t462 = 0 then (if t459 = 0 then ((api_Range_75__figure_Deciding_1.f k l0).bind fun t464 => (if t464 = true then (some (0, 8)) else (figure_Deciding.l0 k l0 (l0.length : Int) 0 a1_0 a1_1))) else (some (0, 24))) else (some (0, t462))) = some (r1, r2) := H
 have A3 := Aside0.mk A30
 clear A30
 by_cases c4 : t462 = 0
 ·rw [if_pos c4] at H
  have c4b0 : (t462 == 0) = true := beq_iff_eq.mpr c4
  have c4b1 : (t462 != 0) = false := bne_eq_false_iff_eq.mpr c4
  clear c4
  by_cases c5 : t459 = 0
  ·rw [if_pos c5] at H
   have c5b0 : (t459 == 0) = true := beq_iff_eq.mpr c5
   have c5b1 : (t459 != 0) = false := bne_eq_false_iff_eq.mpr c5
   clear c5
   replace H := Option.bind_eq_some_iff.mp H
   obtain ⟨t464, A60, H⟩ := H
   replace H : (if t464 = true then (some (0, 8)) else (figure_Deciding.l0 k l0 (l0.length : Int) 0 a1_0 a1_1)) = some (r1, r2) := H
   have A6 := Aside0.mk A60
   clear A60
   by_cases c7 : t464 = true
   ·subst c7
    have H1 : (some (0, 8)) = some (r1, r2) := by rw [if_pos rfl] at H; exact H
    clear H
    have H := H1
    clear H1
    simp only [Option.some.injEq, Prod.mk.injEq] at H
    obtain ⟨rfl, rfl⟩ := H
    go_enter Try.func35, Try.ntmps35
    go_wp2_with (first | ((with_reducible refine gate_dst (N := 3) rfl ?_); refine box_event ?hg (N := 3) ?hd (cs := #[.int .i64 a1_0, .int .i64 a1_1]) (t := 59) ?hr ?_; (case hd => rfl); (case hg => rfl); (case hr => exact gr_); intro gb458 hg w8 hbox hb; have n0_ := Aside0.mk (below_step (hb_ HB) hb); have n1_ := Aside0.mk (hbox); have n2_ := Aside0.mk ((hz_ HB hg)); have n3_ := Aside0.mk ((hz_ HB hg)); clear HB; have HB := n0_; have BK458 := n1_; have GW458 := n2_; have GE458 := n3_; clear n0_ n1_ n2_ n3_; clear hb hbox hg; have hcz9_0 : w8.cell? ⟨gb458, 0, none⟩ = some (.int .i64 a1_0) := (blk_cell BK458.out 0).trans rfl; have hcz9_1 : w8.cell? ⟨gb458, 1, none⟩ = some (.int .i64 a1_1) := (blk_cell BK458.out 1).trans rfl; have hfz9_0 := blk_frozen BK458.out 0; have hfz9_1 := blk_frozen BK458.out 1) | ((with_reducible refine gate_callee (f := 59) rfl ?_); refine goesL_ (some 13) rfl rfl Try.func59 (by kernel_rfl) rfl #[.slice A0 l0.length c0, .agg #[.int .i64 a1_0, .int .i64 a1_1]] rfl ma_ ?_; (with_reducible refine (figure_Judge.calls k _ _ l0 a1_0 a1_1 t459 t460 t461 t462 _ ?side1 ?side2 A3.out).mono ?_); (case side1 => repeat (first | exact (Kd.C_below HR0.out HB.out) | (with_reducible refine Kd.C_alloc ?_ _) | (with_reducible refine Kd.C_drewN ?_ _) | (with_reducible refine Kd.C_drew ?_))); (case side2 => exact HC0.out); rintro e w10 ⟨rfl, hb⟩; refine ⟨_, rfl, ?_⟩; have n0_ := Aside0.mk (bb_ BK458 hb); have n1_ := Aside0.mk (below_step (hb_ HB) hb); clear BK458; clear HB; have BK458 := n0_; have HB := n1_; clear n0_ n1_; (try clear hb); (try clear hb2); (try clear hk); (try clear hi)) | ((with_reducible refine gate_dst (N := 7) rfl ?_); refine box_event ?hg (N := 7) ?hd (cs := #[.int .i64 0, .int .i64 0]) (t := 48) ?hr ?_; (case hd => rfl); (case hg => rfl); (case hr => exact gr_); intro gb463 hg w11 hbox hb; have n0_ := Aside0.mk (bb_ BK458 hb); have n1_ := Aside0.mk (below_step (hb_ HB) hb); have n2_ := Aside0.mk (hbox); have n3_ := Aside0.mk ((hz_ HB hg)); have n4_ := Aside0.mk ((hz_ HB hg)); have n5_ := Aside0.mk ((nl_ BK458 hg)); have n6_ := Aside0.mk ((ng_ BK458 hg)); clear BK458; clear HB; have BK458 := n0_; have HB := n1_; have BK463 := n2_; have GW463 := n3_; have GE463 := n4_; have NB458_463 := n5_; have NB463_458 := n6_; clear n0_ n1_ n2_ n3_ n4_ n5_ n6_; clear hb hbox hg; have hnb12 := NB463_458.out; have hnc12 := NB458_463.out; have hcz13_0 : w11.cell? ⟨gb463, 0, none⟩ = some (.int .i64 0) := (blk_cell BK463.out 0).trans rfl; have hcz13_1 : w11.cell? ⟨gb463, 1, none⟩ = some (.int .i64 0) := (blk_cell BK463.out 1).trans rfl; have hfz13_0 := blk_frozen BK463.out 0; have hfz13_1 := blk_frozen BK463.out 1) | ((with_reducible refine gate_callee (f := 75) rfl ?_); refine goesL_ (some 26) rfl rfl Try.func75 (by kernel_rfl) rfl #[.slice A0 l0.length c0, .func (.func 76) #[] #[]] rfl ma_ ?_; (with_reducible refine (api_Range_75__figure_Deciding_1.calls k _ _ l0  true _ ?side1 ?side2 A6.out).mono ?_); (case side1 => exact Kd.C_below HR0.out (hb_ HB)); (case side2 => exact HC0.out); rintro e w14 ⟨rfl, hb⟩; refine ⟨_, rfl, ?_⟩; have n0_ := Aside0.mk (blk_below (g := gb458) (o := .cells #[.int .i64 a1_0, .int .i64 a1_1] 59 (0, 0)) (by (with_reducible repeat (first | refine blk_drewN ?_ _ | refine blk_drew ?_ | refine blk_alloc ?_ _)); refine blk_far ?_ NB458_463.out _; (with_reducible repeat (first | refine blk_drewN ?_ _ | refine blk_drew ?_ | refine blk_alloc ?_ _)); refine blk_far ?_ NB458_463.out _; (with_reducible repeat (first | refine blk_drewN ?_ _ | refine blk_drew ?_ | refine blk_alloc ?_ _)); exact BK458.out) hb); have n1_ := Aside0.mk (blk_below (g := gb463) (o := .cells #[.int .i64 t460, .int .i64 t461] 48 (0, 0)) (by (with_reducible repeat (first | refine blk_drewN ?_ _ | refine blk_drew ?_ | refine blk_alloc ?_ _)); refine blk_put (cs := #[.int .i64 t460, .int .i64 0]) ?_ 1 _ rfl; (with_reducible repeat (first | refine blk_drewN ?_ _ | refine blk_drew ?_ | refine blk_alloc ?_ _)); refine blk_put (cs := #[.int .i64 0, .int .i64 0]) ?_ 0 _ rfl; (with_reducible repeat (first | refine blk_drewN ?_ _ | refine blk_drew ?_ | refine blk_alloc ?_ _)); exact BK463.out) hb); have n2_ := Aside0.mk (below_step (hb_ HB) hb); clear BK458; clear BK463; clear HB; have BK458 := n0_; have BK463 := n1_; have HB := n2_; clear n0_ n1_ n2_; (try clear hb); (try clear hb2); (try clear hk); (try clear hi)))
    go_ret2
    exact ⟨by first | rfl | (simp [errW_none, errW_some] <;> rfl) | (simp [*, errW_none, errW_some] <;> rfl), by repeat (first | (with_reducible first | exact HB.out | apply below_alloc | apply pw_below_drewN | apply below_drew1 | refine below_set ?_ GE458.out | refine below_set ?_ GE463.out) | exact HB.out)⟩
   ·replace c7 := Bool.eq_false_iff.mpr c7
    subst c7
    have H1 : (figure_Deciding.l0 k l0 (l0.length : Int) 0 a1_0 a1_1) = some (r1, r2) := by rw [if_neg (show ¬ (false = true) by decide)] at H; exact H
    clear H
    have H := H1
    clear H1
    have H' := Aside0.mk H
    clear H
    go_enter Try.func35, Try.ntmps35
    go_wp2_with (first | ((with_reducible refine gate_dst (N := 3) rfl ?_); refine box_event ?hg (N := 3) ?hd (cs := #[.int .i64 a1_0, .int .i64 a1_1]) (t := 59) ?hr ?_; (case hd => rfl); (case hg => rfl); (case hr => exact gr_); intro gb458 hg w15 hbox hb; have n0_ := Aside0.mk (below_step (hb_ HB) hb); have n1_ := Aside0.mk (hbox); have n2_ := Aside0.mk ((hz_ HB hg)); have n3_ := Aside0.mk ((hz_ HB hg)); clear HB; have HB := n0_; have BK458 := n1_; have GW458 := n2_; have GE458 := n3_; clear n0_ n1_ n2_ n3_; clear hb hbox hg; have hcz16_0 : w15.cell? ⟨gb458, 0, none⟩ = some (.int .i64 a1_0) := (blk_cell BK458.out 0).trans rfl; have hcz16_1 : w15.cell? ⟨gb458, 1, none⟩ = some (.int .i64 a1_1) := (blk_cell BK458.out 1).trans rfl; have hfz16_0 := blk_frozen BK458.out 0; have hfz16_1 := blk_frozen BK458.out 1) | ((with_reducible refine gate_callee (f := 59) rfl ?_); refine goesL_ (some 13) rfl rfl Try.func59 (by kernel_rfl) rfl #[.slice A0 l0.length c0, .agg #[.int .i64 a1_0, .int .i64 a1_1]] rfl ma_ ?_; (with_reducible refine (figure_Judge.calls k _ _ l0 a1_0 a1_1 t459 t460 t461 t462 _ ?side1 ?side2 A3.out).mono ?_); (case side1 => repeat (first | exact (Kd.C_below HR0.out HB.out) | (with_reducible refine Kd.C_alloc ?_ _) | (with_reducible refine Kd.C_drewN ?_ _) | (with_reducible refine Kd.C_drew ?_))); (case side2 => exact HC0.out); rintro e w17 ⟨rfl, hb⟩; refine ⟨_, rfl, ?_⟩; have n0_ := Aside0.mk (bb_ BK458 hb); have n1_ := Aside0.mk (below_step (hb_ HB) hb); clear BK458; clear HB; have BK458 := n0_; have HB := n1_; clear n0_ n1_; (try clear hb); (try clear hb2); (try clear hk); (try clear hi)) | ((with_reducible refine gate_dst (N := 7) rfl ?_); refine box_event ?hg (N := 7) ?hd (cs := #[.int .i64 0, .int .i64 0]) (t := 48) ?hr ?_; (case hd => rfl); (case hg => rfl); (case hr => exact gr_); intro gb463 hg w18 hbox hb; have n0_ := Aside0.mk (bb_ BK458 hb); have n1_ := Aside0.mk (below_step (hb_ HB) hb); have n2_ := Aside0.mk (hbox); have n3_ := Aside0.mk ((hz_ HB hg)); have n4_ := Aside0.mk ((hz_ HB hg)); have n5_ := Aside0.mk ((nl_ BK458 hg)); have n6_ := Aside0.mk ((ng_ BK458 hg)); clear BK458; clear HB; have BK458 := n0_; have HB := n1_; have BK463 := n2_; have GW463 := n3_; have GE463 := n4_; have NB458_463 := n5_; have NB463_458 := n6_; clear n0_ n1_ n2_ n3_ n4_ n5_ n6_; clear hb hbox hg; have hnb19 := NB463_458.out; have hnc19 := NB458_463.out; have hcz20_0 : w18.cell? ⟨gb463, 0, none⟩ = some (.int .i64 0) := (blk_cell BK463.out 0).trans rfl; have hcz20_1 : w18.cell? ⟨gb463, 1, none⟩ = some (.int .i64 0) := (blk_cell BK463.out 1).trans rfl; have hfz20_0 := blk_frozen BK463.out 0; have hfz20_1 := blk_frozen BK463.out 1) | ((with_reducible refine gate_callee (f := 75) rfl ?_); refine goesL_ (some 26) rfl rfl Try.func75 (by kernel_rfl) rfl #[.slice A0 l0.length c0, .func (.func 76) #[] #[]] rfl ma_ ?_; (with_reducible refine (api_Range_75__figure_Deciding_1.calls k _ _ l0  false _ ?side1 ?side2 A6.out).mono ?_); (case side1 => exact Kd.C_below HR0.out (hb_ HB)); (case side2 => exact HC0.out); rintro e w21 ⟨rfl, hb⟩; refine ⟨_, rfl, ?_⟩; have n0_ := Aside0.mk (blk_below (g := gb458) (o := .cells #[.int .i64 a1_0, .int .i64 a1_1] 59 (0, 0)) (by (with_reducible repeat (first | refine blk_drewN ?_ _ | refine blk_drew ?_ | refine blk_alloc ?_ _)); refine blk_far ?_ NB458_463.out _; (with_reducible repeat (first | refine blk_drewN ?_ _ | refine blk_drew ?_ | refine blk_alloc ?_ _)); refine blk_far ?_ NB458_463.out _; (with_reducible repeat (first | refine blk_drewN ?_ _ | refine blk_drew ?_ | refine blk_alloc ?_ _)); exact BK458.out) hb); have n1_ := Aside0.mk (blk_below (g := gb463) (o := .cells #[.int .i64 t460, .int .i64 t461] 48 (0, 0)) (by (with_reducible repeat (first | refine blk_drewN ?_ _ | refine blk_drew ?_ | refine blk_alloc ?_ _)); refine blk_put (cs := #[.int .i64 t460, .int .i64 0]) ?_ 1 _ rfl; (with_reducible repeat (first | refine blk_drewN ?_ _ | refine blk_drew ?_ | refine blk_alloc ?_ _)); refine blk_put (cs := #[.int .i64 0, .int .i64 0]) ?_ 0 _ rfl; (with_reducible repeat (first | refine blk_drewN ?_ _ | refine blk_drew ?_ | refine blk_alloc ?_ _)); exact BK463.out) hb); have n2_ := Aside0.mk (below_step (hb_ HB) hb); clear BK458; clear BK463; clear HB; have BK458 := n0_; have BK463 := n1_; have HB := n2_; clear n0_ n1_ n2_; (try clear hb); (try clear hb2); (try clear hk); (try clear hi)))
    go_loopg [29] k (fun kq v29 w' => ∃ (x29_1 : Int), v29 = .int .i64 x29_1 ∧ Aside0 (figure_Deciding.l0 kq l0 (l0.length : Int) x29_1 a1_0 a1_1 = some (r1, r2)) ∧ Aside0 (kq ≤ k) ∧ Aside0 (w'.heap[gb458]? = some (.cells #[.int .i64 a1_0, .int .i64 a1_1] 59 (0, 0))) ∧ Aside0 (w'.heap[gb463]? = some (.cells #[.int .i64 t460, .int .i64 t461] 48 (0, 0))) ∧ Aside0 (Below w.heap.size w w'))
    case atStart => exact ⟨(0), rs_, H', ⟨Nat.le_refl _⟩, ⟨by (with_reducible repeat (first | refine blk_drewN ?_ _ | refine blk_drew ?_ | refine blk_alloc ?_ _)); exact BK458.out⟩, ⟨by (with_reducible repeat (first | refine blk_drewN ?_ _ | refine blk_drew ?_ | refine blk_alloc ?_ _)); exact BK463.out⟩, ⟨by repeat (first | (with_reducible first | exact HB.out | apply below_alloc | apply pw_below_drewN | apply below_drew1 | refine below_set ?_ GE458.out | refine below_set ?_ GE463.out) | exact HB.out)⟩⟩
    case round =>
     clear H'
     try clear c1
     try clear p2
     try clear c3
     try clear c4
     try clear c4b0
     try clear c4b1
     try clear c5
     try clear c5b0
     try clear c5b1
     try clear c7
     try clear c12
     try clear c19
     try clear hcz13_0
     try clear hcz13_1
     try clear hcz16_0
     try clear hcz16_1
     try clear hcz20_0
     try clear hcz20_1
     try clear hcz9_0
     try clear hcz9_1
     try clear hfz13_0
     try clear hfz13_1
     try clear hfz16_0
     try clear hfz16_1
     try clear hfz20_0
     try clear hfz20_1
     try clear hfz9_0
     try clear hfz9_1
     obtain ⟨x29_1, rfl, HA, HK1, BK458, BK463, HB⟩ := hrel
     cases gk with
     | zero => exact absurd HA.out (by simp [figure_Deciding.l0])
     | succ k1 =>
      have H := HA.out
      clear HA
      simp only [figure_Deciding.l0] at H
      by_cases c22 : x29_1 < (l0.length : Int)
      ·rw [if_pos c22] at H
       have c22b0 : decide (x29_1 < (l0.length : Int)) = true := decide_eq_true c22
       clear c22
       replace H := Option.bind_eq_some_iff.mp H
       obtain ⟨t465, A230, H⟩ := H
       replace H : (if t465 = true then (some (x29_1, 0)) else (figure_Deciding.l0 k1 l0 (l0.length : Int) (wrap64 (x29_1 + 1)) a1_0 a1_1)) = some (r1, r2) := H
       have A23 := Aside0.mk A230
       clear A230
       by_cases c24 : t465 = true
       ·subst c24
        have H1 : (some (x29_1, 0)) = some (r1, r2) := by rw [if_pos rfl] at H; exact H
        clear H
        have H := H1
        clear H1
        simp only [Option.some.injEq, Prod.mk.injEq] at H
        obtain ⟨rfl, rfl⟩ := H
        have hnb25 := NB458_463.out
        have hnc25 := NB463_458.out
        have hcz26_0 : wr.cell? ⟨gb458, 0, none⟩ = some (.int .i64 a1_0) := (blk_cell BK458.out 0).trans rfl
        have hcz26_1 : wr.cell? ⟨gb458, 1, none⟩ = some (.int .i64 a1_1) := (blk_cell BK458.out 1).trans rfl
        have hfz26_0 := blk_frozen BK458.out 0
        have hfz26_1 := blk_frozen BK458.out 1
        go_wp2_with (first | ((with_reducible refine gate_callee (f := 77) rfl ?_); refine goesL_ (some 36) rfl rfl Try.func77 (by kernel_rfl) rfl #[.agg #[.int .i64 a1_0, .int .i64 a1_1], .slice A0 l0.length c0, .int .i64 x29_1] rfl ma_ ?_; (with_reducible refine (figure_tolerance_decides.calls k1 a1_0 a1_1 _ _ l0 x29_1 true _ ?side1 ?side2 A23.out).mono ?_); (case side1 => repeat (first | exact (Kd.C_below HR0.out HB.out) | (with_reducible refine Kd.C_alloc ?_ _) | (with_reducible refine Kd.C_drewN ?_ _) | (with_reducible refine Kd.C_drew ?_))); (case side2 => exact HC0.out); rintro e w27 ⟨rfl, hb⟩; refine ⟨_, rfl, ?_⟩; have n0_ := Aside0.mk (bb_ BK458 hb); have n1_ := Aside0.mk (bb_ BK463 hb); have n2_ := Aside0.mk (below_step (hb_ HB) hb); clear BK458; clear BK463; clear HB; have BK458 := n0_; have BK463 := n1_; have HB := n2_; clear n0_ n1_ n2_; (try clear hb); (try clear hb2); (try clear hk); (try clear hi)))
        go_ret2
        exact ⟨by first | rfl | (simp [errW_none, errW_some] <;> rfl) | (simp [*, errW_none, errW_some] <;> rfl), by repeat (first | (with_reducible first | exact HB.out | apply below_alloc | apply pw_below_drewN | apply below_drew1 | refine below_set ?_ GE458.out | refine below_set ?_ GE463.out) | exact HB.out)⟩
       ·replace c24 := Bool.eq_false_iff.mpr c24
        subst c24
        have H1 : (figure_Deciding.l0 k1 l0 (l0.length : Int) (wrap64 (x29_1 + 1)) a1_0 a1_1) = some (r1, r2) := by rw [if_neg (show ¬ (false = true) by decide)] at H; exact H
        clear H
        have H := H1
        clear H1
        have H' := Aside0.mk H
        clear H
        have hnb28 := NB458_463.out
        have hnc28 := NB463_458.out
        have hcz29_0 : wr.cell? ⟨gb458, 0, none⟩ = some (.int .i64 a1_0) := (blk_cell BK458.out 0).trans rfl
        have hcz29_1 : wr.cell? ⟨gb458, 1, none⟩ = some (.int .i64 a1_1) := (blk_cell BK458.out 1).trans rfl
        have hfz29_0 := blk_frozen BK458.out 0
        have hfz29_1 := blk_frozen BK458.out 1
        go_wp2_with (first | ((with_reducible refine gate_callee (f := 77) rfl ?_); refine goesL_ (some 36) rfl rfl Try.func77 (by kernel_rfl) rfl #[.agg #[.int .i64 a1_0, .int .i64 a1_1], .slice A0 l0.length c0, .int .i64 x29_1] rfl ma_ ?_; (with_reducible refine (figure_tolerance_decides.calls k1 a1_0 a1_1 _ _ l0 x29_1 false _ ?side1 ?side2 A23.out).mono ?_); (case side1 => repeat (first | exact (Kd.C_below HR0.out HB.out) | (with_reducible refine Kd.C_alloc ?_ _) | (with_reducible refine Kd.C_drewN ?_ _) | (with_reducible refine Kd.C_drew ?_))); (case side2 => exact HC0.out); rintro e w30 ⟨rfl, hb⟩; refine ⟨_, rfl, ?_⟩; have n0_ := Aside0.mk (bb_ BK458 hb); have n1_ := Aside0.mk (bb_ BK463 hb); have n2_ := Aside0.mk (below_step (hb_ HB) hb); clear BK458; clear BK463; clear HB; have BK458 := n0_; have BK463 := n1_; have HB := n2_; clear n0_ n1_ n2_; (try clear hb); (try clear hb2); (try clear hk); (try clear hi)))
        go_roundg k1
        case measure => have := HK1.out; omega
        case rel => exact ⟨(wrap64 (x29_1 + 1)), rs_, H', ⟨by have := HK1.out; omega⟩, ⟨by (with_reducible repeat (first | refine blk_drewN ?_ _ | refine blk_drew ?_ | refine blk_alloc ?_ _)); exact BK458.out⟩, ⟨by (with_reducible repeat (first | refine blk_drewN ?_ _ | refine blk_drew ?_ | refine blk_alloc ?_ _)); exact BK463.out⟩, ⟨by repeat (first | (with_reducible first | exact HB.out | apply below_alloc | apply pw_below_drewN | apply below_drew1 | refine below_set ?_ GE458.out | refine below_set ?_ GE463.out) | exact HB.out)⟩⟩
      ·rw [if_neg c22] at H
       have c22b0 : decide (x29_1 < (l0.length : Int)) = false := decide_eq_false c22
       clear c22
       simp only [Option.some.injEq, Prod.mk.injEq] at H
       obtain ⟨rfl, rfl⟩ := H
       go_wp2
       go_ret2
       exact ⟨by first | rfl | (simp [errW_none, errW_some] <;> rfl) | (simp [*, errW_none, errW_some] <;> rfl), by repeat (first | (with_reducible first | exact HB.out | apply below_alloc | apply pw_below_drewN | apply below_drew1 | refine below_set ?_ GE458.out | refine below_set ?_ GE463.out) | exact HB.out)⟩
  ·rw [if_neg c5] at H
   have c5b0 : (t459 == 0) = false := beq_eq_false_iff_ne.mpr c5
   have c5b1 : (t459 != 0) = true := bne_iff_ne.mpr c5
   simp only [Option.some.injEq, Prod.mk.injEq] at H
   obtain ⟨rfl, rfl⟩ := H
   go_enter Try.func35, Try.ntmps35
   go_wp2_with (first | ((with_reducible refine gate_dst (N := 3) rfl ?_); refine box_event ?hg (N := 3) ?hd (cs := #[.int .i64 a1_0, .int .i64 a1_1]) (t := 59) ?hr ?_; (case hd => rfl); (case hg => rfl); (case hr => exact gr_); intro gb458 hg w31 hbox hb; have n0_ := Aside0.mk (below_step (hb_ HB) hb); have n1_ := Aside0.mk (hbox); have n2_ := Aside0.mk ((hz_ HB hg)); have n3_ := Aside0.mk ((hz_ HB hg)); clear HB; have HB := n0_; have BK458 := n1_; have GW458 := n2_; have GE458 := n3_; clear n0_ n1_ n2_ n3_; clear hb hbox hg; have hcz32_0 : w31.cell? ⟨gb458, 0, none⟩ = some (.int .i64 a1_0) := (blk_cell BK458.out 0).trans rfl; have hcz32_1 : w31.cell? ⟨gb458, 1, none⟩ = some (.int .i64 a1_1) := (blk_cell BK458.out 1).trans rfl; have hfz32_0 := blk_frozen BK458.out 0; have hfz32_1 := blk_frozen BK458.out 1) | ((with_reducible refine gate_callee (f := 59) rfl ?_); refine goesL_ (some 13) rfl rfl Try.func59 (by kernel_rfl) rfl #[.slice A0 l0.length c0, .agg #[.int .i64 a1_0, .int .i64 a1_1]] rfl ma_ ?_; (with_reducible refine (figure_Judge.calls k _ _ l0 a1_0 a1_1 t459 t460 t461 t462 _ ?side1 ?side2 A3.out).mono ?_); (case side1 => repeat (first | exact (Kd.C_below HR0.out HB.out) | (with_reducible refine Kd.C_alloc ?_ _) | (with_reducible refine Kd.C_drewN ?_ _) | (with_reducible refine Kd.C_drew ?_))); (case side2 => exact HC0.out); rintro e w33 ⟨rfl, hb⟩; refine ⟨_, rfl, ?_⟩; have n0_ := Aside0.mk (bb_ BK458 hb); have n1_ := Aside0.mk (below_step (hb_ HB) hb); clear BK458; clear HB; have BK458 := n0_; have HB := n1_; clear n0_ n1_; (try clear hb); (try clear hb2); (try clear hk); (try clear hi)) | ((with_reducible refine gate_dst (N := 7) rfl ?_); refine box_event ?hg (N := 7) ?hd (cs := #[.int .i64 0, .int .i64 0]) (t := 48) ?hr ?_; (case hd => rfl); (case hg => rfl); (case hr => exact gr_); intro gb463 hg w34 hbox hb; have n0_ := Aside0.mk (bb_ BK458 hb); have n1_ := Aside0.mk (below_step (hb_ HB) hb); have n2_ := Aside0.mk (hbox); have n3_ := Aside0.mk ((hz_ HB hg)); have n4_ := Aside0.mk ((hz_ HB hg)); have n5_ := Aside0.mk ((nl_ BK458 hg)); have n6_ := Aside0.mk ((ng_ BK458 hg)); clear BK458; clear HB; have BK458 := n0_; have HB := n1_; have BK463 := n2_; have GW463 := n3_; have GE463 := n4_; have NB458_463 := n5_; have NB463_458 := n6_; clear n0_ n1_ n2_ n3_ n4_ n5_ n6_; clear hb hbox hg; have hnb35 := NB463_458.out; have hnc35 := NB458_463.out; have hcz36_0 : w34.cell? ⟨gb463, 0, none⟩ = some (.int .i64 0) := (blk_cell BK463.out 0).trans rfl; have hcz36_1 : w34.cell? ⟨gb463, 1, none⟩ = some (.int .i64 0) := (blk_cell BK463.out 1).trans rfl; have hfz36_0 := blk_frozen BK463.out 0; have hfz36_1 := blk_frozen BK463.out 1))
   go_ret2
   exact ⟨by first | rfl | (simp [errW_none, errW_some] <;> rfl) | (simp [*, errW_none, errW_some] <;> rfl), by repeat (first | (with_reducible first | exact HB.out | apply below_alloc | apply pw_below_drewN | apply below_drew1 | refine below_set ?_ GE458.out | refine below_set ?_ GE463.out) | exact HB.out)⟩
 ·rw [if_neg c4] at H
  have c4b0 : (t462 == 0) = false := beq_eq_false_iff_ne.mpr c4
  have c4b1 : (t462 != 0) = true := bne_iff_ne.mpr c4
  simp only [Option.some.injEq, Prod.mk.injEq] at H
  obtain ⟨rfl, rfl⟩ := H
  go_enter Try.func35, Try.ntmps35
  go_wp2_with (first | ((with_reducible refine gate_dst (N := 3) rfl ?_); refine box_event ?hg (N := 3) ?hd (cs := #[.int .i64 a1_0, .int .i64 a1_1]) (t := 59) ?hr ?_; (case hd => rfl); (case hg => rfl); (case hr => exact gr_); intro gb458 hg w37 hbox hb; have n0_ := Aside0.mk (below_step (hb_ HB) hb); have n1_ := Aside0.mk (hbox); have n2_ := Aside0.mk ((hz_ HB hg)); have n3_ := Aside0.mk ((hz_ HB hg)); clear HB; have HB := n0_; have BK458 := n1_; have GW458 := n2_; have GE458 := n3_; clear n0_ n1_ n2_ n3_; clear hb hbox hg; have hcz38_0 : w37.cell? ⟨gb458, 0, none⟩ = some (.int .i64 a1_0) := (blk_cell BK458.out 0).trans rfl; have hcz38_1 : w37.cell? ⟨gb458, 1, none⟩ = some (.int .i64 a1_1) := (blk_cell BK458.out 1).trans rfl; have hfz38_0 := blk_frozen BK458.out 0; have hfz38_1 := blk_frozen BK458.out 1) | ((with_reducible refine gate_callee (f := 59) rfl ?_); refine goesL_ (some 13) rfl rfl Try.func59 (by kernel_rfl) rfl #[.slice A0 l0.length c0, .agg #[.int .i64 a1_0, .int .i64 a1_1]] rfl ma_ ?_; (with_reducible refine (figure_Judge.calls k _ _ l0 a1_0 a1_1 t459 t460 t461 t462 _ ?side1 ?side2 A3.out).mono ?_); (case side1 => repeat (first | exact (Kd.C_below HR0.out HB.out) | (with_reducible refine Kd.C_alloc ?_ _) | (with_reducible refine Kd.C_drewN ?_ _) | (with_reducible refine Kd.C_drew ?_))); (case side2 => exact HC0.out); rintro e w39 ⟨rfl, hb⟩; refine ⟨_, rfl, ?_⟩; have n0_ := Aside0.mk (bb_ BK458 hb); have n1_ := Aside0.mk (below_step (hb_ HB) hb); clear BK458; clear HB; have BK458 := n0_; have HB := n1_; clear n0_ n1_; (try clear hb); (try clear hb2); (try clear hk); (try clear hi)) | ((with_reducible refine gate_dst (N := 7) rfl ?_); refine box_event ?hg (N := 7) ?hd (cs := #[.int .i64 0, .int .i64 0]) (t := 48) ?hr ?_; (case hd => rfl); (case hg => rfl); (case hr => exact gr_); intro gb463 hg w40 hbox hb; have n0_ := Aside0.mk (bb_ BK458 hb); have n1_ := Aside0.mk (below_step (hb_ HB) hb); have n2_ := Aside0.mk (hbox); have n3_ := Aside0.mk ((hz_ HB hg)); have n4_ := Aside0.mk ((hz_ HB hg)); have n5_ := Aside0.mk ((nl_ BK458 hg)); have n6_ := Aside0.mk ((ng_ BK458 hg)); clear BK458; clear HB; have BK458 := n0_; have HB := n1_; have BK463 := n2_; have GW463 := n3_; have GE463 := n4_; have NB458_463 := n5_; have NB463_458 := n6_; clear n0_ n1_ n2_ n3_ n4_ n5_ n6_; clear hb hbox hg; have hnb41 := NB463_458.out; have hnc41 := NB458_463.out; have hcz42_0 : w40.cell? ⟨gb463, 0, none⟩ = some (.int .i64 0) := (blk_cell BK463.out 0).trans rfl; have hcz42_1 : w40.cell? ⟨gb463, 1, none⟩ = some (.int .i64 0) := (blk_cell BK463.out 1).trans rfl; have hfz42_0 := blk_frozen BK463.out 0; have hfz42_1 := blk_frozen BK463.out 1))
  go_ret2
  exact ⟨by first | rfl | (simp [errW_none, errW_some] <;> rfl) | (simp [*, errW_none, errW_some] <;> rfl), by repeat (first | (with_reducible first | exact HB.out | apply below_alloc | apply pw_below_drewN | apply below_drew1 | refine below_set ?_ GE458.out | refine below_set ?_ GE463.out) | exact HB.out)⟩
end Go.Proofs.Ytdkahcolfcmmpaa.Pr
namespace Go.Proofs.Ytdkahcolfcmmpaa.Pr
open Go.RowKit Go.Proofs.YtdkahcolfcmmpaaW.PrintWords Go.Proofs.YtdkahcolfcmmpaaW.PrintLast Go.Proofs.YtdkahcolfcmmpaaW.PrintMore
attribute [local go_sem] max2_int min2_int max_two min_two max_three min_three max_four min_four   -- for this text's walks alone
set_option linter.unusedVariables false
set_option linter.unusedSimpArgs false
def speculumlaw06_FigureDecides.j0 : Nat → List (S38) → Bool → Int → Int → Option (Bool)
 | 0, _, _, _, _ => none
 | k + 1, x0, x23, x504000, x504001 => if x23 = true then (some true) else ((speculumlaw06_ranges.f x0).bind fun t505 => ((figure_Deciding.f k t505 x504000 x504001).bind fun bt508 => ((speculumlaw06_judgeErr.f k x0 x504000 x504001).bind fun t510 => (if t510 = 0 then ((speculumref06_Deciding.f k x0 x504000 x504001).bind fun bt511 => (if bt508.2 = bt511.2 then (some (bt508.1 == bt511.1)) else (some false))) else (if bt508.2 = t510 then (some (bt508.1 == 0)) else (some false))))))
def speculumlaw06_FigureDecides.f (k : Nat) (l0 : List (S38)) (a1_0 : Int) (a1_1 : Int) : Option (Bool) := (speculumlaw06_awake.f k).bind fun t504 => (if t504 = true then (if (l0.length : Int) > 6 then (if (l0.length : Int) ≤ 40 then (speculumlaw06_FigureDecides.j0 k l0 true a1_0 a1_1) else (speculumlaw06_FigureDecides.j0 k l0 (decide ((l0.length : Int) > 45)) a1_0 a1_1)) else (speculumlaw06_FigureDecides.j0 k l0 (decide ((l0.length : Int) > 45)) a1_0 a1_1)) else (some false))
def speculumlaw06_FigureDecides.T5 : Bool × List (List Nat × List Nat) := (true, [([], []), ([0], [0]), ([], []), ([1, 2, 1], [1, 2]), ([3], [3]), ([4], [4]), ([4], [4]), ([5, 3, 0, 1, 2, 3, 4, 5], [5]), ([6, 7, 0, 1, 2, 3, 4, 5, 6, 7], [6])])
def speculumlaw06_FigureDecides.B5 : List Nat := [0, 1, 0, 7, 15, 31, 31, 63, 255]
theorem speculumlaw06_FigureDecides.tab5 : rtab .any (opsOf Try.f6 5) = speculumlaw06_FigureDecides.T5 := by kernel_rfl
theorem speculumlaw06_FigureDecides.bits5 : waitsOk speculumlaw06_FigureDecides.T5.2 speculumlaw06_FigureDecides.B5 = true := by kernel_rfl
set_option maxHeartbeats 8000000 in
set_option maxRecDepth 100000 in
theorem speculumlaw06_FigureDecides.calls (k : Nat) (A0 : Option Addr) (c0 : Nat) (l0 : List (S38)) (a1_0 : Int) (a1_1 : Int) (r : Bool) (w : World) (hr0 : Kd.C k38 w A0 l0.length l0) (hc0 : l0.length ≤ c0) (hr_ : r = true) (h : speculumlaw06_FigureDecides.f k l0 a1_0 a1_1 = some r) :
  Calls Try.prog 6 #[.slice A0 l0.length c0, .agg #[.int .i64 a1_0, .int .i64 a1_1]] w fun e w' => e = .returned (.bool r) ∧ Below w.heap.size w w' := by
 have hu59 := Try.underlying59
 have HR0 := Aside0.mk hr0
 have HC0 := Aside0.mk hc0
 clear hr0 hc0
 have HB := Aside0.mk (Below.refl w.heap.size w)
 have H : ((speculumlaw06_awake.f k).bind fun t504 => (if t504 = true then (if (l0.length : Int) > 6 then (if (l0.length : Int) ≤ 40 then (speculumlaw06_FigureDecides.j0 k l0 true a1_0 a1_1) else (speculumlaw06_FigureDecides.j0 k l0 (decide ((l0.length : Int) > 45)) a1_0 a1_1)) else (speculumlaw06_FigureDecides.j0 k l0 (decide ((l0.length : Int) > 45)) a1_0 a1_1)) else (some false))) = some r := h
 clear h
 replace H := Option.bind_eq_some_iff.mp H
 obtain ⟨t504, A30, H⟩ := H
 replace H : (if t504 = true then (if (l0.length : Int) > 6 then (if (l0.length : Int) ≤ 40 then (speculumlaw06_FigureDecides.j0 k l0 true a1_0 a1_1) else (speculumlaw06_FigureDecides.j0 k l0 (decide ((l0.length : Int) > 45)) a1_0 a1_1)) else (speculumlaw06_FigureDecides.j0 k l0 (decide ((l0.length : Int) > 45)) a1_0 a1_1)) else (some false)) = some r := H
 have A3 := Aside0.mk A30
 clear A30
 by_cases c4 : t504 = true
 ·subst c4
  have H1 : (if (l0.length : Int) > 6 then (if (l0.length : Int) ≤ 40 then (speculumlaw06_FigureDecides.j0 k l0 true a1_0 a1_1) else (speculumlaw06_FigureDecides.j0 k l0 (decide ((l0.length : Int) > 45)) a1_0 a1_1)) else (speculumlaw06_FigureDecides.j0 k l0 (decide ((l0.length : Int) > 45)) a1_0 a1_1)) = some r := by rw [if_pos rfl] at H; exact H
  clear H
  have H := H1
  clear H1
  have HC5 := Aside0.mk H
  clear H
  go_enter Try.func6, Try.ntmps6
  go_upto_region 3 with (first | ((with_reducible refine gate_dst (N := 3) rfl ?_); (try (refine gate_guard (by rfl) ?_; dsimp only)); refine box_event ?hg (N := 3) ?hd (cs := #[.int .i64 a1_0, .int .i64 a1_1]) (t := 59) ?hr ?_; (case hd => rfl); (case hg => rfl); (case hr => exact gr_); intro gb503 hg w6 hbox hb; have n0_ := Aside0.mk (below_step (hb_ HB) hb); have n1_ := Aside0.mk (hbox); have n2_ := Aside0.mk ((hz_ HB hg)); have n3_ := Aside0.mk ((hz_ HB hg)); clear HB; have HB := n0_; have BK503 := n1_; have GW503 := n2_; have GE503 := n3_; clear n0_ n1_ n2_ n3_; clear hb hbox hg) | ((with_reducible refine gate_callee (f := 14) rfl ?_); refine goesL_ (some 9) rfl rfl Try.func14 (by kernel_rfl) rfl #[] rfl ma_ ?_; (with_reducible refine (speculumlaw06_awake.calls k  true _ rfl A3.out).mono ?_); rintro e w7 ⟨rfl, hb⟩; refine ⟨_, rfl, ?_⟩; have n0_ := Aside0.mk (bb_ BK503 hb); have n1_ := Aside0.mk (below_step (hb_ HB) hb); clear BK503; clear HB; have BK503 := n0_; have HB := n1_; clear n0_ n1_; (try clear hb); (try clear hb2); (try clear hk); (try clear hi)))
  (try simp only [Act.put, List.setIfInBounds_toArray, List.set_cons_zero, List.set_cons_succ])
  go_cut [23] (fun v23 wc => ∃ (kq : Nat) (x23_4 : Bool), v23 = .bool x23_4 ∧ Aside0 (speculumlaw06_FigureDecides.j0 kq l0 x23_4 a1_0 a1_1 = some r) ∧ Aside0 (kq ≤ k) ∧ Aside0 (wc.heap[gb503]? = some (.cells #[.int .i64 a1_0, .int .i64 a1_1] 59 (0, 0))) ∧ Aside0 (Below w.heap.size w wc))
  case first =>
   have H := HC5.out
   clear HC5
   by_cases c8 : (l0.length : Int) > 6
   ·rw [if_pos c8] at H
    have c8b0 : decide (6 < (l0.length : Int)) = true := decide_eq_true c8
    have c8b1 : decide (6 < l0.length) = true := decide_eq_true (by omega)
    clear c8
    (first | rw [c8b0] | (simp only [i64_w, i32_w]; rw [c8b0]) | skip)
    by_cases c9 : (l0.length : Int) ≤ 40
    ·rw [if_pos c9] at H
     have c9b0 : decide ((l0.length : Int) ≤ 40) = true := decide_eq_true c9
     have c9b1 : decide (l0.length ≤ 40) = true := decide_eq_true (by omega)
     clear c9
     have H' := Aside0.mk H
     clear H
     go_wp2
     go_meet
     case rel => exact ⟨_, (true), rs_, H', ⟨by first | omega | exact Nat.le_refl _⟩, ⟨by (with_reducible repeat (first | refine blk_drewN ?_ _ | refine blk_drew ?_ | refine blk_alloc ?_ _)); exact BK503.out⟩, ⟨by repeat (first | (with_reducible first | exact HB.out | apply below_alloc | apply pw_below_drewN | apply below_drew1 | refine below_set ?_ GE503.out) | exact HB.out)⟩⟩
    ·rw [if_neg c9] at H
     have c9b0 : decide ((l0.length : Int) ≤ 40) = false := decide_eq_false c9
     have c9b1 : decide (l0.length ≤ 40) = false := decide_eq_false (by omega)
     clear c9
     have H' := Aside0.mk H
     clear H
     go_wp2
     go_meet
     case rel => exact ⟨_, (decide ((l0.length : Int) > 45)), rs_, H', ⟨by first | omega | exact Nat.le_refl _⟩, ⟨by (with_reducible repeat (first | refine blk_drewN ?_ _ | refine blk_drew ?_ | refine blk_alloc ?_ _)); exact BK503.out⟩, ⟨by repeat (first | (with_reducible first | exact HB.out | apply below_alloc | apply pw_below_drewN | apply below_drew1 | refine below_set ?_ GE503.out) | exact HB.out)⟩⟩
   ·rw [if_neg c8] at H
    have c8b0 : decide (6 < (l0.length : Int)) = false := decide_eq_false c8
    have c8b1 : decide (6 < l0.length) = false := decide_eq_false (by omega)
    clear c8
    (first | rw [c8b0] | (simp only [i64_w, i32_w]; rw [c8b0]) | skip)
    have H' := Aside0.mk H
    clear H
    go_wp2
    go_meet
    case rel => exact ⟨_, (decide ((l0.length : Int) > 45)), rs_, H', ⟨by first | omega | exact Nat.le_refl _⟩, ⟨by (with_reducible repeat (first | refine blk_drewN ?_ _ | refine blk_drew ?_ | refine blk_alloc ?_ _)); exact BK503.out⟩, ⟨by repeat (first | (with_reducible first | exact HB.out | apply below_alloc | apply pw_below_drewN | apply below_drew1 | refine below_set ?_ GE503.out) | exact HB.out)⟩⟩
  case rest =>
   clear HC5
   try clear c1
   try clear p2
   try clear c4
   try clear c6
   try clear c8
   try clear c8b0
   try clear c8b1
   try clear c9
   try clear c9b0
   try clear c9b1
   obtain ⟨kq, x23_4, rfl, HA, HJ4, BK503, HB⟩ := hcut
   cases kq with
   | zero => exact absurd HA.out (by simp [speculumlaw06_FigureDecides.j0])
   | succ kj4 =>
    have H := HA.out
    clear HA
    simp only [speculumlaw06_FigureDecides.j0] at H
    by_cases c10 : x23_4 = true
    ·subst c10
     have H1 : (some true) = some r := by rw [if_pos rfl] at H; exact H
     clear H
     have H := H1
     clear H1
     obtain rfl := Option.some.inj H
     go_wp2
     go_ret
     exact ⟨by first | rfl | (simp [errW_none, errW_some] <;> rfl) | (simp [*, errW_none, errW_some] <;> rfl), by repeat (first | (with_reducible first | exact HB.out | apply below_alloc | apply pw_below_drewN | apply below_drew1 | refine below_set ?_ GE503.out) | exact HB.out)⟩
    ·replace c10 := Bool.eq_false_iff.mpr c10
     subst c10
     have H1 : ((speculumlaw06_ranges.f l0).bind fun t505 => ((figure_Deciding.f kj4 t505 a1_0 a1_1).bind fun bt508 => ((speculumlaw06_judgeErr.f kj4 l0 a1_0 a1_1).bind fun t510 => (if t510 = 0 then ((speculumref06_Deciding.f kj4 l0 a1_0 a1_1).bind fun bt511 => (if bt508.2 = bt511.2 then (some (bt508.1 == bt511.1)) else (some false))) else (if bt508.2 = t510 then (some (bt508.1 == 0)) else (some false)))))) = some r := by rw [if_neg (show ¬ (false = true) by decide)] at H; exact H
     clear H
     have H := H1
     clear H1
     replace H := Option.bind_eq_some_iff.mp H
     obtain ⟨t505, A110, H⟩ := H
     replace H : ((figure_Deciding.f kj4 t505 a1_0 a1_1).bind fun bt508 => ((speculumlaw06_judgeErr.f kj4 l0 a1_0 a1_1).bind fun t510 => (if t510 = 0 then ((speculumref06_Deciding.f kj4 l0 a1_0 a1_1).bind fun bt511 => (if bt508.2 = bt511.2 then (some (bt508.1 == bt511.1)) else (some false))) else (if bt508.2 = t510 then (some (bt508.1 == 0)) else (some false))))) = some r := H
     have A11 := Aside0.mk A110
     clear A110
     replace H := Option.bind_eq_some_iff.mp H
     obtain ⟨⟨t508, t509⟩, A120, H⟩ := H
     replace H : ((speculumlaw06_judgeErr.f kj4 l0 a1_0 a1_1).bind fun t510 => (if t510 = 0 then ((speculumref06_Deciding.f kj4 l0 a1_0 a1_1).bind fun bt511 => (if t509 = bt511.2 then (some (t508 == bt511.1)) else (some false))) else (if t509 = t510 then (some (t508 == 0)) else (some false)))) = some r := H
     have A12 := Aside0.mk A120
     clear A120
     replace H := Option.bind_eq_some_iff.mp H
     obtain ⟨t510, A130, H⟩ := H
     replace H : (if t510 = 0 then ((speculumref06_Deciding.f kj4 l0 a1_0 a1_1).bind fun bt511 => (if t509 = bt511.2 then (some (t508 == bt511.1)) else (some false))) else (if t509 = t510 then (some (t508 == 0)) else (some false))) = some r := H
     have A13 := Aside0.mk A130
     clear A130
     by_cases c14 : t510 = 0
     ·rw [if_pos c14] at H
      have c14b0 : (t510 == 0) = true := beq_iff_eq.mpr c14
      have c14b1 : (t510 != 0) = false := bne_eq_false_iff_eq.mpr c14
      clear c14
      replace H := Option.bind_eq_some_iff.mp H
      obtain ⟨⟨t511, t512⟩, A150, H⟩ := H
      replace H : (if t509 = t512 then (some (t508 == t511)) else (some false)) = some r := H
      have A15 := Aside0.mk A150
      clear A150
      by_cases c16 : t509 = t512
      ·rw [if_pos c16] at H
       have c16b0 : (t509 == t512) = true := beq_iff_eq.mpr c16
       have c16b1 : (t509 != t512) = false := bne_eq_false_iff_eq.mpr c16
       clear c16
       obtain rfl := Option.some.inj H
       try go_wp2
       have n0_ := Aside0.mk (blk_drew BK503.out)
       have n1_ := Aside0.mk (below_drew1 HB.out)
       clear BK503
       clear HB
       have BK503 := n0_
       have HB := n1_
       clear n0_ n1_
       refine start_ (n := 9) (S := fun w' => w'.cell? ⟨gb503, 0, none⟩ = some (.int .i64 a1_0) ∧ w'.cell? ⟨gb503, 1, none⟩ = some (.int .i64 a1_1)) (ds := []) #[false, false, false, false, false, false, false, false, false] (by kernel_rfl) rfl rfl ⟨(blk_cell BK503.out 0).trans rfl, (blk_cell BK503.out 1).trans rfl⟩ (fun hHeld => ?_); refine with_tabW speculumlaw06_FigureDecides.tab5 speculumlaw06_FigureDecides.bits5 (fun HT_ HW_ => ?_)
       generalize wc.drew = w17 at BK503 HB hHeld ⊢
       refine pure_ (i := 0) (N := some 25) (v := ?_) (a' := ?_) #[true, false, false, false, false, false, false, false, false] rfl rfl (any_of HT_.out (by kernel_rfl)) (fun _ _ _ h => h) (Or.inl ⟨by rfl, ?_⟩) ?_ ?_
       rotate_left
       ·intro w'; go_simp; with_reducible rfl
       rotate_left
       ·simp only [Act.put, List.setIfInBounds_toArray, List.set_cons_zero, List.set_cons_succ, i64_w, i32_w]; rfl
       refine take_ (i := 2) (N := some 27) (v := ?_) (a' := ?_) #[true, false, true, false, false, false, false, false, false] rfl rfl (take_ofW HT_.out HW_.out (by kernel_rfl)) (fun _ _ _ h => h) (Or.inl ⟨by rfl, ?_⟩) hHeld ?_ ?_
       rotate_left
       ·rintro w' ⟨s0, s1⟩; go_simp; with_reducible rfl
       rotate_left
       ·simp only [Act.put, List.setIfInBounds_toArray, List.set_cons_zero, List.set_cons_succ, i64_w, i32_w]; rfl
       refine one_ (i := 1) (N := some 26) #[true, true, true, false, false, false, false, false, false] rfl rfl (one_of HT_.out (by kernel_rfl)) di_ (fun K hK => ?_)
       refine goes_ Try.func22 (by kernel_rfl) rfl #[.slice A0 l0.length c0] (by rfl) rfl rfl ma_ ?_
       with_reducible refine (speculumlaw06_ranges.calls _ _ l0 t505 _ ?side1 ?side2 A11.out).mono ?_
       (case side1 => repeat (first | exact (Kd.C_below HR0.out HB.out) | (with_reducible refine Kd.C_alloc ?_ _) | (with_reducible refine Kd.C_drewN ?_ _) | (with_reducible refine Kd.C_drew ?_)))
       (case side2 => exact HC0.out)
       rintro e w18 ⟨v506, rfl, ho0, hb⟩
       refine ⟨_, rfl, ?_⟩
       have n0_ := Aside0.mk (Kd.R_lower ho0 (below_size (hb_ HB)))
       have n1_ := Aside0.mk (bb_ BK503 hb)
       have n2_ := Aside0.mk (below_step (hb_ HB) hb)
       clear BK503
       clear HB
       have HO507 := n0_
       have BK503 := n1_
       have HB := n2_
       clear n0_ n1_ n2_
       (try clear hb)
       (try clear hb2)
       (try clear hk)
       (try clear hi)
       (try clear ho0)
       obtain ⟨Ao19, co19, eo19⟩ := Kd.R_slice HO507.out
       (first | subst eo19 | (injection eo19 with f1_ f2_ f3_; have f4_ := f1_.symm; have f5_ := f3_.symm; clear f1_ f2_ f3_; subst f4_; subst f5_))
       refine hK.out _ _ ⟨(blk_cell BK503.out 0).trans rfl, (blk_cell BK503.out 1).trans rfl⟩ (fun hHeld => ?_)
       clear hK K
       refine norm_ (a' := ?_) ?_ ?_
       rotate_left
       ·show Act.put _ (some 26) _ = _
        simp only [Act.put, List.setIfInBounds_toArray, List.set_cons_zero, List.set_cons_succ, i64_w, i32_w]
        rfl
       refine one_ (i := 3) (N := some 28) #[true, true, true, true, false, false, false, false, false] rfl rfl (one_of HT_.out (by kernel_rfl)) di_ (fun K hK => ?_)
       refine goes_ Try.func35 (by kernel_rfl) rfl #[.slice Ao19 t505.length co19, .agg #[.int .i64 a1_0, .int .i64 a1_1]] (by rfl) rfl rfl ma_ ?_
       with_reducible refine (figure_Deciding.calls kj4 _ _ t505 a1_0 a1_1 t508 t509 _ ?side1 ?side2 A12.out).mono ?_
       (case side1 => repeat (first | exact (Kd.R_reads' HO507.out).2.2 | (with_reducible refine Kd.C_alloc ?_ _) | (with_reducible refine Kd.C_drewN ?_ _) | (with_reducible refine Kd.C_drew ?_)))
       (case side2 => exact (Kd.R_reads' HO507.out).2.1)
       rintro e w20 ⟨rfl, hb⟩
       refine ⟨_, rfl, ?_⟩
       have n0_ := Aside0.mk (Kd.R_below (rk_ HO507) hb)
       have n1_ := Aside0.mk (bb_ BK503 hb)
       have n2_ := Aside0.mk (below_step (hb_ HB) hb)
       clear HO507
       clear BK503
       clear HB
       have HO507 := n0_
       have BK503 := n1_
       have HB := n2_
       clear n0_ n1_ n2_
       (try clear hb)
       (try clear hb2)
       (try clear hk)
       (try clear hi)
       refine hK.out _ _ ⟨(blk_cell BK503.out 0).trans rfl, (blk_cell BK503.out 1).trans rfl⟩ (fun hHeld => ?_)
       clear hK K
       refine norm_ (a' := ?_) ?_ ?_
       rotate_left
       ·show Act.put _ (some 28) _ = _
        simp only [Act.put, List.setIfInBounds_toArray, List.set_cons_zero, List.set_cons_succ, i64_w, i32_w]
        rfl
       refine pure_ (i := 4) (N := some 24) (v := ?_) (a' := ?_) #[true, true, true, true, true, false, false, false, false] rfl rfl (any_of HT_.out (by kernel_rfl)) (fun _ _ _ h => h) (Or.inl ⟨by rfl, ?_⟩) ?_ ?_
       rotate_left
       ·intro w'; go_simp; with_reducible rfl
       rotate_left
       ·simp only [Act.put, List.setIfInBounds_toArray, List.set_cons_zero, List.set_cons_succ, i64_w, i32_w]; rfl
       refine pure_ (i := 5) (N := some 29) (v := ?_) (a' := ?_) #[true, true, true, true, true, true, false, false, false] rfl rfl (any_of HT_.out (by kernel_rfl)) (fun _ _ _ h => h) (Or.inl ⟨by rfl, ?_⟩) ?_ ?_
       rotate_left
       ·intro w'; go_simp; with_reducible rfl
       rotate_left
       ·simp only [Act.put, List.setIfInBounds_toArray, List.set_cons_zero, List.set_cons_succ, i64_w, i32_w]; rfl
       refine pure_ (i := 6) (N := some 30) (v := ?_) (a' := ?_) #[true, true, true, true, true, true, true, false, false] rfl rfl (any_of HT_.out (by kernel_rfl)) (fun _ _ _ h => h) (Or.inl ⟨by rfl, ?_⟩) ?_ ?_
       rotate_left
       ·intro w'; go_simp; with_reducible rfl
       rotate_left
       ·simp only [Act.put, List.setIfInBounds_toArray, List.set_cons_zero, List.set_cons_succ, i64_w, i32_w]; rfl
       refine pure_ (i := 7) (N := some 5) (v := ?_) (a' := ?_) #[true, true, true, true, true, true, true, true, false] rfl rfl (any_of HT_.out (by kernel_rfl)) (fun _ _ _ h => h) (Or.inl ⟨by rfl, ?_⟩) ?_ ?_
       rotate_left
       ·intro w'; go_simp; with_reducible rfl
       rotate_left
       ·simp only [Act.put, List.setIfInBounds_toArray, List.set_cons_zero, List.set_cons_succ, i64_w, i32_w]; rfl
       refine pure_ (i := 8) (N := some 6) (v := ?_) (a' := ?_) #[true, true, true, true, true, true, true, true, true] rfl rfl (any_of HT_.out (by kernel_rfl)) (fun _ _ _ h => h) (Or.inl ⟨by rfl, ?_⟩) ?_ ?_
       rotate_left
       ·intro w'; go_simp; with_reducible rfl
       rotate_left
       ·simp only [Act.put, List.setIfInBounds_toArray, List.set_cons_zero, List.set_cons_succ, i64_w, i32_w]; rfl
       refine done_ (done_of HT_.out (by kernel_rfl)) ?_
       have hcz21_0 : w20.cell? ⟨gb503, 0, none⟩ = some (.int .i64 a1_0) := (blk_cell BK503.out 0).trans rfl
       have hcz21_1 : w20.cell? ⟨gb503, 1, none⟩ = some (.int .i64 a1_1) := (blk_cell BK503.out 1).trans rfl
       have hfz21_0 := blk_frozen BK503.out 0
       have hfz21_1 := blk_frozen BK503.out 1
       try go_wp2_with (first | ((with_reducible refine gate_callee (f := 36) rfl ?_); refine goesL_ (some 33) rfl rfl Try.func36 (by kernel_rfl) rfl #[.slice A0 l0.length c0, .agg #[.int .i64 a1_0, .int .i64 a1_1]] rfl ma_ ?_; (with_reducible refine (speculumlaw06_judgeErr.calls kj4 _ _ l0 a1_0 a1_1 t510 _ ?side1 ?side2 A13.out).mono ?_); (case side1 => repeat (first | exact (Kd.C_below HR0.out HB.out) | (with_reducible refine Kd.C_alloc ?_ _) | (with_reducible refine Kd.C_drewN ?_ _) | (with_reducible refine Kd.C_drew ?_))); (case side2 => exact HC0.out); rintro e w22 ⟨rfl, hb⟩; refine ⟨_, rfl, ?_⟩; have n0_ := Aside0.mk (Kd.R_below (rk_ HO507) hb); have n1_ := Aside0.mk (bb_ BK503 hb); have n2_ := Aside0.mk (below_step (hb_ HB) hb); clear HO507; clear BK503; clear HB; have HO507 := n0_; have BK503 := n1_; have HB := n2_; clear n0_ n1_ n2_; (try clear hb); (try clear hb2); (try clear hk); (try clear hi); have hcz23_0 : w22.cell? ⟨gb503, 0, none⟩ = some (.int .i64 a1_0) := (blk_cell BK503.out 0).trans rfl; have hcz23_1 : w22.cell? ⟨gb503, 1, none⟩ = some (.int .i64 a1_1) := (blk_cell BK503.out 1).trans rfl; have hfz23_0 := blk_frozen BK503.out 0; have hfz23_1 := blk_frozen BK503.out 1) | ((with_reducible refine gate_callee (f := 37) rfl ?_); refine goesL_ (some 39) rfl rfl Try.func37 (by kernel_rfl) rfl #[.slice A0 l0.length c0, .agg #[.int .i64 a1_0, .int .i64 a1_1]] rfl ma_ ?_; (with_reducible refine (speculumref06_Deciding.calls kj4 _ _ l0 a1_0 a1_1 t511 t512 _ ?side1 ?side2 A15.out).mono ?_); (case side1 => repeat (first | exact (Kd.C_below HR0.out HB.out) | (with_reducible refine Kd.C_alloc ?_ _) | (with_reducible refine Kd.C_drewN ?_ _) | (with_reducible refine Kd.C_drew ?_))); (case side2 => exact HC0.out); rintro e w24 ⟨rfl, hb⟩; refine ⟨_, rfl, ?_⟩; have n0_ := Aside0.mk (Kd.R_below (rk_ HO507) hb); have n1_ := Aside0.mk (bb_ BK503 hb); have n2_ := Aside0.mk (below_step (hb_ HB) hb); clear HO507; clear BK503; clear HB; have HO507 := n0_; have BK503 := n1_; have HB := n2_; clear n0_ n1_ n2_; (try clear hb); (try clear hb2); (try clear hk); (try clear hi)))
       go_ret
       exact ⟨by first | rfl | (simp [errW_none, errW_some] <;> rfl) | (simp [*, errW_none, errW_some] <;> rfl), by repeat (first | (with_reducible first | exact HB.out | apply below_alloc | apply pw_below_drewN | apply below_drew1 | refine below_set ?_ GE503.out) | exact HB.out)⟩
      ·rw [if_neg c16] at H
       have c16b0 : (t509 == t512) = false := beq_eq_false_iff_ne.mpr c16
       have c16b1 : (t509 != t512) = true := bne_iff_ne.mpr c16
       exact absurd (Option.some.inj H) (by rw [hr_]; decide)
     ·rw [if_neg c14] at H
      have c14b0 : (t510 == 0) = false := beq_eq_false_iff_ne.mpr c14
      have c14b1 : (t510 != 0) = true := bne_iff_ne.mpr c14
      by_cases c33 : t509 = t510
      ·rw [if_pos c33] at H
       have c33b0 : (t509 == t510) = true := beq_iff_eq.mpr c33
       have c33b1 : (t509 != t510) = false := bne_eq_false_iff_eq.mpr c33
       clear c33
       obtain rfl := Option.some.inj H
       try go_wp2
       have n0_ := Aside0.mk (blk_drew BK503.out)
       have n1_ := Aside0.mk (below_drew1 HB.out)
       clear BK503
       clear HB
       have BK503 := n0_
       have HB := n1_
       clear n0_ n1_
       refine start_ (n := 9) (S := fun w' => w'.cell? ⟨gb503, 0, none⟩ = some (.int .i64 a1_0) ∧ w'.cell? ⟨gb503, 1, none⟩ = some (.int .i64 a1_1)) (ds := []) #[false, false, false, false, false, false, false, false, false] (by kernel_rfl) rfl rfl ⟨(blk_cell BK503.out 0).trans rfl, (blk_cell BK503.out 1).trans rfl⟩ (fun hHeld => ?_); refine with_tabW speculumlaw06_FigureDecides.tab5 speculumlaw06_FigureDecides.bits5 (fun HT_ HW_ => ?_)
       generalize wc.drew = w34 at BK503 HB hHeld ⊢
       refine pure_ (i := 0) (N := some 25) (v := ?_) (a' := ?_) #[true, false, false, false, false, false, false, false, false] rfl rfl (any_of HT_.out (by kernel_rfl)) (fun _ _ _ h => h) (Or.inl ⟨by rfl, ?_⟩) ?_ ?_
       rotate_left
       ·intro w'; go_simp; with_reducible rfl
       rotate_left
       ·simp only [Act.put, List.setIfInBounds_toArray, List.set_cons_zero, List.set_cons_succ, i64_w, i32_w]; rfl
       refine take_ (i := 2) (N := some 27) (v := ?_) (a' := ?_) #[true, false, true, false, false, false, false, false, false] rfl rfl (take_ofW HT_.out HW_.out (by kernel_rfl)) (fun _ _ _ h => h) (Or.inl ⟨by rfl, ?_⟩) hHeld ?_ ?_
       rotate_left
       ·rintro w' ⟨s0, s1⟩; go_simp; with_reducible rfl
       rotate_left
       ·simp only [Act.put, List.setIfInBounds_toArray, List.set_cons_zero, List.set_cons_succ, i64_w, i32_w]; rfl
       refine one_ (i := 1) (N := some 26) #[true, true, true, false, false, false, false, false, false] rfl rfl (one_of HT_.out (by kernel_rfl)) di_ (fun K hK => ?_)
       refine goes_ Try.func22 (by kernel_rfl) rfl #[.slice A0 l0.length c0] (by rfl) rfl rfl ma_ ?_
       with_reducible refine (speculumlaw06_ranges.calls _ _ l0 t505 _ ?side1 ?side2 A11.out).mono ?_
       (case side1 => repeat (first | exact (Kd.C_below HR0.out HB.out) | (with_reducible refine Kd.C_alloc ?_ _) | (with_reducible refine Kd.C_drewN ?_ _) | (with_reducible refine Kd.C_drew ?_)))
       (case side2 => exact HC0.out)
       rintro e w35 ⟨v506, rfl, ho0, hb⟩
       refine ⟨_, rfl, ?_⟩
       have n0_ := Aside0.mk (Kd.R_lower ho0 (below_size (hb_ HB)))
       have n1_ := Aside0.mk (bb_ BK503 hb)
       have n2_ := Aside0.mk (below_step (hb_ HB) hb)
       clear BK503
       clear HB
       have HO507 := n0_
       have BK503 := n1_
       have HB := n2_
       clear n0_ n1_ n2_
       (try clear hb)
       (try clear hb2)
       (try clear hk)
       (try clear hi)
       (try clear ho0)
       obtain ⟨Ao36, co36, eo36⟩ := Kd.R_slice HO507.out
       (first | subst eo36 | (injection eo36 with f1_ f2_ f3_; have f4_ := f1_.symm; have f5_ := f3_.symm; clear f1_ f2_ f3_; subst f4_; subst f5_))
       refine hK.out _ _ ⟨(blk_cell BK503.out 0).trans rfl, (blk_cell BK503.out 1).trans rfl⟩ (fun hHeld => ?_)
       clear hK K
       refine norm_ (a' := ?_) ?_ ?_
       rotate_left
       ·show Act.put _ (some 26) _ = _
        simp only [Act.put, List.setIfInBounds_toArray, List.set_cons_zero, List.set_cons_succ, i64_w, i32_w]
        rfl
       refine one_ (i := 3) (N := some 28) #[true, true, true, true, false, false, false, false, false] rfl rfl (one_of HT_.out (by kernel_rfl)) di_ (fun K hK => ?_)
       refine goes_ Try.func35 (by kernel_rfl) rfl #[.slice Ao36 t505.length co36, .agg #[.int .i64 a1_0, .int .i64 a1_1]] (by rfl) rfl rfl ma_ ?_
       with_reducible refine (figure_Deciding.calls kj4 _ _ t505 a1_0 a1_1 t508 t509 _ ?side1 ?side2 A12.out).mono ?_
       (case side1 => repeat (first | exact (Kd.R_reads' HO507.out).2.2 | (with_reducible refine Kd.C_alloc ?_ _) | (with_reducible refine Kd.C_drewN ?_ _) | (with_reducible refine Kd.C_drew ?_)))
       (case side2 => exact (Kd.R_reads' HO507.out).2.1)
       rintro e w37 ⟨rfl, hb⟩
       refine ⟨_, rfl, ?_⟩
       have n0_ := Aside0.mk (Kd.R_below (rk_ HO507) hb)
       have n1_ := Aside0.mk (bb_ BK503 hb)
       have n2_ := Aside0.mk (below_step (hb_ HB) hb)
       clear HO507
       clear BK503
       clear HB
       have HO507 := n0_
       have BK503 := n1_
       have HB := n2_
       clear n0_ n1_ n2_
       (try clear hb)
       (try clear hb2)
       (try clear hk)
       (try clear hi)
       refine hK.out _ _ ⟨(blk_cell BK503.out 0).trans rfl, (blk_cell BK503.out 1).trans rfl⟩ (fun hHeld => ?_)
       clear hK K
       refine norm_ (a' := ?_) ?_ ?_
       rotate_left
       ·show Act.put _ (some 28) _ = _
        simp only [Act.put, List.setIfInBounds_toArray, List.set_cons_zero, List.set_cons_succ, i64_w, i32_w]
        rfl
       refine pure_ (i := 4) (N := some 24) (v := ?_) (a' := ?_) #[true, true, true, true, true, false, false, false, false] rfl rfl (any_of HT_.out (by kernel_rfl)) (fun _ _ _ h => h) (Or.inl ⟨by rfl, ?_⟩) ?_ ?_
       rotate_left
       ·intro w'; go_simp; with_reducible rfl
       rotate_left
       ·simp only [Act.put, List.setIfInBounds_toArray, List.set_cons_zero, List.set_cons_succ, i64_w, i32_w]; rfl
       refine pure_ (i := 5) (N := some 29) (v := ?_) (a' := ?_) #[true, true, true, true, true, true, false, false, false] rfl rfl (any_of HT_.out (by kernel_rfl)) (fun _ _ _ h => h) (Or.inl ⟨by rfl, ?_⟩) ?_ ?_
       rotate_left
       ·intro w'; go_simp; with_reducible rfl
       rotate_left
       ·simp only [Act.put, List.setIfInBounds_toArray, List.set_cons_zero, List.set_cons_succ, i64_w, i32_w]; rfl
       refine pure_ (i := 6) (N := some 30) (v := ?_) (a' := ?_) #[true, true, true, true, true, true, true, false, false] rfl rfl (any_of HT_.out (by kernel_rfl)) (fun _ _ _ h => h) (Or.inl ⟨by rfl, ?_⟩) ?_ ?_
       rotate_left
       ·intro w'; go_simp; with_reducible rfl
       rotate_left
       ·simp only [Act.put, List.setIfInBounds_toArray, List.set_cons_zero, List.set_cons_succ, i64_w, i32_w]; rfl
       refine pure_ (i := 7) (N := some 5) (v := ?_) (a' := ?_) #[true, true, true, true, true, true, true, true, false] rfl rfl (any_of HT_.out (by kernel_rfl)) (fun _ _ _ h => h) (Or.inl ⟨by rfl, ?_⟩) ?_ ?_
       rotate_left
       ·intro w'; go_simp; with_reducible rfl
       rotate_left
       ·simp only [Act.put, List.setIfInBounds_toArray, List.set_cons_zero, List.set_cons_succ, i64_w, i32_w]; rfl
       refine pure_ (i := 8) (N := some 6) (v := ?_) (a' := ?_) #[true, true, true, true, true, true, true, true, true] rfl rfl (any_of HT_.out (by kernel_rfl)) (fun _ _ _ h => h) (Or.inl ⟨by rfl, ?_⟩) ?_ ?_
       rotate_left
       ·intro w'; go_simp; with_reducible rfl
       rotate_left
       ·simp only [Act.put, List.setIfInBounds_toArray, List.set_cons_zero, List.set_cons_succ, i64_w, i32_w]; rfl
       refine done_ (done_of HT_.out (by kernel_rfl)) ?_
       have hcz38_0 : w37.cell? ⟨gb503, 0, none⟩ = some (.int .i64 a1_0) := (blk_cell BK503.out 0).trans rfl
       have hcz38_1 : w37.cell? ⟨gb503, 1, none⟩ = some (.int .i64 a1_1) := (blk_cell BK503.out 1).trans rfl
       have hfz38_0 := blk_frozen BK503.out 0
       have hfz38_1 := blk_frozen BK503.out 1
       try go_wp2_with (first | ((with_reducible refine gate_callee (f := 36) rfl ?_); refine goesL_ (some 33) rfl rfl Try.func36 (by kernel_rfl) rfl #[.slice A0 l0.length c0, .agg #[.int .i64 a1_0, .int .i64 a1_1]] rfl ma_ ?_; (with_reducible refine (speculumlaw06_judgeErr.calls kj4 _ _ l0 a1_0 a1_1 t510 _ ?side1 ?side2 A13.out).mono ?_); (case side1 => repeat (first | exact (Kd.C_below HR0.out HB.out) | (with_reducible refine Kd.C_alloc ?_ _) | (with_reducible refine Kd.C_drewN ?_ _) | (with_reducible refine Kd.C_drew ?_))); (case side2 => exact HC0.out); rintro e w39 ⟨rfl, hb⟩; refine ⟨_, rfl, ?_⟩; have n0_ := Aside0.mk (Kd.R_below (rk_ HO507) hb); have n1_ := Aside0.mk (bb_ BK503 hb); have n2_ := Aside0.mk (below_step (hb_ HB) hb); clear HO507; clear BK503; clear HB; have HO507 := n0_; have BK503 := n1_; have HB := n2_; clear n0_ n1_ n2_; (try clear hb); (try clear hb2); (try clear hk); (try clear hi)))
       go_ret
       exact ⟨by first | rfl | (simp [errW_none, errW_some] <;> rfl) | (simp [*, errW_none, errW_some] <;> rfl), by repeat (first | (with_reducible first | exact HB.out | apply below_alloc | apply pw_below_drewN | apply below_drew1 | refine below_set ?_ GE503.out) | exact HB.out)⟩
      ·rw [if_neg c33] at H
       have c33b0 : (t509 == t510) = false := beq_eq_false_iff_ne.mpr c33
       have c33b1 : (t509 != t510) = true := bne_iff_ne.mpr c33
       exact absurd (Option.some.inj H) (by rw [hr_]; decide)
 ·replace c4 := Bool.eq_false_iff.mpr c4
  subst c4
  have H1 : (some false) = some r := by rw [if_neg (show ¬ (false = true) by decide)] at H; exact H
  clear H
  have H := H1
  clear H1
  exact absurd (Option.some.inj H) (by rw [hr_]; decide)
end Go.Proofs.Ytdkahcolfcmmpaa.Pr
set_option linter.unusedVariables false
namespace Go.Proofs.Ytdkahcolfcmmpaa.Pure
open Go.RowKit Go.Proofs.Ytdkahcolfcmmpaa.Pr Go.Proofs.YtdkahcolfcmmpaaW.PrintWords Go.Proofs.YtdkahcolfcmmpaaW.PrintLast Go.Proofs.YtdkahcolfcmmpaaW.PrintMore
set_option maxRecDepth 100000 in
theorem awake60 : speculumlaw06_awake.f 60 = some true := by kernel_rfl
theorem awake_ev : Ev (fun k => speculumlaw06_awake.f k) true := Ev.of (fun k => speculumlaw06_awake.mono k) awake60
theorem w64 {n : Int} (h0 : -9223372036854775808 ≤ n) (h1 : n ≤ 9223372036854775807) : wrap64 n = n := by unfold wrap64; omega
theorem wi {i : Nat} (h : i ≤ 100000) : wrap64 ((i : Int) + 1) = ((i + 1 : Nat) : Int) := by rw [w64 (by omega) (by omega)]; omega
theorem Ev.s {α : Type} {g : Nat → Option α} {r : α} (h : Ev (fun k => g (k + 1)) r) : Ev g r := Ev.step (fun _ => rfl) h
theorem Ev.c {α : Type} {v r : α} (h : v = r) : Ev (fun _ => some v) r := h ▸ Ev.now v
theorem n0 (i : Nat) : (0 : Int) ≤ (i : Int) := Int.natCast_nonneg i
def inB (a b c : Int) : Bool := decide (b ≤ a) && decide (a ≤ c)
theorem inB_iff {a b c : Int} : inB a b c = true ↔ b ≤ a ∧ a ≤ c := by simp [inB]
theorem within_eq (a b c : Int) : figure_within.f a b c = some (inB a b c) := by
  unfold figure_within.f inB
  by_cases h : b ≤ a
  · rw [if_pos h, decide_eq_true h, Bool.true_and]
  · rw [if_neg h, decide_eq_false h, Bool.false_and]
theorem Within_eq (a b c : Int) : speculumbase_Within.f a b c = some (inB a b c) := by
  unfold speculumbase_Within.f inB
  by_cases h : b ≤ a
  · rw [if_pos h, decide_eq_true h, Bool.true_and]
  · rw [if_neg h, decide_eq_false h, Bool.false_and]
theorem isHeight_eq (a : Int) : speculumref06_isHeight.f a = some (inB a (-100000) 100000) := by
  unfold speculumref06_isHeight.f; rw [Within_eq]; rfl
theorem drop_cons {α : Type} {l : List α} {i m : Nat} (d : α) (h : i + (m + 1) = l.length) : l.drop i = l.getD i d :: l.drop (i + 1) := by
  have hi : i < l.length := by omega
  rw [List.drop_eq_getElem_cons hi, List.getD_eq_getElem?_getD, List.getElem?_eq_getElem hi]; rfl
theorem drop_all {α : Type} {l : List α} {i : Nat} (h : i + 0 = l.length) : l.drop i = [] := List.drop_eq_nil_of_le (by omega)
def hV (l : List Int) : Int := if 1 ≤ l.length ∧ l.length ≤ 40 then (if l.all (fun x => inB x (-100000) 100000) then 0 else 2) else 10
theorem isZones_eq (n : Nat) : figure_isZones.f (n : Int) = some (decide (1 ≤ n ∧ n ≤ 40)) := by
  unfold figure_isZones.f
  rw [within_eq, Option.bind_some]
  congr 1
  rw [Bool.eq_iff_iff, inB_iff, decide_eq_true_eq]; omega
theorem Zones_eq (n : Nat) : speculumbase_Within.f (n : Int) 1 40 = some (decide (1 ≤ n ∧ n ≤ 40)) := by
  rw [Within_eq]
  congr 1
  rw [Bool.eq_iff_iff, inB_iff, decide_eq_true_eq]; omega
end Go.Proofs.Ytdkahcolfcmmpaa.Pure
set_option linter.unusedVariables false
namespace Go.Proofs.Ytdkahcolfcmmpaa.Pure
open Go.RowKit Go.Proofs.Ytdkahcolfcmmpaa.Pr Go.Proofs.YtdkahcolfcmmpaaW.PrintWords Go.Proofs.YtdkahcolfcmmpaaW.PrintLast Go.Proofs.YtdkahcolfcmmpaaW.PrintMore
theorem ranges_eq (l : List S38) (h : l.length ≤ 100000) : speculumlaw06_ranges.f l = some l := by
  unfold speculumlaw06_ranges.f
  rw [Option.bind_some, if_pos (by simp only [List.length_nil]; omega), List.nil_append]
theorem cloneR_eq (l : List S38) (h : l.length ≤ 100000) : slices_Clone_Range.f l = some l := by
  unfold slices_Clone_Range.f
  rw [Option.bind_some, if_pos (by simp only [List.length_nil]; omega), List.nil_append]
theorem copyR_eq (l : List S38) (h : l.length ≤ 100000) : speculumbase_CopyRanges.f l = some l := by
  unfold speculumbase_CopyRanges.f
  rw [Option.bind_some, if_pos (by simp only [List.length_nil]; omega), List.nil_append]
def at38 (l : List S38) (j : Nat) : S38 := l.getD j ⟨0, 0⟩
theorem rd38 (l : List S38) (j : Nat) : rd_T38 l (j : Int) = at38 l j := rfl
def encFrom : List S38 → Int
  | [] => 0
  | r :: rs => if (inB r.f0 (-100000) 100000 && inB r.f1 (-100000) 100000) = true then (if r.f0 > r.f1 then 9 else encFrom rs) else 2
def encV (l : List S38) : Int := if 1 ≤ l.length ∧ l.length ≤ 40 then encFrom l else 10
def tolV (p s : Int) : Int := if (inB p 0 200000 && inB s 0 200000) = true then 0 else 2
def jErr (l : List S38) (p s : Int) : Int := if encV l = 0 then tolV p s else encV l
theorem enc_loop (l : List S38) (hl : l.length ≤ 100) : ∀ (m i : Nat), i + m = l.length → Ev (fun k => figure_CheckEnclosure.l0 k l (l.length : Int) (i : Int)) (encFrom (l.drop i)) := by
  intro m
  induction m with
  | zero =>
    intro i hi
    have h : ¬ (i : Int) < (l.length : Int) := by omega
    rw [drop_all hi]
    refine Ev.s ?_
    simp only [figure_CheckEnclosure.l0, h, if_false]
    exact Ev.now _
  | succ m ih =>
    intro i hi
    have h : (i : Int) < (l.length : Int) := by omega
    rw [drop_cons ⟨0, 0⟩ hi, encFrom]
    change Ev _ (if (inB (at38 l i).f0 (-100000) 100000 && inB (at38 l i).f1 (-100000) 100000) = true then (if (at38 l i).f0 > (at38 l i).f1 then 9 else encFrom (l.drop (i + 1))) else 2)
    refine Ev.s ?_
    simp only [figure_CheckEnclosure.l0, h, n0, if_true, within_eq, Option.bind_some, rd38]
    cases ha : inB (at38 l i).f0 (-100000) 100000
    · simp only [Bool.false_eq_true, if_false, Bool.false_and]
      refine Ev.s ?_
      simp only [figure_CheckEnclosure.j1, if_true]
      exact Ev.now _
    · cases hb : inB (at38 l i).f1 (-100000) 100000
      · simp only [if_true, Bool.not_false, Bool.and_false, Bool.false_eq_true, if_false]
        refine Ev.s ?_
        simp only [figure_CheckEnclosure.j1, if_true]
        exact Ev.now _
      · simp only [if_true, Bool.not_true, Bool.and_self]
        refine Ev.s ?_
        by_cases hc : (at38 l i).f0 > (at38 l i).f1
        · simp only [figure_CheckEnclosure.j1, Bool.false_eq_true, if_false, hc, if_true]
          exact Ev.now _
        · simp only [figure_CheckEnclosure.j1, Bool.false_eq_true, if_false, hc, wi (show i ≤ 100000 by omega)]
          exact ih (i + 1) (by omega)
theorem CheckEnclosure_ev (l : List S38) : Ev (fun k => figure_CheckEnclosure.f k l) (encV l) := by
  unfold figure_CheckEnclosure.f encV
  simp only [isZones_eq, Option.bind_some, decide_eq_true_eq]
  by_cases hn : 1 ≤ l.length ∧ l.length ≤ 40
  · simp only [hn, and_self, if_true]
    exact enc_loop l (by omega) l.length 0 (by omega)
  · simp only [hn, if_false]
    exact Ev.now _
theorem ref_enc_loop (l : List S38) (hl : l.length ≤ 100) : ∀ (m i : Nat), i + m = l.length → Ev (fun k => speculumref06_CheckEnclosure.l0 k l (i : Int)) (encFrom (l.drop i)) := by
  intro m
  induction m with
  | zero =>
    intro i hi
    have h : ¬ (i : Int) < (l.length : Int) := by omega
    rw [drop_all hi]
    refine Ev.s ?_
    simp only [speculumref06_CheckEnclosure.l0, h, if_false]
    exact Ev.now _
  | succ m ih =>
    intro i hi
    have h : (i : Int) < (l.length : Int) := by omega
    rw [drop_cons ⟨0, 0⟩ hi, encFrom]
    change Ev _ (if (inB (at38 l i).f0 (-100000) 100000 && inB (at38 l i).f1 (-100000) 100000) = true then (if (at38 l i).f0 > (at38 l i).f1 then 9 else encFrom (l.drop (i + 1))) else 2)
    refine Ev.s ?_
    simp only [speculumref06_CheckEnclosure.l0, h, n0, if_true, isHeight_eq, Option.bind_some, rd38]
    cases ha : inB (at38 l i).f0 (-100000) 100000
    · simp only [Bool.false_eq_true, if_false, Bool.false_and]
      refine Ev.s ?_
      simp only [speculumref06_CheckEnclosure.j1, if_true]
      exact Ev.now _
    · cases hb : inB (at38 l i).f1 (-100000) 100000
      · simp only [if_true, Bool.not_false, Bool.and_false, Bool.false_eq_true, if_false]
        refine Ev.s ?_
        simp only [speculumref06_CheckEnclosure.j1, if_true]
        exact Ev.now _
      · simp only [if_true, Bool.not_true, Bool.and_self]
        refine Ev.s ?_
        by_cases hc : (at38 l i).f0 > (at38 l i).f1
        · simp only [speculumref06_CheckEnclosure.j1, Bool.false_eq_true, if_false, h, n0, rd38, hc, if_true]
          exact Ev.now _
        · simp only [speculumref06_CheckEnclosure.j1, Bool.false_eq_true, if_false, h, n0, rd38, if_true, hc, wi (show i ≤ 100000 by omega)]
          exact ih (i + 1) (by omega)
theorem refCheckEnclosure_ev (l : List S38) : Ev (fun k => speculumref06_CheckEnclosure.f k l) (encV l) := by
  unfold speculumref06_CheckEnclosure.f encV
  simp only [Zones_eq, Option.bind_some, decide_eq_true_eq]
  by_cases hn : 1 ≤ l.length ∧ l.length ≤ 40
  · simp only [hn, and_self, if_true]
    exact ref_enc_loop l (by omega) l.length 0 (by omega)
  · simp only [hn, if_false]
    exact Ev.now _
theorem CheckTolerance_eq (p s : Int) : figure_CheckTolerance.f p s = some (tolV p s) := by
  unfold figure_CheckTolerance.f tolV
  simp only [within_eq, Option.bind_some]
  cases inB p 0 200000 <;> cases inB s 0 200000 <;> rfl
theorem refCheckTolerance_eq (p s : Int) : speculumref06_CheckTolerance.f p s = some (tolV p s) := by
  unfold speculumref06_CheckTolerance.f tolV
  simp only [Within_eq, Option.bind_some]
  cases inB p 0 200000 <;> cases inB s 0 200000 <;> rfl
theorem checkAll_ev (l : List S38) (p s : Int) : Ev (fun k => figure_checkAll.f k l p s) (jErr l p s) := by
  unfold figure_checkAll.f jErr
  refine Ev.bind (CheckEnclosure_ev l) ?_
  simp only [CheckTolerance_eq, Option.bind_some]
  by_cases h : encV l = 0
  · simp only [h, if_true]; exact Ev.now _
  · simp only [h, if_false]; exact Ev.now _
theorem judgeErr_ev (l : List S38) (p s : Int) : Ev (fun k => speculumlaw06_judgeErr.f k l p s) (jErr l p s) := by
  unfold speculumlaw06_judgeErr.f jErr
  refine Ev.bind (refCheckEnclosure_ev l) ?_
  simp only [refCheckTolerance_eq, Option.bind_some]
  by_cases h : encV l = 0
  · simp only [h, if_true]; exact Ev.now _
  · simp only [h, if_false]; exact Ev.now _
theorem jErr_0 {l : List S38} {p s : Int} (h : jErr l p s = 0) : encV l = 0 ∧ tolV p s = 0 := by
  unfold jErr at h
  split at h
  · rename_i h0; exact ⟨h0, h⟩
  · rename_i h0; exact absurd h h0
theorem encFrom_0 : ∀ {l : List S38}, encFrom l = 0 → ∀ r ∈ l, (-100000 ≤ r.f0 ∧ r.f0 ≤ 100000) ∧ (-100000 ≤ r.f1 ∧ r.f1 ≤ 100000) ∧ r.f0 ≤ r.f1
  | [], _, r, hr => by cases hr
  | x :: l, h, r, hr => by
    rw [encFrom] at h
    split at h
    · rename_i hb
      split at h
      · omega
      · rename_i hc
        rw [Bool.and_eq_true, inB_iff, inB_iff] at hb
        rcases List.mem_cons.1 hr with e | e
        · subst e; exact ⟨hb.1, hb.2, by omega⟩
        · exact encFrom_0 h r e
    · omega
theorem encV_0 {l : List S38} (h : encV l = 0) : (1 ≤ l.length ∧ l.length ≤ 40) ∧ ∀ j, (-100000 ≤ (at38 l j).f0 ∧ (at38 l j).f0 ≤ 100000) ∧ (-100000 ≤ (at38 l j).f1 ∧ (at38 l j).f1 ≤ 100000) ∧ (at38 l j).f0 ≤ (at38 l j).f1 := by
  unfold encV at h
  split at h
  · rename_i hn
    refine ⟨hn, fun j => ?_⟩
    unfold at38
    by_cases hj : j < l.length
    · rw [List.getD_eq_getElem?_getD, List.getElem?_eq_getElem hj]
      exact encFrom_0 h _ (List.getElem_mem hj)
    · rw [List.getD_eq_getElem?_getD, List.getElem?_eq_none (by omega)]
      exact ⟨⟨by decide, by decide⟩, ⟨by decide, by decide⟩, by decide⟩
  · omega
def rowFrom (i : Nat) : Nat → Nat → List (Nat × Nat)
  | _, 0 => []
  | j, m + 1 => if i = j then rowFrom i (j + 1) m else (i, j) :: rowFrom i (j + 1) m
def rowsFrom (z : Nat) : Nat → Nat → List (Nat × Nat)
  | _, 0 => []
  | i, m + 1 => rowFrom i 0 z ++ rowsFrom z (i + 1) m
theorem rowUpto_from (i : Nat) : ∀ (m j : Nat), rowUpto i j ++ rowFrom i j m = rowUpto i (j + m)
  | 0, j => by rw [rowFrom, List.append_nil]; rfl
  | m + 1, j => by
    rw [rowFrom]
    by_cases h : i = j
    · rw [if_pos h]
      have := rowUpto_from i m (j + 1)
      rw [rowUpto, if_pos h] at this
      rw [this]; congr 1; omega
    · rw [if_neg h]
      have := rowUpto_from i m (j + 1)
      rw [rowUpto, if_neg h, List.append_assoc] at this
      rw [show j + (m + 1) = j + 1 + m by omega, ← this]; rfl
theorem rowsUpto_from (z : Nat) : ∀ (m i : Nat), rowsUpto z i ++ rowsFrom z i m = rowsUpto z (i + m)
  | 0, i => by rw [rowsFrom, List.append_nil]; rfl
  | m + 1, i => by
    have h0 := rowUpto_from i z 0
    rw [rowUpto, List.nil_append, Nat.zero_add] at h0
    have := rowsUpto_from z m (i + 1)
    rw [rowsUpto, List.append_assoc] at this
    rw [rowsFrom, h0, show i + (m + 1) = i + 1 + m by omega, ← this]
theorem pairsL_from (z : Nat) : pairsL z = rowsFrom z 0 z := by
  have := rowsUpto_from z z 0
  rw [rowsUpto, List.nil_append, Nat.zero_add] at this
  exact this.symm
theorem Bound_eq (p s : Int) {i j : Nat} (hi : i ≤ 1000) (hj : j ≤ 1000) : speculumref06_Bound.f p s (i : Int) (j : Int) = some (bd p s i j) := by
  unfold speculumref06_Bound.f speculumbase_Abs.f bd
  rw [w64 (n := (i : Int) - (j : Int)) (by omega) (by omega), w64 (n := -((i : Int) - (j : Int))) (by omega) (by omega)]
  unfold mx
  by_cases h : (i : Int) - (j : Int) < 0
  · rw [if_pos h, Option.bind_some, if_pos (by omega)]
  · rw [if_neg h, Option.bind_some, if_neg (by omega)]
def refuV (o : Option (Nat × Nat)) : Int × Int × Bool := match o with | some x => ((x.1 : Int), (x.2 : Int), true) | none => (0, 0, false)
theorem refu_loop (p s : Int) (l : List S38) (hl : l.length ≤ 100) : ∀ (mi i : Nat), i + mi = l.length →
    Ev (fun k => speculumref06_Refused.l0 k l (i : Int) p s) (refuV ((rowsFrom l.length i mi).find? (jRef p s l))) := by
  intro mi
  induction mi with
  | zero =>
    intro i hi
    have h : ¬ (i : Int) < (l.length : Int) := by omega
    refine Ev.s ?_
    simp only [speculumref06_Refused.l0, h, if_false]
    exact Ev.now _
  | succ mi ihi =>
    intro i hi
    have h : (i : Int) < (l.length : Int) := by omega
    refine Ev.s ?_
    simp only [speculumref06_Refused.l0, h, if_true, rowsFrom]
    have inner : ∀ (m j : Nat), j + m = l.length → Ev (fun k => speculumref06_Refused.l1 k l (i : Int) (j : Int) p s) (refuV ((rowFrom i j m ++ rowsFrom l.length (i + 1) mi).find? (jRef p s l))) := by
      intro m
      induction m with
      | zero =>
        intro j hj
        have h' : ¬ (j : Int) < (l.length : Int) := by omega
        refine Ev.s ?_
        simp only [speculumref06_Refused.l1, h', if_false, rowFrom, List.nil_append, wi (show i ≤ 100000 by omega)]
        exact ihi (i + 1) (by omega)
      | succ m ih =>
        intro j hj
        have h' : (j : Int) < (l.length : Int) := by omega
        refine Ev.s ?_
        rw [rowFrom]
        by_cases e : i = j
        · subst e
          simp only [speculumref06_Refused.l1, h', if_true, wi (show i ≤ 100000 by omega)]
          exact ih (i + 1) (by omega)
        · have e' : ¬ (i : Int) = (j : Int) := by omega
          have hr : jRef p s l (i, j) = decide (wrap64 ((at38 l i).f0 - (at38 l j).f1) > bd p s i j) := rfl
          rw [if_neg e, List.cons_append, List.find?_cons, hr]
          by_cases g : wrap64 ((at38 l i).f0 - (at38 l j).f1) > bd p s i j
          · simp only [speculumref06_Refused.l1, h, h', e', if_true, if_false, n0, Bound_eq p s (show i ≤ 1000 by omega) (show j ≤ 1000 by omega), Option.bind_some, rd38, g, decide_true]
            exact Ev.now _
          · simp only [speculumref06_Refused.l1, h, h', e', if_true, if_false, n0, Bound_eq p s (show i ≤ 1000 by omega) (show j ≤ 1000 by omega), Option.bind_some, rd38, g, decide_false, wi (show j ≤ 100000 by omega)]
            exact ih (j + 1) (by omega)
    exact inner l.length 0 (by omega)
theorem jud_loop (p s : Int) (l : List S38) (hl : l.length ≤ 100) : ∀ (mi i : Nat), i + mi = l.length →
    Ev (fun k => speculumref06_Judge.l0 k l (i : Int) p s) (if (rowsFrom l.length i mi).any (jUnd p s l) then (0, 0, 0) else (1, 0, 0)) := by
  intro mi
  induction mi with
  | zero =>
    intro i hi
    have h : ¬ (i : Int) < (l.length : Int) := by omega
    refine Ev.s ?_
    simp only [speculumref06_Judge.l0, h, if_false]
    exact Ev.now _
  | succ mi ihi =>
    intro i hi
    have h : (i : Int) < (l.length : Int) := by omega
    refine Ev.s ?_
    simp only [speculumref06_Judge.l0, h, if_true, rowsFrom]
    have inner : ∀ (m j : Nat), j + m = l.length → Ev (fun k => speculumref06_Judge.l1 k l (i : Int) (j : Int) p s) (if (rowFrom i j m ++ rowsFrom l.length (i + 1) mi).any (jUnd p s l) then (0, 0, 0) else (1, 0, 0)) := by
      intro m
      induction m with
      | zero =>
        intro j hj
        have h' : ¬ (j : Int) < (l.length : Int) := by omega
        refine Ev.s ?_
        simp only [speculumref06_Judge.l1, h', if_false, rowFrom, List.nil_append, wi (show i ≤ 100000 by omega)]
        exact ihi (i + 1) (by omega)
      | succ m ih =>
        intro j hj
        have h' : (j : Int) < (l.length : Int) := by omega
        refine Ev.s ?_
        rw [rowFrom]
        by_cases e : i = j
        · subst e
          simp only [speculumref06_Judge.l1, h', if_true, wi (show i ≤ 100000 by omega)]
          exact ih (i + 1) (by omega)
        · have e' : ¬ (i : Int) = (j : Int) := by omega
          have hr : jUnd p s l (i, j) = decide (wrap64 ((at38 l i).f1 - (at38 l j).f0) > bd p s i j) := rfl
          rw [if_neg e, List.cons_append, List.any_cons, hr]
          by_cases g : wrap64 ((at38 l i).f1 - (at38 l j).f0) > bd p s i j
          · simp only [speculumref06_Judge.l1, h, h', e', if_true, if_false, n0, Bound_eq p s (show i ≤ 1000 by omega) (show j ≤ 1000 by omega), Option.bind_some, rd38, g, decide_true, Bool.true_or]
            exact Ev.now _
          · simp only [speculumref06_Judge.l1, h, h', e', if_true, if_false, n0, Bound_eq p s (show i ≤ 1000 by omega) (show j ≤ 1000 by omega), Option.bind_some, rd38, g, decide_false, Bool.false_or, wi (show j ≤ 100000 by omega)]
            exact ih (j + 1) (by omega)
    exact inner l.length 0 (by omega)
def judgeV (p s : Int) (l : List S38) : Int × Int × Int :=
  match (pairsL l.length).find? (jRef p s l) with
  | some x => (-1, x.1, x.2)
  | none => if (pairsL l.length).any (jUnd p s l) then (0, 0, 0) else (1, 0, 0)
theorem judge_eq (p s : Int) (l : List S38) (hl : l.length ≤ 1000) : figure_tolerance_judge.f p s l = some (judgeV p s l) := by
  unfold figure_tolerance_judge.f
  rw [if_pos hl]; rfl
theorem refJudge_ev (p s : Int) (l : List S38) (hl : l.length ≤ 100) : Ev (fun k => speculumref06_Judge.f k l p s) (judgeV p s l) := by
  unfold speculumref06_Judge.f speculumref06_Refused.f judgeV
  refine Ev.bind (refu_loop p s l hl l.length 0 (by omega)) ?_
  rw [← pairsL_from]
  have hj := jud_loop p s l hl l.length 0 (by omega)
  rw [← pairsL_from] at hj
  cases (pairsL l.length).find? (jRef p s l) with
  | some x => simp only [refuV, if_true]; exact Ev.now _
  | none => simp only [refuV, Bool.false_eq_true, if_false]; exact hj
theorem Judge_ev (p s : Int) (l : List S38) (hl : l.length ≤ 100) : Ev (fun k => figure_Judge.f k l p s) (if jErr l p s = 0 then ((judgeV p s l).1, (judgeV p s l).2.1, (judgeV p s l).2.2, 0) else (0, 0, 0, jErr l p s)) := by
  unfold figure_Judge.f
  refine Ev.bind (checkAll_ev l p s) ?_
  by_cases h : jErr l p s = 0
  · simp only [h, if_true, judge_eq p s l (show l.length ≤ 1000 by omega), Option.bind_some]
    exact Ev.now _
  · simp only [h, if_false]
    exact Ev.now _
end Go.Proofs.Ytdkahcolfcmmpaa.Pure
set_option linter.unusedVariables false
namespace Go.Proofs.Ytdkahcolfcmmpaa.Pure
open Go.RowKit Go.Proofs.Ytdkahcolfcmmpaa.Pr Go.Proofs.YtdkahcolfcmmpaaW.PrintWords Go.Proofs.YtdkahcolfcmmpaaW.PrintLast Go.Proofs.YtdkahcolfcmmpaaW.PrintMore
def one38 (l : List S38) (i : Nat) (h : Int) : List S38 := l.set i ⟨h, h⟩
def decB (p s : Int) (l : List S38) (i : Nat) : Nat → Int → Bool
  | 0, _ => true
  | m + 1, h => if (judgeV p s (one38 l i h)).1 = 0 then false else decB p s l i m (h + 1)
def decZ (p s : Int) (l : List S38) (i : Nat) : Bool := decB p s l i ((at38 l i).f1 - (at38 l i).f0 + 1).toNat (at38 l i).f0
theorem one_len (l : List S38) (i : Nat) (h : Int) : (one38 l i h).length = l.length := List.length_set ..
theorem dec_loop (p s : Int) (l : List S38) (hl : l.length ≤ 100) (i : Nat) (hi : i < l.length) (hb : (at38 l i).f1 ≤ 100000) : ∀ (m : Nat) (h : Int) (x : List S38), -100000 ≤ h → h + m = (at38 l i).f1 + 1 → x.length = l.length → (∀ v, x.set i v = l.set i v) →
    Ev (fun k => figure_tolerance_decides.l0 k l (i : Int) x h p s) (decB p s l i m h) := by
  intro m
  induction m with
  | zero =>
    intro h x h0 hm hx hs
    have hlt : (i : Int) < (l.length : Int) := by omega
    have hn : ¬ h ≤ (at38 l i).f1 := by omega
    refine Ev.s ?_
    simp only [figure_tolerance_decides.l0, hlt, n0, if_true, rd38, hn, if_false, decB]
    exact Ev.now _
  | succ m ih =>
    intro h x h0 hm hx hs
    have hlt : (i : Int) < (l.length : Int) := by omega
    have hlx : (i : Int) < (x.length : Int) := by omega
    have hn : h ≤ (at38 l i).f1 := by omega
    refine Ev.s ?_
    have e : x.set i ⟨h, h⟩ = one38 l i h := hs _
    simp only [figure_tolerance_decides.l0, hlt, hlx, n0, if_true, rd38, hn, Option.bind_some, Int.toNat_natCast, e, judge_eq p s (one38 l i h) (show (one38 l i h).length ≤ 1000 by rw [one_len]; omega), decB]
    by_cases hz : (judgeV p s (one38 l i h)).1 = 0
    · simp only [hz, if_true]
      exact Ev.now _
    · simp only [hz, if_false]
      rw [w64 (by omega) (by omega)]
      exact ih (h + 1) _ (by omega) (by omega) (one_len _ _ _) (fun v => by unfold one38; rw [List.set_set])
theorem decides_ev (p s : Int) (l : List S38) (hl : l.length ≤ 100) (i : Nat) (hi : i < l.length) (h0 : -100000 ≤ (at38 l i).f0) (hb : (at38 l i).f1 ≤ 100000) (hle : (at38 l i).f0 ≤ (at38 l i).f1) : Ev (fun k => figure_tolerance_decides.f k p s l (i : Int)) (decZ p s l i) := by
  have hlt : (i : Int) < (l.length : Int) := by omega
  unfold figure_tolerance_decides.f decZ
  simp only [cloneR_eq l (by omega), Option.bind_some, hlt, n0, if_true, rd38]
  exact dec_loop p s l hl i hi hb _ _ l h0 (by omega) rfl (fun _ => rfl)
def firstZ (p s : Int) (l : List S38) : Nat → Nat → Int × Int
  | _, 0 => (0, 12)
  | i, m + 1 => if decZ p s l i then ((i : Int), 0) else firstZ p s l (i + 1) m
theorem deciding_loop (p s : Int) (l : List S38) (hl : l.length ≤ 100) (ok : ∀ j, (-100000 ≤ (at38 l j).f0 ∧ (at38 l j).f0 ≤ 100000) ∧ (-100000 ≤ (at38 l j).f1 ∧ (at38 l j).f1 ≤ 100000) ∧ (at38 l j).f0 ≤ (at38 l j).f1) : ∀ (m i : Nat), i + m = l.length → Ev (fun k => figure_Deciding.l0 k l (l.length : Int) (i : Int) p s) (firstZ p s l i m) := by
  intro m
  induction m with
  | zero =>
    intro i hi
    have h : ¬ (i : Int) < (l.length : Int) := by omega
    refine Ev.s ?_
    simp only [figure_Deciding.l0, h, if_false]
    exact Ev.now _
  | succ m ih =>
    intro i hi
    have h : (i : Int) < (l.length : Int) := by omega
    have o := ok i
    refine Ev.s ?_
    simp only [figure_Deciding.l0, h, if_true, firstZ]
    refine Ev.bind (decides_ev p s l hl i (by omega) o.1.1 o.2.1.2 o.2.2) ?_
    cases decZ p s l i
    · simp only [Bool.false_eq_true, if_false, wi (show i ≤ 100000 by omega)]
      exact ih (i + 1) (by omega)
    · simp only [if_true]
      exact Ev.now _
def wideB (l : List S38) : Nat → Nat → Bool
  | _, 0 => false
  | i, m + 1 => if wrap64 ((at38 l i).f1 - (at38 l i).f0) > 200 then true else wideB l (i + 1) m
theorem wide_loop (l : List S38) (hl : l.length ≤ 100) : ∀ (m i : Nat), i + m = l.length → ∃ v : Int, Ev (fun k => api_Range_111__figure_Deciding_1.l0 k l (l.length : Int) (i : Int)) v ∧ decide (v ≥ 0) = wideB l i m := by
  intro m
  induction m with
  | zero =>
    intro i hi
    have h : ¬ (i : Int) < (l.length : Int) := by omega
    refine ⟨-1, Ev.s ?_, rfl⟩
    simp only [api_Range_111__figure_Deciding_1.l0, h, if_false]
    exact Ev.now _
  | succ m ih =>
    intro i hi
    have h : (i : Int) < (l.length : Int) := by omega
    rw [wideB]
    by_cases g : wrap64 ((at38 l i).f1 - (at38 l i).f0) > 200
    · refine ⟨i, Ev.s ?_, by rw [if_pos g, decide_eq_true (n0 i)]⟩
      simp only [api_Range_111__figure_Deciding_1.l0, h, n0, if_true, rd38, figure_Deciding_1.f, Option.bind_some, g, decide_true]
      exact Ev.now _
    · obtain ⟨v, h1, h2⟩ := ih (i + 1) (by omega)
      refine ⟨v, Ev.s ?_, by rw [if_neg g, h2]⟩
      simp only [api_Range_111__figure_Deciding_1.l0, h, n0, if_true, rd38, figure_Deciding_1.f, Option.bind_some, g, decide_false, Bool.false_eq_true, if_false, wi (show i ≤ 100000 by omega)]
      exact h1
def dV (p s : Int) (l : List S38) : Int × Int := if (judgeV p s l).1 = 0 then (if wideB l 0 l.length then (0, 8) else firstZ p s l 0 l.length) else (0, 24)
theorem Deciding_ev (p s : Int) (l : List S38) (hl : l.length ≤ 100) : Ev (fun k => figure_Deciding.f k l p s) (if jErr l p s = 0 then dV p s l else (0, jErr l p s)) := by
  unfold figure_Deciding.f
  refine Ev.bind (Judge_ev p s l hl) ?_
  by_cases h : jErr l p s = 0
  · simp only [h, if_true, dV]
    obtain ⟨hn, ok⟩ := encV_0 (jErr_0 h).1
    by_cases hz : (judgeV p s l).1 = 0
    · simp only [hz, if_true]
      obtain ⟨v, h1, h2⟩ := wide_loop l hl l.length 0 (by omega)
      unfold api_Range_75__figure_Deciding_1.f api_Range_111__figure_Deciding_1.f
      refine Ev.bind (Ev.bind h1 (Ev.now _)) ?_
      rw [h2]
      cases wideB l 0 l.length
      · simp only [Bool.false_eq_true, if_false]
        exact deciding_loop p s l hl ok l.length 0 (by omega)
      · simp only [if_true]
        exact Ev.now _
    · simp only [hz, if_false]
      exact Ev.now _
  · simp only [h, if_false]
    exact Ev.now _
theorem ref_dec_loop (p s : Int) (l : List S38) (hl : l.length ≤ 100) (i : Nat) (hi : i < l.length) (hb : (at38 l i).f1 ≤ 100000) {r : Int × Int} (nx : Ev (fun k => speculumref06_Deciding.l1 k l (wrap64 ((i : Int) + 1)) p s) r) : ∀ (m : Nat) (h : Int), -100000 ≤ h → h + m = (at38 l i).f1 + 1 →
    ∃ v, Ev (fun k => speculumref06_Deciding.l2 k l (i : Int) true h p s) v ∧ v = (if decB p s l i m h then ((i : Int), 0) else r) := by
  have off : ∀ h, Ev (fun k => speculumref06_Deciding.l2 k l (i : Int) false h p s) r := by
    intro h
    have hlt : (i : Int) < (l.length : Int) := by omega
    refine Ev.s ?_
    by_cases hn : h ≤ (at38 l i).f1
    · simp only [speculumref06_Deciding.l2, hlt, n0, if_true, rd38, hn]
      refine Ev.s ?_
      simp only [speculumref06_Deciding.j3, Bool.false_eq_true, if_false]
      exact nx
    · simp only [speculumref06_Deciding.l2, hlt, n0, if_true, rd38, hn, if_false]
      refine Ev.s ?_
      simp only [speculumref06_Deciding.j3, Bool.false_eq_true, if_false]
      exact nx
  intro m
  induction m with
  | zero =>
    intro h h0 hm
    have hlt : (i : Int) < (l.length : Int) := by omega
    have hn : ¬ h ≤ (at38 l i).f1 := by omega
    refine ⟨((i : Int), 0), Ev.s ?_, rfl⟩
    simp only [speculumref06_Deciding.l2, hlt, n0, if_true, rd38, hn, if_false]
    refine Ev.s ?_
    simp only [speculumref06_Deciding.j3, Bool.false_eq_true, if_false, if_true]
    exact Ev.now _
  | succ m ih =>
    intro h h0 hm
    have hlt : (i : Int) < (l.length : Int) := by omega
    have hn : h ≤ (at38 l i).f1 := by omega
    have hj := refJudge_ev p s (one38 l i h) (by rw [one_len]; omega)
    rw [decB]
    by_cases hz : (judgeV p s (one38 l i h)).1 = 0
    · refine ⟨r, Ev.s ?_, by rw [if_pos hz]; rfl⟩
      simp only [speculumref06_Deciding.l2, hlt, n0, if_true, rd38, hn]
      refine Ev.s ?_
      simp only [speculumref06_Deciding.j3, if_true, copyR_eq l (by omega), Option.bind_some, n0, hlt, Int.toNat_natCast]
      refine Ev.bind hj ?_
      simp only [hz, bne_self_eq_false]
      exact off _
    · obtain ⟨v, h1, h2⟩ := ih (h + 1) (by omega) (by omega)
      refine ⟨v, Ev.s ?_, by rw [if_neg hz]; exact h2⟩
      simp only [speculumref06_Deciding.l2, hlt, n0, if_true, rd38, hn]
      refine Ev.s ?_
      simp only [speculumref06_Deciding.j3, if_true, copyR_eq l (by omega), Option.bind_some, n0, hlt, Int.toNat_natCast]
      refine Ev.bind hj ?_
      have hb' : ((judgeV p s (one38 l i h)).1 != 0) = true := by simpa using hz
      rw [hb', w64 (by omega) (by omega)]
      exact h1
theorem ref_l1 (p s : Int) (l : List S38) (hl : l.length ≤ 100) (ok : ∀ j, (-100000 ≤ (at38 l j).f0 ∧ (at38 l j).f0 ≤ 100000) ∧ (-100000 ≤ (at38 l j).f1 ∧ (at38 l j).f1 ≤ 100000) ∧ (at38 l j).f0 ≤ (at38 l j).f1) : ∀ (m i : Nat), i + m = l.length → Ev (fun k => speculumref06_Deciding.l1 k l (i : Int) p s) (firstZ p s l i m) := by
  intro m
  induction m with
  | zero =>
    intro i hi
    have h : ¬ (i : Int) < (l.length : Int) := by omega
    refine Ev.s ?_
    simp only [speculumref06_Deciding.l1, h, if_false]
    exact Ev.now _
  | succ m ih =>
    intro i hi
    have h : (i : Int) < (l.length : Int) := by omega
    have o := ok i
    refine Ev.s ?_
    simp only [speculumref06_Deciding.l1, h, n0, if_true, rd38]
    have nx : Ev (fun k => speculumref06_Deciding.l1 k l (wrap64 ((i : Int) + 1)) p s) (firstZ p s l (i + 1) m) := by
      rw [wi (by omega)]; exact ih (i + 1) (by omega)
    obtain ⟨v, h1, h2⟩ := ref_dec_loop p s l hl i (by omega) o.2.1.2 nx ((at38 l i).f1 - (at38 l i).f0 + 1).toNat (at38 l i).f0 o.1.1 (by omega)
    rw [firstZ]
    have e : decZ p s l i = decB p s l i ((at38 l i).f1 - (at38 l i).f0 + 1).toNat (at38 l i).f0 := rfl
    rw [e, ← h2]
    exact h1
theorem ref_l0 (p s : Int) (l : List S38) (hl : l.length ≤ 100) {r : Int × Int} (nx : Ev (fun k => speculumref06_Deciding.l1 k l 0 p s) r) : ∀ (m i : Nat), i + m = l.length → Ev (fun k => speculumref06_Deciding.l0 k l (i : Int) p s) (if wideB l i m then (0, 8) else r) := by
  intro m
  induction m with
  | zero =>
    intro i hi
    have h : ¬ (i : Int) < (l.length : Int) := by omega
    refine Ev.s ?_
    simp only [speculumref06_Deciding.l0, h, if_false, wideB, Bool.false_eq_true]
    exact nx
  | succ m ih =>
    intro i hi
    have h : (i : Int) < (l.length : Int) := by omega
    rw [wideB]
    refine Ev.s ?_
    by_cases g : wrap64 ((at38 l i).f1 - (at38 l i).f0) > 200
    · simp only [speculumref06_Deciding.l0, h, n0, if_true, rd38, g]
      exact Ev.now _
    · simp only [speculumref06_Deciding.l0, h, n0, if_true, rd38, g, if_false, wi (show i ≤ 100000 by omega)]
      exact ih (i + 1) (by omega)
theorem refDeciding_ev (p s : Int) (l : List S38) (h : jErr l p s = 0) (hl : l.length ≤ 100) : Ev (fun k => speculumref06_Deciding.f k l p s) (dV p s l) := by
  unfold speculumref06_Deciding.f dV
  obtain ⟨hn, ok⟩ := encV_0 (jErr_0 h).1
  refine Ev.bind (refJudge_ev p s l hl) ?_
  by_cases hz : (judgeV p s l).1 = 0
  · simp only [hz, if_true]
    exact ref_l0 p s l hl (ref_l1 p s l hl ok l.length 0 (by omega)) l.length 0 (by omega)
  · simp only [hz, if_false]
    exact Ev.now _
theorem decides_j0 (l : List S38) (p s : Int) (b : Bool) (hl : b = false → l.length ≤ 45) : Ev (fun k => speculumlaw06_FigureDecides.j0 k l b p s) true := by
  refine Ev.s ?_
  cases b with
  | true =>
    simp only [speculumlaw06_FigureDecides.j0, if_true]
    exact Ev.now _
  | false =>
    have hl := hl rfl
    simp only [speculumlaw06_FigureDecides.j0, Bool.false_eq_true, if_false, ranges_eq l (by omega), Option.bind_some]
    refine Ev.bind (Deciding_ev p s l (by omega)) (Ev.bind (judgeErr_ev l p s) ?_)
    by_cases h : jErr l p s = 0
    · simp only [h, if_true]
      refine Ev.bind (refDeciding_ev p s l h (by omega)) ?_
      simp only [if_true, beq_self_eq_true]
      exact Ev.now _
    · simp only [h, if_false, if_true, beq_self_eq_true]
      exact Ev.now _
theorem FigureDecides (l : List S38) (p s : Int) : ∃ k, speculumlaw06_FigureDecides.f k l p s = some true := by
  refine Ev.rounds (g := fun k => speculumlaw06_FigureDecides.f k l p s) ?_
  unfold speculumlaw06_FigureDecides.f
  refine Ev.bind awake_ev ?_
  simp only [if_true]
  by_cases h : (l.length : Int) > 6
  · by_cases h' : (l.length : Int) ≤ 40
    · simp only [h, h', if_true]
      exact decides_j0 l p s true (fun h => by cases h)
    · simp only [h, h', if_true, if_false]
      exact decides_j0 l p s _ (fun hb => by have := of_decide_eq_false hb; omega)
  · simp only [h, if_false]
    exact decides_j0 l p s _ (fun hb => by have := of_decide_eq_false hb; omega)
end Go.Proofs.Ytdkahcolfcmmpaa.Pure
namespace Go.Proofs.Ytdkahcolfcmmpaa.figureDecides
open Go.ChangeShapes Go.WideShapes Go.ChangeAt Go.RowKit Go.Proofs.Ytdkahcolfcmmpaa.RowB
open Go.ChangeMaps (open_string shut_string)
set_option linter.unusedVariables false
set_option maxRecDepth 100000 in
theorem lifted (os : Os) (started : os.Started) (H : Type) (enc : TypeId × Value → H) :
    ReturnsInHanded {} Try.checked os 6 .any (Rows.figureDecidesSpec.pre6 enc Try.prog Try.f6 Rows.figureDecidesRow.domain false) (Rows.figureDecidesSpec.post enc Try.prog Try.f6 false true false false) := by
  refine returnsInHanded_of_change_sized (C := Try.checked) own started (by kernel_rfl) Try.func6
    (ChangeSpec.witness6 (enc := enc) (C := Try.checked) false ⟨#[], #[.slice none 0 0, .agg #[.int .i64 0, .int .i64 0]], []⟩ 8 (by kernel_rfl) (by kernel_rfl) (by kernel_rfl) (by kernel_rfl)) ?_
  intro W base args ds gs before hval0 hW hcnd hsz0 _
  have hval : ∀ (j : Nat) t v, Try.f6.params[j]? = some t → args[j]? = some v → Value.okWide Try.prog W .any base t v := hval0
  have hW' := hW
  obtain ⟨p, q, hA0, hV, rfl, hfz, hnd⟩ := hW
  have hA : DataW.TrodAll enc Try.prog W 0 (fun _ => true) true Try.f6.params.toList args.toList ds p := hA0
  rw [Try.params6] at hA hval
  obtain ⟨v0, vs0, d0, ds0, p0, q0, hargs, rfl, rfl, h0, r0⟩ := trodAll_cons hA
  obtain ⟨v1, vs1, d1, ds1, p1, q1, rfl, rfl, rfl, h1, r1⟩ := trodAll_cons r0
  obtain ⟨rfl, rfl, rfl⟩ := trodAll_nil r1
  obtain rfl : args = #[v0, v1] := by cases args; simp_all
  obtain ⟨rfl, rfl⟩ := trodVars_none hV
  have k0 := h0
  have lt0 : ∀ x ∈ p0, x.block < W.heap.size := by obtain ⟨m, hm⟩ := k0; exact DataW.trod_lt m _ _ _ hm
  have k1 := h1
  have lt1 : ∀ x ∈ p1, x.block < W.heap.size := by obtain ⟨m, hm⟩ := k1; exact DataW.trod_lt m _ _ _ hm
  obtain ⟨a0, len0, cap0, rfl⟩ := okWide_slice Try.underlying36 (hval 0 36 v0 rfl rfl)
  obtain ⟨fuel0, hf0⟩ := h0
  obtain ⟨a0', c0, l0, e0, hr0, hc0⟩ := isRanges hf0
  simp [Value.cells] at e0
  obtain ⟨rfl, rfl, rfl⟩ := e0
  obtain ⟨u1_0, u1_1, y1_0, y1_1, n1, rfl, hd1, hp1, t1_0, t1_1⟩ := Go.Joins.open_agg2 Try.underlying59 (by kernel_rfl) (by kernel_rfl) (hval 1 59 v1 rfl rfl) h1
  obtain ⟨z1_0, rfl, hw1_0⟩ := isInt t1_0
  obtain ⟨z1_1, rfl, hw1_1⟩ := isInt t1_1
  clear hA0 hval0
  obtain ⟨k, h⟩ := Pure.FigureDecides l0 z1_0 z1_1
  refine (Pr.speculumlaw06_FigureDecides.calls k _ _ l0 z1_0 z1_1 true W hr0 hc0 rfl h).mono fun e W' ⟨he, bel⟩ => ?_
  subst he
  exact ⟨_, rfl, _, _, _, [], _, [], hW', trodAll_mk1 (shut_bool Try.underlying4 _), (trodAll_cons_mk (Below.trod laidOut (by kernel_rfl) (of_decide_eq_true (by kernel_rfl)) k0 bel lt0) (trodAll_cons_mk (Below.trod laidOut (by kernel_rfl) (of_decide_eq_true (by kernel_rfl)) k1 bel lt1) trodAll_mk0)), rfl, bel.frame _, fun h => by cases h⟩
theorem over : Rows.figureDecidesRow.holds Try.pinned (OpenSpec.ofChange Rows.figureDecidesSpec) :=
  OpenClaim.holds_of_wide 6 Try.f6 rfl rfl rfl rfl rfl rfl rfl ⟨rfl, rfl, rfl, rfl, rfl⟩ rfl rfl rfl rfl rfl (by kernel_rfl) Try.func6 (by kernel_rfl)
    (of_decide_eq_true (by kernel_rfl)) (by unfold Func.isWrapper; first | (rw [if_pos (by decide +kernel)]; kernel_rfl) | (rw [if_neg (by decide +kernel)]; exact ⟨rfl, rfl⟩))
    (fun os started H enc _ => lifted os started H enc)
theorem proved : Rows.FigureDecidesSaid := over
end Go.Proofs.Ytdkahcolfcmmpaa.figureDecides
namespace Go.Proofs.Ytdkahcolfcmmpaa
theorem figureDecides_holds : Rows.FigureDecidesSaid := figureDecides.proved
end Go.Proofs.Ytdkahcolfcmmpaa
