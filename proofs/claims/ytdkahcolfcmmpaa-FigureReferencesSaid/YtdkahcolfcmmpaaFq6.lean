import Derived.LoopIn
import Derived.LoopNIn
import Derived.OwnWalkIn
import Derived.RangeFuncBound
import Derived.RangeFuncBox
import Derived.RangeFuncCalls
import Derived.RangeFuncLeaves
import Derived.RangeFuncNested
import Derived.Shelf.Abstract
import Derived.Shelf.RegionOpen
import Derived.Sort.BigQuietIn
import Derived.Sort.QuietThIn
import Derived.TacticsInMore
import Derived.Test.YtdkahcolfcmmpaaFq1
import Derived.Test.YtdkahcolfcmmpaaFq2
import Derived.Test.YtdkahcolfcmmpaaFq4
import Derived.Test.YtdkahcolfcmmpaaFq5
import Derived.WalkKit
import Derived.WalkSpells
namespace Go.Proofs.Ytdkahcolfcmmpaa.Pr
open Go.RowKit Go.Shelf Go.Proofs.YtdkahcolfcmmpaaW.PrintWords Go.Proofs.YtdkahcolfcmmpaaW.PrintLast Go.Proofs.YtdkahcolfcmmpaaW.PrintMore
attribute [local go_sem] max2_int min2_int max_two min_two max_three min_three max_four min_four
set_option linter.unusedVariables false
set_option linter.unusedSimpArgs false
attribute [local go_sem] Oper.semAt_some
def rowUpto (i : Nat) : Nat → List (Nat × Nat)
  | 0 => []
  | n + 1 => if i = n then rowUpto i n else rowUpto i n ++ [(i, n)]
def rowsUpto (z : Nat) : Nat → List (Nat × Nat)
  | 0 => []
  | i + 1 => rowsUpto z i ++ rowUpto i z
def pairsL (z : Nat) : List (Nat × Nat) := rowsUpto z z
theorem rowUpto_length (i n : Nat) : (rowUpto i n).length ≤ n := by
  induction n with
  | zero => simp [rowUpto]
  | succ n ih =>
    rw [rowUpto]
    split
    · omega
    · rw [List.length_append, List.length_singleton]; omega
theorem rowsUpto_length (z i : Nat) : (rowsUpto z i).length ≤ i * z := by
  induction i with
  | zero => simp [rowsUpto]
  | succ i ih =>
    have := rowUpto_length i z
    rw [rowsUpto, List.length_append, Nat.succ_mul]; omega
theorem upto_lt {z i k : Nat} (hi : i < z) (hk : k < z) : (rowsUpto z i ++ rowUpto i k).length < z * z := by
  have h1 := rowsUpto_length z i
  have h2 := rowUpto_length i k
  have h3 : (i + 1) * z ≤ z * z := Nat.mul_le_mul_right _ hi
  rw [Nat.succ_mul] at h3
  rw [List.length_append]; omega
theorem rowUpto_prefix (i : Nat) : ∀ {k n : Nat}, k ≤ n → rowUpto i k <+: rowUpto i n
  | k, 0, h => by obtain rfl : k = 0 := by omega
                  exact List.prefix_refl _
  | k, n + 1, h => by
    rcases Nat.lt_or_ge n k with h' | h'
    · obtain rfl : k = n + 1 := by omega
      exact List.prefix_refl _
    · refine (rowUpto_prefix i h').trans ?_
      rw [rowUpto]; split
      · exact List.prefix_refl _
      · exact List.prefix_append _ _
theorem rowsUpto_prefix (z : Nat) : ∀ {i n : Nat}, i ≤ n → rowsUpto z i <+: rowsUpto z n
  | i, 0, h => by obtain rfl : i = 0 := by omega
                  exact List.prefix_refl _
  | i, n + 1, h => by
    rcases Nat.lt_or_ge n i with h' | h'
    · obtain rfl : i = n + 1 := by omega
      exact List.prefix_refl _
    · exact (rowsUpto_prefix z h').trans (List.prefix_append _ _)
theorem upto_prefix {z i k : Nat} (hi : i < z) (hk : k ≤ z) : rowsUpto z i ++ rowUpto i k <+: pairsL z := by
  refine List.IsPrefix.trans ?_ (rowsUpto_prefix z (show i + 1 ≤ z by omega))
  rw [rowsUpto]
  exact (List.prefix_append_right_inj _).2 (rowUpto_prefix i hk)
def KeepAt (b : Nat) (A B : World) : Prop := B.heap[b]? = A.heap[b]?
theorem KeepAt.refl (b : Nat) (A : World) : KeepAt b A A := rfl
theorem KeepAt.trans {b : Nat} {A B C : World} (h : KeepAt b A B) (k : KeepAt b B C) : KeepAt b A C := Eq.trans k h
theorem KeepAt.cell {b i : Nat} {A B : World} (h : KeepAt b A B) : B.cell? ⟨b, i, none⟩ = A.cell? ⟨b, i, none⟩ := World.cell?_of_block h
theorem keepAt_b {b : Nat} {w : World} (hn : b < w.heap.size) (W : World) (l : Nat) (o o' : Obj) (hl : w.heap.size ≤ l) (h : W.heap[l]? = some o) (_ : o.isCells = false) (_ : o.isWalk = false) : KeepAt b W (W.putObj l o') :=
  World.putObj_heap_other (by omega)
set_option maxRecDepth 100000 in
set_option maxHeartbeats 2000000 in
theorem pairs1_in (F : Fence) (n : Nat) (hF : F.fn 106) (hro : F.round = none) (hn : 1 ≤ n) (l Bz z : Nat) (hz : z ≤ 1000) (J Jx : List (Nat × Nat) → World → Prop)
    (hY : ∀ pre x W, x.1 < z ∧ x.2 < z → J pre W → pre.length < z * z → YieldAt F (n - 1) Try.prog l #[.int .i64 (x.1 : Int), .int .i64 (x.2 : Int)] W fun e W' =>
      (e = .returned (.bool true) ∧ J (pre ++ [x]) W' ∧ KeepAt Bz W W') ∨ (e = .returned (.bool false) ∧ Jx (pre ++ [x]) W'))
    (W : World) (hBz : W.cell? ⟨Bz, 0, none⟩ = some (.int .i64 z)) (h0 : J [] W) :
    CallsIn F n Try.prog 106 #[.func (.yield l) #[] #[], .pointer (some ⟨Bz, 0, none⟩)] W fun e W' => (∃ v, e = .returned v) ∧
      ((∃ ys, ys = pairsL z ∧ J ys W') ∨ (∃ pre, pre <+: pairsL z ∧ Jx pre W')) := by
  refine callsIn_of_wp Try.func106 rfl hF ?_ hro
  simp only [Try.ntmps106, List.size_toArray, List.length_cons, List.length_nil, Nat.reduceAdd, Nat.reduceSub, Array.replicate_succ, Array.replicate_zero, List.push_toArray, List.append_toArray, List.nil_append, List.cons_append]
  gi_wp2
  gi_loopw [6] (fun i wr => ∃ k : Nat, k ≤ z ∧ i = .int .i64 k ∧ J (rowsUpto z k) wr ∧ KeepAt Bz W wr) (fun i _ => z - (intOf i).toNat)
  case atStart => exact ⟨0, Nat.zero_le _, rfl, h0, KeepAt.refl _ _⟩
  case round =>
    obtain ⟨i, hi, rfl, hJs, hnx⟩ := hrel
    have hcz : wr.cell? ⟨Bz, 0, none⟩ = some (.int .i64 z) := hnx.cell.trans hBz
    by_cases hiz : i < z
    · gi_wp2
      gi_loopw [10] (fun kk wr2 => ∃ k : Nat, k ≤ z ∧ kk = .int .i64 k ∧ J (rowsUpto z i ++ rowUpto i k) wr2 ∧ KeepAt Bz W wr2) (fun kk _ => z - (intOf kk).toNat)
      case atStart => exact ⟨0, Nat.zero_le _, rfl, by simpa [rowUpto] using hJs, hnx⟩
      case round =>
        clear hcz hJs hnx
        obtain ⟨k, hk, rfl, hJs, hnx⟩ := hrel
        by_cases hkz : k < z
        · by_cases hik : i = k
          · have hJ2 : J (rowsUpto z i ++ rowUpto i (k + 1)) wr := by rw [rowUpto, if_pos hik]; exact hJs
            have hb1 : ((i : Int) != (k : Int)) = false := by simp [hik]
            have HJ2 := Aside0.mk hJ2
            have HN := Aside0.mk hnx
            clear hik hJs hnx hJ2
            gi_wp2
            refine ⟨fun _ h => (by cases h), ?_⟩
            gi_wp2
            go_roundw
            case rel => exact ⟨k + 1, by omega, by go_num, HJ2.out, HN.out⟩
            case measure => simp [intOf]; omega
          · obtain ⟨fn, tmps, assign, body, hy, hR⟩ := hY _ (i, k) wr ⟨hiz, hkz⟩ hJs (upto_lt hiz hkz)
            dsimp only at hy hR
            have hb1 : ((i : Int) != (k : Int)) = true := by rw [bne_iff_ne]; omega
            have HN := Aside0.mk hnx
            have HI := Aside0.mk hik
            clear hik hJs hnx
            gi_wp2
            refine hR.mono ?_
            rintro e W3 (⟨rfl, hJ3, hk3⟩ | ⟨rfl, hJx3⟩)
            · have HJ3 := Aside0.mk hJ3
              have HN3 := Aside0.mk (HN.out.trans hk3)
              clear hJ3 hk3
              gi_wp2
              go_roundw
              case rel => exact ⟨k + 1, by omega, by go_num, by rw [rowUpto, if_neg HI.out, ← List.append_assoc]; exact HJ3.out, HN3.out⟩
              case measure => simp [intOf]; omega
            · have HJ3 := Aside0.mk hJx3
              clear hJx3
              gi_wp2
              refine bodyPost_ret (results_none rfl _ _ _) rfl ?_
              refine ⟨⟨_, rfl⟩, .inr ⟨_, ?_, HJ3.out⟩⟩
              have := upto_prefix (z := z) (k := k + 1) hiz (by omega)
              rw [rowUpto, if_neg HI.out, ← List.append_assoc] at this
              exact this
        · obtain rfl : k = z := by omega
          have HJ := Aside0.mk hJs
          have HN := Aside0.mk hnx
          clear hJs hnx
          gi_wp2
          go_roundw
          case rel => exact ⟨i + 1, by omega, by go_num, HJ.out, HN.out⟩
          case measure => simp [intOf]; omega
    · obtain rfl : i = z := by omega
      gi_wp2
      go_end0
      exact ⟨⟨_, rfl⟩, .inl ⟨_, rfl, hJs⟩⟩
set_option maxHeartbeats 1000000 in
theorem pairs_in (F : Fence) (n : Nat) (hF : F.fn 68) (hro : F.round = none) (z : Int) (w : World) :
    CallsIn F n Try.prog 68 #[.int .i64 z] w fun e w' => e = .returned (.func (.func 106) #[] #[.pointer (some ⟨w.heap.size, 0, none⟩)]) ∧ w' = w.alloc (.cells #[.int .i64 z] 3) := by
  refine callsIn_of_wp Try.func68 rfl hF ?_ hro
  simp only [Try.ntmps68, List.size_toArray, List.length_cons, List.length_nil, Nat.reduceAdd, Nat.reduceSub, Array.replicate_succ, Array.replicate_zero, List.push_toArray, List.append_toArray, List.nil_append, List.cons_append]
  gi_wp2
  go_ret
  exact ⟨rfl, rfl⟩
abbrev PairIn (z : Nat) : Type := {x : Nat × Nat // x.1 < z ∧ x.2 < z}
theorem pairs_stops (F : Fence) (n : Nat) (hF : F.fn 106) (hro : F.round = none) (hn : 1 ≤ n) (Bz z : Nat) (hz : z ≤ 1000) (w : World) (hBz : Bz < w.heap.size)
    (hc : w.cell? ⟨Bz, 0, none⟩ = some (.int .i64 z)) :
    SeqStopsK F n Try.prog 106 #[.pointer (some ⟨Bz, 0, none⟩)] (fun x : PairIn z => #[Value.int .i64 (x.1.1 : Int), Value.int .i64 (x.1.2 : Int)]) (KeepAt Bz) (fun ys => ys.map Subtype.val = pairsL z) (fun pre => pre.map Subtype.val <+: pairsL z) (z * z) w := fun l J Jx W hW _ _ hY h0 =>
  (pairs1_in F n hF hro hn l Bz z hz (fun pre W => ∃ p : List (PairIn z), p.map Subtype.val = pre ∧ J p W) (fun pre W => ∃ p : List (PairIn z), p.map Subtype.val = pre ∧ Jx p W)
    (fun pre x W hx hJ hl => by
      obtain ⟨p, rfl, hJ⟩ := hJ
      obtain ⟨fn, tmps, assign, body, hy, hR⟩ := hY p ⟨x, hx⟩ W hJ (by simpa using hl)
      refine ⟨fn, tmps, assign, body, hy, hR.mono ?_⟩
      rintro e W' (⟨h1, h2, h3⟩ | ⟨h1, h2⟩)
      · exact .inl ⟨h1, ⟨p ++ [⟨x, hx⟩], by simp, h2⟩, h3⟩
      · exact .inr ⟨h1, ⟨p ++ [⟨x, hx⟩], by simp, h2⟩⟩)
    W ((hW.cell (p := ⟨Bz, 0, none⟩) hBz).trans hc) ⟨[], rfl, h0⟩).mono (by
      rintro e W' ⟨hv, h | h⟩
      · obtain ⟨ys, rfl, p, hp, hJ⟩ := h
        exact ⟨hv, .inl ⟨p, hp, hJ⟩⟩
      · obtain ⟨pre, hs, p, rfl, hJ⟩ := h
        exact ⟨hv, .inr ⟨p, hs, hJ⟩⟩)
end Go.Proofs.Ytdkahcolfcmmpaa.Pr
namespace Go
section
variable {F : Fence} {n : Nat} {P : Program} {ops : Array Oper} {C : World → Prop}
def noDefer (ops : Array Oper) : Bool := ops.all fun o => match o.op with | .defer _ => false | _ => true
theorem noDefer_at {ops : Array Oper} (h : noDefer ops = true) {i : Nat} {o : Oper} (ho : ops[i]? = some o) : ∀ c, o.op ≠ .defer c := by
  intro c hc
  unfold noDefer at h
  obtain ⟨hi, rfl⟩ := Array.getElem?_eq_some_iff.1 ho
  have := (Array.all_eq_true.1 h) i hi
  rw [hc] at this
  cases this
theorem Oper.wpIn_of_quiet_r {o : Oper} {a : Act} {K : Act → Prop} {K' : Act → World → Prop} {Q' : Exit → Act → World → Prop} {w : World} (hnd : ∀ c, o.op ≠ .defer c) (hw : C w) (h : ∀ a w', C w' → K a → K' a w')
    (ha : o.askedIn F P a C) (hh : o.quietIn F n P a C K) : o.wpIn F n P a w K' Q' := by
  obtain ⟨v, h1, h2⟩ := hh
  have h3 := h1 w hw
  unfold Oper.quietAtIn at h3
  unfold Oper.wpIn
  refine ⟨ha w hw, ?_⟩
  rw [Oper.semAt_eq _ _ _ hnd]
  generalize (execOp a.eval o).run P w = r at *
  cases r with
  | ok x w' =>
    cases x <;> simp only [Oper.quietUponIn] at h3 <;> simp only [Oper.uponIn]
    case value u =>
      obtain ⟨e1, e2⟩ := h3
      rw [e1, e2]
      exact h _ _ hw h2
    case skip =>
      obtain ⟨e1, e2⟩ := h3
      rw [e1, ← e2]
      exact h _ _ hw h2
    case enter f args =>
      obtain ⟨e1, hd, hc⟩ := h3
      rw [e1]
      exact ⟨hd, hc.mono fun e w'' ⟨he, hw''⟩ => by subst he; exact h _ _ hw'' h2⟩
  | halt x w' => simp only [Oper.quietUponIn] at h3
theorem wpOpIn_of_qOpIn_r {i : Nat} {a : Act} {K : Act → Prop} {K' : Act → World → Prop} {Q' : Exit → Act → World → Prop} {w : World} (hnd : noDefer ops = true) (hC : C w) (h : ∀ a w', C w' → K a → K' a w')
    (hh : qOpIn F n P ops C i K a) : wpOpIn F n P ops Q' i K' a w := by
  unfold qOpIn at hh
  unfold wpOpIn
  split
  · rename_i ho; simp only [ho] at hh; exact h _ _ hC hh
  · rename_i o ho
    simp only [ho] at hh
    obtain ⟨ha, hh⟩ := hh
    split
    · rename_i hw; simp only [hw, if_true] at hh; exact Oper.wpIn_of_quiet_r (noDefer_at hnd ho) hC h ha hh
    · rename_i hw; simp only [hw] at hh; exact ⟨ha w hC, h _ _ hC hh⟩
theorem wpAnyIn_of_quiet_r {md : Region.Mode} {Q : Act → Prop} {Q' : Exit → Act → World → Prop} (hnd : noDefer ops = true) (hQ : ∀ a w, C w → Q a → Q' .normal a w) : ∀ (fuel : Nat) (listed : Array Bool) (a : Act) (w : World), C w →
    wpAnyQIn F n P md ops C Q fuel listed a → wpAnyIn F n P md ops Q' fuel listed a w
  | 0, _, _, _, hw, h => ⟨h.1, hQ _ _ hw h.2⟩
  | fuel + 1, _, _, _, hw, h => ⟨fun h0 => hQ _ _ hw (h.1 h0), fun i hi => wpOpIn_of_qOpIn_r hnd hw (fun a' w' hw' => wpAnyIn_of_quiet_r hnd hQ fuel _ a' w' hw') (h.2 i hi)⟩
theorem wpIn_region_quiet_r {id : Nat} {Q : Exit → Act → World → Prop} {a : Act} {w : World} (hnd : noDefer ops = true) (hm : P.follows .mixedOrders = true) (hB : Region.lexB .any ops = true) (hC : C { w with drawn := w.drawn + 1 })
    (h : wpQuietIn F n P ops C (fun a' => ∀ w', C w' → Q .normal a' w') ops.toList a) : (Code.region id ops true).wpIn F n P Q a w := by
  simp only [Region.lexB, Bool.and_eq_true] at hB
  refine wpIn_region_any hm (wpAnyIn_of_quiet_r (Q := fun a' => ∀ w', C w' → Q .normal a' w') hnd (fun _ w' hw' h => h w' hw') _ _ _ _ hC ?_)
  have := wpAnyQIn_lex (F := F) (n := n) (C := C) (md := .any) hB.1 ops.toList 0 (Array.replicate ops.size false) a (by simp) (by simpa using hB.2) h
  simpa using this
theorem wpIn_region_quiet_lit_r {id : Nat} {Q : Exit → Act → World → Prop} {a : Act} {w : World} {l : List Oper} (hnd : noDefer l.toArray = true) (hm : P.follows .mixedOrders = true) (hB : Region.lexB .any l.toArray = true)
    (h : wpQuietIn F n P l.toArray (fun w' => ∃ n, w' = w.drewN n) (fun a' => ∀ w', (∃ n, w' = w.drewN n) → Q .normal a' w') l a) : (Code.region id l.toArray true).wpIn F n P Q a w :=
  wpIn_region_quiet_r (C := fun w' => ∃ n, w' = w.drewN n) hnd hm hB ⟨1, rfl⟩ (by simpa using h)
end
end Go
namespace Go.Proofs.Ytdkahcolfcmmpaa.Pr
open Go.RowKit Go.Shelf Go.Proofs.YtdkahcolfcmmpaaW.PrintWords Go.Proofs.YtdkahcolfcmmpaaW.PrintLast Go.Proofs.YtdkahcolfcmmpaaW.PrintMore
attribute [local go_sem] max2_int min2_int max_two min_two max_three min_three max_four min_four
set_option linter.unusedVariables false
set_option linter.unusedSimpArgs false
attribute [local go_sem] Oper.semAt_some
def bd (p s : Int) (i k : Nat) : Int := mn p (wrap64 (s * (mx (wrap64 ((i : Int) - k)) (wrap64 (-(wrap64 ((i : Int) - k)))))))
theorem bd_f (p s : Int) (i k : Nat) : figure_tolerance_bound.f p s i k = some (bd p s i k) := rfl
def jRef (p s : Int) (l : List S38) (x : Nat × Nat) : Bool := decide (bd p s x.1 x.2 < wrap64 ((rd_T38 l x.1).f0 - (rd_T38 l x.2).f1))
def jUnd (p s : Int) (l : List S38) (x : Nat × Nat) : Bool := decide (bd p s x.1 x.2 < wrap64 ((rd_T38 l x.1).f1 - (rd_T38 l x.2).f0))
def figure_tolerance_judge.f (a0_0 : Int) (a0_1 : Int) (l1 : List (S38)) : Option (Int × Int × Int) :=
  if l1.length ≤ 1000 then
    some (match (pairsL l1.length).find? (jRef a0_0 a0_1 l1) with
      | some x => (-1, x.1, x.2)
      | none => if (pairsL l1.length).any (jUnd a0_0 a0_1 l1) then (0, 0, 0) else (1, 0, 0))
  else none
theorem hcell {W : World} {b : Nat} {cs : Array Value} {t : TypeId} (h : W.heap[b]? = some (.cells cs t (0, 0))) (i : Nat) : W.cell? ⟨b, i, none⟩ = cs[i]? := by
  simp [World.cell?, h]
theorem hfro {W : World} {b : Nat} {cs : Array Value} {t : TypeId} (h : W.heap[b]? = some (.cells cs t (0, 0))) (i : Nat) : W.frozen? ⟨b, i, none⟩ = false := by
  simp [World.frozen?, h]
theorem hset {W : World} {b : Nat} {cs : Array Value} {t : TypeId} (h : W.heap[b]? = some (.cells cs t (0, 0))) (i : Nat) (v : Value) : (W.setCell ⟨b, i, none⟩ v).heap[b]? = some (.cells (cs.setIfInBounds i v) t (0, 0)) := by
  simp [World.setCell, Array.getElem?_modify, h]
theorem hlt {W : World} {b : Nat} {o : Obj} (h : W.heap[b]? = some o) : b < W.heap.size := (Array.getElem?_eq_some_iff.1 h).1
theorem hold {W W' : World} {b n : Nat} {o : Obj} (h : W.heap[b]? = some o) (hB : Below n W W') (hn : b < n) : W'.heap[b]? = some o := (hB.block b hn).trans h
theorem alloc_at (W : World) (o : Obj) (k : Nat) : (W.alloc o).heap[k]? = if k = W.heap.size then some o else W.heap[k]? := by
  show (W.heap.push o)[k]? = _
  rw [Array.getElem?_push]
def JSt (b : Nat) (sl : Value) (p s r x y ans : Int) (W : World) : Prop :=
  W.heap[b]? = some (.cells #[.int .i64 p, .int .i64 s] 118 (0, 0)) ∧ W.heap[b + 1]? = some (.cells #[sl] 36 (0, 0)) ∧ W.heap[b + 1 + 1]? = some (.cells #[.int .i64 r] 3 (0, 0)) ∧
  W.heap[b + 1 + 1 + 1]? = some (.cells #[.int .i64 x, .int .i64 y] 48 (0, 0)) ∧ W.heap[b + 1 + 1 + 1 + 1]? = some (.cells #[.int .i64 ans] 3 (0, 0)) ∧ b + 6 ≤ W.heap.size
theorem JSt.grown {b : Nat} {sl : Value} {p s r x y ans : Int} {A B : World} {row : Option Nat} (h : JSt b sl p s r x y ans A) (hg : A.grownBy B row) (hr : ∀ r, row = some r → ∃ o : Obj, A.heap[r]? = some o ∧ o.isCells = false) : JSt b sl p s r x y ans B :=
  ⟨(grownBy_keeps_cells hg hr h.1 rfl).trans h.1, (grownBy_keeps_cells hg hr h.2.1 rfl).trans h.2.1, (grownBy_keeps_cells hg hr h.2.2.1 rfl).trans h.2.2.1, (grownBy_keeps_cells hg hr h.2.2.2.1 rfl).trans h.2.2.2.1, (grownBy_keeps_cells hg hr h.2.2.2.2.1 rfl).trans h.2.2.2.2.1, Nat.le_trans h.2.2.2.2.2 hg.size⟩
theorem JSt.below {b : Nat} {sl : Value} {p s r x y ans : Int} {A B : World} (h : JSt b sl p s r x y ans A) (hB : Below A.heap.size A B) : JSt b sl p s r x y ans B :=
  ⟨hold h.1 hB (hlt h.1), hold h.2.1 hB (hlt h.2.1), hold h.2.2.1 hB (hlt h.2.2.1), hold h.2.2.2.1 hB (hlt h.2.2.2.1), hold h.2.2.2.2.1 hB (hlt h.2.2.2.2.1), Nat.le_trans h.2.2.2.2.2 hB.size⟩
theorem keeps_of_below {A B : World} (h : Below A.heap.size A B) : KeepsOthers A B := ⟨h.size, fun k o hk _ => (h.block k (hlt hk)).trans hk⟩
def JI (w : World) (sl : Value) (p s : Int) (l : List S38) (pre : List (PairIn l.length)) (W : World) : Prop :=
  ((∀ x ∈ pre, jRef p s l x.1 = false) ∧ JSt w.heap.size sl p s 0 0 0 (if pre.any (fun x => jUnd p s l x.1) then 0 else 1) W) ∧ Below w.heap.size w W
def JIx (w : World) (sl : Value) (p s : Int) (l : List S38) (c : Code) (pre : List (PairIn l.length)) (W : World) : Prop :=
  (c = .ret ∧ ∃ ini last, pre = ini ++ [last] ∧ (∀ x ∈ ini, jRef p s l x.1 = false) ∧ jRef p s l last.1 = true ∧ ∃ z, JSt w.heap.size sl p s (-1) last.1.1 last.1.2 z W) ∧ Below w.heap.size w W
set_option maxRecDepth 100000 in
set_option maxHeartbeats 4000000 in
theorem figure_tolerance_judge.calls (a0_0 : Int) (a0_1 : Int) (A1 : Option Addr) (c1 : Nat) (l1 : List (S38)) (r1 : Int) (r2 : Int) (r3 : Int) (w : World) (hr1 : Kd.C k38 w A1 l1.length l1) (hc1 : l1.length ≤ c1) (h : figure_tolerance_judge.f a0_0 a0_1 l1 = some (r1, r2, r3)) :
    Calls Try.prog 103 #[.agg #[.int .i64 a0_0, .int .i64 a0_1], .slice A1 l1.length c1] w fun e w' => e = .returned (.tuple #[.int .i64 r1, .agg #[.int .i64 r2, .int .i64 r3]]) ∧ Below w.heap.size w w' := by
  have hu118 := Try.underlying118
  have hu48 := Try.underlying48
  have hz : l1.length ≤ 1000 := by
    unfold figure_tolerance_judge.f at h; split at h
    · assumption
    · cases h
  refine (callsIn_wide (n := 3)).1 ?_
  refine callsIn_of_wp_marks Try.func103 rfl trivial ?_ rfl
  simp only [Try.ntmps103, List.size_toArray, List.length_cons, List.length_nil, Nat.reduceAdd, Nat.reduceSub, Array.replicate_succ, Array.replicate_zero, List.push_toArray, List.append_toArray, List.nil_append, List.cons_append]
  gi_wp2_with (refine ⟨trivial, ?_⟩; gi_at_call 68; refine (pairs_in Fence.wide _ trivial rfl _ _).mono ?_; rintro e w' ⟨rfl, rfl⟩)
  generalize hw6 : World.alloc _ (Obj.cells #[Value.int IntKind.i64 (l1.length : Int)] 3) = w6
  obtain ⟨hs6, hJ6, hz6, hB6⟩ : w6.heap.size = w.heap.size + 6 ∧ JSt w.heap.size (.slice A1 l1.length c1) a0_0 a0_1 0 0 0 1 w6 ∧ w6.heap[w.heap.size + 1 + 1 + 1 + 1 + 1]? = some (.cells #[.int .i64 l1.length] 3 (0, 0)) ∧ Below w.heap.size w w6 := by
    subst hw6
    refine ⟨by simp, ?_, ?_, ?_⟩
    · refine ⟨?_, ?_, ?_, ?_, ?_, by simp only [World.size_alloc]; omega⟩ <;> (simp only [alloc_at, World.size_alloc, ↓reduceIte]; (repeat' split) <;> (first | rfl | (exfalso; omega)))
    · simp only [alloc_at, World.size_alloc, ↓reduceIte]
    · exact (((((((Below.refl _ w).alloc (Nat.le_refl _) _).alloc (by simp) _).alloc (by simp; omega) _).alloc (by simp; omega) _).alloc (by simp; omega) _).alloc (by simp; omega) _)
  clear hw6
  have fin : ∀ (W : World) (r x y : Int) (a : Act) (D : Nat), w.heap.size ≤ D → W.heap[w.heap.size + 1 + 1]? = some (.cells #[.int .i64 r] 3 (0, 0)) → W.heap[w.heap.size + 1 + 1 + 1]? = some (.cells #[.int .i64 x, .int .i64 y] 48 (0, 0)) → W.heap[D]? = some (.deferred (some [])) → Below w.heap.size w W →
      a.defers = [{ target := .collected D, args := #[] }] → a.tmps[4]? = some (.pointer (some ⟨w.heap.size + 1 + 1, 0, none⟩)) → a.tmps[5]? = some (.pointer (some ⟨w.heap.size + 1 + 1 + 1, 0, none⟩)) → (r1, r2, r3) = (r, x, y) →
      bodyPostM Fence.wide 3 Try.prog Try.f103 (fun e w' => e = .returned (.tuple #[.int .i64 r1, .agg #[.int .i64 r2, .int .i64 r3]]) ∧ Below w.heap.size w w') .ret a W := by
    rintro W r x y ⟨tm, df⟩ D hD k2 k3 hK hB rfl h4 h5 he
    cases he
    dsimp only at h4 h5
    refine ⟨by simp, .inl ⟨_, _, rfl, run_takeDeferred hK, ?_⟩⟩
    have q2 := cell_kept (hcell k2 0) (grownBy_putObj' _ D (.deferred none)) (fun r e => by cases e; exact ⟨_, hK, rfl⟩)
    have q3 := cell_kept (hcell k3 0) (grownBy_putObj' _ D (.deferred none)) (fun r e => by cases e; exact ⟨_, hK, rfl⟩)
    have q31 := cell_kept (hcell k3 1) (grownBy_putObj' _ D (.deferred none)) (fun r e => by cases e; exact ⟨_, hK, rfl⟩)
    refine ⟨.tuple #[.int .i64 r1, .agg #[.int .i64 r2, .int .i64 r3]], ?_, rfl, hB.trans (belowK_b (w := w) (Nat.le_refl _) W D _ _ hD hK rfl rfl)⟩
    simp [results, Try.f103, go_sem, q2, q3, q31, h4, h5, hu48]
  refine wpIn_rangeFunc_ownG rfl (by omega) (gf := 106) (lb := #[.pointer (some ⟨w.heap.size + 1 + 1 + 1 + 1 + 1, 0, none⟩)]) rfl trivial (enters_of Try.func106 (by kernel_rfl) rfl)
    (pairs_stops Fence.wide _ trivial rfl (by omega) (w.heap.size + 1 + 1 + 1 + 1 + 1) l1.length hz w6 (by omega) ((hcell hz6 0).trans rfl)) KeepAt.trans (keepAt_b (by omega)) (Below.refl _ _) (fun _ => rfl)
    (JI w (.slice A1 l1.length c1) a0_0 a0_1 l1) (JIx w (.slice A1 l1.length c1) a0_0 a0_1 l1)
    (OwnFrom.and (Own.from (fun s A B row hs hg hr => ⟨hs.1, hs.2.grown hg hr⟩) _) (ownFrom_below (Nat.le_refl _) (by omega)))
    (fun c => OwnFrom.and (Own.from (fun s A B row hs hg hr => by obtain ⟨hc, ini, last, e1, e2, e3, z, e4⟩ := hs; exact ⟨hc, ini, last, e1, e2, e3, z, e4.grown hg hr⟩) _) (ownFrom_below (Nat.le_refl _) (by omega)))
    ⟨⟨by simp, hJ6⟩, hB6⟩
    (fun x => { tmps := #[.agg #[.int .i64 a0_0, .int .i64 a0_1], .slice A1 l1.length c1, .pointer (some ⟨w.heap.size, 0, none⟩), .pointer (some ⟨w.heap.size + 1, 0, none⟩), .pointer (some ⟨w.heap.size + 1 + 1, 0, none⟩), .pointer (some ⟨w.heap.size + 1 + 1 + 1, 0, none⟩), .pointer (some ⟨w.heap.size + 1 + 1 + 1 + 1, 0, none⟩), .int .i64 (x.1.1 : Int), .int .i64 (x.1.2 : Int), undef, .slice A1 l1.length c1, .int .i64 l1.length, .func (.func 106) #[] #[.pointer (some ⟨w.heap.size + 1 + 1 + 1 + 1 + 1, 0, none⟩)], .int .i64 (x.1.1 : Int), .int .i64 (x.1.2 : Int), undef, undef, undef, undef, undef, undef, undef, undef, undef, undef, undef, undef, undef, undef, undef, undef, undef, undef, undef, undef, undef, undef, undef, undef, undef, undef, undef, undef, undef, undef, undef, undef, undef, undef, undef], defers := [] }) ?assign ?body ?done ?stop
  case assign =>
    intro l x W K hK
    gi_wp2
    exact hK
  case body =>
    rintro l pre ⟨⟨x1, x2⟩, hx1, hx2⟩ W ⟨⟨hp, hJ⟩, hB⟩ _
    dsimp only at hx1 hx2
    obtain ⟨k0, k1, k2, k3, k4, k6⟩ := hJ
    have c0 := (hcell k0 0).trans rfl
    have c01 := (hcell k0 1).trans rfl
    have c1' := (hcell k1 0).trans rfl
    gi_wp2_with (refine ⟨trivial, ?_⟩; gi_at_call 104; refine (CallsIn.inRound l (callsIn_wide.2 (figure_tolerance_bound.calls _ _ _ _ _ _ (bd_f a0_0 a0_1 x1 x2)))).mono ?_; rintro e W2 ⟨rfl, hB2⟩; have hJ2 := JSt.below ⟨k0, k1, k2, k3, k4, k6⟩ hB2)
    have hbd : jRef a0_0 a0_1 l1 (x1, x2) = decide (bd a0_0 a0_1 x1 x2 < wrap64 ((rd_T38 l1 x1).f0 - (rd_T38 l1 x2).f1)) := rfl
    have hbu : jUnd a0_0 a0_1 l1 (x1, x2) = decide (bd a0_0 a0_1 x1 x2 < wrap64 ((rd_T38 l1 x1).f1 - (rd_T38 l1 x2).f0)) := rfl
    generalize hbe : bd a0_0 a0_1 x1 x2 = bb at *
    have hK2 := (keeps_of_below hB2).from w6.heap.size
    have hBn := hB2.mono hB.size
    have hz5 : w.heap.size + 1 + 1 + 1 + 1 + 1 < W.heap.size := by omega
    have hk5 : KeepAt (w.heap.size + 1 + 1 + 1 + 1 + 1) W W2 := hB2.block _ hz5
    have hBw : Below w.heap.size w W2 := hB.trans hBn
    clear k0 k1 k2 k3 k4 k6 c0 c01 c1' hJ6
    obtain ⟨k0, k1, k2, k3, k4, k6⟩ := hJ2
    have c1' := (hcell k1 0).trans rfl
    obtain ⟨ad, hA, hi0, hi1⟩ := at_T38 (Kd.C_below hr1 hBw) x1 (by omega) (by omega)
    obtain ⟨ad', hA', hk0, hk1⟩ := at_T38 (Kd.C_below hr1 hBw) x2 (by omega) (by omega)
    obtain rfl : ad = ad' := by rw [hA] at hA'; exact Option.some.inj hA'
    subst hA
    simp only [Int.toNat_natCast] at hi0 hi1 hk0 hk1
    have d4 : W2.cell? ⟨w.heap.size + 1 + 1 + 1 + 1, 0, none⟩ = some (.int .i64 (if pre.any (fun x => jUnd a0_0 a0_1 l1 x.1) then 0 else 1)) := hcell k4 0
    have e4 : W2.frozen? ⟨w.heap.size + 1 + 1 + 1 + 1, 0, none⟩ = false := hfro k4 0
    (refine wpIn_region_quiet_lit_r (by kernel_rfl) (by kernel_rfl) (by kernel_rfl) ?_; (repeat (gi_big_quiet_step (fail))); refine wpQuietIn_nil ?_; intro _ hw'; obtain ⟨nq, hw''⟩ := hw'; subst hw'')
    replace k2 : (W2.drewN nq).heap[w.heap.size + 1 + 1]? = _ := k2
    replace k3 : (W2.drewN nq).heap[w.heap.size + 1 + 1 + 1]? = _ := k3
    replace k4 : (W2.drewN nq).heap[w.heap.size + 1 + 1 + 1 + 1]? = _ := k4
    have d2 := (hcell k2 0).trans rfl
    have e2 := hfro k2 0
    have k3' : ∀ v, ((W2.drewN nq).setCell ⟨w.heap.size + 1 + 1, 0, none⟩ v).heap[w.heap.size + 1 + 1 + 1]? = _ := fun v => (Deep.blk_setCell_other _ _ _ _ (by dsimp only; omega)).trans k3
    have d3 := fun v => (hcell (k3' v) 0).trans rfl
    have e3 := fun v => hfro (k3' v) 0
    have d31 := fun v v' => (hcell (hset (k3' v) 0 v') 1).trans rfl
    have e31 := fun v v' => hfro (hset (k3' v) 0 v') 1
    gi_wp2
    · have hr : jRef a0_0 a0_1 l1 (x1, x2) = true := by rw [hbd]; exact decide_eq_true (by assumption)
      try rw [← hs6]
      refine ⟨hK2.trans (KeepsFrom.trans (Y := W2.drewN nq) ⟨Nat.le_refl _, fun _ _ _ h _ => h⟩ ((KeepsOthers.setCell _ _ _).trans ((KeepsOthers.setCell _ _ _).trans (KeepsOthers.setCell _ _ _)) |>.from _)), ⟨rfl, pre, ⟨(x1, x2), hx1, hx2⟩, rfl, hp, hr, (if pre.any (fun x => jUnd a0_0 a0_1 l1 x.1) then 0 else 1), ?_, ?_, ?_, ?_, ?_, by simpa using k6⟩, ?_⟩
      · rw [Deep.blk_setCell_other _ _ _ _ (by dsimp only; omega), Deep.blk_setCell_other _ _ _ _ (by dsimp only; omega), Deep.blk_setCell_other _ _ _ _ (by dsimp only; omega)]; exact k0
      · rw [Deep.blk_setCell_other _ _ _ _ (by dsimp only; omega), Deep.blk_setCell_other _ _ _ _ (by dsimp only; omega), Deep.blk_setCell_other _ _ _ _ (by dsimp only; omega)]; exact k1
      · rw [Deep.blk_setCell_other _ _ _ _ (by dsimp only; omega), Deep.blk_setCell_other _ _ _ _ (by dsimp only; omega)]; exact hset k2 0 _
      · exact hset (hset (k3' _) 0 _) 1 _
      · rw [Deep.blk_setCell_other _ _ _ _ (by dsimp only; omega), Deep.blk_setCell_other _ _ _ _ (by dsimp only; omega), Deep.blk_setCell_other _ _ _ _ (by dsimp only; omega)]; exact k4
      · exact (((pw_below_drewN hBw nq).setCell (by simp; omega) _).setCell (by simp; omega) _).setCell (by simp; omega) _
    · have hr : jRef a0_0 a0_1 l1 (x1, x2) = false := by rw [hbd]; exact decide_eq_false (by omega)
      (refine wpIn_region_quiet_lit_r (by kernel_rfl) (by kernel_rfl) (by kernel_rfl) ?_; (repeat (gi_big_quiet_step (fail))); refine wpQuietIn_nil ?_; intro _ hw'; obtain ⟨nq, hw''⟩ := hw'; subst hw'')
      gi_wp2
      · have hu : jUnd a0_0 a0_1 l1 (x1, x2) = true := by rw [hbu]; exact decide_eq_true (by assumption)
        try rw [← hs6]
        refine ⟨hK2.trans (KeepsFrom.trans (Y := W2.drewN _) ⟨Nat.le_refl _, fun _ _ _ h _ => h⟩ ((KeepsOthers.setCell _ _ _).from _)), (hk5.trans (Deep.blk_setCell_other _ _ _ _ (by dsimp only; omega))), ⟨?_, ?_, ?_, ?_, ?_, ?_, by simpa using k6⟩, ?_⟩
        · intro y hy
          rcases List.mem_append.1 hy with hy | hy
          · exact hp y hy
          · rw [List.mem_singleton.1 hy]; exact hr
        · rw [Deep.blk_setCell_other _ _ _ _ (by dsimp only; omega)]; exact k0
        · rw [Deep.blk_setCell_other _ _ _ _ (by dsimp only; omega)]; exact k1
        · rw [Deep.blk_setCell_other _ _ _ _ (by dsimp only; omega)]; exact k2
        · rw [Deep.blk_setCell_other _ _ _ _ (by dsimp only; omega)]; exact k3
        · rw [List.any_append]
          simp only [List.any_cons, hu, Bool.true_or, Bool.or_true, if_true]
          exact hset k4 0 _
        · exact (pw_below_drewN hBw _).setCell (by simp; omega) _
      · have hu : jUnd a0_0 a0_1 l1 (x1, x2) = false := by rw [hbu]; exact decide_eq_false (by omega)
        try rw [← hs6]
        refine ⟨hK2.trans ⟨Nat.le_refl _, fun _ _ _ h _ => h⟩, hk5, ⟨?_, k0, k1, k2, k3, ?_, k6⟩, pw_below_drewN (pw_below_drewN hBw _) _⟩
        · intro y hy
          rcases List.mem_append.1 hy with hy | hy
          · exact hp y hy
          · rw [List.mem_singleton.1 hy]; exact hr
        · rw [List.any_append]
          simp only [List.any_cons, List.any_nil, hu, Bool.or_false]
          exact k4
  case done =>
    rintro D ys W hD hys ⟨⟨hne, hJ⟩, hB⟩ hK
    have hfind : (pairsL l1.length).find? (jRef a0_0 a0_1 l1) = none := by
      rw [← hys, List.find?_eq_none]
      intro x hx
      obtain ⟨y, hy, rfl⟩ := List.mem_map.1 hx
      rw [hne y hy]; simp
    have hany : (pairsL l1.length).any (jUnd a0_0 a0_1 l1) = ys.any (fun x => jUnd a0_0 a0_1 l1 x.1) := by rw [← hys, List.any_map]; rfl
    unfold figure_tolerance_judge.f at h
    rw [if_pos hz, hfind, hany] at h
    obtain ⟨k0, k1, k2, k3, k4, k6⟩ := hJ
    have d4 : W.cell? ⟨w.heap.size + 1 + 1 + 1 + 1, 0, none⟩ = some (.int .i64 (if ys.any (fun x => jUnd a0_0 a0_1 l1 x.1) then 0 else 1)) := hcell k4 0
    have d2 : W.cell? ⟨w.heap.size + 1 + 1, 0, none⟩ = some (.int .i64 0) := hcell k2 0
    have e2 := hfro k2 0
    have k3' : ∀ v, (W.setCell ⟨w.heap.size + 1 + 1, 0, none⟩ v).heap[w.heap.size + 1 + 1 + 1]? = _ := fun v => (Deep.blk_setCell_other _ _ _ _ (by dsimp only; omega)).trans k3
    have d3 := fun v => (hcell (k3' v) 0).trans rfl
    have e3 := fun v => hfro (k3' v) 0
    have d31 := fun v v' => (hcell (hset (k3' v) 0 v') 1).trans rfl
    have e31 := fun v v' => hfro (hset (k3' v) 0 v') 1
    cases hb : ys.any (fun x => jUnd a0_0 a0_1 l1 x.1)
    · rw [hb] at h d4
      simp only [Bool.false_eq_true, if_false] at d4
      gi_wp2
      refine fin _ 1 0 0 _ D (by omega) ((Deep.blk_setCell_other _ _ _ _ (by dsimp only; omega)).trans ((Deep.blk_setCell_other _ _ _ _ (by dsimp only; omega)).trans (hset k2 0 _))) (hset (hset (k3' _) 0 _) 1 _) ((KeepsOthers.setCell _ _ _).trans ((KeepsOthers.setCell _ _ _).trans (KeepsOthers.setCell _ _ _)) |>.same D _ hK rfl) (((hB.setCell (by simp; omega) _).setCell (by simp; omega) _).setCell (by simp; omega) _) rfl rfl rfl ?_
      simpa using h.symm
    · rw [hb] at h d4
      simp only [if_true] at d4
      gi_wp2
      refine fin _ 0 0 0 _ D (by omega) ((Deep.blk_setCell_other _ _ _ _ (by dsimp only; omega)).trans ((Deep.blk_setCell_other _ _ _ _ (by dsimp only; omega)).trans (hset k2 0 _))) (hset (hset (k3' _) 0 _) 1 _) ((KeepsOthers.setCell _ _ _).trans ((KeepsOthers.setCell _ _ _).trans (KeepsOthers.setCell _ _ _)) |>.same D _ hK rfl) (((hB.setCell (by simp; omega) _).setCell (by simp; omega) _).setCell (by simp; omega) _) rfl rfl rfl ?_
      simpa using h.symm
  case stop =>
    rintro D c pre W hD hpre ⟨⟨rfl, ini, last, e1, e2, e3, z, hJ⟩, hB⟩ hK
    gi_wp2
    obtain ⟨k0, k1, k2, k3, k4, k6⟩ := hJ
    refine fin _ _ _ _ _ D (by omega) k2 k3 hK hB rfl rfl rfl ?_
    have hfind : (pairsL l1.length).find? (jRef a0_0 a0_1 l1) = some last.1 := by
      obtain ⟨post, hpost⟩ := hpre
      rw [← hpost, e1, List.map_append, List.find?_append, List.find?_append, List.find?_eq_none.2]
      · simp [e3]
      · intro x hx
        obtain ⟨y, hy, rfl⟩ := List.mem_map.1 hx
        rw [e2 y hy]; simp
    unfold figure_tolerance_judge.f at h
    rw [if_pos hz, hfind] at h
    simpa using h.symm
end Go.Proofs.Ytdkahcolfcmmpaa.Pr
namespace Go.Proofs.Ytdkahcolfcmmpaa.Pr
open Go.RowKit Go.Proofs.YtdkahcolfcmmpaaW.PrintWords Go.Proofs.YtdkahcolfcmmpaaW.PrintLast Go.Proofs.YtdkahcolfcmmpaaW.PrintMore
attribute [local go_sem] max2_int min2_int max_two min_two max_three min_three max_four min_four
set_option linter.unusedVariables false
set_option linter.unusedSimpArgs false
def figure_Judge.f (k : Nat) (l0 : List (S38)) (a1_0 : Int) (a1_1 : Int) : Option (Int × Int × Int × Int) := (figure_checkAll.f k l0 a1_0 a1_1).bind fun t189 => (if t189 = 0 then ((figure_tolerance_judge.f a1_0 a1_1 l0).bind fun bt190 => (some (bt190.1, bt190.2.1, bt190.2.2, 0))) else (some (0, 0, 0, t189)))
theorem figure_Judge.mono : ∀ a0 a1 a2 k, LeO (figure_Judge.f k a0 a1 a2) (figure_Judge.f (k + 1) a0 a1 a2) := by
 intro a0 a1 a2 k
 unfold figure_Judge.f
 repeat' first
   | (with_reducible exact figure_checkAll.mono _ _ _ _)
   | (with_reducible exact LeO.refl _)
   | (with_reducible exact LeO.none _)
   | (with_reducible refine LeO.ite ?_ ?_)
   | (with_reducible refine LeO.bind ?_ (fun _ => ?_))
   | exact figure_checkAll.mono _ _ _ _
   | exact LeO.none _
   | refine LeO.ite ?_ ?_
   | refine LeO.bind ?_ (fun _ => ?_)
set_option maxHeartbeats 8000000 in
set_option maxRecDepth 100000 in
theorem figure_Judge.calls (k : Nat) (A0 : Option Addr) (c0 : Nat) (l0 : List (S38)) (a1_0 : Int) (a1_1 : Int) (r1 : Int) (r2 : Int) (r3 : Int) (r4 : Int) (w : World) (hr0 : Kd.C k38 w A0 l0.length l0) (hc0 : l0.length ≤ c0) (h : figure_Judge.f k l0 a1_0 a1_1 = some (r1, r2, r3, r4)) :
  Calls Try.prog 59 #[.slice A0 l0.length c0, .agg #[.int .i64 a1_0, .int .i64 a1_1]] w fun e w' => e = .returned (.tuple #[.int .i64 r1, .agg #[.int .i64 r2, .int .i64 r3], .int .i64 r4]) ∧ Below w.heap.size w w' := by
 have hu59 := Try.underlying59
 have hu48 := Try.underlying48
 have hu118 := Try.underlying118
 have HR0 := Aside0.mk hr0
 have HC0 := Aside0.mk hc0
 clear hr0 hc0
 have HB := Aside0.mk (Below.refl w.heap.size w)
 have H : ((figure_checkAll.f k l0 a1_0 a1_1).bind fun t189 => (if t189 = 0 then ((figure_tolerance_judge.f a1_0 a1_1 l0).bind fun bt190 => (some (bt190.1, bt190.2.1, bt190.2.2, 0))) else (some (0, 0, 0, t189)))) = some (r1, r2, r3, r4) := h
 clear h
 replace H := Option.bind_eq_some_iff.mp H
 obtain ⟨t189, A30, H⟩ := H
 replace H : (if t189 = 0 then ((figure_tolerance_judge.f a1_0 a1_1 l0).bind fun bt190 => (some (bt190.1, bt190.2.1, bt190.2.2, 0))) else (some (0, 0, 0, t189))) = some (r1, r2, r3, r4) := H
 have A3 := Aside0.mk A30
 clear A30
 by_cases c4 : t189 = 0
 ·rw [if_pos c4] at H
  have c4b0 : (t189 == 0) = true := beq_iff_eq.mpr c4
  have c4b1 : (t189 != 0) = false := bne_eq_false_iff_eq.mpr c4
  clear c4
  replace H := Option.bind_eq_some_iff.mp H
  obtain ⟨⟨t190, t191, t192⟩, A50, H⟩ := H
  replace H : (some (t190, t191, t192, 0)) = some (r1, r2, r3, r4) := H
  have A5 := Aside0.mk A50
  clear A50
  simp only [Option.some.injEq, Prod.mk.injEq] at H
  obtain ⟨rfl, rfl, rfl, rfl⟩ := H
  go_enter Try.func59, Try.ntmps59
  try go_wp2_with (first | ((with_reducible refine gate_dst (N := 3) rfl ?_); refine box_event ?hg (N := 3) ?hd (cs := #[.int .i64 a1_0, .int .i64 a1_1]) (t := 59) ?hr ?_; (case hd => rfl); (case hg => rfl); (case hr => exact gr_); intro gb187 hg w6 hbox hb; have n0_ := Aside0.mk (below_step (hb_ HB) hb); have n1_ := Aside0.mk (hbox); have n2_ := Aside0.mk ((hz_ HB hg)); have n3_ := Aside0.mk ((hz_ HB hg)); clear HB; have HB := n0_; have BK187 := n1_; have GW187 := n2_; have GE187 := n3_; clear n0_ n1_ n2_ n3_; clear hb hbox hg) | ((with_reducible refine gate_dst (N := 5) rfl ?_); refine box_event ?hg (N := 5) ?hd (cs := #[.int .i64 0, .int .i64 0]) (t := 48) ?hr ?_; (case hd => rfl); (case hg => rfl); (case hr => exact gr_); intro gb188 hg w7 hbox hb; have n0_ := Aside0.mk (bb_ BK187 hb); have n1_ := Aside0.mk (below_step (hb_ HB) hb); have n2_ := Aside0.mk (hbox); have n3_ := Aside0.mk ((hz_ HB hg)); have n4_ := Aside0.mk ((hz_ HB hg)); have n5_ := Aside0.mk ((nl_ BK187 hg)); have n6_ := Aside0.mk ((ng_ BK187 hg)); clear BK187; clear HB; have BK187 := n0_; have HB := n1_; have BK188 := n2_; have GW188 := n3_; have GE188 := n4_; have NB187_188 := n5_; have NB188_187 := n6_; clear n0_ n1_ n2_ n3_ n4_ n5_ n6_; clear hb hbox hg; have hnb8 := NB187_188.out; have hnc8 := NB188_187.out; have hcz9_0 : w7.cell? ⟨gb187, 0, none⟩ = some (.int .i64 a1_0) := (blk_cell BK187.out 0).trans rfl; have hcz9_1 : w7.cell? ⟨gb187, 1, none⟩ = some (.int .i64 a1_1) := (blk_cell BK187.out 1).trans rfl; have hfz9_0 := blk_frozen BK187.out 0; have hfz9_1 := blk_frozen BK187.out 1) | ((with_reducible refine gate_callee (f := 102) rfl ?_); refine goesL_ (some 12) rfl rfl Try.func102 (by kernel_rfl) rfl #[.slice A0 l0.length c0, .agg #[.int .i64 a1_0, .int .i64 a1_1]] rfl ma_ ?_; (with_reducible refine (figure_checkAll.calls k _ _ l0 a1_0 a1_1 t189 _ ?side1 ?side2 A3.out).mono ?_); (case side1 => exact cb_ (Kd.C_below HR0.out HB.out)); (case side2 => exact HC0.out); rintro e w10 ⟨rfl, hb⟩; refine ⟨_, rfl, ?_⟩; have n0_ := Aside0.mk (bb_ BK187 hb); have n1_ := Aside0.mk (bb_ BK188 hb); have n2_ := Aside0.mk (below_step (hb_ HB) hb); clear BK187; clear BK188; clear HB; have BK187 := n0_; have BK188 := n1_; have HB := n2_; clear n0_ n1_ n2_; (try clear hb); (try clear hb2); (try clear hk); (try clear hi); have hcz11_0 : w10.cell? ⟨gb187, 0, none⟩ = some (.int .i64 a1_0) := (blk_cell BK187.out 0).trans rfl; have hcz11_1 : w10.cell? ⟨gb187, 1, none⟩ = some (.int .i64 a1_1) := (blk_cell BK187.out 1).trans rfl; have hfz11_0 := blk_frozen BK187.out 0; have hfz11_1 := blk_frozen BK187.out 1) | ((with_reducible refine gate_callee (f := 103) rfl ?_); refine goesL_ (some 21) rfl rfl Try.func103 (by kernel_rfl) rfl #[.agg #[.int .i64 a1_0, .int .i64 a1_1], .slice A0 l0.length c0] rfl ma_ ?_; (with_reducible refine (figure_tolerance_judge.calls a1_0 a1_1 _ _ l0 t190 t191 t192 _ ?side1 ?side2 A5.out).mono ?_); (case side1 => exact cb_ (Kd.C_below HR0.out HB.out)); (case side2 => exact HC0.out); rintro e w12 ⟨rfl, hb⟩; refine ⟨_, rfl, ?_⟩; have n0_ := Aside0.mk (bb_ BK187 hb); have n1_ := Aside0.mk (bb_ BK188 hb); have n2_ := Aside0.mk (below_step (hb_ HB) hb); clear BK187; clear BK188; clear HB; have BK187 := n0_; have BK188 := n1_; have HB := n2_; clear n0_ n1_ n2_; (try clear hb); (try clear hb2); (try clear hk); (try clear hi)) | ((with_reducible refine gate_dst (N := 9) rfl ?_); refine box_event ?hg (N := 9) ?hd (cs := #[.int .i64 0, .int .i64 0]) (t := 48) ?hr ?_; (case hd => rfl); (case hg => rfl); (case hr => exact gr_); intro gb193 hg w13 hbox hb; have n0_ := Aside0.mk (bb_ BK187 hb); have n1_ := Aside0.mk (bb_ BK188 hb); have n2_ := Aside0.mk (below_step (hb_ HB) hb); have n3_ := Aside0.mk (hbox); have n4_ := Aside0.mk ((hz_ HB hg)); have n5_ := Aside0.mk ((hz_ HB hg)); have n6_ := Aside0.mk ((nl_ BK187 hg)); have n7_ := Aside0.mk ((ng_ BK187 hg)); have n8_ := Aside0.mk ((nl_ BK188 hg)); have n9_ := Aside0.mk ((ng_ BK188 hg)); clear BK187; clear BK188; clear HB; have BK187 := n0_; have BK188 := n1_; have HB := n2_; have BK193 := n3_; have GW193 := n4_; have GE193 := n5_; have NB187_193 := n6_; have NB193_187 := n7_; have NB188_193 := n8_; have NB193_188 := n9_; clear n0_ n1_ n2_ n3_ n4_ n5_ n6_ n7_ n8_ n9_; clear hb hbox hg; have hnb14 := NB193_187.out; have hnc14 := NB187_193.out; have hnb15 := NB193_188.out; have hnc15 := NB188_193.out; have hcz16_0 : w13.cell? ⟨gb193, 0, none⟩ = some (.int .i64 0) := (blk_cell BK193.out 0).trans rfl; have hcz16_1 : w13.cell? ⟨gb193, 1, none⟩ = some (.int .i64 0) := (blk_cell BK193.out 1).trans rfl; have hfz16_0 := blk_frozen BK193.out 0; have hfz16_1 := blk_frozen BK193.out 1))
  have n0_ : Aside0 (((w13.setCell ⟨gb193, 0, none⟩ (.int .i64 t191)).setCell ⟨gb193, 1, none⟩ (.int .i64 t192)).heap[gb187]? = some (.cells #[.int .i64 a1_0, .int .i64 a1_1] 59 (0, 0))) := ⟨by (with_reducible repeat (first | refine blk_drewN ?_ _ | refine blk_drew ?_ | refine blk_alloc ?_ _)); refine blk_far ?_ NB187_193.out _; (with_reducible repeat (first | refine blk_drewN ?_ _ | refine blk_drew ?_ | refine blk_alloc ?_ _)); refine blk_far ?_ NB187_193.out _; (with_reducible repeat (first | refine blk_drewN ?_ _ | refine blk_drew ?_ | refine blk_alloc ?_ _)); exact BK187.out⟩
  have n1_ : Aside0 (((w13.setCell ⟨gb193, 0, none⟩ (.int .i64 t191)).setCell ⟨gb193, 1, none⟩ (.int .i64 t192)).heap[gb188]? = some (.cells #[.int .i64 0, .int .i64 0] 48 (0, 0))) := ⟨by (with_reducible repeat (first | refine blk_drewN ?_ _ | refine blk_drew ?_ | refine blk_alloc ?_ _)); refine blk_far ?_ NB188_193.out _; (with_reducible repeat (first | refine blk_drewN ?_ _ | refine blk_drew ?_ | refine blk_alloc ?_ _)); refine blk_far ?_ NB188_193.out _; (with_reducible repeat (first | refine blk_drewN ?_ _ | refine blk_drew ?_ | refine blk_alloc ?_ _)); exact BK188.out⟩
  have n2_ : Aside0 (((w13.setCell ⟨gb193, 0, none⟩ (.int .i64 t191)).setCell ⟨gb193, 1, none⟩ (.int .i64 t192)).heap[gb193]? = some (.cells #[.int .i64 t191, .int .i64 t192] 48 (0, 0))) := ⟨by (with_reducible repeat (first | refine blk_drewN ?_ _ | refine blk_drew ?_ | refine blk_alloc ?_ _)); refine blk_put (cs := #[.int .i64 t191, .int .i64 0]) ?_ 1 _ rfl; (with_reducible repeat (first | refine blk_drewN ?_ _ | refine blk_drew ?_ | refine blk_alloc ?_ _)); refine blk_put (cs := #[.int .i64 0, .int .i64 0]) ?_ 0 _ rfl; (with_reducible repeat (first | refine blk_drewN ?_ _ | refine blk_drew ?_ | refine blk_alloc ?_ _)); exact BK193.out⟩
  have n3_ : Aside0 (Below w.heap.size w ((w13.setCell ⟨gb193, 0, none⟩ (.int .i64 t191)).setCell ⟨gb193, 1, none⟩ (.int .i64 t192))) := ⟨hb_ HB⟩
  (try clear BK187)
  (try clear BK188)
  (try clear BK193)
  (try clear HB)
  generalize ((w13.setCell ⟨gb193, 0, none⟩ (.int .i64 t191)).setCell ⟨gb193, 1, none⟩ (.int .i64 t192)) = w17 at n0_ n1_ n2_ n3_ ⊢
  have BK187 := n0_
  have BK188 := n1_
  have BK193 := n2_
  have HB := n3_
  clear n0_ n1_ n2_ n3_
  have n0_ := Aside0.mk (blk_drew BK187.out)
  have n1_ := Aside0.mk (blk_drew BK188.out)
  have n2_ := Aside0.mk (blk_drew BK193.out)
  have n3_ := Aside0.mk (below_drew1 HB.out)
  clear BK187
  clear BK188
  clear BK193
  clear HB
  have BK187 := n0_
  have BK188 := n1_
  have BK193 := n2_
  have HB := n3_
  clear n0_ n1_ n2_ n3_
  refine start_ (n := 5) (S := fun w' => w'.cell? ⟨gb193, 0, none⟩ = some (.int .i64 t191) ∧ w'.cell? ⟨gb193, 1, none⟩ = some (.int .i64 t192)) (ds := []) #[false, false, false, false, false] (by kernel_rfl) rfl rfl ⟨(blk_cell BK193.out 0).trans rfl, (blk_cell BK193.out 1).trans rfl⟩ (fun hHeld => ?_)
  generalize w17.drew = w18 at BK187 BK188 BK193 HB hHeld ⊢
  refine pure_ (i := 0) (N := some 24) (v := ?_) (a' := ?_) #[true, false, false, false, false] rfl rfl (by kernel_rfl) (fun _ _ _ h => h) (Or.inl ⟨by rfl, ?_⟩) ?_ ?_
  rotate_left
  ·exact gs_
  rotate_left
  ·exact pt_
  refine pure_ (i := 2) (N := some 4) (v := ?_) (a' := ?_) #[true, false, true, false, false] rfl rfl (by kernel_rfl) (fun _ _ _ h => h) (Or.inl ⟨by rfl, ?_⟩) ?_ ?_
  rotate_left
  ·exact gs_
  rotate_left
  ·exact pt_
  refine take_ (i := 1) (N := some 25) (v := ?_) (a' := ?_) #[true, true, true, false, false] rfl rfl (by kernel_rfl) (fun _ _ _ h => h) (Or.inl ⟨by rfl, ?_⟩) hHeld ?_ ?_
  rotate_left
  ·rintro w' ⟨s0, s1⟩; go_simp; with_reducible rfl
  rotate_left
  ·exact pt_
  refine one_ (i := 3) (N := none) #[true, true, true, true, false] rfl rfl (by kernel_rfl) di_ (fun K hK => ?_)
  have hs19 : w18.cell? ⟨gb188, 0, none⟩ = some (.int .i64 0) := (blk_cell BK188.out 0).trans rfl
  have hfs19 := blk_frozen BK188.out 0
  have hns19_0 := NB187_188.out
  have hns19_2 := NB193_188.out
  have hms19_0 := NB188_187.out
  have hms19_2 := NB188_193.out
  have hs20 : w18.cell? ⟨gb188, 1, none⟩ = some (.int .i64 0) := (blk_cell BK188.out 1).trans rfl
  have hfs20 := blk_frozen BK188.out 1
  have hns20_0 := NB187_188.out
  have hns20_2 := NB193_188.out
  have hms20_0 := NB188_187.out
  have hms20_2 := NB188_193.out
  refine skip_ (w1 := ?_) (by rfl) rfl ?_ ?_
  rotate_left
  ·go_simp
   rfl
  refine hK.out _ _ ⟨((cell_far (p := ⟨gb188, _, none⟩) NB193_188.out _).trans (((cell_far (p := ⟨gb188, _, none⟩) NB193_188.out _).trans (hHeld.1)))), ((cell_far (p := ⟨gb188, _, none⟩) NB193_188.out _).trans (((cell_far (p := ⟨gb188, _, none⟩) NB193_188.out _).trans (hHeld.2))))⟩ (fun hHeld => ?_)
  clear hK K
  refine pure_ (i := 4) (N := some 6) (v := ?_) (a' := ?_) #[true, true, true, true, true] rfl rfl (by kernel_rfl) (fun _ _ _ h => h) (Or.inl ⟨by rfl, ?_⟩) ?_ ?_
  rotate_left
  ·exact gs_
  rotate_left
  ·exact pt_
  refine done_ (by kernel_rfl) ?_
  try go_wp2
  refine bodyPost_ret (results_list (rs := [.tmp 4, .cell 5 48, .tmp 6]) rfl (by simp) (.tmp (.cell gb188 48 #[.int .i64 t191, .int .i64 t192] (0, 0) _ rfl (by (with_reducible repeat (first | refine blk_drewN ?_ _ | refine blk_drew ?_ | refine blk_alloc ?_ _)); refine blk_put (cs := #[.int .i64 t191, .int .i64 0]) ?_ 1 _ rfl; (with_reducible repeat (first | refine blk_drewN ?_ _ | refine blk_drew ?_ | refine blk_alloc ?_ _)); refine blk_put (cs := #[.int .i64 0, .int .i64 0]) ?_ 0 _ rfl; (with_reducible repeat (first | refine blk_drewN ?_ _ | refine blk_drew ?_ | refine blk_alloc ?_ _)); exact BK188.out) Try.underlying48 rfl (by kernel_rfl) (.tmp .nil)))) rfl ?_
  exact ⟨ew_, hb_ HB⟩
 ·rw [if_neg c4] at H
  have c4b0 : (t189 == 0) = false := beq_eq_false_iff_ne.mpr c4
  have c4b1 : (t189 != 0) = true := bne_iff_ne.mpr c4
  simp only [Option.some.injEq, Prod.mk.injEq] at H
  obtain ⟨rfl, rfl, rfl, rfl⟩ := H
  go_enter Try.func59, Try.ntmps59
  go_wp2_with (first | ((with_reducible refine gate_dst (N := 3) rfl ?_); refine box_event ?hg (N := 3) ?hd (cs := #[.int .i64 a1_0, .int .i64 a1_1]) (t := 59) ?hr ?_; (case hd => rfl); (case hg => rfl); (case hr => exact gr_); intro gb187 hg w21 hbox hb; have n0_ := Aside0.mk (below_step (hb_ HB) hb); have n1_ := Aside0.mk (hbox); have n2_ := Aside0.mk ((hz_ HB hg)); have n3_ := Aside0.mk ((hz_ HB hg)); clear HB; have HB := n0_; have BK187 := n1_; have GW187 := n2_; have GE187 := n3_; clear n0_ n1_ n2_ n3_; clear hb hbox hg) | ((with_reducible refine gate_dst (N := 5) rfl ?_); refine box_event ?hg (N := 5) ?hd (cs := #[.int .i64 0, .int .i64 0]) (t := 48) ?hr ?_; (case hd => rfl); (case hg => rfl); (case hr => exact gr_); intro gb188 hg w22 hbox hb; have n0_ := Aside0.mk (bb_ BK187 hb); have n1_ := Aside0.mk (below_step (hb_ HB) hb); have n2_ := Aside0.mk (hbox); have n3_ := Aside0.mk ((hz_ HB hg)); have n4_ := Aside0.mk ((hz_ HB hg)); have n5_ := Aside0.mk ((nl_ BK187 hg)); have n6_ := Aside0.mk ((ng_ BK187 hg)); clear BK187; clear HB; have BK187 := n0_; have HB := n1_; have BK188 := n2_; have GW188 := n3_; have GE188 := n4_; have NB187_188 := n5_; have NB188_187 := n6_; clear n0_ n1_ n2_ n3_ n4_ n5_ n6_; clear hb hbox hg; have hnb23 := NB187_188.out; have hnc23 := NB188_187.out; have hcz24_0 : w22.cell? ⟨gb187, 0, none⟩ = some (.int .i64 a1_0) := (blk_cell BK187.out 0).trans rfl; have hcz24_1 : w22.cell? ⟨gb187, 1, none⟩ = some (.int .i64 a1_1) := (blk_cell BK187.out 1).trans rfl; have hfz24_0 := blk_frozen BK187.out 0; have hfz24_1 := blk_frozen BK187.out 1) | ((with_reducible refine gate_callee (f := 102) rfl ?_); refine goesL_ (some 12) rfl rfl Try.func102 (by kernel_rfl) rfl #[.slice A0 l0.length c0, .agg #[.int .i64 a1_0, .int .i64 a1_1]] rfl ma_ ?_; (with_reducible refine (figure_checkAll.calls k _ _ l0 a1_0 a1_1 t189 _ ?side1 ?side2 A3.out).mono ?_); (case side1 => exact cb_ (Kd.C_below HR0.out HB.out)); (case side2 => exact HC0.out); rintro e w25 ⟨rfl, hb⟩; refine ⟨_, rfl, ?_⟩; have n0_ := Aside0.mk (bb_ BK187 hb); have n1_ := Aside0.mk (bb_ BK188 hb); have n2_ := Aside0.mk (below_step (hb_ HB) hb); clear BK187; clear BK188; clear HB; have BK187 := n0_; have BK188 := n1_; have HB := n2_; clear n0_ n1_ n2_; (try clear hb); (try clear hb2); (try clear hk); (try clear hi); have hcz26_0 : w25.cell? ⟨gb188, 0, none⟩ = some (.int .i64 0) := (blk_cell BK188.out 0).trans rfl; have hcz26_1 : w25.cell? ⟨gb188, 1, none⟩ = some (.int .i64 0) := (blk_cell BK188.out 1).trans rfl; have hfz26_0 := blk_frozen BK188.out 0; have hfz26_1 := blk_frozen BK188.out 1))
  refine bodyPost_ret (results_list (rs := [.tmp 4, .cell 5 48, .tmp 6]) rfl (by simp) (.tmp (.cell gb188 48 #[.int .i64 0, .int .i64 0] (0, 0) _ rfl (by (with_reducible repeat (first | refine blk_drewN ?_ _ | refine blk_drew ?_ | refine blk_alloc ?_ _)); refine blk_put (cs := #[.int .i64 0, .int .i64 0]) ?_ 1 _ rfl; (with_reducible repeat (first | refine blk_drewN ?_ _ | refine blk_drew ?_ | refine blk_alloc ?_ _)); refine blk_put (cs := #[.int .i64 0, .int .i64 0]) ?_ 0 _ rfl; (with_reducible repeat (first | refine blk_drewN ?_ _ | refine blk_drew ?_ | refine blk_alloc ?_ _)); exact BK188.out) Try.underlying48 rfl (by kernel_rfl) (.tmp .nil)))) rfl ?_
  exact ⟨ew_, hb_ HB⟩
mutual
def figure_Surface.l0 : Nat → List (S38) → List Int → List (S38) → Int → Int → Int → Int → Option (List Int × Int)
 | 0, _, _, _, _, _, _, _ => none
 | k + 1, x0, x9, x29, x30, x31, x198000, x198001 => if x31 < x30 then (if 0 ≤ x31 then (if x31 < (x29.length : Int) then (figure_Surface.l1 k x0 x9 x31 ((rd_T38 x29 x31).f0) x29 x30 x31 x0 (x0.length : Int) 0 x198000 x198001) else (none)) else (none)) else (some (x9, 0))
def figure_Surface.l1 : Nat → List (S38) → List Int → Int → Int → List (S38) → Int → Int → List (S38) → Int → Int → Int → Int → Option (List Int × Int)
 | 0, _, _, _, _, _, _, _, _, _, _, _, _ => none
 | k + 1, x0, x9, x10, x12, x29, x30, x31, x38, x39, x40, x198000, x198001 => if x40 < x39 then (if 0 ≤ x40 then (if x40 < (x38.length : Int) then ((figure_tolerance_bound.f x198000 x198001 x10 x40).bind fun t207 => (figure_Surface.l1 k x0 x9 x10 (mx x12 (wrap64 (((rd_T38 x38 x40).f0) - t207))) x29 x30 x31 x38 x39 (wrap64 (x40 + 1)) x198000 x198001)) else (none)) else (none)) else (if x9.length < 17592186044416 then (figure_Surface.l0 k x0 (x9 ++ [x12]) x29 x30 (wrap64 (x31 + 1)) x198000 x198001) else (none))
end
def figure_Surface.f (k : Nat) (l0 : List (S38)) (a1_0 : Int) (a1_1 : Int) : Option (List Int × Int) := (figure_Judge.f k l0 a1_0 a1_1).bind fun bt198 => (if bt198.2.2.2 = 0 then (if bt198.1 = (-1) then (some (([] : List Int), 12)) else (figure_Surface.l0 k l0 ([] : List Int) l0 (l0.length : Int) 0 a1_0 a1_1)) else (some (([] : List Int), bt198.2.2.2)))
theorem figure_Surface.mono_l : ∀ k, (∀ y0 y1 y2 y3 y4 y5 y6, LeO (figure_Surface.l0 k y0 y1 y2 y3 y4 y5 y6) (figure_Surface.l0 (k + 1) y0 y1 y2 y3 y4 y5 y6)) ∧ (∀ y0 y1 y2 y3 y4 y5 y6 y7 y8 y9 y10 y11, LeO (figure_Surface.l1 k y0 y1 y2 y3 y4 y5 y6 y7 y8 y9 y10 y11) (figure_Surface.l1 (k + 1) y0 y1 y2 y3 y4 y5 y6 y7 y8 y9 y10 y11))
 | 0 => ⟨fun _ _ _ _ _ _ _ r h => by simp [figure_Surface.l0] at h, fun _ _ _ _ _ _ _ _ _ _ _ _ r h => by simp [figure_Surface.l1] at h⟩
 | k + 1 => by
  obtain ⟨ih0, ih1⟩ := figure_Surface.mono_l k
  refine ⟨?_, ?_⟩
  ·intro y0 y1 y2 y3 y4 y5 y6
   unfold figure_Surface.l0
   repeat' first
   | (with_reducible exact ih0 _ _ _ _ _ _ _)
   | (with_reducible exact ih1 _ _ _ _ _ _ _ _ _ _ _ _)
   | (with_reducible exact figure_Judge.mono _ _ _ _)
   | (with_reducible exact LeO.refl _)
   | (with_reducible exact LeO.none _)
   | (with_reducible refine LeO.ite ?_ ?_)
   | (with_reducible refine LeO.bind ?_ (fun _ => ?_))
   | exact ih0 _ _ _ _ _ _ _
   | exact ih1 _ _ _ _ _ _ _ _ _ _ _ _
   | exact figure_Judge.mono _ _ _ _
   | exact LeO.none _
   | refine LeO.ite ?_ ?_
   | refine LeO.bind ?_ (fun _ => ?_)
  ·intro y0 y1 y2 y3 y4 y5 y6 y7 y8 y9 y10 y11
   unfold figure_Surface.l1
   repeat' first
   | (with_reducible exact ih0 _ _ _ _ _ _ _)
   | (with_reducible exact ih1 _ _ _ _ _ _ _ _ _ _ _ _)
   | (with_reducible exact figure_Judge.mono _ _ _ _)
   | (with_reducible exact LeO.refl _)
   | (with_reducible exact LeO.none _)
   | (with_reducible refine LeO.ite ?_ ?_)
   | (with_reducible refine LeO.bind ?_ (fun _ => ?_))
   | exact ih0 _ _ _ _ _ _ _
   | exact ih1 _ _ _ _ _ _ _ _ _ _ _ _
   | exact figure_Judge.mono _ _ _ _
   | exact LeO.none _
   | refine LeO.ite ?_ ?_
   | refine LeO.bind ?_ (fun _ => ?_)
theorem figure_Surface.mono : ∀ a0 a1 a2 k, LeO (figure_Surface.f k a0 a1 a2) (figure_Surface.f (k + 1) a0 a1 a2) := by
 intro a0 a1 a2 k
 obtain ⟨ih0, ih1⟩ := figure_Surface.mono_l k
 unfold figure_Surface.f
 repeat' first
   | (with_reducible exact ih0 _ _ _ _ _ _ _)
   | (with_reducible exact ih1 _ _ _ _ _ _ _ _ _ _ _ _)
   | (with_reducible exact figure_Judge.mono _ _ _ _)
   | (with_reducible exact LeO.refl _)
   | (with_reducible exact LeO.none _)
   | (with_reducible refine LeO.ite ?_ ?_)
   | (with_reducible refine LeO.bind ?_ (fun _ => ?_))
   | exact ih0 _ _ _ _ _ _ _
   | exact ih1 _ _ _ _ _ _ _ _ _ _ _ _
   | exact figure_Judge.mono _ _ _ _
   | exact LeO.none _
   | refine LeO.ite ?_ ?_
   | refine LeO.bind ?_ (fun _ => ?_)
def figure_Surface.T14 : Bool × List (List Nat × List Nat) := (true, [([], []), ([], []), ([1], [1]), ([], []), ([3], [3]), ([], []), ([], []), ([4, 5, 6], [4, 5, 6]), ([2, 7], [2, 7]), ([0, 8], [0, 8]), ([9, 7, 0, 1, 2, 3, 4, 5, 6, 7, 8, 9], [0, 9])])
def figure_Surface.B14 : List Nat := [0, 0, 2, 0, 8, 0, 0, 120, 254, 511, 1023]
theorem figure_Surface.tab14 : rtab .any (opsOf Try.f61 14) = figure_Surface.T14 := by kernel_rfl
theorem figure_Surface.bits14 : waitsOk figure_Surface.T14.2 figure_Surface.B14 = true := by kernel_rfl
set_option maxHeartbeats 8000000 in
set_option maxRecDepth 100000 in
theorem figure_Surface.calls (k : Nat) (A0 : Option Addr) (c0 : Nat) (l0 : List (S38)) (a1_0 : Int) (a1_1 : Int) (r1 : List Int) (r2 : Int) (w : World) (hr0 : Kd.C k38 w A0 l0.length l0) (hc0 : l0.length ≤ c0) (h : figure_Surface.f k l0 a1_0 a1_1 = some (r1, r2)) :
  Calls Try.prog 61 #[.slice A0 l0.length c0, .agg #[.int .i64 a1_0, .int .i64 a1_1]] w fun e w' => ∃ v0_ : Value, e = .returned (.tuple #[v0_, .int .i64 r2]) ∧ Kd.R (Kd.int .i64) 3 w' w.heap.size (fun _ => True) v0_ r1 ∧ Below w.heap.size w w' := by
 have hu59 := Try.underlying59
 have hu48 := Try.underlying48
 have hu38 := Try.underlying38
 have hu118 := Try.underlying118
 have HR0 := Aside0.mk hr0
 have HC0 := Aside0.mk hc0
 clear hr0 hc0
 have HB := Aside0.mk (Below.refl w.heap.size w)
 have H : ((figure_Judge.f k l0 a1_0 a1_1).bind fun bt198 => (if bt198.2.2.2 = 0 then (if bt198.1 = (-1) then (some (([] : List Int), 12)) else (figure_Surface.l0 k l0 ([] : List Int) l0 (l0.length : Int) 0 a1_0 a1_1)) else (some (([] : List Int), bt198.2.2.2)))) = some (r1, r2) := h
 clear h
 replace H := Option.bind_eq_some_iff.mp H
 obtain ⟨⟨t198, t199, t200, t201⟩, A30, H⟩ := H
 replace H : (if t201 = 0 then (if t198 = (-1) then (some (([] : List Int), 12)) else (figure_Surface.l0 k l0 ([] : List Int) l0 (l0.length : Int) 0 a1_0 a1_1)) else (some (([] : List Int), t201))) = some (r1, r2) := H
 have A3 := Aside0.mk A30
 clear A30
 by_cases c4 : t201 = 0
 ·rw [if_pos c4] at H
  have c4b0 : (t201 == 0) = true := beq_iff_eq.mpr c4
  have c4b1 : (t201 != 0) = false := bne_eq_false_iff_eq.mpr c4
  clear c4
  by_cases c5 : t198 = (-1)
  ·rw [if_pos c5] at H
   have c5b0 : (t198 == (-1)) = true := beq_iff_eq.mpr c5
   have c5b1 : (t198 != (-1)) = false := bne_eq_false_iff_eq.mpr c5
   clear c5
   simp only [Option.some.injEq, Prod.mk.injEq] at H
   obtain ⟨rfl, rfl⟩ := H
   go_enter Try.func61, Try.ntmps61
   go_wp2_with (first | ((with_reducible refine gate_dst (N := 3) rfl ?_); refine box_event ?hg (N := 3) ?hd (cs := #[.int .i64 a1_0, .int .i64 a1_1]) (t := 59) ?hr ?_; (case hd => rfl); (case hg => rfl); (case hr => exact gr_); intro gb197 hg w6 hbox hb; have n0_ := Aside0.mk (below_step (hb_ HB) hb); have n1_ := Aside0.mk (hbox); have n2_ := Aside0.mk ((hz_ HB hg)); have n3_ := Aside0.mk ((hz_ HB hg)); clear HB; have HB := n0_; have BK197 := n1_; have GW197 := n2_; have GE197 := n3_; clear n0_ n1_ n2_ n3_; clear hb hbox hg; have hcz7_0 : w6.cell? ⟨gb197, 0, none⟩ = some (.int .i64 a1_0) := (blk_cell BK197.out 0).trans rfl; have hcz7_1 : w6.cell? ⟨gb197, 1, none⟩ = some (.int .i64 a1_1) := (blk_cell BK197.out 1).trans rfl; have hfz7_0 := blk_frozen BK197.out 0; have hfz7_1 := blk_frozen BK197.out 1) | ((with_reducible refine gate_callee (f := 59) rfl ?_); refine goesL_ (some 18) rfl rfl Try.func59 (by kernel_rfl) rfl #[.slice A0 l0.length c0, .agg #[.int .i64 a1_0, .int .i64 a1_1]] rfl ma_ ?_; (with_reducible refine (figure_Judge.calls k _ _ l0 a1_0 a1_1 t198 t199 t200 t201 _ ?side1 ?side2 A3.out).mono ?_); (case side1 => exact cb_ (Kd.C_below HR0.out HB.out)); (case side2 => exact HC0.out); rintro e w8 ⟨rfl, hb⟩; refine ⟨_, rfl, ?_⟩; have n0_ := Aside0.mk (bb_ BK197 hb); have n1_ := Aside0.mk (below_step (hb_ HB) hb); clear BK197; clear HB; have BK197 := n0_; have HB := n1_; clear n0_ n1_; (try clear hb); (try clear hb2); (try clear hk); (try clear hi)) | ((with_reducible refine gate_dst (N := 7) rfl ?_); refine box_event ?hg (N := 7) ?hd (cs := #[.int .i64 0, .int .i64 0]) (t := 48) ?hr ?_; (case hd => rfl); (case hg => rfl); (case hr => exact gr_); intro gb202 hg w9 hbox hb; have n0_ := Aside0.mk (bb_ BK197 hb); have n1_ := Aside0.mk (below_step (hb_ HB) hb); have n2_ := Aside0.mk (hbox); have n3_ := Aside0.mk ((hz_ HB hg)); have n4_ := Aside0.mk ((hz_ HB hg)); have n5_ := Aside0.mk ((nl_ BK197 hg)); have n6_ := Aside0.mk ((ng_ BK197 hg)); clear BK197; clear HB; have BK197 := n0_; have HB := n1_; have BK202 := n2_; have GW202 := n3_; have GE202 := n4_; have NB197_202 := n5_; have NB202_197 := n6_; clear n0_ n1_ n2_ n3_ n4_ n5_ n6_; clear hb hbox hg; have hnb10 := NB202_197.out; have hnc10 := NB197_202.out; have hcz11_0 : w9.cell? ⟨gb202, 0, none⟩ = some (.int .i64 0) := (blk_cell BK202.out 0).trans rfl; have hcz11_1 : w9.cell? ⟨gb202, 1, none⟩ = some (.int .i64 0) := (blk_cell BK202.out 1).trans rfl; have hfz11_0 := blk_frozen BK202.out 0; have hfz11_1 := blk_frozen BK202.out 1))
   go_ret2
   exact ⟨_, ew_, by first | exact Kd.R_nil _ _ _ _ _ | exact Kd.N_nil _ _ _ _ _ | exact Kd.V_nil _ _ _ _ _ | exact Kd.Q_nil _ _ _ _ _ | exact Kd.S_nil _ _ _ _ _, hb_ HB⟩
  ·rw [if_neg c5] at H
   have c5b0 : (t198 == (-1)) = false := beq_eq_false_iff_ne.mpr c5
   have c5b1 : (t198 != (-1)) = true := bne_iff_ne.mpr c5
   have H' := Aside0.mk H
   clear H
   go_enter Try.func61, Try.ntmps61
   go_wp2_with (first | ((with_reducible refine gate_dst (N := 3) rfl ?_); refine box_event ?hg (N := 3) ?hd (cs := #[.int .i64 a1_0, .int .i64 a1_1]) (t := 59) ?hr ?_; (case hd => rfl); (case hg => rfl); (case hr => exact gr_); intro gb197 hg w12 hbox hb; have n0_ := Aside0.mk (below_step (hb_ HB) hb); have n1_ := Aside0.mk (hbox); have n2_ := Aside0.mk ((hz_ HB hg)); have n3_ := Aside0.mk ((hz_ HB hg)); clear HB; have HB := n0_; have BK197 := n1_; have GW197 := n2_; have GE197 := n3_; clear n0_ n1_ n2_ n3_; clear hb hbox hg; have hcz13_0 : w12.cell? ⟨gb197, 0, none⟩ = some (.int .i64 a1_0) := (blk_cell BK197.out 0).trans rfl; have hcz13_1 : w12.cell? ⟨gb197, 1, none⟩ = some (.int .i64 a1_1) := (blk_cell BK197.out 1).trans rfl; have hfz13_0 := blk_frozen BK197.out 0; have hfz13_1 := blk_frozen BK197.out 1) | ((with_reducible refine gate_callee (f := 59) rfl ?_); refine goesL_ (some 18) rfl rfl Try.func59 (by kernel_rfl) rfl #[.slice A0 l0.length c0, .agg #[.int .i64 a1_0, .int .i64 a1_1]] rfl ma_ ?_; (with_reducible refine (figure_Judge.calls k _ _ l0 a1_0 a1_1 t198 t199 t200 t201 _ ?side1 ?side2 A3.out).mono ?_); (case side1 => exact cb_ (Kd.C_below HR0.out HB.out)); (case side2 => exact HC0.out); rintro e w14 ⟨rfl, hb⟩; refine ⟨_, rfl, ?_⟩; have n0_ := Aside0.mk (bb_ BK197 hb); have n1_ := Aside0.mk (below_step (hb_ HB) hb); clear BK197; clear HB; have BK197 := n0_; have HB := n1_; clear n0_ n1_; (try clear hb); (try clear hb2); (try clear hk); (try clear hi)) | ((with_reducible refine gate_dst (N := 7) rfl ?_); refine box_event ?hg (N := 7) ?hd (cs := #[.int .i64 0, .int .i64 0]) (t := 48) ?hr ?_; (case hd => rfl); (case hg => rfl); (case hr => exact gr_); intro gb202 hg w15 hbox hb; have n0_ := Aside0.mk (bb_ BK197 hb); have n1_ := Aside0.mk (below_step (hb_ HB) hb); have n2_ := Aside0.mk (hbox); have n3_ := Aside0.mk ((hz_ HB hg)); have n4_ := Aside0.mk ((hz_ HB hg)); have n5_ := Aside0.mk ((nl_ BK197 hg)); have n6_ := Aside0.mk ((ng_ BK197 hg)); clear BK197; clear HB; have BK197 := n0_; have HB := n1_; have BK202 := n2_; have GW202 := n3_; have GE202 := n4_; have NB197_202 := n5_; have NB202_197 := n6_; clear n0_ n1_ n2_ n3_ n4_ n5_ n6_; clear hb hbox hg; have hnb16 := NB202_197.out; have hnc16 := NB197_202.out; have hcz17_0 : w15.cell? ⟨gb202, 0, none⟩ = some (.int .i64 0) := (blk_cell BK202.out 0).trans rfl; have hcz17_1 : w15.cell? ⟨gb202, 1, none⟩ = some (.int .i64 0) := (blk_cell BK202.out 1).trans rfl; have hfz17_0 := blk_frozen BK202.out 0; have hfz17_1 := blk_frozen BK202.out 1))
   go_loopg [9, 31] k (fun kq v9 v31 w' => ∃ (x9_1 : List Int) (x31_1 : Int), v31 = .int .i64 x31_1 ∧ Aside0 (figure_Surface.l0 kq l0 x9_1 l0 (l0.length : Int) x31_1 a1_0 a1_1 = some (r1, r2)) ∧ Aside0 (kq ≤ k) ∧ Aside0 (Kd.R (Kd.int .i64) 3 w' w.heap.size (fun _ => True) v9 x9_1) ∧ Aside0 (w'.heap[gb197]? = some (.cells #[.int .i64 a1_0, .int .i64 a1_1] 59 (0, 0))) ∧ Aside0 (w'.heap[gb202]? = some (.cells #[.int .i64 t199, .int .i64 t200] 48 (0, 0))) ∧ Aside0 (Below w.heap.size w w'))
   case atStart => exact ⟨(([] : List Int)), (0), rs_, H', ⟨Nat.le_refl _⟩, ⟨by first | exact Kd.R_nil _ _ _ _ _ | exact Kd.N_nil _ _ _ _ _ | exact Kd.V_nil _ _ _ _ _ | exact Kd.Q_nil _ _ _ _ _ | exact Kd.S_nil _ _ _ _ _⟩, ⟨by (with_reducible repeat (first | refine blk_drewN ?_ _ | refine blk_drew ?_ | refine blk_alloc ?_ _)); refine blk_far ?_ NB197_202.out _; (with_reducible repeat (first | refine blk_drewN ?_ _ | refine blk_drew ?_ | refine blk_alloc ?_ _)); refine blk_far ?_ NB197_202.out _; (with_reducible repeat (first | refine blk_drewN ?_ _ | refine blk_drew ?_ | refine blk_alloc ?_ _)); exact BK197.out⟩, ⟨by (with_reducible repeat (first | refine blk_drewN ?_ _ | refine blk_drew ?_ | refine blk_alloc ?_ _)); refine blk_put (cs := #[.int .i64 t199, .int .i64 0]) ?_ 1 _ rfl; (with_reducible repeat (first | refine blk_drewN ?_ _ | refine blk_drew ?_ | refine blk_alloc ?_ _)); refine blk_put (cs := #[.int .i64 0, .int .i64 0]) ?_ 0 _ rfl; (with_reducible repeat (first | refine blk_drewN ?_ _ | refine blk_drew ?_ | refine blk_alloc ?_ _)); exact BK202.out⟩, ⟨hb_ HB⟩⟩
   case round =>
    clear H'
    try clear c1
    try clear p2
    try clear c4
    try clear c4b0
    try clear c4b1
    try clear c5
    try clear c5b0
    try clear c5b1
    try clear c6
    try clear c10
    try clear c16
    try clear hcz11_0
    try clear hcz11_1
    try clear hcz13_0
    try clear hcz13_1
    try clear hcz17_0
    try clear hcz17_1
    try clear hcz7_0
    try clear hcz7_1
    try clear hfz11_0
    try clear hfz11_1
    try clear hfz13_0
    try clear hfz13_1
    try clear hfz17_0
    try clear hfz17_1
    try clear hfz7_0
    try clear hfz7_1
    obtain ⟨x9_1, x31_1, rfl, HA, HK1, HO_9, BK197, BK202, HB⟩ := hrel
    cases gk with
    | zero => exact absurd HA.out (by simp [figure_Surface.l0])
    | succ k1 =>
     have H := HA.out
     clear HA
     simp only [figure_Surface.l0] at H
     by_cases c18 : x31_1 < (l0.length : Int)
     ·rw [if_pos c18] at H
      have c18b0 : decide (x31_1 < (l0.length : Int)) = true := decide_eq_true c18
      clear c18
      by_cases c19 : 0 ≤ x31_1
      ·rw [if_pos c19] at H
       have c19b0 : decide (0 ≤ x31_1) = true := decide_eq_true c19
       clear c19
       by_cases c20 : x31_1 < (l0.length : Int)
       ·rw [if_pos c20] at H
        have c20b0 : decide (x31_1 < (l0.length : Int)) = true := decide_eq_true c20
        clear c20
        have H' := Aside0.mk H
        clear H
        have p203 : 0 ≤ (x31_1 : Int) := of_decide_eq_true as_
        have q203 : x31_1 < (l0.length : Int) := of_decide_eq_true as_
        obtain ⟨ad203, e203, hx203_0, hx203_1⟩ := at_T38 HR0.out x31_1 p203 q203
        cases e203
        replace hx203_0 := (HB.out.cell (World.block_lt_of_cell? w _ hx203_0)).trans hx203_0
        replace hx203_1 := (HB.out.cell (World.block_lt_of_cell? w _ hx203_1)).trans hx203_1
        replace p203 := eq_true p203
        replace q203 := eq_true q203
        go_wp2_with (first | ((with_reducible refine gate_dst (N := 11) rfl ?_); refine box_event ?hg (N := 11) ?hd (cs := #[.int .i64 0, .int .i64 0]) (t := 38) ?hr ?_; (case hd => rfl); (case hg => rfl); (case hr => exact gr_); intro gb204 hg w21 hbox hb; have n0_ := Aside0.mk (Kd.R_below (rk_ HO_9) hb); have n1_ := Aside0.mk (bb_ BK197 hb); have n2_ := Aside0.mk (bb_ BK202 hb); have n3_ := Aside0.mk (below_step (hb_ HB) hb); have n4_ := Aside0.mk (hbox); have n5_ := Aside0.mk ((hz_ HB hg)); have n6_ := Aside0.mk ((hz_ HB hg)); have n7_ := Aside0.mk ((nl_ BK197 hg)); have n8_ := Aside0.mk ((ng_ BK197 hg)); have n9_ := Aside0.mk ((nl_ BK202 hg)); have n10_ := Aside0.mk ((ng_ BK202 hg)); clear HO_9; clear BK197; clear BK202; clear HB; have HO_9 := n0_; have BK197 := n1_; have BK202 := n2_; have HB := n3_; have BK204 := n4_; have GW204 := n5_; have GE204 := n6_; have NB197_204 := n7_; have NB204_197 := n8_; have NB202_204 := n9_; have NB204_202 := n10_; clear n0_ n1_ n2_ n3_ n4_ n5_ n6_ n7_ n8_ n9_ n10_; clear hb hbox hg; have hnb22 := NB204_197.out; have hnc22 := NB197_204.out; have hnb23 := NB204_202.out; have hnc23 := NB202_204.out; have hcz24_0 : w21.cell? ⟨gb204, 0, none⟩ = some (.int .i64 0) := (blk_cell BK204.out 0).trans rfl; have hcz24_1 : w21.cell? ⟨gb204, 1, none⟩ = some (.int .i64 0) := (blk_cell BK204.out 1).trans rfl; have hfz24_0 := blk_frozen BK204.out 0; have hfz24_1 := blk_frozen BK204.out 1))
        go_loopg [12, 40] k1 (fun kq v12 v40 w' => ∃ (x12_2 : Int) (x40_2 : Int), v12 = .int .i64 x12_2 ∧ v40 = .int .i64 x40_2 ∧ Aside0 (figure_Surface.l1 kq l0 x9_1 x31_1 x12_2 l0 (l0.length : Int) x31_1 l0 (l0.length : Int) x40_2 a1_0 a1_1 = some (r1, r2)) ∧ Aside0 (kq ≤ k1) ∧ Aside0 (Kd.R (Kd.int .i64) 3 w' w.heap.size (fun _ => True) u9 x9_1) ∧ Aside0 (w'.heap[gb197]? = some (.cells #[.int .i64 a1_0, .int .i64 a1_1] 59 (0, 0))) ∧ Aside0 (w'.heap[gb202]? = some (.cells #[.int .i64 t199, .int .i64 t200] 48 (0, 0))) ∧ Aside0 (w'.heap[gb204]? = some (.cells #[.int .i64 ((rd_T38 l0 x31_1).f0), .int .i64 ((rd_T38 l0 x31_1).f1)] 38 (0, 0))) ∧ Aside0 (Below w.heap.size w w'))
        case atStart => exact ⟨((rd_T38 l0 x31_1).f0), (0), rs_, rs_, H', ⟨Nat.le_refl _⟩, ⟨by (with_reducible repeat (first | apply Kd.R_alloc | apply Kd.R_drewN | apply Kd.R_drew)); exact Kd.R_mono (Kd.R_far (p := ⟨gb204, 1, none⟩) (Kd.R_far (p := ⟨gb204, 0, none⟩) (Kd.R_types HO_9.out BK204.out di_) (fun _ hk => hk.2) (.int .i64 ((rd_T38 l0 x31_1).f0))) (fun _ hk => hk.2) (.int .i64 ((rd_T38 l0 x31_1).f1))) (fun _ hk => trivial)⟩, ⟨by (with_reducible repeat (first | refine blk_drewN ?_ _ | refine blk_drew ?_ | refine blk_alloc ?_ _)); refine blk_far ?_ NB197_204.out _; (with_reducible repeat (first | refine blk_drewN ?_ _ | refine blk_drew ?_ | refine blk_alloc ?_ _)); refine blk_far ?_ NB197_204.out _; (with_reducible repeat (first | refine blk_drewN ?_ _ | refine blk_drew ?_ | refine blk_alloc ?_ _)); exact BK197.out⟩, ⟨by (with_reducible repeat (first | refine blk_drewN ?_ _ | refine blk_drew ?_ | refine blk_alloc ?_ _)); refine blk_far ?_ NB202_204.out _; (with_reducible repeat (first | refine blk_drewN ?_ _ | refine blk_drew ?_ | refine blk_alloc ?_ _)); refine blk_far ?_ NB202_204.out _; (with_reducible repeat (first | refine blk_drewN ?_ _ | refine blk_drew ?_ | refine blk_alloc ?_ _)); exact BK202.out⟩, ⟨by (with_reducible repeat (first | refine blk_drewN ?_ _ | refine blk_drew ?_ | refine blk_alloc ?_ _)); refine blk_put (cs := #[.int .i64 ((rd_T38 l0 x31_1).f0), .int .i64 0]) ?_ 1 _ rfl; (with_reducible repeat (first | refine blk_drewN ?_ _ | refine blk_drew ?_ | refine blk_alloc ?_ _)); refine blk_put (cs := #[.int .i64 0, .int .i64 0]) ?_ 0 _ rfl; (with_reducible repeat (first | refine blk_drewN ?_ _ | refine blk_drew ?_ | refine blk_alloc ?_ _)); exact BK204.out⟩, ⟨hb_ HB⟩⟩
        case round =>
         clear H'
         try clear c1
         try clear c2
         try clear p2
         try clear q2
         try clear hx2
         try clear c4
         try clear c4b0
         try clear c4b1
         try clear c5
         try clear c5b0
         try clear c5b1
         try clear c6
         try clear c10
         try clear c16
         try clear c18
         try clear c18b0
         try clear c19
         try clear c19b0
         try clear c20
         try clear c20b0
         try clear p20
         try clear q20
         try clear hx20
         try clear c22
         try clear c23
         try clear hcz11_0
         try clear hcz11_1
         try clear hcz13_0
         try clear hcz13_1
         try clear hcz17_0
         try clear hcz17_1
         try clear hcz24_0
         try clear hcz24_1
         try clear hcz7_0
         try clear hcz7_1
         try clear hfz11_0
         try clear hfz11_1
         try clear hfz13_0
         try clear hfz13_1
         try clear hfz17_0
         try clear hfz17_1
         try clear hfz24_0
         try clear hfz24_1
         try clear hfz7_0
         try clear hfz7_1
         try clear hx203_0
         try clear hx203_1
         try clear p2
         try clear p203
         try clear q203
         obtain ⟨x12_2, x40_2, rfl, rfl, HA, HK2, HO_9, BK197, BK202, BK204, HB⟩ := hrel
         cases gk with
         | zero => exact absurd HA.out (by simp [figure_Surface.l1])
         | succ k2 =>
          have H := HA.out
          clear HA
          simp only [figure_Surface.l1] at H
          by_cases c25 : x40_2 < (l0.length : Int)
          ·rw [if_pos c25] at H
           have c25b0 : decide (x40_2 < (l0.length : Int)) = true := decide_eq_true c25
           clear c25
           by_cases c26 : 0 ≤ x40_2
           ·rw [if_pos c26] at H
            have c26b0 : decide (0 ≤ x40_2) = true := decide_eq_true c26
            clear c26
            by_cases c27 : x40_2 < (l0.length : Int)
            ·rw [if_pos c27] at H
             have c27b0 : decide (x40_2 < (l0.length : Int)) = true := decide_eq_true c27
             clear c27
             replace H := Option.bind_eq_some_iff.mp H
             obtain ⟨t207, A280, H⟩ := H
             replace H : (figure_Surface.l1 k2 l0 x9_1 x31_1 (mx x12_2 (wrap64 (((rd_T38 l0 x40_2).f0) - t207))) l0 (l0.length : Int) x31_1 l0 (l0.length : Int) (wrap64 (x40_2 + 1)) a1_0 a1_1) = some (r1, r2) := H
             have A28 := Aside0.mk A280
             clear A280
             obtain ⟨ji29, hji29⟩ : ∃ j_ : Int, (mx x12_2 (wrap64 (((rd_T38 l0 x40_2).f0) - t207))) = j_ := ⟨_, rfl⟩
             replace H : (figure_Surface.l1 k2 l0 x9_1 x31_1 ji29 l0 (l0.length : Int) x31_1 l0 (l0.length : Int) (wrap64 (x40_2 + 1)) a1_0 a1_1) = some (r1, r2) := by first | (rw [hji29] at H; exact H) | (simp only [hji29] at H ⊢; exact H)
             (try rw [hji29] at A28)
             have hji29_ : (if x12_2 < (wrap64 (((rd_T38 l0 x40_2).f0) - t207)) then (wrap64 (((rd_T38 l0 x40_2).f0) - t207)) else x12_2) = ji29 := hji29
             have H' := Aside0.mk H
             clear H
             have p205 : 0 ≤ (x40_2 : Int) := of_decide_eq_true as_
             have q205 : x40_2 < (l0.length : Int) := of_decide_eq_true as_
             obtain ⟨ad205, e205, hx205_0, hx205_1⟩ := at_T38 HR0.out x40_2 p205 q205
             obtain rfl : ad203 = ad205 := (by injection e205)
             replace hx205_0 := (HB.out.cell (World.block_lt_of_cell? w _ hx205_0)).trans hx205_0
             replace hx205_1 := (HB.out.cell (World.block_lt_of_cell? w _ hx205_1)).trans hx205_1
             replace p205 := eq_true p205
             replace q205 := eq_true q205
             try go_wp2_with (first | ((with_reducible refine gate_dst (N := 14) rfl ?_); refine box_event ?hg (N := 14) ?hd (cs := #[.int .i64 0, .int .i64 0]) (t := 38) ?hr ?_; (case hd => rfl); (case hg => rfl); (case hr => exact gr_); intro gb206 hg w30 hbox hb; have n0_ := Aside0.mk (Kd.R_below (rk_ HO_9) hb); have n1_ := Aside0.mk (bb_ BK197 hb); have n2_ := Aside0.mk (bb_ BK202 hb); have n3_ := Aside0.mk (bb_ BK204 hb); have n4_ := Aside0.mk (below_step (hb_ HB) hb); have n5_ := Aside0.mk (hbox); have n6_ := Aside0.mk ((hz_ HB hg)); have n7_ := Aside0.mk ((hz_ HB hg)); have n8_ := Aside0.mk ((nl_ BK197 hg)); have n9_ := Aside0.mk ((ng_ BK197 hg)); have n10_ := Aside0.mk ((nl_ BK202 hg)); have n11_ := Aside0.mk ((ng_ BK202 hg)); have n12_ := Aside0.mk ((nl_ BK204 hg)); have n13_ := Aside0.mk ((ng_ BK204 hg)); clear HO_9; clear BK197; clear BK202; clear BK204; clear HB; have HO_9 := n0_; have BK197 := n1_; have BK202 := n2_; have BK204 := n3_; have HB := n4_; have BK206 := n5_; have GW206 := n6_; have GE206 := n7_; have NB197_206 := n8_; have NB206_197 := n9_; have NB202_206 := n10_; have NB206_202 := n11_; have NB204_206 := n12_; have NB206_204 := n13_; clear n0_ n1_ n2_ n3_ n4_ n5_ n6_ n7_ n8_ n9_ n10_ n11_ n12_ n13_; clear hb hbox hg; have hnb31 := NB206_197.out; have hnc31 := NB197_206.out; have hnb32 := NB206_202.out; have hnc32 := NB202_206.out; have hnb33 := NB206_204.out; have hnc33 := NB204_206.out; have hcz34_0 : w30.cell? ⟨gb206, 0, none⟩ = some (.int .i64 0) := (blk_cell BK206.out 0).trans rfl; have hcz34_1 : w30.cell? ⟨gb206, 1, none⟩ = some (.int .i64 0) := (blk_cell BK206.out 1).trans rfl; have hfz34_0 := blk_frozen BK206.out 0; have hfz34_1 := blk_frozen BK206.out 1))
             have n0_ : Aside0 (Kd.R (Kd.int .i64) 3 ((w30.setCell ⟨gb206, 0, none⟩ (.int .i64 ((rd_T38 l0 x40_2).f0))).setCell ⟨gb206, 1, none⟩ (.int .i64 ((rd_T38 l0 x40_2).f1))) w.heap.size (fun _ => True) u9 x9_1) := ⟨by (with_reducible repeat (first | apply Kd.R_alloc | apply Kd.R_drewN | apply Kd.R_drew)); exact Kd.R_mono (Kd.R_far (p := ⟨gb206, 1, none⟩) (Kd.R_far (p := ⟨gb206, 0, none⟩) (Kd.R_types HO_9.out BK206.out di_) (fun _ hk => hk.2) (.int .i64 ((rd_T38 l0 x40_2).f0))) (fun _ hk => hk.2) (.int .i64 ((rd_T38 l0 x40_2).f1))) (fun _ hk => trivial)⟩
             have n1_ : Aside0 (((w30.setCell ⟨gb206, 0, none⟩ (.int .i64 ((rd_T38 l0 x40_2).f0))).setCell ⟨gb206, 1, none⟩ (.int .i64 ((rd_T38 l0 x40_2).f1))).heap[gb197]? = some (.cells #[.int .i64 a1_0, .int .i64 a1_1] 59 (0, 0))) := ⟨by (with_reducible repeat (first | refine blk_drewN ?_ _ | refine blk_drew ?_ | refine blk_alloc ?_ _)); refine blk_far ?_ NB197_206.out _; (with_reducible repeat (first | refine blk_drewN ?_ _ | refine blk_drew ?_ | refine blk_alloc ?_ _)); refine blk_far ?_ NB197_206.out _; (with_reducible repeat (first | refine blk_drewN ?_ _ | refine blk_drew ?_ | refine blk_alloc ?_ _)); exact BK197.out⟩
             have n2_ : Aside0 (((w30.setCell ⟨gb206, 0, none⟩ (.int .i64 ((rd_T38 l0 x40_2).f0))).setCell ⟨gb206, 1, none⟩ (.int .i64 ((rd_T38 l0 x40_2).f1))).heap[gb202]? = some (.cells #[.int .i64 t199, .int .i64 t200] 48 (0, 0))) := ⟨by (with_reducible repeat (first | refine blk_drewN ?_ _ | refine blk_drew ?_ | refine blk_alloc ?_ _)); refine blk_far ?_ NB202_206.out _; (with_reducible repeat (first | refine blk_drewN ?_ _ | refine blk_drew ?_ | refine blk_alloc ?_ _)); refine blk_far ?_ NB202_206.out _; (with_reducible repeat (first | refine blk_drewN ?_ _ | refine blk_drew ?_ | refine blk_alloc ?_ _)); exact BK202.out⟩
             have n3_ : Aside0 (((w30.setCell ⟨gb206, 0, none⟩ (.int .i64 ((rd_T38 l0 x40_2).f0))).setCell ⟨gb206, 1, none⟩ (.int .i64 ((rd_T38 l0 x40_2).f1))).heap[gb204]? = some (.cells #[.int .i64 ((rd_T38 l0 x31_1).f0), .int .i64 ((rd_T38 l0 x31_1).f1)] 38 (0, 0))) := ⟨by (with_reducible repeat (first | refine blk_drewN ?_ _ | refine blk_drew ?_ | refine blk_alloc ?_ _)); refine blk_far ?_ NB204_206.out _; (with_reducible repeat (first | refine blk_drewN ?_ _ | refine blk_drew ?_ | refine blk_alloc ?_ _)); refine blk_far ?_ NB204_206.out _; (with_reducible repeat (first | refine blk_drewN ?_ _ | refine blk_drew ?_ | refine blk_alloc ?_ _)); exact BK204.out⟩
             have n4_ : Aside0 (((w30.setCell ⟨gb206, 0, none⟩ (.int .i64 ((rd_T38 l0 x40_2).f0))).setCell ⟨gb206, 1, none⟩ (.int .i64 ((rd_T38 l0 x40_2).f1))).heap[gb206]? = some (.cells #[.int .i64 ((rd_T38 l0 x40_2).f0), .int .i64 ((rd_T38 l0 x40_2).f1)] 38 (0, 0))) := ⟨by (with_reducible repeat (first | refine blk_drewN ?_ _ | refine blk_drew ?_ | refine blk_alloc ?_ _)); refine blk_put (cs := #[.int .i64 ((rd_T38 l0 x40_2).f0), .int .i64 0]) ?_ 1 _ rfl; (with_reducible repeat (first | refine blk_drewN ?_ _ | refine blk_drew ?_ | refine blk_alloc ?_ _)); refine blk_put (cs := #[.int .i64 0, .int .i64 0]) ?_ 0 _ rfl; (with_reducible repeat (first | refine blk_drewN ?_ _ | refine blk_drew ?_ | refine blk_alloc ?_ _)); exact BK206.out⟩
             have n5_ : Aside0 (Below w.heap.size w ((w30.setCell ⟨gb206, 0, none⟩ (.int .i64 ((rd_T38 l0 x40_2).f0))).setCell ⟨gb206, 1, none⟩ (.int .i64 ((rd_T38 l0 x40_2).f1)))) := ⟨hb_ HB⟩
             (try clear HO_9)
             (try clear BK197)
             (try clear BK202)
             (try clear BK204)
             (try clear BK206)
             (try clear HB)
             generalize ((w30.setCell ⟨gb206, 0, none⟩ (.int .i64 ((rd_T38 l0 x40_2).f0))).setCell ⟨gb206, 1, none⟩ (.int .i64 ((rd_T38 l0 x40_2).f1))) = w35 at n0_ n1_ n2_ n3_ n4_ n5_ ⊢
             have HO_9 := n0_
             have BK197 := n1_
             have BK202 := n2_
             have BK204 := n3_
             have BK206 := n4_
             have HB := n5_
             clear n0_ n1_ n2_ n3_ n4_ n5_
             have n0_ := Aside0.mk (Kd.R_drew HO_9.out)
             have n1_ := Aside0.mk (blk_drew BK197.out)
             have n2_ := Aside0.mk (blk_drew BK202.out)
             have n3_ := Aside0.mk (blk_drew BK204.out)
             have n4_ := Aside0.mk (blk_drew BK206.out)
             have n5_ := Aside0.mk (below_drew1 HB.out)
             clear HO_9
             clear BK197
             clear BK202
             clear BK204
             clear BK206
             clear HB
             have HO_9 := n0_
             have BK197 := n1_
             have BK202 := n2_
             have BK204 := n3_
             have BK206 := n4_
             have HB := n5_
             clear n0_ n1_ n2_ n3_ n4_ n5_
             refine start_ (n := 11) (S := fun w' => w'.cell? ⟨gb206, 0, none⟩ = some (.int .i64 ((rd_T38 l0 x40_2).f0)) ∧ w'.cell? ⟨gb206, 1, none⟩ = some (.int .i64 ((rd_T38 l0 x40_2).f1)) ∧ w'.cell? ⟨gb197, 0, none⟩ = some (.int .i64 a1_0) ∧ w'.cell? ⟨gb197, 1, none⟩ = some (.int .i64 a1_1)) (ds := []) #[false, false, false, false, false, false, false, false, false, false, false] (by kernel_rfl) rfl rfl ⟨(blk_cell BK206.out 0).trans rfl, (blk_cell BK206.out 1).trans rfl, (blk_cell BK197.out 0).trans rfl, (blk_cell BK197.out 1).trans rfl⟩ (fun hHeld => ?_); refine with_tabW figure_Surface.tab14 figure_Surface.bits14 (fun HT_ HW_ => ?_)
             generalize w35.drew = w36 at HO_9 BK197 BK202 BK204 BK206 HB hHeld ⊢
             refine pure_ (i := 0) (N := some 45) (v := ?_) (a' := ?_) #[true, false, false, false, false, false, false, false, false, false, false] rfl rfl (any_of HT_.out (by kernel_rfl)) (fun _ _ _ h => h) (Or.inl ⟨by rfl, ?_⟩) ?_ ?_
             rotate_left
             ·exact gs_
             rotate_left
             ·exact pt_
             refine pure_ (i := 1) (N := some 46) (v := ?_) (a' := ?_) #[true, true, false, false, false, false, false, false, false, false, false] rfl rfl (any_of HT_.out (by kernel_rfl)) (fun _ _ _ h => h) (Or.inl ⟨by rfl, ?_⟩) ?_ ?_
             rotate_left
             ·exact gs_
             rotate_left
             ·exact pt_
             refine pure_ (i := 5) (N := some 50) (v := ?_) (a' := ?_) #[true, true, false, false, false, true, false, false, false, false, false] rfl rfl (any_of HT_.out (by kernel_rfl)) (fun _ _ _ h => h) (Or.inl ⟨by rfl, ?_⟩) ?_ ?_
             rotate_left
             ·exact gs_
             rotate_left
             ·exact pt_
             refine pure_ (i := 6) (N := some 51) (v := ?_) (a' := ?_) #[true, true, false, false, false, true, true, false, false, false, false] rfl rfl (any_of HT_.out (by kernel_rfl)) (fun _ _ _ h => h) (Or.inl ⟨by rfl, ?_⟩) ?_ ?_
             rotate_left
             ·exact gs_
             rotate_left
             ·exact pt_
             refine take_ (i := 2) (N := some 47) (v := ?_) (a' := ?_) #[true, true, true, false, false, true, true, false, false, false, false] rfl rfl (take_ofW HT_.out HW_.out (by kernel_rfl)) (fun _ _ _ h => h) (Or.inl ⟨by rfl, ?_⟩) hHeld ?_ ?_
             rotate_left
             ·rintro w' ⟨s0, s1, s2, s3⟩; go_simp; with_reducible rfl
             rotate_left
             ·exact pt_
             refine take_ (i := 3) (N := some 48) (v := ?_) (a' := ?_) #[true, true, true, true, false, true, true, false, false, false, false] rfl rfl (take_ofW HT_.out HW_.out (by kernel_rfl)) (fun _ _ _ h => h) (Or.inl ⟨by rfl, ?_⟩) hHeld ?_ ?_
             rotate_left
             ·rintro w' ⟨s0, s1, s2, s3⟩; go_simp; with_reducible rfl
             rotate_left
             ·exact pt_
             refine pure_ (i := 4) (N := some 49) (v := ?_) (a' := ?_) #[true, true, true, true, true, true, true, false, false, false, false] rfl rfl (any_of HT_.out (by kernel_rfl)) (fun _ _ _ h => h) (Or.inl ⟨by rfl, ?_⟩) ?_ ?_
             rotate_left
             ·exact gs_
             rotate_left
             ·exact pt_
             refine one_ (i := 7) (N := some 52) #[true, true, true, true, true, true, true, true, false, false, false] rfl rfl (one_of HT_.out (by kernel_rfl)) di_ (fun K hK => ?_)
             refine goes_ Try.func104 (by kernel_rfl) rfl #[.agg #[.int .i64 a1_0, .int .i64 a1_1], .int .i64 x31_1, .int .i64 x40_2] (by rfl) rfl rfl ma_ ?_
             with_reducible refine (figure_tolerance_bound.calls a1_0 a1_1 x31_1 x40_2 t207 _ A28.out).mono ?_
             rintro e w37 ⟨rfl, hb⟩
             refine ⟨_, rfl, ?_⟩
             have n0_ := Aside0.mk (Kd.R_below (rk_ HO_9) hb)
             have n1_ := Aside0.mk (bb_ BK197 hb)
             have n2_ := Aside0.mk (bb_ BK202 hb)
             have n3_ := Aside0.mk (bb_ BK204 hb)
             have n4_ := Aside0.mk (bb_ BK206 hb)
             have n5_ := Aside0.mk (below_step (hb_ HB) hb)
             clear HO_9
             clear BK197
             clear BK202
             clear BK204
             clear BK206
             clear HB
             have HO_9 := n0_
             have BK197 := n1_
             have BK202 := n2_
             have BK204 := n3_
             have BK206 := n4_
             have HB := n5_
             clear n0_ n1_ n2_ n3_ n4_ n5_
             (try clear hb)
             (try clear hb2)
             (try clear hk)
             (try clear hi)
             refine hK.out _ _ ⟨(blk_cell BK206.out 0).trans rfl, (blk_cell BK206.out 1).trans rfl, (blk_cell BK197.out 0).trans rfl, (blk_cell BK197.out 1).trans rfl⟩ (fun hHeld => ?_)
             clear hK K
             refine norm_ (a' := ?_) ?_ ?_
             rotate_left
             ·show Act.put _ (some 52) _ = _
              simp only [Act.put, List.setIfInBounds_toArray, List.set_cons_zero, List.set_cons_succ, i64_w, i32_w]
              rfl
             refine pure_ (i := 8) (N := some 53) (v := ?_) (a' := ?_) #[true, true, true, true, true, true, true, true, true, false, false] rfl rfl (any_of HT_.out (by kernel_rfl)) (fun _ _ _ h => h) (Or.inl ⟨by rfl, ?_⟩) ?_ ?_
             rotate_left
             ·exact gs_
             rotate_left
             ·exact pt_
             refine pure_ (i := 9) (N := some 54) (v := ?_) (a' := ?_) #[true, true, true, true, true, true, true, true, true, true, false] rfl rfl (any_of HT_.out (by kernel_rfl)) (fun _ _ _ h => h) (Or.inl ⟨by rfl, ?_⟩) ?_ ?_
             rotate_left
             ·exact gs_
             rotate_left
             ·exact pt_
             refine pure_ (i := 10) (N := some 12) (v := ?_) (a' := ?_) #[true, true, true, true, true, true, true, true, true, true, true] rfl rfl (any_of HT_.out (by kernel_rfl)) (fun _ _ _ h => h) (Or.inl ⟨by rfl, ?_⟩) ?_ ?_
             rotate_left
             ·exact gs_
             rotate_left
             ·exact pt_
             refine done_ (done_of HT_.out (by kernel_rfl)) ?_
             try go_wp2
             go_roundg k2
             case measure => have := HK1.out; have := HK2.out; omega
             case rel => exact ⟨(ji29), (wrap64 (x40_2 + 1)), (by first | rfl | (simp; done) | (simp only [← hji29] <;> (first | rfl | simp)) | (simp [*]; done)), rs_, H', ⟨by have := HK1.out; have := HK2.out; omega⟩, ⟨by (with_reducible repeat (first | apply Kd.R_alloc | apply Kd.R_drewN | apply Kd.R_drew)); exact HO_9.out⟩, ⟨by (with_reducible repeat (first | refine blk_drewN ?_ _ | refine blk_drew ?_ | refine blk_alloc ?_ _)); exact BK197.out⟩, ⟨by (with_reducible repeat (first | refine blk_drewN ?_ _ | refine blk_drew ?_ | refine blk_alloc ?_ _)); exact BK202.out⟩, ⟨by (with_reducible repeat (first | refine blk_drewN ?_ _ | refine blk_drew ?_ | refine blk_alloc ?_ _)); exact BK204.out⟩, ⟨hb_ HB⟩⟩
            ·rw [if_neg c27] at H
             exact absurd H (by simp)
           ·rw [if_neg c26] at H
            exact absurd H (by simp)
          ·rw [if_neg c25] at H
           have c25b0 : decide (x40_2 < (l0.length : Int)) = false := decide_eq_false c25
           clear c25
           by_cases c38 : x9_1.length < 17592186044416
           ·rw [if_pos c38] at H
            have LMc38 := Aside0.mk c38
            clear c38
            obtain ⟨y208, hy208⟩ : ∃ y_ : List Int, y_ = (x9_1 ++ [x12_2]) := ⟨_, rfl⟩
            replace H : (figure_Surface.l0 k2 l0 y208 l0 (l0.length : Int) (wrap64 (x31_1 + 1)) a1_0 a1_1) = some (r1, r2) := by first | (rw [hy208]; with_reducible exact H) | (have H2_ := (Option.bind_some _ _).symm.trans H; rw [hy208]; with_reducible exact H2_) | (have H2_ := (Option.bind_some _ _).symm.trans H; with_reducible exact H2_) | with_reducible exact H | (rw [hy208]; exact H) | exact H
            have Ny208 := Aside0.mk hy208
            clear hy208
            have H' := Aside0.mk H
            clear H
            go_wp2_with (first | ((with_reducible refine gate_builtin (b := .append) (xs := #[.tmp 56, .tmp 58]) rfl ?_); at_builtin; refine Kd.R_append (Kd.int .i64) (w0 := w) w.heap.size rfl (.tmp 56) (.tmp 58) 22 3 (.int .i64 0) 8 rfl Try.underlying22 info3 rfl di_ (by omega) u9 x9_1 x12_2 [.int .i64 x12_2] (fun _ => True) (fun _ => False) rfl rfl ?aP (fun _ hk => hk.elim) ?aF ?aO ?aB ?aS ?aL ?_; (case aP => exact rfl); (case aB => exact (hb_ HB)); (case aF => exact (fun _ _ => trivial)); (case aO => exact (rk_ HO_9)); (case aS => exact (below_size (hb_ HB))); (case aL => have := LMc38.out; omega); intro v209 w39 ho hb hg hat; rw [← Ny208.out] at ho; have n0_ := Aside0.mk (blk_grown (g := gb197) (o := .cells #[.int .i64 a1_0, .int .i64 a1_1] 59 (0, 0)) (bk_ BK197) hg (Kd.R_ne HO_9.out BK197.out di_)); have n1_ := Aside0.mk (blk_grown (g := gb202) (o := .cells #[.int .i64 t199, .int .i64 t200] 48 (0, 0)) (bk_ BK202) hg (Kd.R_ne HO_9.out BK202.out di_)); have n2_ := Aside0.mk (blk_grown (g := gb204) (o := .cells #[.int .i64 ((rd_T38 l0 x31_1).f0), .int .i64 ((rd_T38 l0 x31_1).f1)] 38 (0, 0)) (bk_ BK204) hg (Kd.R_ne HO_9.out BK204.out di_)); have n3_ := Aside0.mk (hb); have n4_ := Aside0.mk (ho); clear BK197; clear BK202; clear BK204; clear HB; clear HO_9; have BK197 := n0_; have BK202 := n1_; have BK204 := n2_; have HB := n3_; have HO210 := n4_; clear n0_ n1_ n2_ n3_ n4_; clear ho hb hg hat))
            go_roundg k2
            case measure => have := HK1.out; have := HK2.out; omega
            case rel => exact ⟨(y208), (wrap64 (x31_1 + 1)), rs_, H', ⟨by have := HK1.out; have := HK2.out; omega⟩, ⟨by (with_reducible repeat (first | apply Kd.R_alloc | apply Kd.R_drewN | apply Kd.R_drew)); exact HO210.out⟩, ⟨by (with_reducible repeat (first | refine blk_drewN ?_ _ | refine blk_drew ?_ | refine blk_alloc ?_ _)); exact BK197.out⟩, ⟨by (with_reducible repeat (first | refine blk_drewN ?_ _ | refine blk_drew ?_ | refine blk_alloc ?_ _)); exact BK202.out⟩, ⟨hb_ HB⟩⟩
           ·rw [if_neg c38] at H
            exact absurd H (by simp)
       ·rw [if_neg c20] at H
        exact absurd H (by simp)
      ·rw [if_neg c19] at H
       exact absurd H (by simp)
     ·rw [if_neg c18] at H
      have c18b0 : decide (x31_1 < (l0.length : Int)) = false := decide_eq_false c18
      clear c18
      simp only [Option.some.injEq, Prod.mk.injEq] at H
      obtain ⟨rfl, rfl⟩ := H
      go_wp2
      go_ret2
      exact ⟨_, ew_, by (with_reducible repeat (first | apply Kd.R_alloc | apply Kd.R_drewN | apply Kd.R_drew)); exact HO_9.out, hb_ HB⟩
 ·rw [if_neg c4] at H
  have c4b0 : (t201 == 0) = false := beq_eq_false_iff_ne.mpr c4
  have c4b1 : (t201 != 0) = true := bne_iff_ne.mpr c4
  simp only [Option.some.injEq, Prod.mk.injEq] at H
  obtain ⟨rfl, rfl⟩ := H
  go_enter Try.func61, Try.ntmps61
  go_wp2_with (first | ((with_reducible refine gate_dst (N := 3) rfl ?_); refine box_event ?hg (N := 3) ?hd (cs := #[.int .i64 a1_0, .int .i64 a1_1]) (t := 59) ?hr ?_; (case hd => rfl); (case hg => rfl); (case hr => exact gr_); intro gb197 hg w40 hbox hb; have n0_ := Aside0.mk (below_step (hb_ HB) hb); have n1_ := Aside0.mk (hbox); have n2_ := Aside0.mk ((hz_ HB hg)); have n3_ := Aside0.mk ((hz_ HB hg)); clear HB; have HB := n0_; have BK197 := n1_; have GW197 := n2_; have GE197 := n3_; clear n0_ n1_ n2_ n3_; clear hb hbox hg; have hcz41_0 : w40.cell? ⟨gb197, 0, none⟩ = some (.int .i64 a1_0) := (blk_cell BK197.out 0).trans rfl; have hcz41_1 : w40.cell? ⟨gb197, 1, none⟩ = some (.int .i64 a1_1) := (blk_cell BK197.out 1).trans rfl; have hfz41_0 := blk_frozen BK197.out 0; have hfz41_1 := blk_frozen BK197.out 1) | ((with_reducible refine gate_callee (f := 59) rfl ?_); refine goesL_ (some 18) rfl rfl Try.func59 (by kernel_rfl) rfl #[.slice A0 l0.length c0, .agg #[.int .i64 a1_0, .int .i64 a1_1]] rfl ma_ ?_; (with_reducible refine (figure_Judge.calls k _ _ l0 a1_0 a1_1 t198 t199 t200 t201 _ ?side1 ?side2 A3.out).mono ?_); (case side1 => exact cb_ (Kd.C_below HR0.out HB.out)); (case side2 => exact HC0.out); rintro e w42 ⟨rfl, hb⟩; refine ⟨_, rfl, ?_⟩; have n0_ := Aside0.mk (bb_ BK197 hb); have n1_ := Aside0.mk (below_step (hb_ HB) hb); clear BK197; clear HB; have BK197 := n0_; have HB := n1_; clear n0_ n1_; (try clear hb); (try clear hb2); (try clear hk); (try clear hi)) | ((with_reducible refine gate_dst (N := 7) rfl ?_); refine box_event ?hg (N := 7) ?hd (cs := #[.int .i64 0, .int .i64 0]) (t := 48) ?hr ?_; (case hd => rfl); (case hg => rfl); (case hr => exact gr_); intro gb202 hg w43 hbox hb; have n0_ := Aside0.mk (bb_ BK197 hb); have n1_ := Aside0.mk (below_step (hb_ HB) hb); have n2_ := Aside0.mk (hbox); have n3_ := Aside0.mk ((hz_ HB hg)); have n4_ := Aside0.mk ((hz_ HB hg)); have n5_ := Aside0.mk ((nl_ BK197 hg)); have n6_ := Aside0.mk ((ng_ BK197 hg)); clear BK197; clear HB; have BK197 := n0_; have HB := n1_; have BK202 := n2_; have GW202 := n3_; have GE202 := n4_; have NB197_202 := n5_; have NB202_197 := n6_; clear n0_ n1_ n2_ n3_ n4_ n5_ n6_; clear hb hbox hg; have hnb44 := NB202_197.out; have hnc44 := NB197_202.out; have hcz45_0 : w43.cell? ⟨gb202, 0, none⟩ = some (.int .i64 0) := (blk_cell BK202.out 0).trans rfl; have hcz45_1 : w43.cell? ⟨gb202, 1, none⟩ = some (.int .i64 0) := (blk_cell BK202.out 1).trans rfl; have hfz45_0 := blk_frozen BK202.out 0; have hfz45_1 := blk_frozen BK202.out 1))
  go_ret2
  exact ⟨_, ew_, by first | exact Kd.R_nil _ _ _ _ _ | exact Kd.N_nil _ _ _ _ _ | exact Kd.V_nil _ _ _ _ _ | exact Kd.Q_nil _ _ _ _ _ | exact Kd.S_nil _ _ _ _ _, hb_ HB⟩
end Go.Proofs.Ytdkahcolfcmmpaa.Pr
namespace Go.Proofs.Ytdkahcolfcmmpaa.Pr
open Go.RowKit Go.Proofs.YtdkahcolfcmmpaaW.PrintWords Go.Proofs.YtdkahcolfcmmpaaW.PrintLast Go.Proofs.YtdkahcolfcmmpaaW.PrintMore
attribute [local go_sem] max2_int min2_int max_two min_two max_three min_three max_four min_four
set_option linter.unusedVariables false
set_option linter.unusedSimpArgs false
attribute [local go_sem high] eqA28 eqA48
def speculumlaw06_awake.f (k : Nat)  : Option (Bool) := (speculumlaw06_Four.f).bind fun bt211 => ((figure_Least.f k bt211.1 bt211.2.1 bt211.2.2).bind fun bt220 => ((speculumlaw06_Known.f).bind fun t224 => ((figure_Judge.f k t224 0 0).bind fun bt227 => ((speculumlaw06_Known.f).bind fun t232 => ((figure_Surface.f k t232 3 2).bind fun bt235 => (if bt220.2.2 = 0 then (if (bt220.1 == 12 && (bt220.2.1 == 1)) = true then (if bt227.2.2.2 = 0 then (if bt227.1 = (-1) then (if (bt227.2.1 == 2 && (bt227.2.2.1 == 0)) = true then (if bt235.2 = 0 then ((speculumbase_Ints.f k bt235.1 (([0, 1, 3] : List Int))).bind fun t242 => (some t242)) else (some false)) else (some false)) else (some false)) else (some false)) else (some false)) else (some false)))))))
theorem speculumlaw06_awake.mono : ∀ k, LeO (speculumlaw06_awake.f k ) (speculumlaw06_awake.f (k + 1) ) := by
 intro  k
 unfold speculumlaw06_awake.f
 repeat' first
   | (with_reducible exact figure_Judge.mono _ _ _ _)
   | (with_reducible exact figure_Least.mono _ _ _ _)
   | (with_reducible exact figure_Surface.mono _ _ _ _)
   | (with_reducible exact speculumbase_Ints.mono _ _ _)
   | (with_reducible exact LeO.refl _)
   | (with_reducible exact LeO.none _)
   | (with_reducible refine LeO.ite ?_ ?_)
   | (with_reducible refine LeO.bind ?_ (fun _ => ?_))
   | exact figure_Judge.mono _ _ _ _
   | exact figure_Least.mono _ _ _ _
   | exact figure_Surface.mono _ _ _ _
   | exact speculumbase_Ints.mono _ _ _
   | exact LeO.none _
   | refine LeO.ite ?_ ?_
   | refine LeO.bind ?_ (fun _ => ?_)
set_option maxHeartbeats 8000000 in
set_option maxRecDepth 100000 in
theorem speculumlaw06_awake.calls (k : Nat)  (r : Bool) (w : World) (hr_ : r = true) (h : speculumlaw06_awake.f k  = some r) :
  Calls Try.prog 14 #[] w fun e w' => e = .returned (.bool r) ∧ Below w.heap.size w w' := by
 have hu28 := Try.underlying28
 have hu59 := Try.underlying59
 have hu48 := Try.underlying48
 have HB := Aside0.mk (Below.refl w.heap.size w)
 have H : ((speculumlaw06_Four.f).bind fun bt211 => ((figure_Least.f k bt211.1 bt211.2.1 bt211.2.2).bind fun bt220 => ((speculumlaw06_Known.f).bind fun t224 => ((figure_Judge.f k t224 0 0).bind fun bt227 => ((speculumlaw06_Known.f).bind fun t232 => ((figure_Surface.f k t232 3 2).bind fun bt235 => (if bt220.2.2 = 0 then (if (bt220.1 == 12 && (bt220.2.1 == 1)) = true then (if bt227.2.2.2 = 0 then (if bt227.1 = (-1) then (if (bt227.2.1 == 2 && (bt227.2.2.1 == 0)) = true then (if bt235.2 = 0 then ((speculumbase_Ints.f k bt235.1 (([0, 1, 3] : List Int))).bind fun t242 => (some t242)) else (some false)) else (some false)) else (some false)) else (some false)) else (some false)) else (some false)))))))) = some r := h
 clear h
 replace H := Option.bind_eq_some_iff.mp H
 obtain ⟨⟨t211, t214, t217⟩, A10, H⟩ := H
 replace H : ((figure_Least.f k t211 t214 t217).bind fun bt220 => ((speculumlaw06_Known.f).bind fun t224 => ((figure_Judge.f k t224 0 0).bind fun bt227 => ((speculumlaw06_Known.f).bind fun t232 => ((figure_Surface.f k t232 3 2).bind fun bt235 => (if bt220.2.2 = 0 then (if (bt220.1 == 12 && (bt220.2.1 == 1)) = true then (if bt227.2.2.2 = 0 then (if bt227.1 = (-1) then (if (bt227.2.1 == 2 && (bt227.2.2.1 == 0)) = true then (if bt235.2 = 0 then ((speculumbase_Ints.f k bt235.1 (([0, 1, 3] : List Int))).bind fun t242 => (some t242)) else (some false)) else (some false)) else (some false)) else (some false)) else (some false)) else (some false))))))) = some r := H
 have A1 := Aside0.mk A10
 clear A10
 replace H := Option.bind_eq_some_iff.mp H
 obtain ⟨⟨t220, t221, t222⟩, A20, H⟩ := H
 replace H : ((speculumlaw06_Known.f).bind fun t224 => ((figure_Judge.f k t224 0 0).bind fun bt227 => ((speculumlaw06_Known.f).bind fun t232 => ((figure_Surface.f k t232 3 2).bind fun bt235 => (if t222 = 0 then (if (t220 == 12 && (t221 == 1)) = true then (if bt227.2.2.2 = 0 then (if bt227.1 = (-1) then (if (bt227.2.1 == 2 && (bt227.2.2.1 == 0)) = true then (if bt235.2 = 0 then ((speculumbase_Ints.f k bt235.1 (([0, 1, 3] : List Int))).bind fun t242 => (some t242)) else (some false)) else (some false)) else (some false)) else (some false)) else (some false)) else (some false)))))) = some r := H
 have A2 := Aside0.mk A20
 clear A20
 replace H := Option.bind_eq_some_iff.mp H
 obtain ⟨t224, A30, H⟩ := H
 replace H : ((figure_Judge.f k t224 0 0).bind fun bt227 => ((speculumlaw06_Known.f).bind fun t232 => ((figure_Surface.f k t232 3 2).bind fun bt235 => (if t222 = 0 then (if (t220 == 12 && (t221 == 1)) = true then (if bt227.2.2.2 = 0 then (if bt227.1 = (-1) then (if (bt227.2.1 == 2 && (bt227.2.2.1 == 0)) = true then (if bt235.2 = 0 then ((speculumbase_Ints.f k bt235.1 (([0, 1, 3] : List Int))).bind fun t242 => (some t242)) else (some false)) else (some false)) else (some false)) else (some false)) else (some false)) else (some false))))) = some r := H
 have A3 := Aside0.mk A30
 clear A30
 replace H := Option.bind_eq_some_iff.mp H
 obtain ⟨⟨t227, t228, t229, t230⟩, A40, H⟩ := H
 replace H : ((speculumlaw06_Known.f).bind fun t232 => ((figure_Surface.f k t232 3 2).bind fun bt235 => (if t222 = 0 then (if (t220 == 12 && (t221 == 1)) = true then (if t230 = 0 then (if t227 = (-1) then (if (t228 == 2 && (t229 == 0)) = true then (if bt235.2 = 0 then ((speculumbase_Ints.f k bt235.1 (([0, 1, 3] : List Int))).bind fun t242 => (some t242)) else (some false)) else (some false)) else (some false)) else (some false)) else (some false)) else (some false)))) = some r := H
 have A4 := Aside0.mk A40
 clear A40
 replace H := Option.bind_eq_some_iff.mp H
 obtain ⟨t232, A50, H⟩ := H
 replace H : ((figure_Surface.f k t232 3 2).bind fun bt235 => (if t222 = 0 then (if (t220 == 12 && (t221 == 1)) = true then (if t230 = 0 then (if t227 = (-1) then (if (t228 == 2 && (t229 == 0)) = true then (if bt235.2 = 0 then ((speculumbase_Ints.f k bt235.1 (([0, 1, 3] : List Int))).bind fun t242 => (some t242)) else (some false)) else (some false)) else (some false)) else (some false)) else (some false)) else (some false))) = some r := H
 have A5 := Aside0.mk A50
 clear A50
 replace H := Option.bind_eq_some_iff.mp H
 obtain ⟨⟨t235, t238⟩, A60, H⟩ := H
 replace H : (if t222 = 0 then (if (t220 == 12 && (t221 == 1)) = true then (if t230 = 0 then (if t227 = (-1) then (if (t228 == 2 && (t229 == 0)) = true then (if t238 = 0 then ((speculumbase_Ints.f k t235 (([0, 1, 3] : List Int))).bind fun t242 => (some t242)) else (some false)) else (some false)) else (some false)) else (some false)) else (some false)) else (some false)) = some r := H
 have A6 := Aside0.mk A60
 clear A60
 by_cases c7 : t222 = 0
 ·rw [if_pos c7] at H
  have c7b0 : (t222 == 0) = true := beq_iff_eq.mpr c7
  have c7b1 : (t222 != 0) = false := bne_eq_false_iff_eq.mpr c7
  clear c7
  by_cases c8 : (t220 == 12 && (t221 == 1)) = true
  ·rw [if_pos c8] at H
   have c8b0 : (t220 == 12 && (t221 == 1)) = true := c8
   (try (have c8b1 : decide (t220 = 12 && (t221 == 1)) = true := by simpa using c8))
   (try (have c8b2 : (t220 == 12 && (t221 == 1)) = true := by simpa using c8))
   clear c8
   by_cases c9 : t230 = 0
   ·rw [if_pos c9] at H
    have c9b0 : (t230 == 0) = true := beq_iff_eq.mpr c9
    have c9b1 : (t230 != 0) = false := bne_eq_false_iff_eq.mpr c9
    clear c9
    by_cases c10 : t227 = (-1)
    ·rw [if_pos c10] at H
     have c10b0 : (t227 == (-1)) = true := beq_iff_eq.mpr c10
     have c10b1 : (t227 != (-1)) = false := bne_eq_false_iff_eq.mpr c10
     clear c10
     by_cases c11 : (t228 == 2 && (t229 == 0)) = true
     ·rw [if_pos c11] at H
      have c11b0 : (t228 == 2 && (t229 == 0)) = true := c11
      (try (have c11b1 : decide (t228 = 2 && (t229 == 0)) = true := by simpa using c11))
      (try (have c11b2 : (t228 == 2 && (t229 == 0)) = true := by simpa using c11))
      clear c11
      by_cases c12 : t238 = 0
      ·rw [if_pos c12] at H
       have c12b0 : (t238 == 0) = true := beq_iff_eq.mpr c12
       have c12b1 : (t238 != 0) = false := bne_eq_false_iff_eq.mpr c12
       clear c12
       obtain ⟨y239, hy239⟩ : ∃ y_ : List Int, y_ = (([0, 1, 3] : List Int)) := ⟨_, rfl⟩
       replace H : ((speculumbase_Ints.f k t235 y239).bind fun t242 => (some t242)) = some r := by first | (rw [hy239]; with_reducible exact H) | (have H2_ := (Option.bind_some _ _).symm.trans H; rw [hy239]; with_reducible exact H2_) | (have H2_ := (Option.bind_some _ _).symm.trans H; with_reducible exact H2_) | with_reducible exact H | (rw [hy239]; exact H) | exact H
       have Ny239 := Aside0.mk hy239
       clear hy239
       replace H := Option.bind_eq_some_iff.mp H
       obtain ⟨t242, A130, H⟩ := H
       replace H : (some t242) = some r := H
       have A13 := Aside0.mk A130
       clear A130
       obtain rfl := Option.some.inj H
       go_enter Try.func14, Try.ntmps14
       go_wp2_with (first | ((with_reducible refine gate_callee (f := 58) rfl ?_); refine goesL_ (some 9) rfl rfl Try.func58 (by kernel_rfl) rfl #[] rfl ma_ ?_; (with_reducible refine (speculumlaw06_Four.calls  t211 t214 t217 _ A1.out).mono ?_); rintro e w14 ⟨v212, v215, v218, rfl, ho0, ho1, ho2, hb⟩; refine ⟨_, rfl, ?_⟩; have n0_ := Aside0.mk (Kd.R_lower ho0 (below_size (hb_ HB))); have n1_ := Aside0.mk (Kd.R_lower ho1 (below_size (hb_ HB))); have n2_ := Aside0.mk (Kd.R_lower ho2 (below_size (hb_ HB))); have n3_ := Aside0.mk (below_step (hb_ HB) hb); clear HB; have HO213 := n0_; have HO216 := n1_; have HO219 := n2_; have HB := n3_; clear n0_ n1_ n2_ n3_; (try clear hb); (try clear hb2); (try clear hk); (try clear hi); (try clear ho0); (try clear ho1); (try clear ho2); obtain ⟨Ao15, co15, eo15⟩ := Kd.R_slice HO213.out; subst eo15; obtain ⟨Ao16, co16, eo16⟩ := Kd.R_slice HO216.out; subst eo16; obtain ⟨Ao17, co17, eo17⟩ := Kd.R_slice HO219.out; subst eo17) | ((with_reducible refine gate_callee (f := 32) rfl ?_); refine goesL_ (some 10) rfl rfl Try.func32 (by kernel_rfl) rfl #[.agg #[.slice Ao15 t211.length co15, .slice Ao16 t214.length co16, .slice Ao17 t217.length co17]] rfl ma_ ?_; (with_reducible refine (figure_Least.calls k _ _ t211 _ _ t214 _ _ t217 t220 t221 t222 _ ?side1 ?side2 ?side3 ?side4 ?side5 ?side6 A2.out).mono ?_); (case side1 => exact cb_ (Kd.R_reads' HO213.out).2.2); (case side2 => exact (Kd.R_reads' HO213.out).2.1); (case side3 => exact cb_ (Kd.R_reads' HO216.out).2.2); (case side4 => exact (Kd.R_reads' HO216.out).2.1); (case side5 => exact cb_ (Kd.R_reads' HO219.out).2.2); (case side6 => exact (Kd.R_reads' HO219.out).2.1); rintro e w18 ⟨rfl, hb⟩; refine ⟨_, rfl, ?_⟩; have n0_ := Aside0.mk (Kd.R_below (rk_ HO213) hb); have n1_ := Aside0.mk (Kd.R_below (rk_ HO216) hb); have n2_ := Aside0.mk (Kd.R_below (rk_ HO219) hb); have n3_ := Aside0.mk (below_step (hb_ HB) hb); clear HO213; clear HO216; clear HO219; clear HB; have HO213 := n0_; have HO216 := n1_; have HO219 := n2_; have HB := n3_; clear n0_ n1_ n2_ n3_; (try clear hb); (try clear hb2); (try clear hk); (try clear hi)) | ((with_reducible refine gate_dst (N := 1) rfl ?_); (try (refine gate_guard (by rfl) ?_; dsimp only)); refine box_event ?hg (N := 1) ?hd (cs := #[.int .i64 0, .int .i64 0]) (t := 28) ?hr ?_; (case hd => rfl); (case hg => rfl); (case hr => exact gr_); intro gb223 hg w19 hbox hb; have n0_ := Aside0.mk (Kd.R_below (rk_ HO213) hb); have n1_ := Aside0.mk (Kd.R_below (rk_ HO216) hb); have n2_ := Aside0.mk (Kd.R_below (rk_ HO219) hb); have n3_ := Aside0.mk (below_step (hb_ HB) hb); have n4_ := Aside0.mk (hbox); have n5_ := Aside0.mk ((hz_ HB hg)); have n6_ := Aside0.mk ((hz_ HB hg)); clear HO213; clear HO216; clear HO219; clear HB; have HO213 := n0_; have HO216 := n1_; have HO219 := n2_; have HB := n3_; have BK223 := n4_; have GW223 := n5_; have GE223 := n6_; clear n0_ n1_ n2_ n3_ n4_ n5_ n6_; clear hb hbox hg; have hcz20_0 : w19.cell? ⟨gb223, 0, none⟩ = some (.int .i64 0) := (blk_cell BK223.out 0).trans rfl; have hcz20_1 : w19.cell? ⟨gb223, 1, none⟩ = some (.int .i64 0) := (blk_cell BK223.out 1).trans rfl; have hfz20_0 := blk_frozen BK223.out 0; have hfz20_1 := blk_frozen BK223.out 1) | ((with_reducible refine gate_callee (f := 60) rfl ?_); refine goesL_ (some 14) rfl rfl Try.func60 (by kernel_rfl) rfl #[] rfl ma_ ?_; (with_reducible refine (speculumlaw06_Known.calls  t224 _ A3.out).mono ?_); rintro e w21 ⟨v225, rfl, ho0, hb⟩; refine ⟨_, rfl, ?_⟩; have n0_ := Aside0.mk (Kd.R_below (by (with_reducible repeat (first | apply Kd.R_alloc | apply Kd.R_drewN | apply Kd.R_drew)); exact (Kd.R_mono (Kd.R_far (p := ⟨gb223, 1, none⟩) (Kd.R_far (p := ⟨gb223, 0, none⟩) (Kd.R_types HO213.out BK223.out di_) (fun _ hk => hk.2) (.int .i64 t220)) (fun _ hk => hk.2) (.int .i64 t221)) (fun _ h_ => h_.1))) hb); have n1_ := Aside0.mk (Kd.R_below (by (with_reducible repeat (first | apply Kd.R_alloc | apply Kd.R_drewN | apply Kd.R_drew)); exact (Kd.R_mono (Kd.R_far (p := ⟨gb223, 1, none⟩) (Kd.R_far (p := ⟨gb223, 0, none⟩) (Kd.R_types HO216.out BK223.out di_) (fun _ hk => hk.2) (.int .i64 t220)) (fun _ hk => hk.2) (.int .i64 t221)) (fun _ h_ => h_.1))) hb); have n2_ := Aside0.mk (Kd.R_below (by (with_reducible repeat (first | apply Kd.R_alloc | apply Kd.R_drewN | apply Kd.R_drew)); exact (Kd.R_mono (Kd.R_far (p := ⟨gb223, 1, none⟩) (Kd.R_far (p := ⟨gb223, 0, none⟩) (Kd.R_types HO219.out BK223.out di_) (fun _ hk => hk.2) (.int .i64 t220)) (fun _ hk => hk.2) (.int .i64 t221)) (fun _ h_ => h_.1))) hb); have n3_ := Aside0.mk (Kd.R_lower ho0 (below_size (hb_ HB))); have n4_ := Aside0.mk (blk_below (g := gb223) (o := .cells #[.int .i64 t220, .int .i64 t221] 28 (0, 0)) (by (with_reducible repeat (first | refine blk_drewN ?_ _ | refine blk_drew ?_ | refine blk_alloc ?_ _)); refine blk_put (cs := #[.int .i64 t220, .int .i64 0]) ?_ 1 _ rfl; (with_reducible repeat (first | refine blk_drewN ?_ _ | refine blk_drew ?_ | refine blk_alloc ?_ _)); refine blk_put (cs := #[.int .i64 0, .int .i64 0]) ?_ 0 _ rfl; (with_reducible repeat (first | refine blk_drewN ?_ _ | refine blk_drew ?_ | refine blk_alloc ?_ _)); exact BK223.out) hb); have n5_ := Aside0.mk (below_step (hb_ HB) hb); clear HO213; clear HO216; clear HO219; clear BK223; clear HB; have HO213 := n0_; have HO216 := n1_; have HO219 := n2_; have HO226 := n3_; have BK223 := n4_; have HB := n5_; clear n0_ n1_ n2_ n3_ n4_ n5_; (try clear hb); (try clear hb2); (try clear hk); (try clear hi); (try clear ho0); obtain ⟨Ao22, co22, eo22⟩ := Kd.R_slice HO226.out; subst eo22) | ((with_reducible refine gate_callee (f := 59) rfl ?_); refine goesL_ (some 16) rfl rfl Try.func59 (by kernel_rfl) rfl #[.slice Ao22 t224.length co22, .agg #[.int .i64 0, .int .i64 0]] rfl ma_ ?_; (with_reducible refine (figure_Judge.calls k _ _ t224 0 0 t227 t228 t229 t230 _ ?side1 ?side2 A4.out).mono ?_); (case side1 => exact cb_ (Kd.R_reads' HO226.out).2.2); (case side2 => exact (Kd.R_reads' HO226.out).2.1); rintro e w23 ⟨rfl, hb⟩; refine ⟨_, rfl, ?_⟩; have n0_ := Aside0.mk (Kd.R_below (rk_ HO213) hb); have n1_ := Aside0.mk (Kd.R_below (rk_ HO216) hb); have n2_ := Aside0.mk (Kd.R_below (rk_ HO219) hb); have n3_ := Aside0.mk (Kd.R_below (rk_ HO226) hb); have n4_ := Aside0.mk (bb_ BK223 hb); have n5_ := Aside0.mk (below_step (hb_ HB) hb); clear HO213; clear HO216; clear HO219; clear HO226; clear BK223; clear HB; have HO213 := n0_; have HO216 := n1_; have HO219 := n2_; have HO226 := n3_; have BK223 := n4_; have HB := n5_; clear n0_ n1_ n2_ n3_ n4_ n5_; (try clear hb); (try clear hb2); (try clear hk); (try clear hi)) | ((with_reducible refine gate_dst (N := 4) rfl ?_); (try (refine gate_guard (by rfl) ?_; dsimp only)); refine box_event ?hg (N := 4) ?hd (cs := #[.int .i64 0, .int .i64 0]) (t := 48) ?hr ?_; (case hd => rfl); (case hg => rfl); (case hr => exact gr_); intro gb231 hg w24 hbox hb; have n0_ := Aside0.mk (Kd.R_below (rk_ HO213) hb); have n1_ := Aside0.mk (Kd.R_below (rk_ HO216) hb); have n2_ := Aside0.mk (Kd.R_below (rk_ HO219) hb); have n3_ := Aside0.mk (Kd.R_below (rk_ HO226) hb); have n4_ := Aside0.mk (bb_ BK223 hb); have n5_ := Aside0.mk (below_step (hb_ HB) hb); have n6_ := Aside0.mk (hbox); have n7_ := Aside0.mk ((hz_ HB hg)); have n8_ := Aside0.mk ((hz_ HB hg)); have n9_ := Aside0.mk ((nl_ BK223 hg)); have n10_ := Aside0.mk ((ng_ BK223 hg)); clear HO213; clear HO216; clear HO219; clear HO226; clear BK223; clear HB; have HO213 := n0_; have HO216 := n1_; have HO219 := n2_; have HO226 := n3_; have BK223 := n4_; have HB := n5_; have BK231 := n6_; have GW231 := n7_; have GE231 := n8_; have NB223_231 := n9_; have NB231_223 := n10_; clear n0_ n1_ n2_ n3_ n4_ n5_ n6_ n7_ n8_ n9_ n10_; clear hb hbox hg; have hnb25 := NB231_223.out; have hnc25 := NB223_231.out; have hcz26_0 : w24.cell? ⟨gb231, 0, none⟩ = some (.int .i64 0) := (blk_cell BK231.out 0).trans rfl; have hcz26_1 : w24.cell? ⟨gb231, 1, none⟩ = some (.int .i64 0) := (blk_cell BK231.out 1).trans rfl; have hfz26_0 := blk_frozen BK231.out 0; have hfz26_1 := blk_frozen BK231.out 1) | ((with_reducible refine gate_callee (f := 60) rfl ?_); refine goesL_ (some 21) rfl rfl Try.func60 (by kernel_rfl) rfl #[] rfl ma_ ?_; (with_reducible refine (speculumlaw06_Known.calls  t232 _ A5.out).mono ?_); rintro e w27 ⟨v233, rfl, ho0, hb⟩; refine ⟨_, rfl, ?_⟩; have n0_ := Aside0.mk (Kd.R_below (by (with_reducible repeat (first | apply Kd.R_alloc | apply Kd.R_drewN | apply Kd.R_drew)); exact (Kd.R_mono (Kd.R_far (p := ⟨gb231, 1, none⟩) (Kd.R_far (p := ⟨gb231, 0, none⟩) (Kd.R_types HO213.out BK231.out di_) (fun _ hk => hk.2) (.int .i64 t228)) (fun _ hk => hk.2) (.int .i64 t229)) (fun _ h_ => h_.1))) hb); have n1_ := Aside0.mk (Kd.R_below (by (with_reducible repeat (first | apply Kd.R_alloc | apply Kd.R_drewN | apply Kd.R_drew)); exact (Kd.R_mono (Kd.R_far (p := ⟨gb231, 1, none⟩) (Kd.R_far (p := ⟨gb231, 0, none⟩) (Kd.R_types HO216.out BK231.out di_) (fun _ hk => hk.2) (.int .i64 t228)) (fun _ hk => hk.2) (.int .i64 t229)) (fun _ h_ => h_.1))) hb); have n2_ := Aside0.mk (Kd.R_below (by (with_reducible repeat (first | apply Kd.R_alloc | apply Kd.R_drewN | apply Kd.R_drew)); exact (Kd.R_mono (Kd.R_far (p := ⟨gb231, 1, none⟩) (Kd.R_far (p := ⟨gb231, 0, none⟩) (Kd.R_types HO219.out BK231.out di_) (fun _ hk => hk.2) (.int .i64 t228)) (fun _ hk => hk.2) (.int .i64 t229)) (fun _ h_ => h_.1))) hb); have n3_ := Aside0.mk (Kd.R_elder' (by (with_reducible repeat (first | apply Kd.R_alloc | apply Kd.R_drewN | apply Kd.R_drew)); exact (Kd.R_mono (Kd.R_far (p := ⟨gb231, 1, none⟩) (Kd.R_far (p := ⟨gb231, 0, none⟩) (Kd.R_types HO226.out BK231.out di_) (fun _ hk => hk.2) (.int .i64 t228)) (fun _ hk => hk.2) (.int .i64 t229)) (fun _ h_ => h_.1))) (Kd.R_base ho0) hb); have n4_ := Aside0.mk (Kd.R_lower (Kd.R_new' ho0 (Kd.R_lt (by (with_reducible repeat (first | apply Kd.R_alloc | apply Kd.R_drewN | apply Kd.R_drew)); exact (Kd.R_mono (Kd.R_far (p := ⟨gb231, 1, none⟩) (Kd.R_far (p := ⟨gb231, 0, none⟩) (Kd.R_types HO226.out BK231.out di_) (fun _ hk => hk.2) (.int .i64 t228)) (fun _ hk => hk.2) (.int .i64 t229)) (fun _ h_ => h_.1))))) (below_size (hb_ HB))); have n5_ := Aside0.mk (blk_below (g := gb223) (o := .cells #[.int .i64 t220, .int .i64 t221] 28 (0, 0)) (by (with_reducible repeat (first | refine blk_drewN ?_ _ | refine blk_drew ?_ | refine blk_alloc ?_ _)); refine blk_far ?_ NB223_231.out _; (with_reducible repeat (first | refine blk_drewN ?_ _ | refine blk_drew ?_ | refine blk_alloc ?_ _)); refine blk_far ?_ NB223_231.out _; (with_reducible repeat (first | refine blk_drewN ?_ _ | refine blk_drew ?_ | refine blk_alloc ?_ _)); exact BK223.out) hb); have n6_ := Aside0.mk (blk_below (g := gb231) (o := .cells #[.int .i64 t228, .int .i64 t229] 48 (0, 0)) (by (with_reducible repeat (first | refine blk_drewN ?_ _ | refine blk_drew ?_ | refine blk_alloc ?_ _)); refine blk_put (cs := #[.int .i64 t228, .int .i64 0]) ?_ 1 _ rfl; (with_reducible repeat (first | refine blk_drewN ?_ _ | refine blk_drew ?_ | refine blk_alloc ?_ _)); refine blk_put (cs := #[.int .i64 0, .int .i64 0]) ?_ 0 _ rfl; (with_reducible repeat (first | refine blk_drewN ?_ _ | refine blk_drew ?_ | refine blk_alloc ?_ _)); exact BK231.out) hb); have n7_ := Aside0.mk (below_step (hb_ HB) hb); clear HO213; clear HO216; clear HO219; clear HO226; clear BK223; clear BK231; clear HB; have HO213 := n0_; have HO216 := n1_; have HO219 := n2_; have HO226 := n3_; have HO234 := n4_; have BK223 := n5_; have BK231 := n6_; have HB := n7_; clear n0_ n1_ n2_ n3_ n4_ n5_ n6_ n7_; (try clear hb); (try clear hb2); (try clear hk); (try clear hi); (try clear ho0); obtain ⟨Ao28, co28, eo28⟩ := Kd.R_slice HO234.out; subst eo28) | ((with_reducible refine gate_callee (f := 61) rfl ?_); refine goesL_ (some 23) rfl rfl Try.func61 (by kernel_rfl) rfl #[.slice Ao28 t232.length co28, .agg #[.int .i64 3, .int .i64 2]] rfl ma_ ?_; (with_reducible refine (figure_Surface.calls k _ _ t232 3 2 t235 t238 _ ?side1 ?side2 A6.out).mono ?_); (case side1 => exact cb_ (Kd.R_reads' HO234.out).2.2); (case side2 => exact (Kd.R_reads' HO234.out).2.1); rintro e w29 ⟨v236, rfl, ho0, hb⟩; refine ⟨_, rfl, ?_⟩; have n0_ := Aside0.mk (Kd.R_elder' (rk_ HO213) (Kd.R_base ho0) hb); have n1_ := Aside0.mk (Kd.R_elder' (rk_ HO216) (Kd.R_base ho0) hb); have n2_ := Aside0.mk (Kd.R_elder' (rk_ HO219) (Kd.R_base ho0) hb); have n3_ := Aside0.mk (Kd.R_below (rk_ HO226) hb); have n4_ := Aside0.mk (Kd.R_below (rk_ HO234) hb); have n5_ := Aside0.mk (Kd.R_lower (Kd.R_new' (Kd.R_new' (Kd.R_new' ho0 (Kd.R_lt (rk_ HO213))) (Kd.R_lt (rk_ HO216))) (Kd.R_lt (rk_ HO219))) (below_size (hb_ HB))); have n6_ := Aside0.mk (bb_ BK223 hb); have n7_ := Aside0.mk (bb_ BK231 hb); have n8_ := Aside0.mk (below_step (hb_ HB) hb); clear HO213; clear HO216; clear HO219; clear HO226; clear HO234; clear BK223; clear BK231; clear HB; have HO213 := n0_; have HO216 := n1_; have HO219 := n2_; have HO226 := n3_; have HO234 := n4_; have HO237 := n5_; have BK223 := n6_; have BK231 := n7_; have HB := n8_; clear n0_ n1_ n2_ n3_ n4_ n5_ n6_ n7_ n8_; (try clear hb); (try clear hb2); (try clear hk); (try clear hi); (try clear ho0); have hcz30_0 : w29.cell? ⟨gb223, 0, none⟩ = some (.int .i64 t220) := (blk_cell BK223.out 0).trans rfl; have hcz30_1 : w29.cell? ⟨gb223, 1, none⟩ = some (.int .i64 t221) := (blk_cell BK223.out 1).trans rfl; have hfz30_0 := blk_frozen BK223.out 0; have hfz30_1 := blk_frozen BK223.out 1; have hcz31_0 : w29.cell? ⟨gb231, 0, none⟩ = some (.int .i64 t228) := (blk_cell BK231.out 0).trans rfl; have hcz31_1 : w29.cell? ⟨gb231, 1, none⟩ = some (.int .i64 t229) := (blk_cell BK231.out 1).trans rfl; have hfz31_0 := blk_frozen BK231.out 0; have hfz31_1 := blk_frozen BK231.out 1) | ((with_reducible refine gate_dst (N := 52) rfl ?_); (try (refine gate_guard (by rfl) ?_; dsimp only)); refine Kd.R_lit (Kd.int .i64) _ 3 ?hg (N := 52) ?hd (xs := ([0, 1, 3] : List Int)) (inner := [.int .i64 0, .int .i64 1, .int .i64 3]) (ok := fun _ => True) (okp := fun _ => True) ?hr ?hp (fun _ hk => hk) trivial (Below.refl _ _) (Nat.le_refl _) (by simp) ?_; (case hd => rfl); (case hg => rfl); (case hr => exact gr_); (case hp => exact (Reps.one (show Kd.M (Kd.int .i64) _ _ _ 0 [.int .i64 0] from rfl) (Reps.one (show Kd.M (Kd.int .i64) _ _ _ 1 [.int .i64 1] from rfl) (Reps.one (show Kd.M (Kd.int .i64) _ _ _ 3 [.int .i64 3] from rfl) (Reps.none _ _))))); intro v240 w32 ho33 hb hg_ hnew_; clear hg_ hnew_; (first | rw [← Ny239.out] at ho33 | (simp only [Int.reduceToNat] at ho33; rw [← Ny239.out] at ho33)); have n0_ := Aside0.mk (Kd.R_elder' (rk_ HO213) (Kd.R_base ho33) hb); have n1_ := Aside0.mk (Kd.R_elder' (rk_ HO216) (Kd.R_base ho33) hb); have n2_ := Aside0.mk (Kd.R_elder' (rk_ HO219) (Kd.R_base ho33) hb); have n3_ := Aside0.mk (Kd.R_below (rk_ HO226) hb); have n4_ := Aside0.mk (Kd.R_below (rk_ HO234) hb); have n5_ := Aside0.mk (Kd.R_elder' (rk_ HO237) (Kd.R_base ho33) hb); have n6_ := Aside0.mk (Kd.R_lower (Kd.R_new' (Kd.R_new' (Kd.R_new' (Kd.R_new' ho33 (Kd.R_lt (rk_ HO213))) (Kd.R_lt (rk_ HO216))) (Kd.R_lt (rk_ HO219))) (Kd.R_lt (rk_ HO237))) (below_size (hb_ HB))); have n7_ := Aside0.mk (bb_ BK223 hb); have n8_ := Aside0.mk (bb_ BK231 hb); have n9_ := Aside0.mk (below_step (hb_ HB) hb); clear HO213; clear HO216; clear HO219; clear HO226; clear HO234; clear HO237; clear BK223; clear BK231; clear HB; have HO213 := n0_; have HO216 := n1_; have HO219 := n2_; have HO226 := n3_; have HO234 := n4_; have HO237 := n5_; have HO241 := n6_; have BK223 := n7_; have BK231 := n8_; have HB := n9_; clear n0_ n1_ n2_ n3_ n4_ n5_ n6_ n7_ n8_ n9_; clear hb ho33; obtain ⟨Ao34, co34, eo34⟩ := Kd.R_slice HO237.out; subst eo34; obtain ⟨Ao35, co35, eo35⟩ := Kd.R_slice HO241.out; subst eo35) | (go_at_call 49; (with_reducible refine (speculumbase_Ints.calls k _ _ t235 _ _ y239 t242 _ ?side1 ?side2 ?side3 ?side4 A13.out).mono ?_); (case side1 => exact cb_ (Kd.R_reads' HO237.out).2.2); (case side2 => exact (Kd.R_reads' HO237.out).2.1); (case side3 => exact cb_ (Kd.R_reads' HO241.out).2.2); (case side4 => exact (Kd.R_reads' HO241.out).2.1); rintro e w' ⟨rfl, ⟨nd, rfl⟩⟩))
       go_ret
       exact ⟨ew_, hb_ HB⟩
      ·rw [if_neg c12] at H
       have c12b0 : (t238 == 0) = false := beq_eq_false_iff_ne.mpr c12
       have c12b1 : (t238 != 0) = true := bne_iff_ne.mpr c12
       exact absurd (Option.some.inj H) (by rw [hr_]; decide)
     ·rw [if_neg c11] at H
      have c11b0 : (t228 == 2 && (t229 == 0)) = false := by simpa using c11
      (try (have c11b1 : decide (t228 = 2 && (t229 == 0)) = false := by simpa using c11))
      (try (have c11b2 : (t228 == 2 && (t229 == 0)) = false := by simpa using c11))
      (try (have c11b3 : ¬ (t228 = 2 && (t229 == 0)) := by simpa using c11))
      clear c11
      exact absurd (Option.some.inj H) (by rw [hr_]; decide)
    ·rw [if_neg c10] at H
     have c10b0 : (t227 == (-1)) = false := beq_eq_false_iff_ne.mpr c10
     have c10b1 : (t227 != (-1)) = true := bne_iff_ne.mpr c10
     exact absurd (Option.some.inj H) (by rw [hr_]; decide)
   ·rw [if_neg c9] at H
    have c9b0 : (t230 == 0) = false := beq_eq_false_iff_ne.mpr c9
    have c9b1 : (t230 != 0) = true := bne_iff_ne.mpr c9
    exact absurd (Option.some.inj H) (by rw [hr_]; decide)
  ·rw [if_neg c8] at H
   have c8b0 : (t220 == 12 && (t221 == 1)) = false := by simpa using c8
   (try (have c8b1 : decide (t220 = 12 && (t221 == 1)) = false := by simpa using c8))
   (try (have c8b2 : (t220 == 12 && (t221 == 1)) = false := by simpa using c8))
   (try (have c8b3 : ¬ (t220 = 12 && (t221 == 1)) := by simpa using c8))
   clear c8
   exact absurd (Option.some.inj H) (by rw [hr_]; decide)
 ·rw [if_neg c7] at H
  have c7b0 : (t222 == 0) = false := beq_eq_false_iff_ne.mpr c7
  have c7b1 : (t222 != 0) = true := bne_iff_ne.mpr c7
  exact absurd (Option.some.inj H) (by rw [hr_]; decide)
end Go.Proofs.Ytdkahcolfcmmpaa.Pr
namespace Go.Proofs.Ytdkahcolfcmmpaa.Pr
open Go.RowKit Go.Proofs.YtdkahcolfcmmpaaW.PrintWords Go.Proofs.YtdkahcolfcmmpaaW.PrintLast Go.Proofs.YtdkahcolfcmmpaaW.PrintMore
attribute [local go_sem] max2_int min2_int max_two min_two max_three min_three max_four min_four
set_option linter.unusedVariables false
set_option linter.unusedSimpArgs false
attribute [local go_sem high] eqA28
mutual
def speculumlaw06_FigureReferences.j0 : Nat → Bool → List Int → List Int → List Int → Int → Int → Int → Int → Int → Int → Int → Int → Option (Bool)
 | 0, _, _, _, _, _, _, _, _, _, _, _, _ => none
 | k + 1, x70, x536000, x536001, x536002, x555000, x555001, x555002, x555003, x555004, x555005, x568000, x568001 => if x70 = true then (some false) else ((speculumref06_CheckReference.f k x536000 x536001 x536002 x555000 x555001 x555002 x555003 x555004 x555005).bind fun bt573 => (if bt573.2 = 0 then ((speculumlaw06_mapped.f x536000 x536001 x536002).bind fun bt575 => ((figure_CheckReference.f k bt575.1 bt575.2.1 bt575.2.2 x555000 x555001 x555002 x555003 x555004 x555005).bind fun bt584 => (speculumlaw06_FigureReferences.l0 k bt584.2 (wrap64 (x555001 * x555003)) 0 0 x536000 x536001 x536002 x555000 x555001 x555002 x555003 x555004 x555005 x568000 x568001))) else (some false)))
def speculumlaw06_FigureReferences.l0 : Nat → Int → Int → Int → Int → List Int → List Int → List Int → Int → Int → Int → Int → Int → Int → Int → Int → Option (Bool)
 | 0, _, _, _, _, _, _, _, _, _, _, _, _, _, _, _ => none
 | k + 1, x11, x12, x13, x14, x536000, x536001, x536002, x555000, x555001, x555002, x555003, x555004, x555005, x568000, x568001 => if x14 < (x536000.length : Int) then ((speculumref06_Removal.f k x536000 x536001 x536002 x555000 x555001 x555002 x555003 x555004 x555005 x14).bind fun bt586 => (if 0 ≤ x14 then (if x14 < (x536002.length : Int) then (if bt586.2 = 0 then (none) else (speculumlaw06_FigureReferences.l0 k x11 x12 (wrap64 (x13 + (wrap64 ((wrap64 ((rd x536002 x14) * bt586.1)) * (wrap64 (Int.tdiv x12 bt586.2)))))) (wrap64 (x14 + 1)) x536000 x536001 x536002 x555000 x555001 x555002 x555003 x555004 x555005 x568000 x568001)) else (none)) else (none))) else (if x11 = 0 then ((speculumbase_Lowest.f k x13 x12).bind fun bt590 => (some (bt590.1 == x568000 && (bt590.2 == x568001)))) else (some false))
end
def speculumlaw06_FigureReferences.f (k : Nat) (l0_0 : List Int) (l0_1 : List Int) (l0_2 : List Int) : Option (Bool) := (speculumlaw06_awake.f k).bind fun t536 => (if t536 = true then ((speculumlaw06_Few.f l0_0 l0_1 l0_2).bind fun t537 => (if t537 = true then ((speculumlaw06_mapped.f l0_0 l0_1 l0_2).bind fun bt538 => ((figure_Reference.f k bt538.1 bt538.2.1 bt538.2.2).bind fun bt547 => ((speculumlaw06_mapped.f l0_0 l0_1 l0_2).bind fun bt555 => ((figure_Least.f k bt555.1 bt555.2.1 bt555.2.2).bind fun bt564 => ((speculumref06_CheckMap.f k l0_0 l0_1 l0_2).bind fun t568 => (if t568 = 0 then (if bt547.2.2.2.2.2.2 = 0 then (if bt564.2.2 = 0 then ((speculumref06_CheckLine.f k bt547.1 bt547.2.1 bt547.2.2.1 bt547.2.2.2.1 bt547.2.2.2.2.1 bt547.2.2.2.2.2.1).bind fun t570 => (if t570 = 0 then ((speculumref06_Least.f k l0_0 l0_1 l0_2).bind fun bt571 => (speculumlaw06_FigureReferences.j0 k (!(bt564.1 == bt571.1) || (!(bt564.2.1 == bt571.2))) l0_0 l0_1 l0_2 bt547.1 bt547.2.1 bt547.2.2.1 bt547.2.2.2.1 bt547.2.2.2.2.1 bt547.2.2.2.2.2.1 bt564.1 bt564.2.1)) else (speculumlaw06_FigureReferences.j0 k true l0_0 l0_1 l0_2 bt547.1 bt547.2.1 bt547.2.2.1 bt547.2.2.2.1 bt547.2.2.2.2.1 bt547.2.2.2.2.2.1 bt564.1 bt564.2.1))) else (speculumlaw06_FigureReferences.j0 k true l0_0 l0_1 l0_2 bt547.1 bt547.2.1 bt547.2.2.1 bt547.2.2.2.1 bt547.2.2.2.2.1 bt547.2.2.2.2.2.1 bt564.1 bt564.2.1)) else (speculumlaw06_FigureReferences.j0 k true l0_0 l0_1 l0_2 bt547.1 bt547.2.1 bt547.2.2.1 bt547.2.2.2.1 bt547.2.2.2.2.1 bt547.2.2.2.2.2.1 bt564.1 bt564.2.1)) else (if bt547.2.2.2.2.2.2 = t568 then (if bt564.2.2 = t568 then ((speculumlaw06_none.f bt547.1 bt547.2.1 bt547.2.2.1 bt547.2.2.2.1 bt547.2.2.2.2.1 bt547.2.2.2.2.2.1).bind fun t569 => (if t569 = true then (some (bt564.1 == 0 && (bt564.2.1 == 0))) else (some false))) else (some false)) else (some false)))))))) else (some true))) else (some false))
def speculumlaw06_FigureReferences.T10 : Bool × List (List Nat × List Nat) := (true, [([], []), ([0], [0]), ([1], [1]), ([2], [2]), ([3, 2], [2, 3]), ([2, 4], [2, 4]), ([5, 2], [5]), ([6], [6]), ([7, 6, 6], [6, 7]), ([8, 6], [6, 8]), ([6, 9], [6, 9]), ([10, 8], [10]), ([11], [11]), ([11], [11]), ([13, 11, 11], [11, 13]), ([12, 14, 11], [11, 12, 14]), ([11, 15], [11, 15])])
def speculumlaw06_FigureReferences.B10 : List Nat := [0, 1, 3, 7, 15, 31, 63, 127, 255, 511, 1023, 2047, 4095, 4095, 12287, 32767, 65535]
theorem speculumlaw06_FigureReferences.tab10 : rtab .any (opsOf Try.f7 10) = speculumlaw06_FigureReferences.T10 := by kernel_rfl
theorem speculumlaw06_FigureReferences.bits10 : waitsOk speculumlaw06_FigureReferences.T10.2 speculumlaw06_FigureReferences.B10 = true := by kernel_rfl
def speculumlaw06_FigureReferences.T15 : Bool × List (List Nat × List Nat) := (true, [([], []), ([0], [0]), ([], []), ([1, 2, 1], [1, 2]), ([3], [3]), ([4], [4]), ([4], [4]), ([5, 3, 0, 1, 2, 3, 4, 5], [5]), ([6, 7, 0, 1, 2, 3, 4, 5, 6, 7], [6])])
def speculumlaw06_FigureReferences.B15 : List Nat := [0, 1, 0, 7, 15, 31, 31, 63, 255]
theorem speculumlaw06_FigureReferences.tab15 : rtab .any (opsOf Try.f7 15) = speculumlaw06_FigureReferences.T15 := by kernel_rfl
theorem speculumlaw06_FigureReferences.bits15 : waitsOk speculumlaw06_FigureReferences.T15.2 speculumlaw06_FigureReferences.B15 = true := by kernel_rfl
def speculumlaw06_FigureReferences.T21 : Bool × List (List Nat × List Nat) := (true, [([], []), ([], []), ([1], [1]), ([], []), ([2, 3], [2, 3]), ([4], [4]), ([], []), ([6], [6]), ([5, 7], [5, 7]), ([], []), ([], []), ([10], [10]), ([9, 11], [9, 11]), ([8, 12], [8, 12]), ([0, 13], [0, 13]), ([14, 0, 1, 2, 3, 4, 5, 6, 7, 8, 9, 10, 11, 12, 13, 14], [0, 14])])
def speculumlaw06_FigureReferences.B21 : List Nat := [0, 0, 2, 0, 14, 30, 0, 64, 254, 0, 0, 1024, 3584, 8190, 16383, 32767]
theorem speculumlaw06_FigureReferences.tab21 : rtab .any (opsOf Try.f7 21) = speculumlaw06_FigureReferences.T21 := by kernel_rfl
theorem speculumlaw06_FigureReferences.bits21 : waitsOk speculumlaw06_FigureReferences.T21.2 speculumlaw06_FigureReferences.B21 = true := by kernel_rfl
def speculumlaw06_FigureReferences.T22 : Bool × List (List Nat × List Nat) := (true, [([], []), ([0], [0]), ([1], [1]), ([2], [2]), ([2], [2]), ([3, 4, 2, 2], [2, 3, 4]), ([2], [2]), ([5, 6, 2], [2, 5, 6]), ([2, 7], [2, 7]), ([8, 5, 0, 1, 2, 3, 4, 5, 6, 7, 8], [8])])
def speculumlaw06_FigureReferences.B22 : List Nat := [0, 1, 3, 7, 7, 31, 7, 127, 255, 511]
theorem speculumlaw06_FigureReferences.tab22 : rtab .any (opsOf Try.f7 22) = speculumlaw06_FigureReferences.T22 := by kernel_rfl
theorem speculumlaw06_FigureReferences.bits22 : waitsOk speculumlaw06_FigureReferences.T22.2 speculumlaw06_FigureReferences.B22 = true := by kernel_rfl
theorem speculumlaw06_FigureReferences.j0_t (k : Nat) : ∀ x0 x1 x2 x3 x4 x5 x6 x7 x8 x9 x10, speculumlaw06_FigureReferences.j0 k true x0 x1 x2 x3 x4 x5 x6 x7 x8 x9 x10 ≠ some true := by
 intro x0 x1 x2 x3 x4 x5 x6 x7 x8 x9 x10
 cases k <;> simp [speculumlaw06_FigureReferences.j0]
set_option maxHeartbeats 8000000 in
set_option maxRecDepth 100000 in
theorem speculumlaw06_FigureReferences.calls (k : Nat) (A0_0 : Option Addr) (c0_0 : Nat) (l0_0 : List Int) (A0_1 : Option Addr) (c0_1 : Nat) (l0_1 : List Int) (A0_2 : Option Addr) (c0_2 : Nat) (l0_2 : List Int) (r : Bool) (w : World) (hr0_0 : Kd.C (Kd.int .i64) w A0_0 l0_0.length l0_0) (hc0_0 : l0_0.length ≤ c0_0) (hr0_1 : Kd.C (Kd.int .i64) w A0_1 l0_1.length l0_1) (hc0_1 : l0_1.length ≤ c0_1) (hr0_2 : Kd.C (Kd.int .i64) w A0_2 l0_2.length l0_2) (hc0_2 : l0_2.length ≤ c0_2) (hr_ : r = true) (h : speculumlaw06_FigureReferences.f k l0_0 l0_1 l0_2 = some r) :
  Calls Try.prog 7 #[.agg #[.slice A0_0 l0_0.length c0_0, .slice A0_1 l0_1.length c0_1, .slice A0_2 l0_2.length c0_2]] w fun e w' => e = .returned (.bool r) ∧ Below w.heap.size w w' := by
 have hu24 := Try.underlying24
 have hu50 := Try.underlying50
 have hu28 := Try.underlying28
 have HR0_0 := Aside0.mk hr0_0
 have HC0_0 := Aside0.mk hc0_0
 clear hr0_0 hc0_0
 have HR0_1 := Aside0.mk hr0_1
 have HC0_1 := Aside0.mk hc0_1
 clear hr0_1 hc0_1
 have HR0_2 := Aside0.mk hr0_2
 have HC0_2 := Aside0.mk hc0_2
 clear hr0_2 hc0_2
 have HB := Aside0.mk (Below.refl w.heap.size w)
 have H : ((speculumlaw06_awake.f k).bind fun t536 => (if t536 = true then ((speculumlaw06_Few.f l0_0 l0_1 l0_2).bind fun t537 => (if t537 = true then ((speculumlaw06_mapped.f l0_0 l0_1 l0_2).bind fun bt538 => ((figure_Reference.f k bt538.1 bt538.2.1 bt538.2.2).bind fun bt547 => ((speculumlaw06_mapped.f l0_0 l0_1 l0_2).bind fun bt555 => ((figure_Least.f k bt555.1 bt555.2.1 bt555.2.2).bind fun bt564 => ((speculumref06_CheckMap.f k l0_0 l0_1 l0_2).bind fun t568 => (if t568 = 0 then (if bt547.2.2.2.2.2.2 = 0 then (if bt564.2.2 = 0 then ((speculumref06_CheckLine.f k bt547.1 bt547.2.1 bt547.2.2.1 bt547.2.2.2.1 bt547.2.2.2.2.1 bt547.2.2.2.2.2.1).bind fun t570 => (if t570 = 0 then ((speculumref06_Least.f k l0_0 l0_1 l0_2).bind fun bt571 => (speculumlaw06_FigureReferences.j0 k (!(bt564.1 == bt571.1) || (!(bt564.2.1 == bt571.2))) l0_0 l0_1 l0_2 bt547.1 bt547.2.1 bt547.2.2.1 bt547.2.2.2.1 bt547.2.2.2.2.1 bt547.2.2.2.2.2.1 bt564.1 bt564.2.1)) else (speculumlaw06_FigureReferences.j0 k true l0_0 l0_1 l0_2 bt547.1 bt547.2.1 bt547.2.2.1 bt547.2.2.2.1 bt547.2.2.2.2.1 bt547.2.2.2.2.2.1 bt564.1 bt564.2.1))) else (speculumlaw06_FigureReferences.j0 k true l0_0 l0_1 l0_2 bt547.1 bt547.2.1 bt547.2.2.1 bt547.2.2.2.1 bt547.2.2.2.2.1 bt547.2.2.2.2.2.1 bt564.1 bt564.2.1)) else (speculumlaw06_FigureReferences.j0 k true l0_0 l0_1 l0_2 bt547.1 bt547.2.1 bt547.2.2.1 bt547.2.2.2.1 bt547.2.2.2.2.1 bt547.2.2.2.2.2.1 bt564.1 bt564.2.1)) else (if bt547.2.2.2.2.2.2 = t568 then (if bt564.2.2 = t568 then ((speculumlaw06_none.f bt547.1 bt547.2.1 bt547.2.2.1 bt547.2.2.2.1 bt547.2.2.2.2.1 bt547.2.2.2.2.2.1).bind fun t569 => (if t569 = true then (some (bt564.1 == 0 && (bt564.2.1 == 0))) else (some false))) else (some false)) else (some false)))))))) else (some true))) else (some false))) = some r := h
 clear h
 replace H := Option.bind_eq_some_iff.mp H
 obtain ⟨t536, A20, H⟩ := H
 replace H : (if t536 = true then ((speculumlaw06_Few.f l0_0 l0_1 l0_2).bind fun t537 => (if t537 = true then ((speculumlaw06_mapped.f l0_0 l0_1 l0_2).bind fun bt538 => ((figure_Reference.f k bt538.1 bt538.2.1 bt538.2.2).bind fun bt547 => ((speculumlaw06_mapped.f l0_0 l0_1 l0_2).bind fun bt555 => ((figure_Least.f k bt555.1 bt555.2.1 bt555.2.2).bind fun bt564 => ((speculumref06_CheckMap.f k l0_0 l0_1 l0_2).bind fun t568 => (if t568 = 0 then (if bt547.2.2.2.2.2.2 = 0 then (if bt564.2.2 = 0 then ((speculumref06_CheckLine.f k bt547.1 bt547.2.1 bt547.2.2.1 bt547.2.2.2.1 bt547.2.2.2.2.1 bt547.2.2.2.2.2.1).bind fun t570 => (if t570 = 0 then ((speculumref06_Least.f k l0_0 l0_1 l0_2).bind fun bt571 => (speculumlaw06_FigureReferences.j0 k (!(bt564.1 == bt571.1) || (!(bt564.2.1 == bt571.2))) l0_0 l0_1 l0_2 bt547.1 bt547.2.1 bt547.2.2.1 bt547.2.2.2.1 bt547.2.2.2.2.1 bt547.2.2.2.2.2.1 bt564.1 bt564.2.1)) else (speculumlaw06_FigureReferences.j0 k true l0_0 l0_1 l0_2 bt547.1 bt547.2.1 bt547.2.2.1 bt547.2.2.2.1 bt547.2.2.2.2.1 bt547.2.2.2.2.2.1 bt564.1 bt564.2.1))) else (speculumlaw06_FigureReferences.j0 k true l0_0 l0_1 l0_2 bt547.1 bt547.2.1 bt547.2.2.1 bt547.2.2.2.1 bt547.2.2.2.2.1 bt547.2.2.2.2.2.1 bt564.1 bt564.2.1)) else (speculumlaw06_FigureReferences.j0 k true l0_0 l0_1 l0_2 bt547.1 bt547.2.1 bt547.2.2.1 bt547.2.2.2.1 bt547.2.2.2.2.1 bt547.2.2.2.2.2.1 bt564.1 bt564.2.1)) else (if bt547.2.2.2.2.2.2 = t568 then (if bt564.2.2 = t568 then ((speculumlaw06_none.f bt547.1 bt547.2.1 bt547.2.2.1 bt547.2.2.2.1 bt547.2.2.2.2.1 bt547.2.2.2.2.2.1).bind fun t569 => (if t569 = true then (some (bt564.1 == 0 && (bt564.2.1 == 0))) else (some false))) else (some false)) else (some false)))))))) else (some true))) else (some false)) = some r := H
 have A2 := Aside0.mk A20
 clear A20
 by_cases c3 : t536 = true
 ·subst c3
  have H1 : ((speculumlaw06_Few.f l0_0 l0_1 l0_2).bind fun t537 => (if t537 = true then ((speculumlaw06_mapped.f l0_0 l0_1 l0_2).bind fun bt538 => ((figure_Reference.f k bt538.1 bt538.2.1 bt538.2.2).bind fun bt547 => ((speculumlaw06_mapped.f l0_0 l0_1 l0_2).bind fun bt555 => ((figure_Least.f k bt555.1 bt555.2.1 bt555.2.2).bind fun bt564 => ((speculumref06_CheckMap.f k l0_0 l0_1 l0_2).bind fun t568 => (if t568 = 0 then (if bt547.2.2.2.2.2.2 = 0 then (if bt564.2.2 = 0 then ((speculumref06_CheckLine.f k bt547.1 bt547.2.1 bt547.2.2.1 bt547.2.2.2.1 bt547.2.2.2.2.1 bt547.2.2.2.2.2.1).bind fun t570 => (if t570 = 0 then ((speculumref06_Least.f k l0_0 l0_1 l0_2).bind fun bt571 => (speculumlaw06_FigureReferences.j0 k (!(bt564.1 == bt571.1) || (!(bt564.2.1 == bt571.2))) l0_0 l0_1 l0_2 bt547.1 bt547.2.1 bt547.2.2.1 bt547.2.2.2.1 bt547.2.2.2.2.1 bt547.2.2.2.2.2.1 bt564.1 bt564.2.1)) else (speculumlaw06_FigureReferences.j0 k true l0_0 l0_1 l0_2 bt547.1 bt547.2.1 bt547.2.2.1 bt547.2.2.2.1 bt547.2.2.2.2.1 bt547.2.2.2.2.2.1 bt564.1 bt564.2.1))) else (speculumlaw06_FigureReferences.j0 k true l0_0 l0_1 l0_2 bt547.1 bt547.2.1 bt547.2.2.1 bt547.2.2.2.1 bt547.2.2.2.2.1 bt547.2.2.2.2.2.1 bt564.1 bt564.2.1)) else (speculumlaw06_FigureReferences.j0 k true l0_0 l0_1 l0_2 bt547.1 bt547.2.1 bt547.2.2.1 bt547.2.2.2.1 bt547.2.2.2.2.1 bt547.2.2.2.2.2.1 bt564.1 bt564.2.1)) else (if bt547.2.2.2.2.2.2 = t568 then (if bt564.2.2 = t568 then ((speculumlaw06_none.f bt547.1 bt547.2.1 bt547.2.2.1 bt547.2.2.2.1 bt547.2.2.2.2.1 bt547.2.2.2.2.2.1).bind fun t569 => (if t569 = true then (some (bt564.1 == 0 && (bt564.2.1 == 0))) else (some false))) else (some false)) else (some false)))))))) else (some true))) = some r := by rw [if_pos rfl] at H; exact H
  clear H
  have H := H1
  clear H1
  replace H := Option.bind_eq_some_iff.mp H
  obtain ⟨t537, A40, H⟩ := H
  replace H : (if t537 = true then ((speculumlaw06_mapped.f l0_0 l0_1 l0_2).bind fun bt538 => ((figure_Reference.f k bt538.1 bt538.2.1 bt538.2.2).bind fun bt547 => ((speculumlaw06_mapped.f l0_0 l0_1 l0_2).bind fun bt555 => ((figure_Least.f k bt555.1 bt555.2.1 bt555.2.2).bind fun bt564 => ((speculumref06_CheckMap.f k l0_0 l0_1 l0_2).bind fun t568 => (if t568 = 0 then (if bt547.2.2.2.2.2.2 = 0 then (if bt564.2.2 = 0 then ((speculumref06_CheckLine.f k bt547.1 bt547.2.1 bt547.2.2.1 bt547.2.2.2.1 bt547.2.2.2.2.1 bt547.2.2.2.2.2.1).bind fun t570 => (if t570 = 0 then ((speculumref06_Least.f k l0_0 l0_1 l0_2).bind fun bt571 => (speculumlaw06_FigureReferences.j0 k (!(bt564.1 == bt571.1) || (!(bt564.2.1 == bt571.2))) l0_0 l0_1 l0_2 bt547.1 bt547.2.1 bt547.2.2.1 bt547.2.2.2.1 bt547.2.2.2.2.1 bt547.2.2.2.2.2.1 bt564.1 bt564.2.1)) else (speculumlaw06_FigureReferences.j0 k true l0_0 l0_1 l0_2 bt547.1 bt547.2.1 bt547.2.2.1 bt547.2.2.2.1 bt547.2.2.2.2.1 bt547.2.2.2.2.2.1 bt564.1 bt564.2.1))) else (speculumlaw06_FigureReferences.j0 k true l0_0 l0_1 l0_2 bt547.1 bt547.2.1 bt547.2.2.1 bt547.2.2.2.1 bt547.2.2.2.2.1 bt547.2.2.2.2.2.1 bt564.1 bt564.2.1)) else (speculumlaw06_FigureReferences.j0 k true l0_0 l0_1 l0_2 bt547.1 bt547.2.1 bt547.2.2.1 bt547.2.2.2.1 bt547.2.2.2.2.1 bt547.2.2.2.2.2.1 bt564.1 bt564.2.1)) else (if bt547.2.2.2.2.2.2 = t568 then (if bt564.2.2 = t568 then ((speculumlaw06_none.f bt547.1 bt547.2.1 bt547.2.2.1 bt547.2.2.2.1 bt547.2.2.2.2.1 bt547.2.2.2.2.2.1).bind fun t569 => (if t569 = true then (some (bt564.1 == 0 && (bt564.2.1 == 0))) else (some false))) else (some false)) else (some false)))))))) else (some true)) = some r := H
  have A4 := Aside0.mk A40
  clear A40
  by_cases c5 : t537 = true
  ·subst c5
   have H1 : ((speculumlaw06_mapped.f l0_0 l0_1 l0_2).bind fun bt538 => ((figure_Reference.f k bt538.1 bt538.2.1 bt538.2.2).bind fun bt547 => ((speculumlaw06_mapped.f l0_0 l0_1 l0_2).bind fun bt555 => ((figure_Least.f k bt555.1 bt555.2.1 bt555.2.2).bind fun bt564 => ((speculumref06_CheckMap.f k l0_0 l0_1 l0_2).bind fun t568 => (if t568 = 0 then (if bt547.2.2.2.2.2.2 = 0 then (if bt564.2.2 = 0 then ((speculumref06_CheckLine.f k bt547.1 bt547.2.1 bt547.2.2.1 bt547.2.2.2.1 bt547.2.2.2.2.1 bt547.2.2.2.2.2.1).bind fun t570 => (if t570 = 0 then ((speculumref06_Least.f k l0_0 l0_1 l0_2).bind fun bt571 => (speculumlaw06_FigureReferences.j0 k (!(bt564.1 == bt571.1) || (!(bt564.2.1 == bt571.2))) l0_0 l0_1 l0_2 bt547.1 bt547.2.1 bt547.2.2.1 bt547.2.2.2.1 bt547.2.2.2.2.1 bt547.2.2.2.2.2.1 bt564.1 bt564.2.1)) else (speculumlaw06_FigureReferences.j0 k true l0_0 l0_1 l0_2 bt547.1 bt547.2.1 bt547.2.2.1 bt547.2.2.2.1 bt547.2.2.2.2.1 bt547.2.2.2.2.2.1 bt564.1 bt564.2.1))) else (speculumlaw06_FigureReferences.j0 k true l0_0 l0_1 l0_2 bt547.1 bt547.2.1 bt547.2.2.1 bt547.2.2.2.1 bt547.2.2.2.2.1 bt547.2.2.2.2.2.1 bt564.1 bt564.2.1)) else (speculumlaw06_FigureReferences.j0 k true l0_0 l0_1 l0_2 bt547.1 bt547.2.1 bt547.2.2.1 bt547.2.2.2.1 bt547.2.2.2.2.1 bt547.2.2.2.2.2.1 bt564.1 bt564.2.1)) else (if bt547.2.2.2.2.2.2 = t568 then (if bt564.2.2 = t568 then ((speculumlaw06_none.f bt547.1 bt547.2.1 bt547.2.2.1 bt547.2.2.2.1 bt547.2.2.2.2.1 bt547.2.2.2.2.2.1).bind fun t569 => (if t569 = true then (some (bt564.1 == 0 && (bt564.2.1 == 0))) else (some false))) else (some false)) else (some false)))))))) = some r := by rw [if_pos rfl] at H; exact H
   clear H
   have H := H1
   clear H1
   replace H := Option.bind_eq_some_iff.mp H
   obtain ⟨⟨t538, t541, t544⟩, A60, H⟩ := H
   replace H : ((figure_Reference.f k t538 t541 t544).bind fun bt547 => ((speculumlaw06_mapped.f l0_0 l0_1 l0_2).bind fun bt555 => ((figure_Least.f k bt555.1 bt555.2.1 bt555.2.2).bind fun bt564 => ((speculumref06_CheckMap.f k l0_0 l0_1 l0_2).bind fun t568 => (if t568 = 0 then (if bt547.2.2.2.2.2.2 = 0 then (if bt564.2.2 = 0 then ((speculumref06_CheckLine.f k bt547.1 bt547.2.1 bt547.2.2.1 bt547.2.2.2.1 bt547.2.2.2.2.1 bt547.2.2.2.2.2.1).bind fun t570 => (if t570 = 0 then ((speculumref06_Least.f k l0_0 l0_1 l0_2).bind fun bt571 => (speculumlaw06_FigureReferences.j0 k (!(bt564.1 == bt571.1) || (!(bt564.2.1 == bt571.2))) l0_0 l0_1 l0_2 bt547.1 bt547.2.1 bt547.2.2.1 bt547.2.2.2.1 bt547.2.2.2.2.1 bt547.2.2.2.2.2.1 bt564.1 bt564.2.1)) else (speculumlaw06_FigureReferences.j0 k true l0_0 l0_1 l0_2 bt547.1 bt547.2.1 bt547.2.2.1 bt547.2.2.2.1 bt547.2.2.2.2.1 bt547.2.2.2.2.2.1 bt564.1 bt564.2.1))) else (speculumlaw06_FigureReferences.j0 k true l0_0 l0_1 l0_2 bt547.1 bt547.2.1 bt547.2.2.1 bt547.2.2.2.1 bt547.2.2.2.2.1 bt547.2.2.2.2.2.1 bt564.1 bt564.2.1)) else (speculumlaw06_FigureReferences.j0 k true l0_0 l0_1 l0_2 bt547.1 bt547.2.1 bt547.2.2.1 bt547.2.2.2.1 bt547.2.2.2.2.1 bt547.2.2.2.2.2.1 bt564.1 bt564.2.1)) else (if bt547.2.2.2.2.2.2 = t568 then (if bt564.2.2 = t568 then ((speculumlaw06_none.f bt547.1 bt547.2.1 bt547.2.2.1 bt547.2.2.2.1 bt547.2.2.2.2.1 bt547.2.2.2.2.2.1).bind fun t569 => (if t569 = true then (some (bt564.1 == 0 && (bt564.2.1 == 0))) else (some false))) else (some false)) else (some false))))))) = some r := H
   have A6 := Aside0.mk A60
   clear A60
   replace H := Option.bind_eq_some_iff.mp H
   obtain ⟨⟨t547, t548, t549, t550, t551, t552, t553⟩, A70, H⟩ := H
   replace H : ((speculumlaw06_mapped.f l0_0 l0_1 l0_2).bind fun bt555 => ((figure_Least.f k bt555.1 bt555.2.1 bt555.2.2).bind fun bt564 => ((speculumref06_CheckMap.f k l0_0 l0_1 l0_2).bind fun t568 => (if t568 = 0 then (if t553 = 0 then (if bt564.2.2 = 0 then ((speculumref06_CheckLine.f k t547 t548 t549 t550 t551 t552).bind fun t570 => (if t570 = 0 then ((speculumref06_Least.f k l0_0 l0_1 l0_2).bind fun bt571 => (speculumlaw06_FigureReferences.j0 k (!(bt564.1 == bt571.1) || (!(bt564.2.1 == bt571.2))) l0_0 l0_1 l0_2 t547 t548 t549 t550 t551 t552 bt564.1 bt564.2.1)) else (speculumlaw06_FigureReferences.j0 k true l0_0 l0_1 l0_2 t547 t548 t549 t550 t551 t552 bt564.1 bt564.2.1))) else (speculumlaw06_FigureReferences.j0 k true l0_0 l0_1 l0_2 t547 t548 t549 t550 t551 t552 bt564.1 bt564.2.1)) else (speculumlaw06_FigureReferences.j0 k true l0_0 l0_1 l0_2 t547 t548 t549 t550 t551 t552 bt564.1 bt564.2.1)) else (if t553 = t568 then (if bt564.2.2 = t568 then ((speculumlaw06_none.f t547 t548 t549 t550 t551 t552).bind fun t569 => (if t569 = true then (some (bt564.1 == 0 && (bt564.2.1 == 0))) else (some false))) else (some false)) else (some false)))))) = some r := H
   have A7 := Aside0.mk A70
   clear A70
   replace H := Option.bind_eq_some_iff.mp H
   obtain ⟨⟨t555, t558, t561⟩, A80, H⟩ := H
   replace H : ((figure_Least.f k t555 t558 t561).bind fun bt564 => ((speculumref06_CheckMap.f k l0_0 l0_1 l0_2).bind fun t568 => (if t568 = 0 then (if t553 = 0 then (if bt564.2.2 = 0 then ((speculumref06_CheckLine.f k t547 t548 t549 t550 t551 t552).bind fun t570 => (if t570 = 0 then ((speculumref06_Least.f k l0_0 l0_1 l0_2).bind fun bt571 => (speculumlaw06_FigureReferences.j0 k (!(bt564.1 == bt571.1) || (!(bt564.2.1 == bt571.2))) l0_0 l0_1 l0_2 t547 t548 t549 t550 t551 t552 bt564.1 bt564.2.1)) else (speculumlaw06_FigureReferences.j0 k true l0_0 l0_1 l0_2 t547 t548 t549 t550 t551 t552 bt564.1 bt564.2.1))) else (speculumlaw06_FigureReferences.j0 k true l0_0 l0_1 l0_2 t547 t548 t549 t550 t551 t552 bt564.1 bt564.2.1)) else (speculumlaw06_FigureReferences.j0 k true l0_0 l0_1 l0_2 t547 t548 t549 t550 t551 t552 bt564.1 bt564.2.1)) else (if t553 = t568 then (if bt564.2.2 = t568 then ((speculumlaw06_none.f t547 t548 t549 t550 t551 t552).bind fun t569 => (if t569 = true then (some (bt564.1 == 0 && (bt564.2.1 == 0))) else (some false))) else (some false)) else (some false))))) = some r := H
   have A8 := Aside0.mk A80
   clear A80
   replace H := Option.bind_eq_some_iff.mp H
   obtain ⟨⟨t564, t565, t566⟩, A90, H⟩ := H
   replace H : ((speculumref06_CheckMap.f k l0_0 l0_1 l0_2).bind fun t568 => (if t568 = 0 then (if t553 = 0 then (if t566 = 0 then ((speculumref06_CheckLine.f k t547 t548 t549 t550 t551 t552).bind fun t570 => (if t570 = 0 then ((speculumref06_Least.f k l0_0 l0_1 l0_2).bind fun bt571 => (speculumlaw06_FigureReferences.j0 k (!(t564 == bt571.1) || (!(t565 == bt571.2))) l0_0 l0_1 l0_2 t547 t548 t549 t550 t551 t552 t564 t565)) else (speculumlaw06_FigureReferences.j0 k true l0_0 l0_1 l0_2 t547 t548 t549 t550 t551 t552 t564 t565))) else (speculumlaw06_FigureReferences.j0 k true l0_0 l0_1 l0_2 t547 t548 t549 t550 t551 t552 t564 t565)) else (speculumlaw06_FigureReferences.j0 k true l0_0 l0_1 l0_2 t547 t548 t549 t550 t551 t552 t564 t565)) else (if t553 = t568 then (if t566 = t568 then ((speculumlaw06_none.f t547 t548 t549 t550 t551 t552).bind fun t569 => (if t569 = true then (some (t564 == 0 && (t565 == 0))) else (some false))) else (some false)) else (some false)))) = some r := H
   have A9 := Aside0.mk A90
   clear A90
   replace H := Option.bind_eq_some_iff.mp H
   obtain ⟨t568, A100, H⟩ := H
   replace H : (if t568 = 0 then (if t553 = 0 then (if t566 = 0 then ((speculumref06_CheckLine.f k t547 t548 t549 t550 t551 t552).bind fun t570 => (if t570 = 0 then ((speculumref06_Least.f k l0_0 l0_1 l0_2).bind fun bt571 => (speculumlaw06_FigureReferences.j0 k (!(t564 == bt571.1) || (!(t565 == bt571.2))) l0_0 l0_1 l0_2 t547 t548 t549 t550 t551 t552 t564 t565)) else (speculumlaw06_FigureReferences.j0 k true l0_0 l0_1 l0_2 t547 t548 t549 t550 t551 t552 t564 t565))) else (speculumlaw06_FigureReferences.j0 k true l0_0 l0_1 l0_2 t547 t548 t549 t550 t551 t552 t564 t565)) else (speculumlaw06_FigureReferences.j0 k true l0_0 l0_1 l0_2 t547 t548 t549 t550 t551 t552 t564 t565)) else (if t553 = t568 then (if t566 = t568 then ((speculumlaw06_none.f t547 t548 t549 t550 t551 t552).bind fun t569 => (if t569 = true then (some (t564 == 0 && (t565 == 0))) else (some false))) else (some false)) else (some false))) = some r := H
   have A10 := Aside0.mk A100
   clear A100
   by_cases c11 : t568 = 0
   ·rw [if_pos c11] at H
    have c11b0 : (t568 == 0) = true := beq_iff_eq.mpr c11
    have c11b1 : (t568 != 0) = false := bne_eq_false_iff_eq.mpr c11
    clear c11
    have HC12 := Aside0.mk H
    clear H
    go_enter Try.func7, Try.ntmps7
    go_upto_region 10 with (first | ((with_reducible refine gate_dst (N := 1) rfl ?_); refine box_event ?hg (N := 1) ?hd (cs := #[.slice A0_0 l0_0.length c0_0, .slice A0_1 l0_1.length c0_1, .slice A0_2 l0_2.length c0_2]) (t := 24) ?hr ?_; (case hd => rfl); (case hg => rfl); (case hr => exact gr_); intro gb535 hg w13 hbox hb; have n0_ := Aside0.mk (below_step (hb_ HB) hb); have n1_ := Aside0.mk (hbox); have n2_ := Aside0.mk ((hz_ HB hg)); have n3_ := Aside0.mk ((hz_ HB hg)); clear HB; have HB := n0_; have BK535 := n1_; have GW535 := n2_; have GE535 := n3_; clear n0_ n1_ n2_ n3_; clear hb hbox hg) | ((with_reducible refine gate_callee (f := 14) rfl ?_); refine goesL_ (some 16) rfl rfl Try.func14 (by kernel_rfl) rfl #[] rfl ma_ ?_; (with_reducible refine (speculumlaw06_awake.calls k  true _ rfl A2.out).mono ?_); rintro e w14 ⟨rfl, hb⟩; refine ⟨_, rfl, ?_⟩; have n0_ := Aside0.mk (bb_ BK535 hb); have n1_ := Aside0.mk (below_step (hb_ HB) hb); clear BK535; clear HB; have BK535 := n0_; have HB := n1_; clear n0_ n1_; (try clear hb); (try clear hb2); (try clear hk); (try clear hi); have hcz15_0 : w14.cell? ⟨gb535, 0, none⟩ = some (.slice A0_0 l0_0.length c0_0) := (blk_cell BK535.out 0).trans rfl; have hcz15_1 : w14.cell? ⟨gb535, 1, none⟩ = some (.slice A0_1 l0_1.length c0_1) := (blk_cell BK535.out 1).trans rfl; have hcz15_2 : w14.cell? ⟨gb535, 2, none⟩ = some (.slice A0_2 l0_2.length c0_2) := (blk_cell BK535.out 2).trans rfl; have hfz15_0 := blk_frozen BK535.out 0; have hfz15_1 := blk_frozen BK535.out 1; have hfz15_2 := blk_frozen BK535.out 2) | ((with_reducible refine gate_callee (f := 15) rfl ?_); refine goesL_ (some 19) rfl rfl Try.func15 (by kernel_rfl) rfl #[.agg #[.slice A0_0 l0_0.length c0_0, .slice A0_1 l0_1.length c0_1, .slice A0_2 l0_2.length c0_2]] rfl ma_ ?_; (with_reducible refine (speculumlaw06_Few.calls _ _ l0_0 _ _ l0_1 _ _ l0_2 true _ ?side1 ?side2 ?side3 ?side4 ?side5 ?side6 A4.out).mono ?_); (case side1 => exact cb_ (Kd.C_below HR0_0.out HB.out)); (case side2 => exact HC0_0.out); (case side3 => exact cb_ (Kd.C_below HR0_1.out HB.out)); (case side4 => exact HC0_1.out); (case side5 => exact cb_ (Kd.C_below HR0_2.out HB.out)); (case side6 => exact HC0_2.out); rintro e w16 ⟨rfl, hb⟩; refine ⟨_, rfl, ?_⟩; have n0_ := Aside0.mk (bb_ BK535 hb); have n1_ := Aside0.mk (below_step (hb_ HB) hb); clear BK535; clear HB; have BK535 := n0_; have HB := n1_; clear n0_ n1_; (try clear hb); (try clear hb2); (try clear hk); (try clear hi); have hcz17_0 : w16.cell? ⟨gb535, 0, none⟩ = some (.slice A0_0 l0_0.length c0_0) := (blk_cell BK535.out 0).trans rfl; have hcz17_1 : w16.cell? ⟨gb535, 1, none⟩ = some (.slice A0_1 l0_1.length c0_1) := (blk_cell BK535.out 1).trans rfl; have hcz17_2 : w16.cell? ⟨gb535, 2, none⟩ = some (.slice A0_2 l0_2.length c0_2) := (blk_cell BK535.out 2).trans rfl; have hfz17_0 := blk_frozen BK535.out 0; have hfz17_1 := blk_frozen BK535.out 1; have hfz17_2 := blk_frozen BK535.out 2) | ((with_reducible refine gate_callee (f := 17) rfl ?_); refine goesL_ (some 23) rfl rfl Try.func17 (by kernel_rfl) rfl #[.agg #[.slice A0_0 l0_0.length c0_0, .slice A0_1 l0_1.length c0_1, .slice A0_2 l0_2.length c0_2]] rfl ma_ ?_; (with_reducible refine (speculumlaw06_mapped.calls _ _ l0_0 _ _ l0_1 _ _ l0_2 t538 t541 t544 _ ?side1 ?side2 ?side3 ?side4 ?side5 ?side6 A6.out).mono ?_); (case side1 => exact cb_ (Kd.C_below HR0_0.out HB.out)); (case side2 => exact HC0_0.out); (case side3 => exact cb_ (Kd.C_below HR0_1.out HB.out)); (case side4 => exact HC0_1.out); (case side5 => exact cb_ (Kd.C_below HR0_2.out HB.out)); (case side6 => exact HC0_2.out); rintro e w18 ⟨v539, v542, v545, rfl, ho0, ho1, ho2, hb⟩; refine ⟨_, rfl, ?_⟩; have n0_ := Aside0.mk (Kd.R_lower ho0 (below_size (hb_ HB))); have n1_ := Aside0.mk (Kd.R_lower ho1 (below_size (hb_ HB))); have n2_ := Aside0.mk (Kd.R_lower ho2 (below_size (hb_ HB))); have n3_ := Aside0.mk (bb_ BK535 hb); have n4_ := Aside0.mk (below_step (hb_ HB) hb); clear BK535; clear HB; have HO540 := n0_; have HO543 := n1_; have HO546 := n2_; have BK535 := n3_; have HB := n4_; clear n0_ n1_ n2_ n3_ n4_; (try clear hb); (try clear hb2); (try clear hk); (try clear hi); (try clear ho0); (try clear ho1); (try clear ho2); obtain ⟨Ao19, co19, eo19⟩ := Kd.R_slice HO540.out; subst eo19; obtain ⟨Ao20, co20, eo20⟩ := Kd.R_slice HO543.out; subst eo20; obtain ⟨Ao21, co21, eo21⟩ := Kd.R_slice HO546.out; subst eo21) | ((with_reducible refine gate_callee (f := 38) rfl ?_); refine goesL_ (some 24) rfl rfl Try.func38 (by kernel_rfl) rfl #[.agg #[.slice Ao19 t538.length co19, .slice Ao20 t541.length co20, .slice Ao21 t544.length co21]] rfl ma_ ?_; (with_reducible refine (figure_Reference.calls k _ _ t538 _ _ t541 _ _ t544 t547 t548 t549 t550 t551 t552 t553 _ ?side1 ?side2 ?side3 ?side4 ?side5 ?side6 A7.out).mono ?_); (case side1 => exact cb_ (Kd.R_reads' HO540.out).2.2); (case side2 => exact (Kd.R_reads' HO540.out).2.1); (case side3 => exact cb_ (Kd.R_reads' HO543.out).2.2); (case side4 => exact (Kd.R_reads' HO543.out).2.1); (case side5 => exact cb_ (Kd.R_reads' HO546.out).2.2); (case side6 => exact (Kd.R_reads' HO546.out).2.1); rintro e w22 ⟨rfl, hb⟩; refine ⟨_, rfl, ?_⟩; have n0_ := Aside0.mk (Kd.R_below (rk_ HO540) hb); have n1_ := Aside0.mk (Kd.R_below (rk_ HO543) hb); have n2_ := Aside0.mk (Kd.R_below (rk_ HO546) hb); have n3_ := Aside0.mk (bb_ BK535 hb); have n4_ := Aside0.mk (below_step (hb_ HB) hb); clear HO540; clear HO543; clear HO546; clear BK535; clear HB; have HO540 := n0_; have HO543 := n1_; have HO546 := n2_; have BK535 := n3_; have HB := n4_; clear n0_ n1_ n2_ n3_ n4_; (try clear hb); (try clear hb2); (try clear hk); (try clear hi)) | ((with_reducible refine gate_dst (N := 3) rfl ?_); refine box_event ?hg (N := 3) ?hd (cs := #[.int .i64 0, .int .i64 0, .int .i64 0, .int .i64 0, .int .i64 0, .int .i64 0]) (t := 50) ?hr ?_; (case hd => rfl); (case hg => rfl); (case hr => exact gr_); intro gb554 hg w23 hbox hb; have n0_ := Aside0.mk (Kd.R_below (rk_ HO540) hb); have n1_ := Aside0.mk (Kd.R_below (rk_ HO543) hb); have n2_ := Aside0.mk (Kd.R_below (rk_ HO546) hb); have n3_ := Aside0.mk (bb_ BK535 hb); have n4_ := Aside0.mk (below_step (hb_ HB) hb); have n5_ := Aside0.mk (hbox); have n6_ := Aside0.mk ((hz_ HB hg)); have n7_ := Aside0.mk ((hz_ HB hg)); have n8_ := Aside0.mk ((nl_ BK535 hg)); have n9_ := Aside0.mk ((ng_ BK535 hg)); clear HO540; clear HO543; clear HO546; clear BK535; clear HB; have HO540 := n0_; have HO543 := n1_; have HO546 := n2_; have BK535 := n3_; have HB := n4_; have BK554 := n5_; have GW554 := n6_; have GE554 := n7_; have NB535_554 := n8_; have NB554_535 := n9_; clear n0_ n1_ n2_ n3_ n4_ n5_ n6_ n7_ n8_ n9_; clear hb hbox hg; have hnb24 := NB554_535.out; have hnc24 := NB535_554.out; have hcz25_0 : w23.cell? ⟨gb554, 0, none⟩ = some (.int .i64 0) := (blk_cell BK554.out 0).trans rfl; have hcz25_1 : w23.cell? ⟨gb554, 1, none⟩ = some (.int .i64 0) := (blk_cell BK554.out 1).trans rfl; have hcz25_2 : w23.cell? ⟨gb554, 2, none⟩ = some (.int .i64 0) := (blk_cell BK554.out 2).trans rfl; have hcz25_3 : w23.cell? ⟨gb554, 3, none⟩ = some (.int .i64 0) := (blk_cell BK554.out 3).trans rfl; have hcz25_4 : w23.cell? ⟨gb554, 4, none⟩ = some (.int .i64 0) := (blk_cell BK554.out 4).trans rfl; have hcz25_5 : w23.cell? ⟨gb554, 5, none⟩ = some (.int .i64 0) := (blk_cell BK554.out 5).trans rfl; have hfz25_0 := blk_frozen BK554.out 0; have hfz25_1 := blk_frozen BK554.out 1; have hfz25_2 := blk_frozen BK554.out 2; have hfz25_3 := blk_frozen BK554.out 3; have hfz25_4 := blk_frozen BK554.out 4; have hfz25_5 := blk_frozen BK554.out 5; have hcz26_0 : w23.cell? ⟨gb535, 0, none⟩ = some (.slice A0_0 l0_0.length c0_0) := (blk_cell BK535.out 0).trans rfl; have hcz26_1 : w23.cell? ⟨gb535, 1, none⟩ = some (.slice A0_1 l0_1.length c0_1) := (blk_cell BK535.out 1).trans rfl; have hcz26_2 : w23.cell? ⟨gb535, 2, none⟩ = some (.slice A0_2 l0_2.length c0_2) := (blk_cell BK535.out 2).trans rfl; have hfz26_0 := blk_frozen BK535.out 0; have hfz26_1 := blk_frozen BK535.out 1; have hfz26_2 := blk_frozen BK535.out 2) | ((with_reducible refine gate_callee (f := 17) rfl ?_); refine goesL_ (some 29) rfl rfl Try.func17 (by kernel_rfl) rfl #[.agg #[.slice A0_0 l0_0.length c0_0, .slice A0_1 l0_1.length c0_1, .slice A0_2 l0_2.length c0_2]] rfl ma_ ?_; (with_reducible refine (speculumlaw06_mapped.calls _ _ l0_0 _ _ l0_1 _ _ l0_2 t555 t558 t561 _ ?side1 ?side2 ?side3 ?side4 ?side5 ?side6 A8.out).mono ?_); (case side1 => exact Kd.C_below HR0_0.out (hb_ HB)); (case side2 => exact HC0_0.out); (case side3 => exact Kd.C_below HR0_1.out (hb_ HB)); (case side4 => exact HC0_1.out); (case side5 => exact Kd.C_below HR0_2.out (hb_ HB)); (case side6 => exact HC0_2.out); rintro e w27 ⟨v556, v559, v562, rfl, ho0, ho1, ho2, hb⟩; refine ⟨_, rfl, ?_⟩; have n0_ := Aside0.mk (Kd.R_mono (Kd.R_told (Kd.R_told (Kd.R_told (Kd.R_old (by (with_reducible repeat (first | apply Kd.R_alloc | apply Kd.R_drewN | apply Kd.R_drew)); exact (Kd.R_mono (Kd.R_far (p := ⟨gb554, 5, none⟩) (Kd.R_far (p := ⟨gb554, 4, none⟩) (Kd.R_far (p := ⟨gb554, 3, none⟩) (Kd.R_far (p := ⟨gb554, 2, none⟩) (Kd.R_far (p := ⟨gb554, 1, none⟩) (Kd.R_far (p := ⟨gb554, 0, none⟩) (Kd.R_types HO540.out BK554.out di_) (fun _ hk => hk.2) (.int .i64 t547)) (fun _ hk => hk.2) (.int .i64 t548)) (fun _ hk => hk.2) (.int .i64 t549)) (fun _ hk => hk.2) (.int .i64 t550)) (fun _ hk => hk.2) (.int .i64 t551)) (fun _ hk => hk.2) (.int .i64 t552)) (fun _ h_ => h_.1))) hb) (Kd.R_base ho0)) (Kd.R_base ho1)) (Kd.R_base ho2)) (fun _ h_ => h_.1)); have n1_ := Aside0.mk (Kd.R_mono (Kd.R_told (Kd.R_told (Kd.R_told (Kd.R_old (by (with_reducible repeat (first | apply Kd.R_alloc | apply Kd.R_drewN | apply Kd.R_drew)); exact (Kd.R_mono (Kd.R_far (p := ⟨gb554, 5, none⟩) (Kd.R_far (p := ⟨gb554, 4, none⟩) (Kd.R_far (p := ⟨gb554, 3, none⟩) (Kd.R_far (p := ⟨gb554, 2, none⟩) (Kd.R_far (p := ⟨gb554, 1, none⟩) (Kd.R_far (p := ⟨gb554, 0, none⟩) (Kd.R_types HO543.out BK554.out di_) (fun _ hk => hk.2) (.int .i64 t547)) (fun _ hk => hk.2) (.int .i64 t548)) (fun _ hk => hk.2) (.int .i64 t549)) (fun _ hk => hk.2) (.int .i64 t550)) (fun _ hk => hk.2) (.int .i64 t551)) (fun _ hk => hk.2) (.int .i64 t552)) (fun _ h_ => h_.1))) hb) (Kd.R_base ho0)) (Kd.R_base ho1)) (Kd.R_base ho2)) (fun _ h_ => h_.1)); have n2_ := Aside0.mk (Kd.R_mono (Kd.R_told (Kd.R_told (Kd.R_told (Kd.R_old (by (with_reducible repeat (first | apply Kd.R_alloc | apply Kd.R_drewN | apply Kd.R_drew)); exact (Kd.R_mono (Kd.R_far (p := ⟨gb554, 5, none⟩) (Kd.R_far (p := ⟨gb554, 4, none⟩) (Kd.R_far (p := ⟨gb554, 3, none⟩) (Kd.R_far (p := ⟨gb554, 2, none⟩) (Kd.R_far (p := ⟨gb554, 1, none⟩) (Kd.R_far (p := ⟨gb554, 0, none⟩) (Kd.R_types HO546.out BK554.out di_) (fun _ hk => hk.2) (.int .i64 t547)) (fun _ hk => hk.2) (.int .i64 t548)) (fun _ hk => hk.2) (.int .i64 t549)) (fun _ hk => hk.2) (.int .i64 t550)) (fun _ hk => hk.2) (.int .i64 t551)) (fun _ hk => hk.2) (.int .i64 t552)) (fun _ h_ => h_.1))) hb) (Kd.R_base ho0)) (Kd.R_base ho1)) (Kd.R_base ho2)) (fun _ h_ => h_.1)); have n3_ := Aside0.mk (Kd.R_lower (Kd.R_new' (Kd.R_new' (Kd.R_new' ho0 (Kd.R_lt (by (with_reducible repeat (first | apply Kd.R_alloc | apply Kd.R_drewN | apply Kd.R_drew)); exact (Kd.R_mono (Kd.R_far (p := ⟨gb554, 5, none⟩) (Kd.R_far (p := ⟨gb554, 4, none⟩) (Kd.R_far (p := ⟨gb554, 3, none⟩) (Kd.R_far (p := ⟨gb554, 2, none⟩) (Kd.R_far (p := ⟨gb554, 1, none⟩) (Kd.R_far (p := ⟨gb554, 0, none⟩) (Kd.R_types HO540.out BK554.out di_) (fun _ hk => hk.2) (.int .i64 t547)) (fun _ hk => hk.2) (.int .i64 t548)) (fun _ hk => hk.2) (.int .i64 t549)) (fun _ hk => hk.2) (.int .i64 t550)) (fun _ hk => hk.2) (.int .i64 t551)) (fun _ hk => hk.2) (.int .i64 t552)) (fun _ h_ => h_.1))))) (Kd.R_lt (by (with_reducible repeat (first | apply Kd.R_alloc | apply Kd.R_drewN | apply Kd.R_drew)); exact (Kd.R_mono (Kd.R_far (p := ⟨gb554, 5, none⟩) (Kd.R_far (p := ⟨gb554, 4, none⟩) (Kd.R_far (p := ⟨gb554, 3, none⟩) (Kd.R_far (p := ⟨gb554, 2, none⟩) (Kd.R_far (p := ⟨gb554, 1, none⟩) (Kd.R_far (p := ⟨gb554, 0, none⟩) (Kd.R_types HO543.out BK554.out di_) (fun _ hk => hk.2) (.int .i64 t547)) (fun _ hk => hk.2) (.int .i64 t548)) (fun _ hk => hk.2) (.int .i64 t549)) (fun _ hk => hk.2) (.int .i64 t550)) (fun _ hk => hk.2) (.int .i64 t551)) (fun _ hk => hk.2) (.int .i64 t552)) (fun _ h_ => h_.1))))) (Kd.R_lt (by (with_reducible repeat (first | apply Kd.R_alloc | apply Kd.R_drewN | apply Kd.R_drew)); exact (Kd.R_mono (Kd.R_far (p := ⟨gb554, 5, none⟩) (Kd.R_far (p := ⟨gb554, 4, none⟩) (Kd.R_far (p := ⟨gb554, 3, none⟩) (Kd.R_far (p := ⟨gb554, 2, none⟩) (Kd.R_far (p := ⟨gb554, 1, none⟩) (Kd.R_far (p := ⟨gb554, 0, none⟩) (Kd.R_types HO546.out BK554.out di_) (fun _ hk => hk.2) (.int .i64 t547)) (fun _ hk => hk.2) (.int .i64 t548)) (fun _ hk => hk.2) (.int .i64 t549)) (fun _ hk => hk.2) (.int .i64 t550)) (fun _ hk => hk.2) (.int .i64 t551)) (fun _ hk => hk.2) (.int .i64 t552)) (fun _ h_ => h_.1))))) (below_size (hb_ HB))); have n4_ := Aside0.mk (Kd.R_lower (Kd.R_new' (Kd.R_new' (Kd.R_new' ho1 (Kd.R_lt (by (with_reducible repeat (first | apply Kd.R_alloc | apply Kd.R_drewN | apply Kd.R_drew)); exact (Kd.R_mono (Kd.R_far (p := ⟨gb554, 5, none⟩) (Kd.R_far (p := ⟨gb554, 4, none⟩) (Kd.R_far (p := ⟨gb554, 3, none⟩) (Kd.R_far (p := ⟨gb554, 2, none⟩) (Kd.R_far (p := ⟨gb554, 1, none⟩) (Kd.R_far (p := ⟨gb554, 0, none⟩) (Kd.R_types HO540.out BK554.out di_) (fun _ hk => hk.2) (.int .i64 t547)) (fun _ hk => hk.2) (.int .i64 t548)) (fun _ hk => hk.2) (.int .i64 t549)) (fun _ hk => hk.2) (.int .i64 t550)) (fun _ hk => hk.2) (.int .i64 t551)) (fun _ hk => hk.2) (.int .i64 t552)) (fun _ h_ => h_.1))))) (Kd.R_lt (by (with_reducible repeat (first | apply Kd.R_alloc | apply Kd.R_drewN | apply Kd.R_drew)); exact (Kd.R_mono (Kd.R_far (p := ⟨gb554, 5, none⟩) (Kd.R_far (p := ⟨gb554, 4, none⟩) (Kd.R_far (p := ⟨gb554, 3, none⟩) (Kd.R_far (p := ⟨gb554, 2, none⟩) (Kd.R_far (p := ⟨gb554, 1, none⟩) (Kd.R_far (p := ⟨gb554, 0, none⟩) (Kd.R_types HO543.out BK554.out di_) (fun _ hk => hk.2) (.int .i64 t547)) (fun _ hk => hk.2) (.int .i64 t548)) (fun _ hk => hk.2) (.int .i64 t549)) (fun _ hk => hk.2) (.int .i64 t550)) (fun _ hk => hk.2) (.int .i64 t551)) (fun _ hk => hk.2) (.int .i64 t552)) (fun _ h_ => h_.1))))) (Kd.R_lt (by (with_reducible repeat (first | apply Kd.R_alloc | apply Kd.R_drewN | apply Kd.R_drew)); exact (Kd.R_mono (Kd.R_far (p := ⟨gb554, 5, none⟩) (Kd.R_far (p := ⟨gb554, 4, none⟩) (Kd.R_far (p := ⟨gb554, 3, none⟩) (Kd.R_far (p := ⟨gb554, 2, none⟩) (Kd.R_far (p := ⟨gb554, 1, none⟩) (Kd.R_far (p := ⟨gb554, 0, none⟩) (Kd.R_types HO546.out BK554.out di_) (fun _ hk => hk.2) (.int .i64 t547)) (fun _ hk => hk.2) (.int .i64 t548)) (fun _ hk => hk.2) (.int .i64 t549)) (fun _ hk => hk.2) (.int .i64 t550)) (fun _ hk => hk.2) (.int .i64 t551)) (fun _ hk => hk.2) (.int .i64 t552)) (fun _ h_ => h_.1))))) (below_size (hb_ HB))); have n5_ := Aside0.mk (Kd.R_lower (Kd.R_new' (Kd.R_new' (Kd.R_new' ho2 (Kd.R_lt (by (with_reducible repeat (first | apply Kd.R_alloc | apply Kd.R_drewN | apply Kd.R_drew)); exact (Kd.R_mono (Kd.R_far (p := ⟨gb554, 5, none⟩) (Kd.R_far (p := ⟨gb554, 4, none⟩) (Kd.R_far (p := ⟨gb554, 3, none⟩) (Kd.R_far (p := ⟨gb554, 2, none⟩) (Kd.R_far (p := ⟨gb554, 1, none⟩) (Kd.R_far (p := ⟨gb554, 0, none⟩) (Kd.R_types HO540.out BK554.out di_) (fun _ hk => hk.2) (.int .i64 t547)) (fun _ hk => hk.2) (.int .i64 t548)) (fun _ hk => hk.2) (.int .i64 t549)) (fun _ hk => hk.2) (.int .i64 t550)) (fun _ hk => hk.2) (.int .i64 t551)) (fun _ hk => hk.2) (.int .i64 t552)) (fun _ h_ => h_.1))))) (Kd.R_lt (by (with_reducible repeat (first | apply Kd.R_alloc | apply Kd.R_drewN | apply Kd.R_drew)); exact (Kd.R_mono (Kd.R_far (p := ⟨gb554, 5, none⟩) (Kd.R_far (p := ⟨gb554, 4, none⟩) (Kd.R_far (p := ⟨gb554, 3, none⟩) (Kd.R_far (p := ⟨gb554, 2, none⟩) (Kd.R_far (p := ⟨gb554, 1, none⟩) (Kd.R_far (p := ⟨gb554, 0, none⟩) (Kd.R_types HO543.out BK554.out di_) (fun _ hk => hk.2) (.int .i64 t547)) (fun _ hk => hk.2) (.int .i64 t548)) (fun _ hk => hk.2) (.int .i64 t549)) (fun _ hk => hk.2) (.int .i64 t550)) (fun _ hk => hk.2) (.int .i64 t551)) (fun _ hk => hk.2) (.int .i64 t552)) (fun _ h_ => h_.1))))) (Kd.R_lt (by (with_reducible repeat (first | apply Kd.R_alloc | apply Kd.R_drewN | apply Kd.R_drew)); exact (Kd.R_mono (Kd.R_far (p := ⟨gb554, 5, none⟩) (Kd.R_far (p := ⟨gb554, 4, none⟩) (Kd.R_far (p := ⟨gb554, 3, none⟩) (Kd.R_far (p := ⟨gb554, 2, none⟩) (Kd.R_far (p := ⟨gb554, 1, none⟩) (Kd.R_far (p := ⟨gb554, 0, none⟩) (Kd.R_types HO546.out BK554.out di_) (fun _ hk => hk.2) (.int .i64 t547)) (fun _ hk => hk.2) (.int .i64 t548)) (fun _ hk => hk.2) (.int .i64 t549)) (fun _ hk => hk.2) (.int .i64 t550)) (fun _ hk => hk.2) (.int .i64 t551)) (fun _ hk => hk.2) (.int .i64 t552)) (fun _ h_ => h_.1))))) (below_size (hb_ HB))); have n6_ := Aside0.mk (blk_below (g := gb535) (o := .cells #[.slice A0_0 l0_0.length c0_0, .slice A0_1 l0_1.length c0_1, .slice A0_2 l0_2.length c0_2] 24 (0, 0)) (by (with_reducible repeat (first | refine blk_drewN ?_ _ | refine blk_drew ?_ | refine blk_alloc ?_ _)); refine blk_far ?_ NB535_554.out _; (with_reducible repeat (first | refine blk_drewN ?_ _ | refine blk_drew ?_ | refine blk_alloc ?_ _)); refine blk_far ?_ NB535_554.out _; (with_reducible repeat (first | refine blk_drewN ?_ _ | refine blk_drew ?_ | refine blk_alloc ?_ _)); refine blk_far ?_ NB535_554.out _; (with_reducible repeat (first | refine blk_drewN ?_ _ | refine blk_drew ?_ | refine blk_alloc ?_ _)); refine blk_far ?_ NB535_554.out _; (with_reducible repeat (first | refine blk_drewN ?_ _ | refine blk_drew ?_ | refine blk_alloc ?_ _)); refine blk_far ?_ NB535_554.out _; (with_reducible repeat (first | refine blk_drewN ?_ _ | refine blk_drew ?_ | refine blk_alloc ?_ _)); refine blk_far ?_ NB535_554.out _; (with_reducible repeat (first | refine blk_drewN ?_ _ | refine blk_drew ?_ | refine blk_alloc ?_ _)); exact BK535.out) hb); have n7_ := Aside0.mk (blk_below (g := gb554) (o := .cells #[.int .i64 t547, .int .i64 t548, .int .i64 t549, .int .i64 t550, .int .i64 t551, .int .i64 t552] 50 (0, 0)) (by (with_reducible repeat (first | refine blk_drewN ?_ _ | refine blk_drew ?_ | refine blk_alloc ?_ _)); refine blk_put (cs := #[.int .i64 t547, .int .i64 t548, .int .i64 t549, .int .i64 t550, .int .i64 t551, .int .i64 0]) ?_ 5 _ rfl; (with_reducible repeat (first | refine blk_drewN ?_ _ | refine blk_drew ?_ | refine blk_alloc ?_ _)); refine blk_put (cs := #[.int .i64 t547, .int .i64 t548, .int .i64 t549, .int .i64 t550, .int .i64 0, .int .i64 0]) ?_ 4 _ rfl; (with_reducible repeat (first | refine blk_drewN ?_ _ | refine blk_drew ?_ | refine blk_alloc ?_ _)); refine blk_put (cs := #[.int .i64 t547, .int .i64 t548, .int .i64 t549, .int .i64 0, .int .i64 0, .int .i64 0]) ?_ 3 _ rfl; (with_reducible repeat (first | refine blk_drewN ?_ _ | refine blk_drew ?_ | refine blk_alloc ?_ _)); refine blk_put (cs := #[.int .i64 t547, .int .i64 t548, .int .i64 0, .int .i64 0, .int .i64 0, .int .i64 0]) ?_ 2 _ rfl; (with_reducible repeat (first | refine blk_drewN ?_ _ | refine blk_drew ?_ | refine blk_alloc ?_ _)); refine blk_put (cs := #[.int .i64 t547, .int .i64 0, .int .i64 0, .int .i64 0, .int .i64 0, .int .i64 0]) ?_ 1 _ rfl; (with_reducible repeat (first | refine blk_drewN ?_ _ | refine blk_drew ?_ | refine blk_alloc ?_ _)); refine blk_put (cs := #[.int .i64 0, .int .i64 0, .int .i64 0, .int .i64 0, .int .i64 0, .int .i64 0]) ?_ 0 _ rfl; (with_reducible repeat (first | refine blk_drewN ?_ _ | refine blk_drew ?_ | refine blk_alloc ?_ _)); exact BK554.out) hb); have n8_ := Aside0.mk (below_step (hb_ HB) hb); clear HO540; clear HO543; clear HO546; clear BK535; clear BK554; clear HB; have HO540 := n0_; have HO543 := n1_; have HO546 := n2_; have HO557 := n3_; have HO560 := n4_; have HO563 := n5_; have BK535 := n6_; have BK554 := n7_; have HB := n8_; clear n0_ n1_ n2_ n3_ n4_ n5_ n6_ n7_ n8_; (try clear hb); (try clear hb2); (try clear hk); (try clear hi); (try clear ho0); (try clear ho1); (try clear ho2); obtain ⟨Ao28, co28, eo28⟩ := Kd.R_slice HO557.out; subst eo28; obtain ⟨Ao29, co29, eo29⟩ := Kd.R_slice HO560.out; subst eo29; obtain ⟨Ao30, co30, eo30⟩ := Kd.R_slice HO563.out; subst eo30) | ((with_reducible refine gate_callee (f := 32) rfl ?_); refine goesL_ (some 30) rfl rfl Try.func32 (by kernel_rfl) rfl #[.agg #[.slice Ao28 t555.length co28, .slice Ao29 t558.length co29, .slice Ao30 t561.length co30]] rfl ma_ ?_; (with_reducible refine (figure_Least.calls k _ _ t555 _ _ t558 _ _ t561 t564 t565 t566 _ ?side1 ?side2 ?side3 ?side4 ?side5 ?side6 A9.out).mono ?_); (case side1 => exact cb_ (Kd.R_reads' HO557.out).2.2); (case side2 => exact (Kd.R_reads' HO557.out).2.1); (case side3 => exact cb_ (Kd.R_reads' HO560.out).2.2); (case side4 => exact (Kd.R_reads' HO560.out).2.1); (case side5 => exact cb_ (Kd.R_reads' HO563.out).2.2); (case side6 => exact (Kd.R_reads' HO563.out).2.1); rintro e w31 ⟨rfl, hb⟩; refine ⟨_, rfl, ?_⟩; have n0_ := Aside0.mk (Kd.R_below (rk_ HO540) hb); have n1_ := Aside0.mk (Kd.R_below (rk_ HO543) hb); have n2_ := Aside0.mk (Kd.R_below (rk_ HO546) hb); have n3_ := Aside0.mk (Kd.R_below (rk_ HO557) hb); have n4_ := Aside0.mk (Kd.R_below (rk_ HO560) hb); have n5_ := Aside0.mk (Kd.R_below (rk_ HO563) hb); have n6_ := Aside0.mk (bb_ BK535 hb); have n7_ := Aside0.mk (bb_ BK554 hb); have n8_ := Aside0.mk (below_step (hb_ HB) hb); clear HO540; clear HO543; clear HO546; clear HO557; clear HO560; clear HO563; clear BK535; clear BK554; clear HB; have HO540 := n0_; have HO543 := n1_; have HO546 := n2_; have HO557 := n3_; have HO560 := n4_; have HO563 := n5_; have BK535 := n6_; have BK554 := n7_; have HB := n8_; clear n0_ n1_ n2_ n3_ n4_ n5_ n6_ n7_ n8_; (try clear hb); (try clear hb2); (try clear hk); (try clear hi)) | ((with_reducible refine gate_dst (N := 5) rfl ?_); refine box_event ?hg (N := 5) ?hd (cs := #[.int .i64 0, .int .i64 0]) (t := 28) ?hr ?_; (case hd => rfl); (case hg => rfl); (case hr => exact gr_); intro gb567 hg w32 hbox hb; have n0_ := Aside0.mk (Kd.R_below (rk_ HO540) hb); have n1_ := Aside0.mk (Kd.R_below (rk_ HO543) hb); have n2_ := Aside0.mk (Kd.R_below (rk_ HO546) hb); have n3_ := Aside0.mk (Kd.R_below (rk_ HO557) hb); have n4_ := Aside0.mk (Kd.R_below (rk_ HO560) hb); have n5_ := Aside0.mk (Kd.R_below (rk_ HO563) hb); have n6_ := Aside0.mk (bb_ BK535 hb); have n7_ := Aside0.mk (bb_ BK554 hb); have n8_ := Aside0.mk (below_step (hb_ HB) hb); have n9_ := Aside0.mk (hbox); have n10_ := Aside0.mk ((hz_ HB hg)); have n11_ := Aside0.mk ((hz_ HB hg)); have n12_ := Aside0.mk ((nl_ BK535 hg)); have n13_ := Aside0.mk ((ng_ BK535 hg)); have n14_ := Aside0.mk ((nl_ BK554 hg)); have n15_ := Aside0.mk ((ng_ BK554 hg)); clear HO540; clear HO543; clear HO546; clear HO557; clear HO560; clear HO563; clear BK535; clear BK554; clear HB; have HO540 := n0_; have HO543 := n1_; have HO546 := n2_; have HO557 := n3_; have HO560 := n4_; have HO563 := n5_; have BK535 := n6_; have BK554 := n7_; have HB := n8_; have BK567 := n9_; have GW567 := n10_; have GE567 := n11_; have NB535_567 := n12_; have NB567_535 := n13_; have NB554_567 := n14_; have NB567_554 := n15_; clear n0_ n1_ n2_ n3_ n4_ n5_ n6_ n7_ n8_ n9_ n10_ n11_ n12_ n13_ n14_ n15_; clear hb hbox hg; have hnb33 := NB567_535.out; have hnc33 := NB535_567.out; have hnb34 := NB567_554.out; have hnc34 := NB554_567.out; have hcz35_0 : w32.cell? ⟨gb567, 0, none⟩ = some (.int .i64 0) := (blk_cell BK567.out 0).trans rfl; have hcz35_1 : w32.cell? ⟨gb567, 1, none⟩ = some (.int .i64 0) := (blk_cell BK567.out 1).trans rfl; have hfz35_0 := blk_frozen BK567.out 0; have hfz35_1 := blk_frozen BK567.out 1; have hcz36_0 : w32.cell? ⟨gb535, 0, none⟩ = some (.slice A0_0 l0_0.length c0_0) := (blk_cell BK535.out 0).trans rfl; have hcz36_1 : w32.cell? ⟨gb535, 1, none⟩ = some (.slice A0_1 l0_1.length c0_1) := (blk_cell BK535.out 1).trans rfl; have hcz36_2 : w32.cell? ⟨gb535, 2, none⟩ = some (.slice A0_2 l0_2.length c0_2) := (blk_cell BK535.out 2).trans rfl; have hfz36_0 := blk_frozen BK535.out 0; have hfz36_1 := blk_frozen BK535.out 1; have hfz36_2 := blk_frozen BK535.out 2) | ((with_reducible refine gate_callee (f := 18) rfl ?_); refine goesL_ (some 34) rfl rfl Try.func18 (by kernel_rfl) rfl #[.agg #[.slice A0_0 l0_0.length c0_0, .slice A0_1 l0_1.length c0_1, .slice A0_2 l0_2.length c0_2]] rfl ma_ ?_; (with_reducible refine (speculumref06_CheckMap.calls k _ _ l0_0 _ _ l0_1 _ _ l0_2 t568 _ ?side1 ?side2 ?side3 ?side4 ?side5 ?side6 A10.out).mono ?_); (case side1 => exact Kd.C_below HR0_0.out (hb_ HB)); (case side2 => exact HC0_0.out); (case side3 => exact Kd.C_below HR0_1.out (hb_ HB)); (case side4 => exact HC0_1.out); (case side5 => exact Kd.C_below HR0_2.out (hb_ HB)); (case side6 => exact HC0_2.out); rintro e w37 ⟨rfl, hb⟩; refine ⟨_, rfl, ?_⟩; have n0_ := Aside0.mk (Kd.R_below (by (with_reducible repeat (first | apply Kd.R_alloc | apply Kd.R_drewN | apply Kd.R_drew)); exact (Kd.R_mono (Kd.R_far (p := ⟨gb567, 1, none⟩) (Kd.R_far (p := ⟨gb567, 0, none⟩) (Kd.R_types HO540.out BK567.out di_) (fun _ hk => hk.2) (.int .i64 t564)) (fun _ hk => hk.2) (.int .i64 t565)) (fun _ h_ => h_.1))) hb); have n1_ := Aside0.mk (Kd.R_below (by (with_reducible repeat (first | apply Kd.R_alloc | apply Kd.R_drewN | apply Kd.R_drew)); exact (Kd.R_mono (Kd.R_far (p := ⟨gb567, 1, none⟩) (Kd.R_far (p := ⟨gb567, 0, none⟩) (Kd.R_types HO543.out BK567.out di_) (fun _ hk => hk.2) (.int .i64 t564)) (fun _ hk => hk.2) (.int .i64 t565)) (fun _ h_ => h_.1))) hb); have n2_ := Aside0.mk (Kd.R_below (by (with_reducible repeat (first | apply Kd.R_alloc | apply Kd.R_drewN | apply Kd.R_drew)); exact (Kd.R_mono (Kd.R_far (p := ⟨gb567, 1, none⟩) (Kd.R_far (p := ⟨gb567, 0, none⟩) (Kd.R_types HO546.out BK567.out di_) (fun _ hk => hk.2) (.int .i64 t564)) (fun _ hk => hk.2) (.int .i64 t565)) (fun _ h_ => h_.1))) hb); have n3_ := Aside0.mk (Kd.R_below (by (with_reducible repeat (first | apply Kd.R_alloc | apply Kd.R_drewN | apply Kd.R_drew)); exact (Kd.R_mono (Kd.R_far (p := ⟨gb567, 1, none⟩) (Kd.R_far (p := ⟨gb567, 0, none⟩) (Kd.R_types HO557.out BK567.out di_) (fun _ hk => hk.2) (.int .i64 t564)) (fun _ hk => hk.2) (.int .i64 t565)) (fun _ h_ => h_.1))) hb); have n4_ := Aside0.mk (Kd.R_below (by (with_reducible repeat (first | apply Kd.R_alloc | apply Kd.R_drewN | apply Kd.R_drew)); exact (Kd.R_mono (Kd.R_far (p := ⟨gb567, 1, none⟩) (Kd.R_far (p := ⟨gb567, 0, none⟩) (Kd.R_types HO560.out BK567.out di_) (fun _ hk => hk.2) (.int .i64 t564)) (fun _ hk => hk.2) (.int .i64 t565)) (fun _ h_ => h_.1))) hb); have n5_ := Aside0.mk (Kd.R_below (by (with_reducible repeat (first | apply Kd.R_alloc | apply Kd.R_drewN | apply Kd.R_drew)); exact (Kd.R_mono (Kd.R_far (p := ⟨gb567, 1, none⟩) (Kd.R_far (p := ⟨gb567, 0, none⟩) (Kd.R_types HO563.out BK567.out di_) (fun _ hk => hk.2) (.int .i64 t564)) (fun _ hk => hk.2) (.int .i64 t565)) (fun _ h_ => h_.1))) hb); have n6_ := Aside0.mk (blk_below (g := gb535) (o := .cells #[.slice A0_0 l0_0.length c0_0, .slice A0_1 l0_1.length c0_1, .slice A0_2 l0_2.length c0_2] 24 (0, 0)) (by (with_reducible repeat (first | refine blk_drewN ?_ _ | refine blk_drew ?_ | refine blk_alloc ?_ _)); refine blk_far ?_ NB535_567.out _; (with_reducible repeat (first | refine blk_drewN ?_ _ | refine blk_drew ?_ | refine blk_alloc ?_ _)); refine blk_far ?_ NB535_567.out _; (with_reducible repeat (first | refine blk_drewN ?_ _ | refine blk_drew ?_ | refine blk_alloc ?_ _)); exact BK535.out) hb); have n7_ := Aside0.mk (blk_below (g := gb554) (o := .cells #[.int .i64 t547, .int .i64 t548, .int .i64 t549, .int .i64 t550, .int .i64 t551, .int .i64 t552] 50 (0, 0)) (by (with_reducible repeat (first | refine blk_drewN ?_ _ | refine blk_drew ?_ | refine blk_alloc ?_ _)); refine blk_far ?_ NB554_567.out _; (with_reducible repeat (first | refine blk_drewN ?_ _ | refine blk_drew ?_ | refine blk_alloc ?_ _)); refine blk_far ?_ NB554_567.out _; (with_reducible repeat (first | refine blk_drewN ?_ _ | refine blk_drew ?_ | refine blk_alloc ?_ _)); exact BK554.out) hb); have n8_ := Aside0.mk (blk_below (g := gb567) (o := .cells #[.int .i64 t564, .int .i64 t565] 28 (0, 0)) (by (with_reducible repeat (first | refine blk_drewN ?_ _ | refine blk_drew ?_ | refine blk_alloc ?_ _)); refine blk_put (cs := #[.int .i64 t564, .int .i64 0]) ?_ 1 _ rfl; (with_reducible repeat (first | refine blk_drewN ?_ _ | refine blk_drew ?_ | refine blk_alloc ?_ _)); refine blk_put (cs := #[.int .i64 0, .int .i64 0]) ?_ 0 _ rfl; (with_reducible repeat (first | refine blk_drewN ?_ _ | refine blk_drew ?_ | refine blk_alloc ?_ _)); exact BK567.out) hb); have n9_ := Aside0.mk (below_step (hb_ HB) hb); clear HO540; clear HO543; clear HO546; clear HO557; clear HO560; clear HO563; clear BK535; clear BK554; clear BK567; clear HB; have HO540 := n0_; have HO543 := n1_; have HO546 := n2_; have HO557 := n3_; have HO560 := n4_; have HO563 := n5_; have BK535 := n6_; have BK554 := n7_; have BK567 := n8_; have HB := n9_; clear n0_ n1_ n2_ n3_ n4_ n5_ n6_ n7_ n8_ n9_; (try clear hb); (try clear hb2); (try clear hk); (try clear hi)))
    (try simp only [Act.put, List.setIfInBounds_toArray, List.set_cons_zero, List.set_cons_succ])
    go_cut [70] (fun v70 wc => ∃ (kq : Nat) (x70_11 : Bool), v70 = .bool x70_11 ∧ Aside0 (speculumlaw06_FigureReferences.j0 kq x70_11 l0_0 l0_1 l0_2 t547 t548 t549 t550 t551 t552 t564 t565 = some r) ∧ Aside0 (kq ≤ k) ∧ Aside0 (wc.heap[gb535]? = some (.cells #[(.slice A0_0 l0_0.length c0_0), (.slice A0_1 l0_1.length c0_1), (.slice A0_2 l0_2.length c0_2)] 24 (0, 0))) ∧ Aside0 (wc.heap[gb554]? = some (.cells #[.int .i64 t547, .int .i64 t548, .int .i64 t549, .int .i64 t550, .int .i64 t551, .int .i64 t552] 50 (0, 0))) ∧ Aside0 (wc.heap[gb567]? = some (.cells #[.int .i64 t564, .int .i64 t565] 28 (0, 0))) ∧ Aside0 (Below w.heap.size w wc))
    case first =>
     have H := HC12.out
     clear HC12
     by_cases c38 : t553 = 0
     ·rw [if_pos c38] at H
      have c38b0 : (t553 == 0) = true := beq_iff_eq.mpr c38
      have c38b1 : (t553 != 0) = false := bne_eq_false_iff_eq.mpr c38
      clear c38
      (first | rw [c38b0] | (simp only [i64_w, i32_w]; rw [c38b0]) | skip)
      by_cases c39 : t566 = 0
      ·rw [if_pos c39] at H
       have c39b0 : (t566 == 0) = true := beq_iff_eq.mpr c39
       have c39b1 : (t566 != 0) = false := bne_eq_false_iff_eq.mpr c39
       clear c39
       replace H := Option.bind_eq_some_iff.mp H
       obtain ⟨t570, A400, H⟩ := H
       replace H : (if t570 = 0 then ((speculumref06_Least.f k l0_0 l0_1 l0_2).bind fun bt571 => (speculumlaw06_FigureReferences.j0 k (!(t564 == bt571.1) || (!(t565 == bt571.2))) l0_0 l0_1 l0_2 t547 t548 t549 t550 t551 t552 t564 t565)) else (speculumlaw06_FigureReferences.j0 k true l0_0 l0_1 l0_2 t547 t548 t549 t550 t551 t552 t564 t565)) = some r := H
       have A40 := Aside0.mk A400
       clear A400
       by_cases c41 : t570 = 0
       ·rw [if_pos c41] at H
        have c41b0 : (t570 == 0) = true := beq_iff_eq.mpr c41
        have c41b1 : (t570 != 0) = false := bne_eq_false_iff_eq.mpr c41
        clear c41
        replace H := Option.bind_eq_some_iff.mp H
        obtain ⟨⟨t571, t572⟩, A420, H⟩ := H
        replace H : (speculumlaw06_FigureReferences.j0 k (!(t564 == t571) || (!(t565 == t572))) l0_0 l0_1 l0_2 t547 t548 t549 t550 t551 t552 t564 t565) = some r := H
        have A42 := Aside0.mk A420
        clear A420
        have H' := Aside0.mk H
        clear H
        try go_wp2
        have n0_ := Aside0.mk (Kd.R_drew HO540.out)
        have n1_ := Aside0.mk (Kd.R_drew HO543.out)
        have n2_ := Aside0.mk (Kd.R_drew HO546.out)
        have n3_ := Aside0.mk (Kd.R_drew HO557.out)
        have n4_ := Aside0.mk (Kd.R_drew HO560.out)
        have n5_ := Aside0.mk (Kd.R_drew HO563.out)
        have n6_ := Aside0.mk (blk_drew BK535.out)
        have n7_ := Aside0.mk (blk_drew BK554.out)
        have n8_ := Aside0.mk (blk_drew BK567.out)
        have n9_ := Aside0.mk (below_drew1 HB.out)
        clear HO540
        clear HO543
        clear HO546
        clear HO557
        clear HO560
        clear HO563
        clear BK535
        clear BK554
        clear BK567
        clear HB
        have HO540 := n0_
        have HO543 := n1_
        have HO546 := n2_
        have HO557 := n3_
        have HO560 := n4_
        have HO563 := n5_
        have BK535 := n6_
        have BK554 := n7_
        have BK567 := n8_
        have HB := n9_
        clear n0_ n1_ n2_ n3_ n4_ n5_ n6_ n7_ n8_ n9_
        refine start_ (n := 17) (S := fun w' => w'.cell? ⟨gb554, 0, none⟩ = some (.int .i64 t547) ∧ w'.cell? ⟨gb554, 1, none⟩ = some (.int .i64 t548) ∧ w'.cell? ⟨gb554, 2, none⟩ = some (.int .i64 t549) ∧ w'.cell? ⟨gb554, 3, none⟩ = some (.int .i64 t550) ∧ w'.cell? ⟨gb554, 4, none⟩ = some (.int .i64 t551) ∧ w'.cell? ⟨gb554, 5, none⟩ = some (.int .i64 t552) ∧ w'.cell? ⟨gb567, 0, none⟩ = some (.int .i64 t564) ∧ w'.cell? ⟨gb567, 1, none⟩ = some (.int .i64 t565) ∧ w'.cell? ⟨gb535, 0, none⟩ = some (.slice A0_0 l0_0.length c0_0) ∧ w'.cell? ⟨gb535, 1, none⟩ = some (.slice A0_1 l0_1.length c0_1) ∧ w'.cell? ⟨gb535, 2, none⟩ = some (.slice A0_2 l0_2.length c0_2)) (ds := []) #[false, false, false, false, false, false, false, false, false, false, false, false, false, false, false, false, false] (by kernel_rfl) rfl rfl ⟨(blk_cell BK554.out 0).trans rfl, (blk_cell BK554.out 1).trans rfl, (blk_cell BK554.out 2).trans rfl, (blk_cell BK554.out 3).trans rfl, (blk_cell BK554.out 4).trans rfl, (blk_cell BK554.out 5).trans rfl, (blk_cell BK567.out 0).trans rfl, (blk_cell BK567.out 1).trans rfl, (blk_cell BK535.out 0).trans rfl, (blk_cell BK535.out 1).trans rfl, (blk_cell BK535.out 2).trans rfl⟩ (fun hHeld => ?_); refine with_tabW speculumlaw06_FigureReferences.tab10 speculumlaw06_FigureReferences.bits10 (fun HT_ HW_ => ?_)
        generalize w37.drew = w43 at HO540 HO543 HO546 HO557 HO560 HO563 BK535 BK554 BK567 HB hHeld ⊢
        refine pure_ (i := 0) (N := some 54) (v := ?_) (a' := ?_) #[true, false, false, false, false, false, false, false, false, false, false, false, false, false, false, false, false] rfl rfl (any_of HT_.out (by kernel_rfl)) (fun _ _ _ h => h) (Or.inl ⟨by rfl, ?_⟩) ?_ ?_
        rotate_left
        ·exact gs_
        rotate_left
        ·exact pt_
        refine pure_ (i := 1) (N := some 55) (v := ?_) (a' := ?_) #[true, true, false, false, false, false, false, false, false, false, false, false, false, false, false, false, false] rfl rfl (any_of HT_.out (by kernel_rfl)) (fun _ _ _ h => h) (Or.inl ⟨by rfl, ?_⟩) ?_ ?_
        rotate_left
        ·exact gs_
        rotate_left
        ·exact pt_
        refine pure_ (i := 2) (N := some 56) (v := ?_) (a' := ?_) #[true, true, true, false, false, false, false, false, false, false, false, false, false, false, false, false, false] rfl rfl (any_of HT_.out (by kernel_rfl)) (fun _ _ _ h => h) (Or.inl ⟨by rfl, ?_⟩) ?_ ?_
        rotate_left
        ·exact gs_
        rotate_left
        ·exact pt_
        refine pure_ (i := 3) (N := some 57) (v := ?_) (a' := ?_) #[true, true, true, true, false, false, false, false, false, false, false, false, false, false, false, false, false] rfl rfl (any_of HT_.out (by kernel_rfl)) (fun _ _ _ h => h) (Or.inl ⟨by rfl, ?_⟩) ?_ ?_
        rotate_left
        ·exact gs_
        rotate_left
        ·exact pt_
        refine pure_ (i := 4) (N := some 58) (v := ?_) (a' := ?_) #[true, true, true, true, true, false, false, false, false, false, false, false, false, false, false, false, false] rfl rfl (any_of HT_.out (by kernel_rfl)) (fun _ _ _ h => h) (Or.inl ⟨by rfl, ?_⟩) ?_ ?_
        rotate_left
        ·exact gs_
        rotate_left
        ·exact pt_
        refine pure_ (i := 5) (N := some 59) (v := ?_) (a' := ?_) #[true, true, true, true, true, true, false, false, false, false, false, false, false, false, false, false, false] rfl rfl (any_of HT_.out (by kernel_rfl)) (fun _ _ _ h => h) (Or.inl ⟨by rfl, ?_⟩) ?_ ?_
        rotate_left
        ·exact gs_
        rotate_left
        ·exact pt_
        refine pure_ (i := 6) (N := some 60) (v := ?_) (a' := ?_) #[true, true, true, true, true, true, true, false, false, false, false, false, false, false, false, false, false] rfl rfl (any_of HT_.out (by kernel_rfl)) (fun _ _ _ h => h) (Or.inl ⟨by rfl, ?_⟩) ?_ ?_
        rotate_left
        ·exact gs_
        rotate_left
        ·exact pt_
        refine take_ (i := 7) (N := some 61) (v := ?_) (a' := ?_) #[true, true, true, true, true, true, true, true, false, false, false, false, false, false, false, false, false] rfl rfl (take_ofW HT_.out HW_.out (by kernel_rfl)) (fun _ _ _ h => h) (Or.inl ⟨by rfl, ?_⟩) hHeld ?_ ?_
        rotate_left
        ·rintro w' ⟨s0, s1, s2, s3, s4, s5, s6, s7, s8, s9, s10⟩; go_simp; with_reducible rfl
        rotate_left
        ·exact pt_
        refine one_ (i := 8) (N := some 62) #[true, true, true, true, true, true, true, true, true, false, false, false, false, false, false, false, false] rfl rfl (one_of HT_.out (by kernel_rfl)) di_ (fun K hK => ?_)
        refine goes_ Try.func30 (by kernel_rfl) rfl #[.agg #[.int .i64 t547, .int .i64 t548, .int .i64 t549, .int .i64 t550, .int .i64 t551, .int .i64 t552]] (by rfl) rfl rfl ma_ ?_
        with_reducible refine (speculumref06_CheckLine.calls k t547 t548 t549 t550 t551 t552 t570 _ A40.out).mono ?_
        rintro e w44 ⟨rfl, hb⟩
        refine ⟨_, rfl, ?_⟩
        have n0_ := Aside0.mk (Kd.R_below (rk_ HO540) hb)
        have n1_ := Aside0.mk (Kd.R_below (rk_ HO543) hb)
        have n2_ := Aside0.mk (Kd.R_below (rk_ HO546) hb)
        have n3_ := Aside0.mk (Kd.R_below (rk_ HO557) hb)
        have n4_ := Aside0.mk (Kd.R_below (rk_ HO560) hb)
        have n5_ := Aside0.mk (Kd.R_below (rk_ HO563) hb)
        have n6_ := Aside0.mk (bb_ BK535 hb)
        have n7_ := Aside0.mk (bb_ BK554 hb)
        have n8_ := Aside0.mk (bb_ BK567 hb)
        have n9_ := Aside0.mk (below_step (hb_ HB) hb)
        clear HO540
        clear HO543
        clear HO546
        clear HO557
        clear HO560
        clear HO563
        clear BK535
        clear BK554
        clear BK567
        clear HB
        have HO540 := n0_
        have HO543 := n1_
        have HO546 := n2_
        have HO557 := n3_
        have HO560 := n4_
        have HO563 := n5_
        have BK535 := n6_
        have BK554 := n7_
        have BK567 := n8_
        have HB := n9_
        clear n0_ n1_ n2_ n3_ n4_ n5_ n6_ n7_ n8_ n9_
        (try clear hb)
        (try clear hb2)
        (try clear hk)
        (try clear hi)
        refine hK.out _ _ ⟨(blk_cell BK554.out 0).trans rfl, (blk_cell BK554.out 1).trans rfl, (blk_cell BK554.out 2).trans rfl, (blk_cell BK554.out 3).trans rfl, (blk_cell BK554.out 4).trans rfl, (blk_cell BK554.out 5).trans rfl, (blk_cell BK567.out 0).trans rfl, (blk_cell BK567.out 1).trans rfl, (blk_cell BK535.out 0).trans rfl, (blk_cell BK535.out 1).trans rfl, (blk_cell BK535.out 2).trans rfl⟩ (fun hHeld => ?_)
        clear hK K
        refine norm_ (a' := ?_) ?_ ?_
        rotate_left
        ·show Act.put _ (some 62) _ = _
         simp only [Act.put, List.setIfInBounds_toArray, List.set_cons_zero, List.set_cons_succ, i64_w, i32_w]
         rfl
        refine pure_ (i := 9) (N := some 63) (v := ?_) (a' := ?_) #[true, true, true, true, true, true, true, true, true, true, false, false, false, false, false, false, false] rfl rfl (any_of HT_.out (by kernel_rfl)) (fun _ _ _ h => h) (Or.inl ⟨by rfl, ?_⟩) ?_ ?_
        rotate_left
        ·exact gs_
        rotate_left
        ·exact pt_
        refine pure_ (i := 10) (N := some 64) (v := ?_) (a' := ?_) #[true, true, true, true, true, true, true, true, true, true, true, false, false, false, false, false, false] rfl rfl (any_of HT_.out (by kernel_rfl)) (fun _ _ _ h => h) (Or.inl ⟨by rfl, ?_⟩) ?_ ?_
        rotate_left
        ·exact gs_
        rotate_left
        ·exact pt_
        refine pure_ (i := 11) (N := some 65) (v := ?_) (a' := ?_) #[true, true, true, true, true, true, true, true, true, true, true, true, false, false, false, false, false] rfl rfl (any_of HT_.out (by kernel_rfl)) (fun _ _ _ h => h) (Or.inl ⟨by rfl, ?_⟩) ?_ ?_
        rotate_left
        ·exact gs_
        rotate_left
        ·exact pt_
        refine take_ (i := 12) (N := some 66) (v := ?_) (a' := ?_) #[true, true, true, true, true, true, true, true, true, true, true, true, true, false, false, false, false] rfl rfl (take_ofW HT_.out HW_.out (by kernel_rfl)) (fun _ _ _ h => h) (Or.inl ⟨by rfl, ?_⟩) hHeld ?_ ?_
        rotate_left
        ·rintro w' ⟨s0, s1, s2, s3, s4, s5, s6, s7, s8, s9, s10⟩; go_simp; with_reducible rfl
        rotate_left
        ·exact pt_
        refine take_ (i := 13) (N := some 67) (v := ?_) (a' := ?_) #[true, true, true, true, true, true, true, true, true, true, true, true, true, true, false, false, false] rfl rfl (take_ofW HT_.out HW_.out (by kernel_rfl)) (fun _ _ _ h => h) (Or.inl ⟨by rfl, ?_⟩) hHeld ?_ ?_
        rotate_left
        ·rintro w' ⟨s0, s1, s2, s3, s4, s5, s6, s7, s8, s9, s10⟩; go_simp; with_reducible rfl
        rotate_left
        ·exact pt_
        refine one_ (i := 14) (N := some 68) #[true, true, true, true, true, true, true, true, true, true, true, true, true, true, true, false, false] rfl rfl (one_of HT_.out (by kernel_rfl)) di_ (fun K hK => ?_)
        refine goes_ Try.func40 (by kernel_rfl) rfl #[.agg #[.slice A0_0 l0_0.length c0_0, .slice A0_1 l0_1.length c0_1, .slice A0_2 l0_2.length c0_2]] (by rfl) rfl rfl ma_ ?_
        with_reducible refine (speculumref06_Least.calls k _ _ l0_0 _ _ l0_1 _ _ l0_2 t571 t572 _ ?side1 ?side2 ?side3 ?side4 ?side5 ?side6 A42.out).mono ?_
        (case side1 => exact cb_ (Kd.C_below HR0_0.out HB.out))
        (case side2 => exact HC0_0.out)
        (case side3 => exact cb_ (Kd.C_below HR0_1.out HB.out))
        (case side4 => exact HC0_1.out)
        (case side5 => exact cb_ (Kd.C_below HR0_2.out HB.out))
        (case side6 => exact HC0_2.out)
        rintro e w45 ⟨rfl, hb⟩
        refine ⟨_, rfl, ?_⟩
        have n0_ := Aside0.mk (Kd.R_below (rk_ HO540) hb)
        have n1_ := Aside0.mk (Kd.R_below (rk_ HO543) hb)
        have n2_ := Aside0.mk (Kd.R_below (rk_ HO546) hb)
        have n3_ := Aside0.mk (Kd.R_below (rk_ HO557) hb)
        have n4_ := Aside0.mk (Kd.R_below (rk_ HO560) hb)
        have n5_ := Aside0.mk (Kd.R_below (rk_ HO563) hb)
        have n6_ := Aside0.mk (bb_ BK535 hb)
        have n7_ := Aside0.mk (bb_ BK554 hb)
        have n8_ := Aside0.mk (bb_ BK567 hb)
        have n9_ := Aside0.mk (below_step (hb_ HB) hb)
        clear HO540
        clear HO543
        clear HO546
        clear HO557
        clear HO560
        clear HO563
        clear BK535
        clear BK554
        clear BK567
        clear HB
        have HO540 := n0_
        have HO543 := n1_
        have HO546 := n2_
        have HO557 := n3_
        have HO560 := n4_
        have HO563 := n5_
        have BK535 := n6_
        have BK554 := n7_
        have BK567 := n8_
        have HB := n9_
        clear n0_ n1_ n2_ n3_ n4_ n5_ n6_ n7_ n8_ n9_
        (try clear hb)
        (try clear hb2)
        (try clear hk)
        (try clear hi)
        refine hK.out _ _ ⟨(blk_cell BK554.out 0).trans rfl, (blk_cell BK554.out 1).trans rfl, (blk_cell BK554.out 2).trans rfl, (blk_cell BK554.out 3).trans rfl, (blk_cell BK554.out 4).trans rfl, (blk_cell BK554.out 5).trans rfl, (blk_cell BK567.out 0).trans rfl, (blk_cell BK567.out 1).trans rfl, (blk_cell BK535.out 0).trans rfl, (blk_cell BK535.out 1).trans rfl, (blk_cell BK535.out 2).trans rfl⟩ (fun hHeld => ?_)
        clear hK K
        refine norm_ (a' := ?_) ?_ ?_
        rotate_left
        ·show Act.put _ (some 68) _ = _
         simp only [Act.put, List.setIfInBounds_toArray, List.set_cons_zero, List.set_cons_succ, i64_w, i32_w]
         rfl
        refine pure_ (i := 15) (N := some 69) (v := ?_) (a' := ?_) #[true, true, true, true, true, true, true, true, true, true, true, true, true, true, true, true, false] rfl rfl (any_of HT_.out (by kernel_rfl)) (fun _ _ _ h => h) (Or.inl ⟨by rfl, ?_⟩) ?_ ?_
        rotate_left
        ·exact gs_
        rotate_left
        ·exact pt_
        refine pure_ (i := 16) (N := some 70) (v := ?_) (a' := ?_) #[true, true, true, true, true, true, true, true, true, true, true, true, true, true, true, true, true] rfl rfl (any_of HT_.out (by kernel_rfl)) (fun _ _ _ h => h) (Or.inl ⟨by rfl, ?_⟩) ?_ ?_
        rotate_left
        ·exact gs_
        rotate_left
        ·exact pt_
        refine done_ (done_of HT_.out (by kernel_rfl)) ?_
        try go_wp2
        go_meet
        case rel => exact ⟨_, ((!(t564 == t571) || (!(t565 == t572)))), rs_, H', ⟨by first | omega | exact Nat.le_refl _⟩, ⟨by (with_reducible repeat (first | refine blk_drewN ?_ _ | refine blk_drew ?_ | refine blk_alloc ?_ _)); exact BK535.out⟩, ⟨by (with_reducible repeat (first | refine blk_drewN ?_ _ | refine blk_drew ?_ | refine blk_alloc ?_ _)); exact BK554.out⟩, ⟨by (with_reducible repeat (first | refine blk_drewN ?_ _ | refine blk_drew ?_ | refine blk_alloc ?_ _)); exact BK567.out⟩, ⟨hb_ HB⟩⟩
       ·rw [if_neg c41] at H
        have c41b0 : (t570 == 0) = false := beq_eq_false_iff_ne.mpr c41
        have c41b1 : (t570 != 0) = true := bne_iff_ne.mpr c41
        exact absurd H (by rw [hr_]; exact speculumlaw06_FigureReferences.j0_t _ _ _ _ _ _ _ _ _ _ _ _)
      ·rw [if_neg c39] at H
       have c39b0 : (t566 == 0) = false := beq_eq_false_iff_ne.mpr c39
       have c39b1 : (t566 != 0) = true := bne_iff_ne.mpr c39
       exact absurd H (by rw [hr_]; exact speculumlaw06_FigureReferences.j0_t _ _ _ _ _ _ _ _ _ _ _ _)
     ·rw [if_neg c38] at H
      have c38b0 : (t553 == 0) = false := beq_eq_false_iff_ne.mpr c38
      have c38b1 : (t553 != 0) = true := bne_iff_ne.mpr c38
      (first | rw [c38b0] | (simp only [i64_w, i32_w]; rw [c38b0]) | skip)
      exact absurd H (by rw [hr_]; exact speculumlaw06_FigureReferences.j0_t _ _ _ _ _ _ _ _ _ _ _ _)
    case rest =>
     clear HC12
     try clear p2
     try clear c3
     try clear c4
     try clear c30
     try clear c38
     try clear c38b0
     try clear c38b1
     try clear c39
     try clear c39b0
     try clear c39b1
     try clear c40
     try clear c41
     try clear c41b0
     try clear c41b1
     obtain ⟨kq, x70_11, rfl, HA, HJ11, BK535, BK554, BK567, HB⟩ := hcut
     cases kq with
     | zero => exact absurd HA.out (by simp [speculumlaw06_FigureReferences.j0])
     | succ kj11 =>
      have H := HA.out
      clear HA
      simp only [speculumlaw06_FigureReferences.j0] at H
      by_cases c50 : x70_11 = true
      ·subst c50
       have H1 : (some false) = some r := by rw [if_pos rfl] at H; exact H
       clear H
       have H := H1
       clear H1
       exact absurd (Option.some.inj H) (by rw [hr_]; decide)
      ·replace c50 := Bool.eq_false_iff.mpr c50
       subst c50
       have H1 : ((speculumref06_CheckReference.f kj11 l0_0 l0_1 l0_2 t547 t548 t549 t550 t551 t552).bind fun bt573 => (if bt573.2 = 0 then ((speculumlaw06_mapped.f l0_0 l0_1 l0_2).bind fun bt575 => ((figure_CheckReference.f kj11 bt575.1 bt575.2.1 bt575.2.2 t547 t548 t549 t550 t551 t552).bind fun bt584 => (speculumlaw06_FigureReferences.l0 kj11 bt584.2 (wrap64 (t548 * t550)) 0 0 l0_0 l0_1 l0_2 t547 t548 t549 t550 t551 t552 t564 t565))) else (some false))) = some r := by rw [if_neg (show ¬ (false = true) by decide)] at H; exact H
       clear H
       have H := H1
       clear H1
       replace H := Option.bind_eq_some_iff.mp H
       obtain ⟨⟨t573, t574⟩, A510, H⟩ := H
       replace H : (if t574 = 0 then ((speculumlaw06_mapped.f l0_0 l0_1 l0_2).bind fun bt575 => ((figure_CheckReference.f kj11 bt575.1 bt575.2.1 bt575.2.2 t547 t548 t549 t550 t551 t552).bind fun bt584 => (speculumlaw06_FigureReferences.l0 kj11 bt584.2 (wrap64 (t548 * t550)) 0 0 l0_0 l0_1 l0_2 t547 t548 t549 t550 t551 t552 t564 t565))) else (some false)) = some r := H
       have A51 := Aside0.mk A510
       clear A510
       by_cases c52 : t574 = 0
       ·rw [if_pos c52] at H
        have c52b0 : (t574 == 0) = true := beq_iff_eq.mpr c52
        have c52b1 : (t574 != 0) = false := bne_eq_false_iff_eq.mpr c52
        clear c52
        replace H := Option.bind_eq_some_iff.mp H
        obtain ⟨⟨t575, t578, t581⟩, A530, H⟩ := H
        replace H : ((figure_CheckReference.f kj11 t575 t578 t581 t547 t548 t549 t550 t551 t552).bind fun bt584 => (speculumlaw06_FigureReferences.l0 kj11 bt584.2 (wrap64 (t548 * t550)) 0 0 l0_0 l0_1 l0_2 t547 t548 t549 t550 t551 t552 t564 t565)) = some r := H
        have A53 := Aside0.mk A530
        clear A530
        replace H := Option.bind_eq_some_iff.mp H
        obtain ⟨⟨t584, t585⟩, A540, H⟩ := H
        replace H : (speculumlaw06_FigureReferences.l0 kj11 t585 (wrap64 (t548 * t550)) 0 0 l0_0 l0_1 l0_2 t547 t548 t549 t550 t551 t552 t564 t565) = some r := H
        have A54 := Aside0.mk A540
        clear A540
        have H' := Aside0.mk H
        clear H
        have hnb55 := NB535_554.out
        have hnc55 := NB554_535.out
        have hnb56 := NB535_567.out
        have hnc56 := NB567_535.out
        have hcz57_0 : wc.cell? ⟨gb535, 0, none⟩ = some (.slice A0_0 l0_0.length c0_0) := (blk_cell BK535.out 0).trans rfl
        have hcz57_1 : wc.cell? ⟨gb535, 1, none⟩ = some (.slice A0_1 l0_1.length c0_1) := (blk_cell BK535.out 1).trans rfl
        have hcz57_2 : wc.cell? ⟨gb535, 2, none⟩ = some (.slice A0_2 l0_2.length c0_2) := (blk_cell BK535.out 2).trans rfl
        have hfz57_0 := blk_frozen BK535.out 0
        have hfz57_1 := blk_frozen BK535.out 1
        have hfz57_2 := blk_frozen BK535.out 2
        have hnb58 := NB554_567.out
        have hnc58 := NB567_554.out
        have hcz59_0 : wc.cell? ⟨gb554, 0, none⟩ = some (.int .i64 t547) := (blk_cell BK554.out 0).trans rfl
        have hcz59_1 : wc.cell? ⟨gb554, 1, none⟩ = some (.int .i64 t548) := (blk_cell BK554.out 1).trans rfl
        have hcz59_2 : wc.cell? ⟨gb554, 2, none⟩ = some (.int .i64 t549) := (blk_cell BK554.out 2).trans rfl
        have hcz59_3 : wc.cell? ⟨gb554, 3, none⟩ = some (.int .i64 t550) := (blk_cell BK554.out 3).trans rfl
        have hcz59_4 : wc.cell? ⟨gb554, 4, none⟩ = some (.int .i64 t551) := (blk_cell BK554.out 4).trans rfl
        have hcz59_5 : wc.cell? ⟨gb554, 5, none⟩ = some (.int .i64 t552) := (blk_cell BK554.out 5).trans rfl
        have hfz59_0 := blk_frozen BK554.out 0
        have hfz59_1 := blk_frozen BK554.out 1
        have hfz59_2 := blk_frozen BK554.out 2
        have hfz59_3 := blk_frozen BK554.out 3
        have hfz59_4 := blk_frozen BK554.out 4
        have hfz59_5 := blk_frozen BK554.out 5
        try go_wp2_with (first | ((with_reducible refine gate_callee (f := 41) rfl ?_); refine goesL_ (some 74) rfl rfl Try.func41 (by kernel_rfl) rfl #[.agg #[.slice A0_0 l0_0.length c0_0, .slice A0_1 l0_1.length c0_1, .slice A0_2 l0_2.length c0_2], .agg #[.int .i64 t547, .int .i64 t548, .int .i64 t549, .int .i64 t550, .int .i64 t551, .int .i64 t552]] rfl ma_ ?_; (with_reducible refine (speculumref06_CheckReference.calls kj11 _ _ l0_0 _ _ l0_1 _ _ l0_2 t547 t548 t549 t550 t551 t552 t573 t574 _ ?side1 ?side2 ?side3 ?side4 ?side5 ?side6 A51.out).mono ?_); (case side1 => exact cb_ (Kd.C_below HR0_0.out HB.out)); (case side2 => exact HC0_0.out); (case side3 => exact cb_ (Kd.C_below HR0_1.out HB.out)); (case side4 => exact HC0_1.out); (case side5 => exact cb_ (Kd.C_below HR0_2.out HB.out)); (case side6 => exact HC0_2.out); rintro e w60 ⟨rfl, hb⟩; refine ⟨_, rfl, ?_⟩; have n0_ := Aside0.mk (bb_ BK535 hb); have n1_ := Aside0.mk (bb_ BK554 hb); have n2_ := Aside0.mk (bb_ BK567 hb); have n3_ := Aside0.mk (below_step (hb_ HB) hb); clear BK535; clear BK554; clear BK567; clear HB; have BK535 := n0_; have BK554 := n1_; have BK567 := n2_; have HB := n3_; clear n0_ n1_ n2_ n3_; (try clear hb); (try clear hb2); (try clear hk); (try clear hi)))
        have n0_ := Aside0.mk (blk_drew BK535.out)
        have n1_ := Aside0.mk (blk_drew BK554.out)
        have n2_ := Aside0.mk (blk_drew BK567.out)
        have n3_ := Aside0.mk (below_drew1 HB.out)
        clear BK535
        clear BK554
        clear BK567
        clear HB
        have BK535 := n0_
        have BK554 := n1_
        have BK567 := n2_
        have HB := n3_
        clear n0_ n1_ n2_ n3_
        refine start_ (n := 9) (S := fun w' => w'.cell? ⟨gb535, 0, none⟩ = some (.slice A0_0 l0_0.length c0_0) ∧ w'.cell? ⟨gb535, 1, none⟩ = some (.slice A0_1 l0_1.length c0_1) ∧ w'.cell? ⟨gb535, 2, none⟩ = some (.slice A0_2 l0_2.length c0_2) ∧ w'.cell? ⟨gb554, 0, none⟩ = some (.int .i64 t547) ∧ w'.cell? ⟨gb554, 1, none⟩ = some (.int .i64 t548) ∧ w'.cell? ⟨gb554, 2, none⟩ = some (.int .i64 t549) ∧ w'.cell? ⟨gb554, 3, none⟩ = some (.int .i64 t550) ∧ w'.cell? ⟨gb554, 4, none⟩ = some (.int .i64 t551) ∧ w'.cell? ⟨gb554, 5, none⟩ = some (.int .i64 t552)) (ds := []) #[false, false, false, false, false, false, false, false, false] (by kernel_rfl) rfl rfl ⟨(blk_cell BK535.out 0).trans rfl, (blk_cell BK535.out 1).trans rfl, (blk_cell BK535.out 2).trans rfl, (blk_cell BK554.out 0).trans rfl, (blk_cell BK554.out 1).trans rfl, (blk_cell BK554.out 2).trans rfl, (blk_cell BK554.out 3).trans rfl, (blk_cell BK554.out 4).trans rfl, (blk_cell BK554.out 5).trans rfl⟩ (fun hHeld => ?_); refine with_tabW speculumlaw06_FigureReferences.tab15 speculumlaw06_FigureReferences.bits15 (fun HT_ HW_ => ?_)
        generalize w60.drew = w61 at BK535 BK554 BK567 HB hHeld ⊢
        refine take_ (i := 0) (N := some 80) (v := ?_) (a' := ?_) #[true, false, false, false, false, false, false, false, false] rfl rfl (take_ofW HT_.out HW_.out (by kernel_rfl)) (fun _ _ _ h => h) (Or.inl ⟨by rfl, ?_⟩) hHeld ?_ ?_
        rotate_left
        ·rintro w' ⟨s0, s1, s2, s3, s4, s5, s6, s7, s8⟩; go_simp; with_reducible rfl
        rotate_left
        ·exact pt_
        refine take_ (i := 2) (N := some 82) (v := ?_) (a' := ?_) #[true, false, true, false, false, false, false, false, false] rfl rfl (take_ofW HT_.out HW_.out (by kernel_rfl)) (fun _ _ _ h => h) (Or.inl ⟨by rfl, ?_⟩) hHeld ?_ ?_
        rotate_left
        ·rintro w' ⟨s0, s1, s2, s3, s4, s5, s6, s7, s8⟩; go_simp; with_reducible rfl
        rotate_left
        ·exact pt_
        refine one_ (i := 1) (N := some 81) #[true, true, true, false, false, false, false, false, false] rfl rfl (one_of HT_.out (by kernel_rfl)) di_ (fun K hK => ?_)
        refine goes_ Try.func17 (by kernel_rfl) rfl #[.agg #[.slice A0_0 l0_0.length c0_0, .slice A0_1 l0_1.length c0_1, .slice A0_2 l0_2.length c0_2]] (by rfl) rfl rfl ma_ ?_
        with_reducible refine (speculumlaw06_mapped.calls _ _ l0_0 _ _ l0_1 _ _ l0_2 t575 t578 t581 _ ?side1 ?side2 ?side3 ?side4 ?side5 ?side6 A53.out).mono ?_
        (case side1 => exact cb_ (Kd.C_below HR0_0.out HB.out))
        (case side2 => exact HC0_0.out)
        (case side3 => exact cb_ (Kd.C_below HR0_1.out HB.out))
        (case side4 => exact HC0_1.out)
        (case side5 => exact cb_ (Kd.C_below HR0_2.out HB.out))
        (case side6 => exact HC0_2.out)
        rintro e w62 ⟨v576, v579, v582, rfl, ho0, ho1, ho2, hb⟩
        refine ⟨_, rfl, ?_⟩
        have n0_ := Aside0.mk (Kd.R_lower ho0 (below_size (hb_ HB)))
        have n1_ := Aside0.mk (Kd.R_lower ho1 (below_size (hb_ HB)))
        have n2_ := Aside0.mk (Kd.R_lower ho2 (below_size (hb_ HB)))
        have n3_ := Aside0.mk (bb_ BK535 hb)
        have n4_ := Aside0.mk (bb_ BK554 hb)
        have n5_ := Aside0.mk (bb_ BK567 hb)
        have n6_ := Aside0.mk (below_step (hb_ HB) hb)
        clear BK535
        clear BK554
        clear BK567
        clear HB
        have HO577 := n0_
        have HO580 := n1_
        have HO583 := n2_
        have BK535 := n3_
        have BK554 := n4_
        have BK567 := n5_
        have HB := n6_
        clear n0_ n1_ n2_ n3_ n4_ n5_ n6_
        (try clear hb)
        (try clear hb2)
        (try clear hk)
        (try clear hi)
        (try clear ho0)
        (try clear ho1)
        (try clear ho2)
        obtain ⟨Ao63, co63, eo63⟩ := Kd.R_slice HO577.out
        (first | subst eo63 | (injection eo63 with f1_ f2_ f3_; have f4_ := f1_.symm; have f5_ := f3_.symm; clear f1_ f2_ f3_; subst f4_; subst f5_))
        obtain ⟨Ao64, co64, eo64⟩ := Kd.R_slice HO580.out
        (first | subst eo64 | (injection eo64 with f1_ f2_ f3_; have f4_ := f1_.symm; have f5_ := f3_.symm; clear f1_ f2_ f3_; subst f4_; subst f5_))
        obtain ⟨Ao65, co65, eo65⟩ := Kd.R_slice HO583.out
        (first | subst eo65 | (injection eo65 with f1_ f2_ f3_; have f4_ := f1_.symm; have f5_ := f3_.symm; clear f1_ f2_ f3_; subst f4_; subst f5_))
        refine hK.out _ _ ⟨(blk_cell BK535.out 0).trans rfl, (blk_cell BK535.out 1).trans rfl, (blk_cell BK535.out 2).trans rfl, (blk_cell BK554.out 0).trans rfl, (blk_cell BK554.out 1).trans rfl, (blk_cell BK554.out 2).trans rfl, (blk_cell BK554.out 3).trans rfl, (blk_cell BK554.out 4).trans rfl, (blk_cell BK554.out 5).trans rfl⟩ (fun hHeld => ?_)
        clear hK K
        refine norm_ (a' := ?_) ?_ ?_
        rotate_left
        ·show Act.put _ (some 81) _ = _
         simp only [Act.put, List.setIfInBounds_toArray, List.set_cons_zero, List.set_cons_succ, i64_w, i32_w]
         rfl
        refine one_ (i := 3) (N := some 83) #[true, true, true, true, false, false, false, false, false] rfl rfl (one_of HT_.out (by kernel_rfl)) di_ (fun K hK => ?_)
        refine goes_ Try.func42 (by kernel_rfl) rfl #[.agg #[.slice Ao63 t575.length co63, .slice Ao64 t578.length co64, .slice Ao65 t581.length co65], .agg #[.int .i64 t547, .int .i64 t548, .int .i64 t549, .int .i64 t550, .int .i64 t551, .int .i64 t552]] (by rfl) rfl rfl ma_ ?_
        with_reducible refine (figure_CheckReference.calls kj11 _ _ t575 _ _ t578 _ _ t581 t547 t548 t549 t550 t551 t552 t584 t585 _ ?side1 ?side2 ?side3 ?side4 ?side5 ?side6 A54.out).mono ?_
        (case side1 => exact cb_ (Kd.R_reads' HO577.out).2.2)
        (case side2 => exact (Kd.R_reads' HO577.out).2.1)
        (case side3 => exact cb_ (Kd.R_reads' HO580.out).2.2)
        (case side4 => exact (Kd.R_reads' HO580.out).2.1)
        (case side5 => exact cb_ (Kd.R_reads' HO583.out).2.2)
        (case side6 => exact (Kd.R_reads' HO583.out).2.1)
        rintro e w66 ⟨rfl, hb⟩
        refine ⟨_, rfl, ?_⟩
        have n0_ := Aside0.mk (Kd.R_below (rk_ HO577) hb)
        have n1_ := Aside0.mk (Kd.R_below (rk_ HO580) hb)
        have n2_ := Aside0.mk (Kd.R_below (rk_ HO583) hb)
        have n3_ := Aside0.mk (bb_ BK535 hb)
        have n4_ := Aside0.mk (bb_ BK554 hb)
        have n5_ := Aside0.mk (bb_ BK567 hb)
        have n6_ := Aside0.mk (below_step (hb_ HB) hb)
        clear HO577
        clear HO580
        clear HO583
        clear BK535
        clear BK554
        clear BK567
        clear HB
        have HO577 := n0_
        have HO580 := n1_
        have HO583 := n2_
        have BK535 := n3_
        have BK554 := n4_
        have BK567 := n5_
        have HB := n6_
        clear n0_ n1_ n2_ n3_ n4_ n5_ n6_
        (try clear hb)
        (try clear hb2)
        (try clear hk)
        (try clear hi)
        refine hK.out _ _ ⟨(blk_cell BK535.out 0).trans rfl, (blk_cell BK535.out 1).trans rfl, (blk_cell BK535.out 2).trans rfl, (blk_cell BK554.out 0).trans rfl, (blk_cell BK554.out 1).trans rfl, (blk_cell BK554.out 2).trans rfl, (blk_cell BK554.out 3).trans rfl, (blk_cell BK554.out 4).trans rfl, (blk_cell BK554.out 5).trans rfl⟩ (fun hHeld => ?_)
        clear hK K
        refine norm_ (a' := ?_) ?_ ?_
        rotate_left
        ·show Act.put _ (some 83) _ = _
         simp only [Act.put, List.setIfInBounds_toArray, List.set_cons_zero, List.set_cons_succ, i64_w, i32_w]
         rfl
        refine pure_ (i := 4) (N := some 79) (v := ?_) (a' := ?_) #[true, true, true, true, true, false, false, false, false] rfl rfl (any_of HT_.out (by kernel_rfl)) (fun _ _ _ h => h) (Or.inl ⟨by rfl, ?_⟩) ?_ ?_
        rotate_left
        ·exact gs_
        rotate_left
        ·exact pt_
        refine pure_ (i := 5) (N := some 84) (v := ?_) (a' := ?_) #[true, true, true, true, true, true, false, false, false] rfl rfl (any_of HT_.out (by kernel_rfl)) (fun _ _ _ h => h) (Or.inl ⟨by rfl, ?_⟩) ?_ ?_
        rotate_left
        ·exact gs_
        rotate_left
        ·exact pt_
        refine pure_ (i := 6) (N := some 85) (v := ?_) (a' := ?_) #[true, true, true, true, true, true, true, false, false] rfl rfl (any_of HT_.out (by kernel_rfl)) (fun _ _ _ h => h) (Or.inl ⟨by rfl, ?_⟩) ?_ ?_
        rotate_left
        ·exact gs_
        rotate_left
        ·exact pt_
        refine pure_ (i := 7) (N := some 10) (v := ?_) (a' := ?_) #[true, true, true, true, true, true, true, true, false] rfl rfl (any_of HT_.out (by kernel_rfl)) (fun _ _ _ h => h) (Or.inl ⟨by rfl, ?_⟩) ?_ ?_
        rotate_left
        ·exact gs_
        rotate_left
        ·exact pt_
        refine pure_ (i := 8) (N := some 11) (v := ?_) (a' := ?_) #[true, true, true, true, true, true, true, true, true] rfl rfl (any_of HT_.out (by kernel_rfl)) (fun _ _ _ h => h) (Or.inl ⟨by rfl, ?_⟩) ?_ ?_
        rotate_left
        ·exact gs_
        rotate_left
        ·exact pt_
        refine done_ (done_of HT_.out (by kernel_rfl)) ?_
        have hcz67_0 : w66.cell? ⟨gb554, 0, none⟩ = some (.int .i64 t547) := (blk_cell BK554.out 0).trans rfl
        have hcz67_1 : w66.cell? ⟨gb554, 1, none⟩ = some (.int .i64 t548) := (blk_cell BK554.out 1).trans rfl
        have hcz67_2 : w66.cell? ⟨gb554, 2, none⟩ = some (.int .i64 t549) := (blk_cell BK554.out 2).trans rfl
        have hcz67_3 : w66.cell? ⟨gb554, 3, none⟩ = some (.int .i64 t550) := (blk_cell BK554.out 3).trans rfl
        have hcz67_4 : w66.cell? ⟨gb554, 4, none⟩ = some (.int .i64 t551) := (blk_cell BK554.out 4).trans rfl
        have hcz67_5 : w66.cell? ⟨gb554, 5, none⟩ = some (.int .i64 t552) := (blk_cell BK554.out 5).trans rfl
        have hfz67_0 := blk_frozen BK554.out 0
        have hfz67_1 := blk_frozen BK554.out 1
        have hfz67_2 := blk_frozen BK554.out 2
        have hfz67_3 := blk_frozen BK554.out 3
        have hfz67_4 := blk_frozen BK554.out 4
        have hfz67_5 := blk_frozen BK554.out 5
        try go_wp2
        go_loopg [13, 14] kj11 (fun kq v13 v14 w' => ∃ (x13_2 : Int) (x14_2 : Int), v13 = .int .i64 x13_2 ∧ v14 = .int .i64 x14_2 ∧ Aside0 (speculumlaw06_FigureReferences.l0 kq t585 (wrap64 (t548 * t550)) x13_2 x14_2 l0_0 l0_1 l0_2 t547 t548 t549 t550 t551 t552 t564 t565 = some r) ∧ Aside0 (kq ≤ kj11) ∧ Aside0 (w'.heap[gb535]? = some (.cells #[(.slice A0_0 l0_0.length c0_0), (.slice A0_1 l0_1.length c0_1), (.slice A0_2 l0_2.length c0_2)] 24 (0, 0))) ∧ Aside0 (w'.heap[gb554]? = some (.cells #[.int .i64 t547, .int .i64 t548, .int .i64 t549, .int .i64 t550, .int .i64 t551, .int .i64 t552] 50 (0, 0))) ∧ Aside0 (w'.heap[gb567]? = some (.cells #[.int .i64 t564, .int .i64 t565] 28 (0, 0))) ∧ Aside0 (Below w.heap.size w w'))
        case atStart => exact ⟨(0), (0), rs_, rs_, H', ⟨Nat.le_refl _⟩, ⟨by (with_reducible repeat (first | refine blk_drewN ?_ _ | refine blk_drew ?_ | refine blk_alloc ?_ _)); exact BK535.out⟩, ⟨by (with_reducible repeat (first | refine blk_drewN ?_ _ | refine blk_drew ?_ | refine blk_alloc ?_ _)); exact BK554.out⟩, ⟨by (with_reducible repeat (first | refine blk_drewN ?_ _ | refine blk_drew ?_ | refine blk_alloc ?_ _)); exact BK567.out⟩, ⟨hb_ HB⟩⟩
        case round =>
         clear H'
         try clear c1
         try clear p2
         try clear c3
         try clear c4
         try clear c5
         try clear p6
         try clear c17
         try clear c30
         try clear c38
         try clear c38b0
         try clear c38b1
         try clear c39
         try clear c39b0
         try clear c39b1
         try clear c40
         try clear c41
         try clear c41b0
         try clear c41b1
         try clear c42
         try clear c50
         try clear c52
         try clear c52b0
         try clear c52b1
         try clear c55
         try clear c56
         try clear c58
         try clear p64
         try clear hcz57_0
         try clear hcz57_1
         try clear hcz57_2
         try clear hcz59_0
         try clear hcz59_1
         try clear hcz59_2
         try clear hcz59_3
         try clear hcz59_4
         try clear hcz59_5
         try clear hcz67_0
         try clear hcz67_1
         try clear hcz67_2
         try clear hcz67_3
         try clear hcz67_4
         try clear hcz67_5
         try clear hfz57_0
         try clear hfz57_1
         try clear hfz57_2
         try clear hfz59_0
         try clear hfz59_1
         try clear hfz59_2
         try clear hfz59_3
         try clear hfz59_4
         try clear hfz59_5
         try clear hfz67_0
         try clear hfz67_1
         try clear hfz67_2
         try clear hfz67_3
         try clear hfz67_4
         try clear hfz67_5
         try clear p2
         obtain ⟨x13_2, x14_2, rfl, rfl, HA, HK2, BK535, BK554, BK567, HB⟩ := hrel
         cases gk with
         | zero => exact absurd HA.out (by simp [speculumlaw06_FigureReferences.l0])
         | succ k2 =>
          have H := HA.out
          clear HA
          simp only [speculumlaw06_FigureReferences.l0] at H
          by_cases c68 : x14_2 < (l0_0.length : Int)
          ·rw [if_pos c68] at H
           have c68b0 : decide (x14_2 < (l0_0.length : Int)) = true := decide_eq_true c68
           clear c68
           replace H := Option.bind_eq_some_iff.mp H
           obtain ⟨⟨t586, t587⟩, A690, H⟩ := H
           replace H : (if 0 ≤ x14_2 then (if x14_2 < (l0_2.length : Int) then (if t587 = 0 then (none) else (speculumlaw06_FigureReferences.l0 k2 t585 (wrap64 (t548 * t550)) (wrap64 (x13_2 + (wrap64 ((wrap64 ((rd l0_2 x14_2) * t586)) * (wrap64 (Int.tdiv (wrap64 (t548 * t550)) t587)))))) (wrap64 (x14_2 + 1)) l0_0 l0_1 l0_2 t547 t548 t549 t550 t551 t552 t564 t565)) else (none)) else (none)) = some r := H
           have A69 := Aside0.mk A690
           clear A690
           by_cases c70 : 0 ≤ x14_2
           ·rw [if_pos c70] at H
            have c70b0 : decide (0 ≤ x14_2) = true := decide_eq_true c70
            clear c70
            by_cases c71 : x14_2 < (l0_2.length : Int)
            ·rw [if_pos c71] at H
             have c71b0 : decide (x14_2 < (l0_2.length : Int)) = true := decide_eq_true c71
             clear c71
             by_cases c72 : t587 = 0
             ·rw [if_pos c72] at H
              exact absurd H (by simp)
             ·rw [if_neg c72] at H
              have c72b0 : (t587 == 0) = false := beq_eq_false_iff_ne.mpr c72
              have c72b1 : (t587 != 0) = true := bne_iff_ne.mpr c72
              have H' := Aside0.mk H
              clear H
              have hnb73 := NB535_554.out
              have hnc73 := NB554_535.out
              have hnb74 := NB535_567.out
              have hnc74 := NB567_535.out
              have hcz75_0 : wr.cell? ⟨gb535, 0, none⟩ = some (.slice A0_0 l0_0.length c0_0) := (blk_cell BK535.out 0).trans rfl
              have hcz75_1 : wr.cell? ⟨gb535, 1, none⟩ = some (.slice A0_1 l0_1.length c0_1) := (blk_cell BK535.out 1).trans rfl
              have hcz75_2 : wr.cell? ⟨gb535, 2, none⟩ = some (.slice A0_2 l0_2.length c0_2) := (blk_cell BK535.out 2).trans rfl
              have hfz75_0 := blk_frozen BK535.out 0
              have hfz75_1 := blk_frozen BK535.out 1
              have hfz75_2 := blk_frozen BK535.out 2
              have hnb76 := NB554_567.out
              have hnc76 := NB567_554.out
              have hcz77_0 : wr.cell? ⟨gb554, 0, none⟩ = some (.int .i64 t547) := (blk_cell BK554.out 0).trans rfl
              have hcz77_1 : wr.cell? ⟨gb554, 1, none⟩ = some (.int .i64 t548) := (blk_cell BK554.out 1).trans rfl
              have hcz77_2 : wr.cell? ⟨gb554, 2, none⟩ = some (.int .i64 t549) := (blk_cell BK554.out 2).trans rfl
              have hcz77_3 : wr.cell? ⟨gb554, 3, none⟩ = some (.int .i64 t550) := (blk_cell BK554.out 3).trans rfl
              have hcz77_4 : wr.cell? ⟨gb554, 4, none⟩ = some (.int .i64 t551) := (blk_cell BK554.out 4).trans rfl
              have hcz77_5 : wr.cell? ⟨gb554, 5, none⟩ = some (.int .i64 t552) := (blk_cell BK554.out 5).trans rfl
              have hfz77_0 := blk_frozen BK554.out 0
              have hfz77_1 := blk_frozen BK554.out 1
              have hfz77_2 := blk_frozen BK554.out 2
              have hfz77_3 := blk_frozen BK554.out 3
              have hfz77_4 := blk_frozen BK554.out 4
              have hfz77_5 := blk_frozen BK554.out 5
              try go_wp2_with (first | ((with_reducible refine gate_callee (f := 33) rfl ?_); refine goesL_ (some 103) rfl rfl Try.func33 (by kernel_rfl) rfl #[.agg #[.slice A0_0 l0_0.length c0_0, .slice A0_1 l0_1.length c0_1, .slice A0_2 l0_2.length c0_2], .agg #[.int .i64 t547, .int .i64 t548, .int .i64 t549, .int .i64 t550, .int .i64 t551, .int .i64 t552], .int .i64 x14_2] rfl ma_ ?_; (with_reducible refine (speculumref06_Removal.calls k2 _ _ l0_0 _ _ l0_1 _ _ l0_2 t547 t548 t549 t550 t551 t552 x14_2 t586 t587 _ ?side1 ?side2 ?side3 ?side4 ?side5 ?side6 A69.out).mono ?_); (case side1 => exact cb_ (Kd.C_below HR0_0.out HB.out)); (case side2 => exact HC0_0.out); (case side3 => exact cb_ (Kd.C_below HR0_1.out HB.out)); (case side4 => exact HC0_1.out); (case side5 => exact cb_ (Kd.C_below HR0_2.out HB.out)); (case side6 => exact HC0_2.out); rintro e w78 ⟨rfl, hb⟩; refine ⟨_, rfl, ?_⟩; have n0_ := Aside0.mk (bb_ BK535 hb); have n1_ := Aside0.mk (bb_ BK554 hb); have n2_ := Aside0.mk (bb_ BK567 hb); have n3_ := Aside0.mk (below_step (hb_ HB) hb); clear BK535; clear BK554; clear BK567; clear HB; have BK535 := n0_; have BK554 := n1_; have BK567 := n2_; have HB := n3_; clear n0_ n1_ n2_ n3_; (try clear hb); (try clear hb2); (try clear hk); (try clear hi)) | ((with_reducible refine gate_dst (N := 15) rfl ?_); refine box_event ?hg (N := 15) ?hd (cs := #[.int .i64 0, .int .i64 0]) (t := 28) ?hr ?_; (case hd => rfl); (case hg => rfl); (case hr => exact gr_); intro gb588 hg w79 hbox hb; have n0_ := Aside0.mk (bb_ BK535 hb); have n1_ := Aside0.mk (bb_ BK554 hb); have n2_ := Aside0.mk (bb_ BK567 hb); have n3_ := Aside0.mk (below_step (hb_ HB) hb); have n4_ := Aside0.mk (hbox); have n5_ := Aside0.mk ((hz_ HB hg)); have n6_ := Aside0.mk ((hz_ HB hg)); have n7_ := Aside0.mk ((nl_ BK535 hg)); have n8_ := Aside0.mk ((ng_ BK535 hg)); have n9_ := Aside0.mk ((nl_ BK554 hg)); have n10_ := Aside0.mk ((ng_ BK554 hg)); have n11_ := Aside0.mk ((nl_ BK567 hg)); have n12_ := Aside0.mk ((ng_ BK567 hg)); clear BK535; clear BK554; clear BK567; clear HB; have BK535 := n0_; have BK554 := n1_; have BK567 := n2_; have HB := n3_; have BK588 := n4_; have GW588 := n5_; have GE588 := n6_; have NB535_588 := n7_; have NB588_535 := n8_; have NB554_588 := n9_; have NB588_554 := n10_; have NB567_588 := n11_; have NB588_567 := n12_; clear n0_ n1_ n2_ n3_ n4_ n5_ n6_ n7_ n8_ n9_ n10_ n11_ n12_; clear hb hbox hg; have hnb80 := NB588_535.out; have hnc80 := NB535_588.out; have hnb81 := NB588_554.out; have hnc81 := NB554_588.out; have hnb82 := NB588_567.out; have hnc82 := NB567_588.out; have hcz83_0 : w79.cell? ⟨gb588, 0, none⟩ = some (.int .i64 0) := (blk_cell BK588.out 0).trans rfl; have hcz83_1 : w79.cell? ⟨gb588, 1, none⟩ = some (.int .i64 0) := (blk_cell BK588.out 1).trans rfl; have hfz83_0 := blk_frozen BK588.out 0; have hfz83_1 := blk_frozen BK588.out 1))
              have n0_ : Aside0 (((w79.setCell ⟨gb588, 0, none⟩ (.int .i64 t586)).setCell ⟨gb588, 1, none⟩ (.int .i64 t587)).heap[gb535]? = some (.cells #[.slice A0_0 l0_0.length c0_0, .slice A0_1 l0_1.length c0_1, .slice A0_2 l0_2.length c0_2] 24 (0, 0))) := ⟨by (with_reducible repeat (first | refine blk_drewN ?_ _ | refine blk_drew ?_ | refine blk_alloc ?_ _)); refine blk_far ?_ NB535_588.out _; (with_reducible repeat (first | refine blk_drewN ?_ _ | refine blk_drew ?_ | refine blk_alloc ?_ _)); refine blk_far ?_ NB535_588.out _; (with_reducible repeat (first | refine blk_drewN ?_ _ | refine blk_drew ?_ | refine blk_alloc ?_ _)); exact BK535.out⟩
              have n1_ : Aside0 (((w79.setCell ⟨gb588, 0, none⟩ (.int .i64 t586)).setCell ⟨gb588, 1, none⟩ (.int .i64 t587)).heap[gb554]? = some (.cells #[.int .i64 t547, .int .i64 t548, .int .i64 t549, .int .i64 t550, .int .i64 t551, .int .i64 t552] 50 (0, 0))) := ⟨by (with_reducible repeat (first | refine blk_drewN ?_ _ | refine blk_drew ?_ | refine blk_alloc ?_ _)); refine blk_far ?_ NB554_588.out _; (with_reducible repeat (first | refine blk_drewN ?_ _ | refine blk_drew ?_ | refine blk_alloc ?_ _)); refine blk_far ?_ NB554_588.out _; (with_reducible repeat (first | refine blk_drewN ?_ _ | refine blk_drew ?_ | refine blk_alloc ?_ _)); exact BK554.out⟩
              have n2_ : Aside0 (((w79.setCell ⟨gb588, 0, none⟩ (.int .i64 t586)).setCell ⟨gb588, 1, none⟩ (.int .i64 t587)).heap[gb567]? = some (.cells #[.int .i64 t564, .int .i64 t565] 28 (0, 0))) := ⟨by (with_reducible repeat (first | refine blk_drewN ?_ _ | refine blk_drew ?_ | refine blk_alloc ?_ _)); refine blk_far ?_ NB567_588.out _; (with_reducible repeat (first | refine blk_drewN ?_ _ | refine blk_drew ?_ | refine blk_alloc ?_ _)); refine blk_far ?_ NB567_588.out _; (with_reducible repeat (first | refine blk_drewN ?_ _ | refine blk_drew ?_ | refine blk_alloc ?_ _)); exact BK567.out⟩
              have n3_ : Aside0 (((w79.setCell ⟨gb588, 0, none⟩ (.int .i64 t586)).setCell ⟨gb588, 1, none⟩ (.int .i64 t587)).heap[gb588]? = some (.cells #[.int .i64 t586, .int .i64 t587] 28 (0, 0))) := ⟨by (with_reducible repeat (first | refine blk_drewN ?_ _ | refine blk_drew ?_ | refine blk_alloc ?_ _)); refine blk_put (cs := #[.int .i64 t586, .int .i64 0]) ?_ 1 _ rfl; (with_reducible repeat (first | refine blk_drewN ?_ _ | refine blk_drew ?_ | refine blk_alloc ?_ _)); refine blk_put (cs := #[.int .i64 0, .int .i64 0]) ?_ 0 _ rfl; (with_reducible repeat (first | refine blk_drewN ?_ _ | refine blk_drew ?_ | refine blk_alloc ?_ _)); exact BK588.out⟩
              have n4_ : Aside0 (Below w.heap.size w ((w79.setCell ⟨gb588, 0, none⟩ (.int .i64 t586)).setCell ⟨gb588, 1, none⟩ (.int .i64 t587))) := ⟨hb_ HB⟩
              (try clear BK535)
              (try clear BK554)
              (try clear BK567)
              (try clear BK588)
              (try clear HB)
              generalize ((w79.setCell ⟨gb588, 0, none⟩ (.int .i64 t586)).setCell ⟨gb588, 1, none⟩ (.int .i64 t587)) = w84 at n0_ n1_ n2_ n3_ n4_ ⊢
              have BK535 := n0_
              have BK554 := n1_
              have BK567 := n2_
              have BK588 := n3_
              have HB := n4_
              clear n0_ n1_ n2_ n3_ n4_
              have n0_ := Aside0.mk (blk_drew BK535.out)
              have n1_ := Aside0.mk (blk_drew BK554.out)
              have n2_ := Aside0.mk (blk_drew BK567.out)
              have n3_ := Aside0.mk (blk_drew BK588.out)
              have n4_ := Aside0.mk (below_drew1 HB.out)
              clear BK535
              clear BK554
              clear BK567
              clear BK588
              clear HB
              have BK535 := n0_
              have BK554 := n1_
              have BK567 := n2_
              have BK588 := n3_
              have HB := n4_
              clear n0_ n1_ n2_ n3_ n4_
              have p589 : 0 ≤ (x14_2 : Int) := of_decide_eq_true as_
              have q589 : x14_2 < (l0_2.length : Int) := of_decide_eq_true as_
              obtain ⟨ad589, e589, hx589_0⟩ := Kd.at_int HR0_2.out x14_2 p589 q589
              have hw589_0 := hx589_0
              cases e589
              replace hx589_0 := (HB.out.cell (World.block_lt_of_cell? w _ hx589_0)).trans hx589_0
              replace p589 := eq_true p589
              replace q589 := eq_true q589
              refine start_ (n := 16) (S := fun w' => w'.cell? ⟨gb535, 0, none⟩ = some (.slice A0_0 l0_0.length c0_0) ∧ w'.cell? ⟨gb535, 1, none⟩ = some (.slice A0_1 l0_1.length c0_1) ∧ w'.cell? ⟨gb535, 2, none⟩ = some (.slice (some ad589) l0_2.length c0_2) ∧ w'.cell? ⟨gb588, 0, none⟩ = some (.int .i64 t586) ∧ w'.cell? ⟨gb588, 1, none⟩ = some (.int .i64 t587) ∧ w'.cell? (ad589.add (x14_2).toNat) = some (.int .i64 (rd l0_2 x14_2))) (ds := []) #[false, false, false, false, false, false, false, false, false, false, false, false, false, false, false, false] (by kernel_rfl) rfl rfl ⟨(blk_cell BK535.out 0).trans rfl, (blk_cell BK535.out 1).trans rfl, (blk_cell BK535.out 2).trans rfl, (blk_cell BK588.out 0).trans rfl, (blk_cell BK588.out 1).trans rfl, ((HB.out.cell (World.block_lt_of_cell? w _ hw589_0)).trans hw589_0)⟩ (fun hHeld => ?_); refine with_tabW speculumlaw06_FigureReferences.tab21 speculumlaw06_FigureReferences.bits21 (fun HT_ HW_ => ?_)
              generalize w84.drew = w85 at BK535 BK554 BK567 BK588 HB hx589_0 hHeld ⊢
              refine pure_ (i := 0) (N := some 104) (v := ?_) (a' := ?_) #[true, false, false, false, false, false, false, false, false, false, false, false, false, false, false, false] rfl rfl (any_of HT_.out (by kernel_rfl)) (fun _ _ _ h => h) (Or.inl ⟨by rfl, ?_⟩) ?_ ?_
              rotate_left
              ·exact gs_
              rotate_left
              ·exact pt_
              refine pure_ (i := 1) (N := some 105) (v := ?_) (a' := ?_) #[true, true, false, false, false, false, false, false, false, false, false, false, false, false, false, false] rfl rfl (any_of HT_.out (by kernel_rfl)) (fun _ _ _ h => h) (Or.inl ⟨by rfl, ?_⟩) ?_ ?_
              rotate_left
              ·exact gs_
              rotate_left
              ·exact pt_
              refine pure_ (i := 3) (N := some 107) (v := ?_) (a' := ?_) #[true, true, false, true, false, false, false, false, false, false, false, false, false, false, false, false] rfl rfl (any_of HT_.out (by kernel_rfl)) (fun _ _ _ h => h) (Or.inl ⟨by rfl, ?_⟩) ?_ ?_
              rotate_left
              ·exact gs_
              rotate_left
              ·exact pt_
              refine pure_ (i := 6) (N := some 110) (v := ?_) (a' := ?_) #[true, true, false, true, false, false, true, false, false, false, false, false, false, false, false, false] rfl rfl (any_of HT_.out (by kernel_rfl)) (fun _ _ _ h => h) (Or.inl ⟨by rfl, ?_⟩) ?_ ?_
              rotate_left
              ·exact gs_
              rotate_left
              ·exact pt_
              refine pure_ (i := 9) (N := some 113) (v := ?_) (a' := ?_) #[true, true, false, true, false, false, true, false, false, true, false, false, false, false, false, false] rfl rfl (any_of HT_.out (by kernel_rfl)) (fun _ _ _ h => h) (Or.inl ⟨by rfl, ?_⟩) ?_ ?_
              rotate_left
              ·exact gs_
              rotate_left
              ·exact pt_
              refine pure_ (i := 10) (N := some 114) (v := ?_) (a' := ?_) #[true, true, false, true, false, false, true, false, false, true, true, false, false, false, false, false] rfl rfl (any_of HT_.out (by kernel_rfl)) (fun _ _ _ h => h) (Or.inl ⟨by rfl, ?_⟩) ?_ ?_
              rotate_left
              ·exact gs_
              rotate_left
              ·exact pt_
              refine take_ (i := 2) (N := some 106) (v := ?_) (a' := ?_) #[true, true, true, true, false, false, true, false, false, true, true, false, false, false, false, false] rfl rfl (take_ofW HT_.out HW_.out (by kernel_rfl)) (fun _ _ _ h => h) (Or.inl ⟨by rfl, ?_⟩) hHeld ?_ ?_
              rotate_left
              ·rintro w' ⟨s0, s1, s2, s3, s4, s5⟩; go_simp; with_reducible rfl
              rotate_left
              ·exact pt_
              refine pure_ (i := 4) (N := some 108) (v := ?_) (a' := ?_) #[true, true, true, true, true, false, true, false, false, true, true, false, false, false, false, false] rfl rfl (any_of HT_.out (by kernel_rfl)) (fun _ _ _ h => h) (Or.inl ⟨by rfl, ?_⟩) ?_ ?_
              rotate_left
              ·exact gs_
              rotate_left
              ·exact pt_
              refine take_ (i := 5) (N := some 109) (v := ?_) (a' := ?_) #[true, true, true, true, true, true, true, false, false, true, true, false, false, false, false, false] rfl rfl (take_ofW HT_.out HW_.out (by kernel_rfl)) (fun _ _ _ h => h) (Or.inl ⟨by rfl, ?_⟩) hHeld ?_ ?_
              rotate_left
              ·rintro w' ⟨s0, s1, s2, s3, s4, s5⟩; go_simp; with_reducible rfl
              rotate_left
              ·exact pt_
              refine take_ (i := 7) (N := some 111) (v := ?_) (a' := ?_) #[true, true, true, true, true, true, true, true, false, true, true, false, false, false, false, false] rfl rfl (take_ofW HT_.out HW_.out (by kernel_rfl)) (fun _ _ _ h => h) (Or.inl ⟨by rfl, ?_⟩) hHeld ?_ ?_
              rotate_left
              ·rintro w' ⟨s0, s1, s2, s3, s4, s5⟩; go_simp; with_reducible rfl
              rotate_left
              ·exact pt_
              refine pure_ (i := 8) (N := some 112) (v := ?_) (a' := ?_) #[true, true, true, true, true, true, true, true, true, true, true, false, false, false, false, false] rfl rfl (any_of HT_.out (by kernel_rfl)) (fun _ _ _ h => h) (Or.inl ⟨by rfl, ?_⟩) ?_ ?_
              rotate_left
              ·exact gs_
              rotate_left
              ·exact pt_
              refine take_ (i := 11) (N := some 115) (v := ?_) (a' := ?_) #[true, true, true, true, true, true, true, true, true, true, true, true, false, false, false, false] rfl rfl (take_ofW HT_.out HW_.out (by kernel_rfl)) (fun _ _ _ h => h) (Or.inl ⟨by rfl, ?_⟩) hHeld ?_ ?_
              rotate_left
              ·rintro w' ⟨s0, s1, s2, s3, s4, s5⟩; go_simp; with_reducible rfl
              rotate_left
              ·exact pt_
              refine pure_ (i := 12) (N := some 116) (v := ?_) (a' := ?_) #[true, true, true, true, true, true, true, true, true, true, true, true, true, false, false, false] rfl rfl (any_of HT_.out (by kernel_rfl)) (fun _ _ _ h => h) (Or.inl ⟨by rfl, ?_⟩) ?_ ?_
              rotate_left
              ·exact gs_
              rotate_left
              ·exact pt_
              refine pure_ (i := 13) (N := some 117) (v := ?_) (a' := ?_) #[true, true, true, true, true, true, true, true, true, true, true, true, true, true, false, false] rfl rfl (any_of HT_.out (by kernel_rfl)) (fun _ _ _ h => h) (Or.inl ⟨by rfl, ?_⟩) ?_ ?_
              rotate_left
              ·exact gs_
              rotate_left
              ·exact pt_
              refine pure_ (i := 14) (N := some 118) (v := ?_) (a' := ?_) #[true, true, true, true, true, true, true, true, true, true, true, true, true, true, true, false] rfl rfl (any_of HT_.out (by kernel_rfl)) (fun _ _ _ h => h) (Or.inl ⟨by rfl, ?_⟩) ?_ ?_
              rotate_left
              ·exact gs_
              rotate_left
              ·exact pt_
              refine pure_ (i := 15) (N := some 13) (v := ?_) (a' := ?_) #[true, true, true, true, true, true, true, true, true, true, true, true, true, true, true, true] rfl rfl (any_of HT_.out (by kernel_rfl)) (fun _ _ _ h => h) (Or.inl ⟨by rfl, ?_⟩) ?_ ?_
              rotate_left
              ·exact gs_
              rotate_left
              ·exact pt_
              refine done_ (done_of HT_.out (by kernel_rfl)) ?_
              try go_wp2
              go_roundg k2
              case measure => have := HJ11.out; have := HK2.out; omega
              case rel => exact ⟨(wrap64 (x13_2 + (wrap64 ((wrap64 ((rd l0_2 x14_2) * t586)) * (wrap64 (Int.tdiv (wrap64 (t548 * t550)) t587)))))), (wrap64 (x14_2 + 1)), rs_, rs_, H', ⟨by have := HJ11.out; have := HK2.out; omega⟩, ⟨by (with_reducible repeat (first | refine blk_drewN ?_ _ | refine blk_drew ?_ | refine blk_alloc ?_ _)); exact BK535.out⟩, ⟨by (with_reducible repeat (first | refine blk_drewN ?_ _ | refine blk_drew ?_ | refine blk_alloc ?_ _)); exact BK554.out⟩, ⟨by (with_reducible repeat (first | refine blk_drewN ?_ _ | refine blk_drew ?_ | refine blk_alloc ?_ _)); exact BK567.out⟩, ⟨hb_ HB⟩⟩
            ·rw [if_neg c71] at H
             exact absurd H (by simp)
           ·rw [if_neg c70] at H
            exact absurd H (by simp)
          ·rw [if_neg c68] at H
           have c68b0 : decide (x14_2 < (l0_0.length : Int)) = false := decide_eq_false c68
           clear c68
           by_cases c86 : t585 = 0
           ·rw [if_pos c86] at H
            have c86b0 : (t585 == 0) = true := beq_iff_eq.mpr c86
            have c86b1 : (t585 != 0) = false := bne_eq_false_iff_eq.mpr c86
            clear c86
            replace H := Option.bind_eq_some_iff.mp H
            obtain ⟨⟨t590, t591⟩, A870, H⟩ := H
            replace H : (some (t590 == t564 && (t591 == t565))) = some r := H
            have A87 := Aside0.mk A870
            clear A870
            obtain rfl := Option.some.inj H
            have hnb88 := NB535_554.out
            have hnc88 := NB554_535.out
            have hnb89 := NB535_567.out
            have hnc89 := NB567_535.out
            have hcz90_0 : wr.cell? ⟨gb535, 0, none⟩ = some (.slice A0_0 l0_0.length c0_0) := (blk_cell BK535.out 0).trans rfl
            have hcz90_1 : wr.cell? ⟨gb535, 1, none⟩ = some (.slice A0_1 l0_1.length c0_1) := (blk_cell BK535.out 1).trans rfl
            have hcz90_2 : wr.cell? ⟨gb535, 2, none⟩ = some (.slice A0_2 l0_2.length c0_2) := (blk_cell BK535.out 2).trans rfl
            have hfz90_0 := blk_frozen BK535.out 0
            have hfz90_1 := blk_frozen BK535.out 1
            have hfz90_2 := blk_frozen BK535.out 2
            try go_wp2
            have n0_ := Aside0.mk (blk_drew BK535.out)
            have n1_ := Aside0.mk (blk_drew BK554.out)
            have n2_ := Aside0.mk (blk_drew BK567.out)
            have n3_ := Aside0.mk (below_drew1 HB.out)
            clear BK535
            clear BK554
            clear BK567
            clear HB
            have BK535 := n0_
            have BK554 := n1_
            have BK567 := n2_
            have HB := n3_
            clear n0_ n1_ n2_ n3_
            refine start_ (n := 10) (S := fun w' => w'.cell? ⟨gb567, 0, none⟩ = some (.int .i64 t564) ∧ w'.cell? ⟨gb567, 1, none⟩ = some (.int .i64 t565)) (ds := []) #[false, false, false, false, false, false, false, false, false, false] (by kernel_rfl) rfl rfl ⟨(blk_cell BK567.out 0).trans rfl, (blk_cell BK567.out 1).trans rfl⟩ (fun hHeld => ?_); refine with_tabW speculumlaw06_FigureReferences.tab22 speculumlaw06_FigureReferences.bits22 (fun HT_ HW_ => ?_)
            generalize wr.drew = w91 at BK535 BK554 BK567 HB hHeld ⊢
            refine pure_ (i := 0) (N := some 119) (v := ?_) (a' := ?_) #[true, false, false, false, false, false, false, false, false, false] rfl rfl (any_of HT_.out (by kernel_rfl)) (fun _ _ _ h => h) (Or.inl ⟨by rfl, ?_⟩) ?_ ?_
            rotate_left
            ·exact gs_
            rotate_left
            ·exact pt_
            refine pure_ (i := 1) (N := some 120) (v := ?_) (a' := ?_) #[true, true, false, false, false, false, false, false, false, false] rfl rfl (any_of HT_.out (by kernel_rfl)) (fun _ _ _ h => h) (Or.inl ⟨by rfl, ?_⟩) ?_ ?_
            rotate_left
            ·exact gs_
            rotate_left
            ·exact pt_
            refine pure_ (i := 2) (N := some 121) (v := ?_) (a' := ?_) #[true, true, true, false, false, false, false, false, false, false] rfl rfl (any_of HT_.out (by kernel_rfl)) (fun _ _ _ h => h) (Or.inl ⟨by rfl, ?_⟩) ?_ ?_
            rotate_left
            ·exact gs_
            rotate_left
            ·exact pt_
            refine pure_ (i := 3) (N := some 122) (v := ?_) (a' := ?_) #[true, true, true, true, false, false, false, false, false, false] rfl rfl (any_of HT_.out (by kernel_rfl)) (fun _ _ _ h => h) (Or.inl ⟨by rfl, ?_⟩) ?_ ?_
            rotate_left
            ·exact gs_
            rotate_left
            ·exact pt_
            refine pure_ (i := 4) (N := some 123) (v := ?_) (a' := ?_) #[true, true, true, true, true, false, false, false, false, false] rfl rfl (any_of HT_.out (by kernel_rfl)) (fun _ _ _ h => h) (Or.inl ⟨by rfl, ?_⟩) ?_ ?_
            rotate_left
            ·exact gs_
            rotate_left
            ·exact pt_
            refine take_ (i := 6) (N := some 125) (v := ?_) (a' := ?_) #[true, true, true, true, true, false, true, false, false, false] rfl rfl (take_ofW HT_.out HW_.out (by kernel_rfl)) (fun _ _ _ h => h) (Or.inl ⟨by rfl, ?_⟩) hHeld ?_ ?_
            rotate_left
            ·rintro w' ⟨s0, s1⟩; go_simp; with_reducible rfl
            rotate_left
            ·exact pt_
            refine one_ (i := 5) (N := some 124) #[true, true, true, true, true, true, true, false, false, false] rfl rfl (one_of HT_.out (by kernel_rfl)) di_ (fun K hK => ?_)
            refine goes_ Try.func43 (by kernel_rfl) rfl #[.int .i64 x13_2, .int .i64 (wrap64 (t548 * t550))] (by rfl) rfl rfl ma_ ?_
            with_reducible refine (speculumbase_Lowest.calls k2 x13_2 (wrap64 (t548 * t550)) t590 t591 _ A87.out).mono ?_
            rintro e w92 ⟨rfl, hb⟩
            refine ⟨_, rfl, ?_⟩
            have n0_ := Aside0.mk (bb_ BK535 hb)
            have n1_ := Aside0.mk (bb_ BK554 hb)
            have n2_ := Aside0.mk (bb_ BK567 hb)
            have n3_ := Aside0.mk (below_step (hb_ HB) hb)
            clear BK535
            clear BK554
            clear BK567
            clear HB
            have BK535 := n0_
            have BK554 := n1_
            have BK567 := n2_
            have HB := n3_
            clear n0_ n1_ n2_ n3_
            (try clear hb)
            (try clear hb2)
            (try clear hk)
            (try clear hi)
            refine hK.out _ _ ⟨(blk_cell BK567.out 0).trans rfl, (blk_cell BK567.out 1).trans rfl⟩ (fun hHeld => ?_)
            clear hK K
            refine norm_ (a' := ?_) ?_ ?_
            rotate_left
            ·show Act.put _ (some 124) _ = _
             simp only [Act.put, List.setIfInBounds_toArray, List.set_cons_zero, List.set_cons_succ, i64_w, i32_w]
             rfl
            refine pure_ (i := 7) (N := some 126) (v := ?_) (a' := ?_) #[true, true, true, true, true, true, true, true, false, false] rfl rfl (any_of HT_.out (by kernel_rfl)) (fun _ _ _ h => h) (Or.inl ⟨by rfl, ?_⟩) ?_ ?_
            rotate_left
            ·exact gs_
            rotate_left
            ·exact pt_
            refine pure_ (i := 8) (N := some 127) (v := ?_) (a' := ?_) #[true, true, true, true, true, true, true, true, true, false] rfl rfl (any_of HT_.out (by kernel_rfl)) (fun _ _ _ h => h) (Or.inl ⟨by rfl, ?_⟩) ?_ ?_
            rotate_left
            ·exact gs_
            rotate_left
            ·exact pt_
            refine pure_ (i := 9) (N := some 2) (v := ?_) (a' := ?_) #[true, true, true, true, true, true, true, true, true, true] rfl rfl (any_of HT_.out (by kernel_rfl)) (fun _ _ _ h => h) (Or.inl ⟨by rfl, ?_⟩) ?_ ?_
            rotate_left
            ·exact gs_
            rotate_left
            ·exact pt_
            refine done_ (done_of HT_.out (by kernel_rfl)) ?_
            try go_wp2
            go_ret
            exact ⟨ew_, hb_ HB⟩
           ·rw [if_neg c86] at H
            have c86b0 : (t585 == 0) = false := beq_eq_false_iff_ne.mpr c86
            have c86b1 : (t585 != 0) = true := bne_iff_ne.mpr c86
            exact absurd (Option.some.inj H) (by rw [hr_]; decide)
       ·rw [if_neg c52] at H
        have c52b0 : (t574 == 0) = false := beq_eq_false_iff_ne.mpr c52
        have c52b1 : (t574 != 0) = true := bne_iff_ne.mpr c52
        exact absurd (Option.some.inj H) (by rw [hr_]; decide)
   ·rw [if_neg c11] at H
    have c11b0 : (t568 == 0) = false := beq_eq_false_iff_ne.mpr c11
    have c11b1 : (t568 != 0) = true := bne_iff_ne.mpr c11
    by_cases c103 : t553 = t568
    ·rw [if_pos c103] at H
     have c103b0 : (t553 == t568) = true := beq_iff_eq.mpr c103
     have c103b1 : (t553 != t568) = false := bne_eq_false_iff_eq.mpr c103
     clear c103
     by_cases c104 : t566 = t568
     ·rw [if_pos c104] at H
      have c104b0 : (t566 == t568) = true := beq_iff_eq.mpr c104
      have c104b1 : (t566 != t568) = false := bne_eq_false_iff_eq.mpr c104
      clear c104
      replace H := Option.bind_eq_some_iff.mp H
      obtain ⟨t569, A1050, H⟩ := H
      replace H : (if t569 = true then (some (t564 == 0 && (t565 == 0))) else (some false)) = some r := H
      have A105 := Aside0.mk A1050
      clear A1050
      by_cases c106 : t569 = true
      ·subst c106
       have H1 : (some (t564 == 0 && (t565 == 0))) = some r := by rw [if_pos rfl] at H; exact H
       clear H
       have H := H1
       clear H1
       obtain rfl := Option.some.inj H
       go_enter Try.func7, Try.ntmps7
       go_wp2_with (first | ((with_reducible refine gate_dst (N := 1) rfl ?_); refine box_event ?hg (N := 1) ?hd (cs := #[.slice A0_0 l0_0.length c0_0, .slice A0_1 l0_1.length c0_1, .slice A0_2 l0_2.length c0_2]) (t := 24) ?hr ?_; (case hd => rfl); (case hg => rfl); (case hr => exact gr_); intro gb535 hg w107 hbox hb; have n0_ := Aside0.mk (below_step (hb_ HB) hb); have n1_ := Aside0.mk (hbox); have n2_ := Aside0.mk ((hz_ HB hg)); have n3_ := Aside0.mk ((hz_ HB hg)); clear HB; have HB := n0_; have BK535 := n1_; have GW535 := n2_; have GE535 := n3_; clear n0_ n1_ n2_ n3_; clear hb hbox hg) | ((with_reducible refine gate_callee (f := 14) rfl ?_); refine goesL_ (some 16) rfl rfl Try.func14 (by kernel_rfl) rfl #[] rfl ma_ ?_; (with_reducible refine (speculumlaw06_awake.calls k  true _ rfl A2.out).mono ?_); rintro e w108 ⟨rfl, hb⟩; refine ⟨_, rfl, ?_⟩; have n0_ := Aside0.mk (bb_ BK535 hb); have n1_ := Aside0.mk (below_step (hb_ HB) hb); clear BK535; clear HB; have BK535 := n0_; have HB := n1_; clear n0_ n1_; (try clear hb); (try clear hb2); (try clear hk); (try clear hi); have hcz109_0 : w108.cell? ⟨gb535, 0, none⟩ = some (.slice A0_0 l0_0.length c0_0) := (blk_cell BK535.out 0).trans rfl; have hcz109_1 : w108.cell? ⟨gb535, 1, none⟩ = some (.slice A0_1 l0_1.length c0_1) := (blk_cell BK535.out 1).trans rfl; have hcz109_2 : w108.cell? ⟨gb535, 2, none⟩ = some (.slice A0_2 l0_2.length c0_2) := (blk_cell BK535.out 2).trans rfl; have hfz109_0 := blk_frozen BK535.out 0; have hfz109_1 := blk_frozen BK535.out 1; have hfz109_2 := blk_frozen BK535.out 2) | ((with_reducible refine gate_callee (f := 15) rfl ?_); refine goesL_ (some 19) rfl rfl Try.func15 (by kernel_rfl) rfl #[.agg #[.slice A0_0 l0_0.length c0_0, .slice A0_1 l0_1.length c0_1, .slice A0_2 l0_2.length c0_2]] rfl ma_ ?_; (with_reducible refine (speculumlaw06_Few.calls _ _ l0_0 _ _ l0_1 _ _ l0_2 true _ ?side1 ?side2 ?side3 ?side4 ?side5 ?side6 A4.out).mono ?_); (case side1 => exact cb_ (Kd.C_below HR0_0.out HB.out)); (case side2 => exact HC0_0.out); (case side3 => exact cb_ (Kd.C_below HR0_1.out HB.out)); (case side4 => exact HC0_1.out); (case side5 => exact cb_ (Kd.C_below HR0_2.out HB.out)); (case side6 => exact HC0_2.out); rintro e w110 ⟨rfl, hb⟩; refine ⟨_, rfl, ?_⟩; have n0_ := Aside0.mk (bb_ BK535 hb); have n1_ := Aside0.mk (below_step (hb_ HB) hb); clear BK535; clear HB; have BK535 := n0_; have HB := n1_; clear n0_ n1_; (try clear hb); (try clear hb2); (try clear hk); (try clear hi); have hcz111_0 : w110.cell? ⟨gb535, 0, none⟩ = some (.slice A0_0 l0_0.length c0_0) := (blk_cell BK535.out 0).trans rfl; have hcz111_1 : w110.cell? ⟨gb535, 1, none⟩ = some (.slice A0_1 l0_1.length c0_1) := (blk_cell BK535.out 1).trans rfl; have hcz111_2 : w110.cell? ⟨gb535, 2, none⟩ = some (.slice A0_2 l0_2.length c0_2) := (blk_cell BK535.out 2).trans rfl; have hfz111_0 := blk_frozen BK535.out 0; have hfz111_1 := blk_frozen BK535.out 1; have hfz111_2 := blk_frozen BK535.out 2) | ((with_reducible refine gate_callee (f := 17) rfl ?_); refine goesL_ (some 23) rfl rfl Try.func17 (by kernel_rfl) rfl #[.agg #[.slice A0_0 l0_0.length c0_0, .slice A0_1 l0_1.length c0_1, .slice A0_2 l0_2.length c0_2]] rfl ma_ ?_; (with_reducible refine (speculumlaw06_mapped.calls _ _ l0_0 _ _ l0_1 _ _ l0_2 t538 t541 t544 _ ?side1 ?side2 ?side3 ?side4 ?side5 ?side6 A6.out).mono ?_); (case side1 => exact cb_ (Kd.C_below HR0_0.out HB.out)); (case side2 => exact HC0_0.out); (case side3 => exact cb_ (Kd.C_below HR0_1.out HB.out)); (case side4 => exact HC0_1.out); (case side5 => exact cb_ (Kd.C_below HR0_2.out HB.out)); (case side6 => exact HC0_2.out); rintro e w112 ⟨v539, v542, v545, rfl, ho0, ho1, ho2, hb⟩; refine ⟨_, rfl, ?_⟩; have n0_ := Aside0.mk (Kd.R_lower ho0 (below_size (hb_ HB))); have n1_ := Aside0.mk (Kd.R_lower ho1 (below_size (hb_ HB))); have n2_ := Aside0.mk (Kd.R_lower ho2 (below_size (hb_ HB))); have n3_ := Aside0.mk (bb_ BK535 hb); have n4_ := Aside0.mk (below_step (hb_ HB) hb); clear BK535; clear HB; have HO540 := n0_; have HO543 := n1_; have HO546 := n2_; have BK535 := n3_; have HB := n4_; clear n0_ n1_ n2_ n3_ n4_; (try clear hb); (try clear hb2); (try clear hk); (try clear hi); (try clear ho0); (try clear ho1); (try clear ho2); obtain ⟨Ao113, co113, eo113⟩ := Kd.R_slice HO540.out; subst eo113; obtain ⟨Ao114, co114, eo114⟩ := Kd.R_slice HO543.out; subst eo114; obtain ⟨Ao115, co115, eo115⟩ := Kd.R_slice HO546.out; subst eo115) | ((with_reducible refine gate_callee (f := 38) rfl ?_); refine goesL_ (some 24) rfl rfl Try.func38 (by kernel_rfl) rfl #[.agg #[.slice Ao113 t538.length co113, .slice Ao114 t541.length co114, .slice Ao115 t544.length co115]] rfl ma_ ?_; (with_reducible refine (figure_Reference.calls k _ _ t538 _ _ t541 _ _ t544 t547 t548 t549 t550 t551 t552 t553 _ ?side1 ?side2 ?side3 ?side4 ?side5 ?side6 A7.out).mono ?_); (case side1 => exact cb_ (Kd.R_reads' HO540.out).2.2); (case side2 => exact (Kd.R_reads' HO540.out).2.1); (case side3 => exact cb_ (Kd.R_reads' HO543.out).2.2); (case side4 => exact (Kd.R_reads' HO543.out).2.1); (case side5 => exact cb_ (Kd.R_reads' HO546.out).2.2); (case side6 => exact (Kd.R_reads' HO546.out).2.1); rintro e w116 ⟨rfl, hb⟩; refine ⟨_, rfl, ?_⟩; have n0_ := Aside0.mk (Kd.R_below (rk_ HO540) hb); have n1_ := Aside0.mk (Kd.R_below (rk_ HO543) hb); have n2_ := Aside0.mk (Kd.R_below (rk_ HO546) hb); have n3_ := Aside0.mk (bb_ BK535 hb); have n4_ := Aside0.mk (below_step (hb_ HB) hb); clear HO540; clear HO543; clear HO546; clear BK535; clear HB; have HO540 := n0_; have HO543 := n1_; have HO546 := n2_; have BK535 := n3_; have HB := n4_; clear n0_ n1_ n2_ n3_ n4_; (try clear hb); (try clear hb2); (try clear hk); (try clear hi)) | ((with_reducible refine gate_dst (N := 3) rfl ?_); refine box_event ?hg (N := 3) ?hd (cs := #[.int .i64 0, .int .i64 0, .int .i64 0, .int .i64 0, .int .i64 0, .int .i64 0]) (t := 50) ?hr ?_; (case hd => rfl); (case hg => rfl); (case hr => exact gr_); intro gb554 hg w117 hbox hb; have n0_ := Aside0.mk (Kd.R_below (rk_ HO540) hb); have n1_ := Aside0.mk (Kd.R_below (rk_ HO543) hb); have n2_ := Aside0.mk (Kd.R_below (rk_ HO546) hb); have n3_ := Aside0.mk (bb_ BK535 hb); have n4_ := Aside0.mk (below_step (hb_ HB) hb); have n5_ := Aside0.mk (hbox); have n6_ := Aside0.mk ((hz_ HB hg)); have n7_ := Aside0.mk ((hz_ HB hg)); have n8_ := Aside0.mk ((nl_ BK535 hg)); have n9_ := Aside0.mk ((ng_ BK535 hg)); clear HO540; clear HO543; clear HO546; clear BK535; clear HB; have HO540 := n0_; have HO543 := n1_; have HO546 := n2_; have BK535 := n3_; have HB := n4_; have BK554 := n5_; have GW554 := n6_; have GE554 := n7_; have NB535_554 := n8_; have NB554_535 := n9_; clear n0_ n1_ n2_ n3_ n4_ n5_ n6_ n7_ n8_ n9_; clear hb hbox hg; have hnb118 := NB554_535.out; have hnc118 := NB535_554.out; have hcz119_0 : w117.cell? ⟨gb554, 0, none⟩ = some (.int .i64 0) := (blk_cell BK554.out 0).trans rfl; have hcz119_1 : w117.cell? ⟨gb554, 1, none⟩ = some (.int .i64 0) := (blk_cell BK554.out 1).trans rfl; have hcz119_2 : w117.cell? ⟨gb554, 2, none⟩ = some (.int .i64 0) := (blk_cell BK554.out 2).trans rfl; have hcz119_3 : w117.cell? ⟨gb554, 3, none⟩ = some (.int .i64 0) := (blk_cell BK554.out 3).trans rfl; have hcz119_4 : w117.cell? ⟨gb554, 4, none⟩ = some (.int .i64 0) := (blk_cell BK554.out 4).trans rfl; have hcz119_5 : w117.cell? ⟨gb554, 5, none⟩ = some (.int .i64 0) := (blk_cell BK554.out 5).trans rfl; have hfz119_0 := blk_frozen BK554.out 0; have hfz119_1 := blk_frozen BK554.out 1; have hfz119_2 := blk_frozen BK554.out 2; have hfz119_3 := blk_frozen BK554.out 3; have hfz119_4 := blk_frozen BK554.out 4; have hfz119_5 := blk_frozen BK554.out 5; have hcz120_0 : w117.cell? ⟨gb535, 0, none⟩ = some (.slice A0_0 l0_0.length c0_0) := (blk_cell BK535.out 0).trans rfl; have hcz120_1 : w117.cell? ⟨gb535, 1, none⟩ = some (.slice A0_1 l0_1.length c0_1) := (blk_cell BK535.out 1).trans rfl; have hcz120_2 : w117.cell? ⟨gb535, 2, none⟩ = some (.slice A0_2 l0_2.length c0_2) := (blk_cell BK535.out 2).trans rfl; have hfz120_0 := blk_frozen BK535.out 0; have hfz120_1 := blk_frozen BK535.out 1; have hfz120_2 := blk_frozen BK535.out 2) | ((with_reducible refine gate_callee (f := 17) rfl ?_); refine goesL_ (some 29) rfl rfl Try.func17 (by kernel_rfl) rfl #[.agg #[.slice A0_0 l0_0.length c0_0, .slice A0_1 l0_1.length c0_1, .slice A0_2 l0_2.length c0_2]] rfl ma_ ?_; (with_reducible refine (speculumlaw06_mapped.calls _ _ l0_0 _ _ l0_1 _ _ l0_2 t555 t558 t561 _ ?side1 ?side2 ?side3 ?side4 ?side5 ?side6 A8.out).mono ?_); (case side1 => exact Kd.C_below HR0_0.out (hb_ HB)); (case side2 => exact HC0_0.out); (case side3 => exact Kd.C_below HR0_1.out (hb_ HB)); (case side4 => exact HC0_1.out); (case side5 => exact Kd.C_below HR0_2.out (hb_ HB)); (case side6 => exact HC0_2.out); rintro e w121 ⟨v556, v559, v562, rfl, ho0, ho1, ho2, hb⟩; refine ⟨_, rfl, ?_⟩; have n0_ := Aside0.mk (Kd.R_mono (Kd.R_told (Kd.R_told (Kd.R_told (Kd.R_old (by (with_reducible repeat (first | apply Kd.R_alloc | apply Kd.R_drewN | apply Kd.R_drew)); exact (Kd.R_mono (Kd.R_far (p := ⟨gb554, 5, none⟩) (Kd.R_far (p := ⟨gb554, 4, none⟩) (Kd.R_far (p := ⟨gb554, 3, none⟩) (Kd.R_far (p := ⟨gb554, 2, none⟩) (Kd.R_far (p := ⟨gb554, 1, none⟩) (Kd.R_far (p := ⟨gb554, 0, none⟩) (Kd.R_types HO540.out BK554.out di_) (fun _ hk => hk.2) (.int .i64 t547)) (fun _ hk => hk.2) (.int .i64 t548)) (fun _ hk => hk.2) (.int .i64 t549)) (fun _ hk => hk.2) (.int .i64 t550)) (fun _ hk => hk.2) (.int .i64 t551)) (fun _ hk => hk.2) (.int .i64 t552)) (fun _ h_ => h_.1))) hb) (Kd.R_base ho0)) (Kd.R_base ho1)) (Kd.R_base ho2)) (fun _ h_ => h_.1)); have n1_ := Aside0.mk (Kd.R_mono (Kd.R_told (Kd.R_told (Kd.R_told (Kd.R_old (by (with_reducible repeat (first | apply Kd.R_alloc | apply Kd.R_drewN | apply Kd.R_drew)); exact (Kd.R_mono (Kd.R_far (p := ⟨gb554, 5, none⟩) (Kd.R_far (p := ⟨gb554, 4, none⟩) (Kd.R_far (p := ⟨gb554, 3, none⟩) (Kd.R_far (p := ⟨gb554, 2, none⟩) (Kd.R_far (p := ⟨gb554, 1, none⟩) (Kd.R_far (p := ⟨gb554, 0, none⟩) (Kd.R_types HO543.out BK554.out di_) (fun _ hk => hk.2) (.int .i64 t547)) (fun _ hk => hk.2) (.int .i64 t548)) (fun _ hk => hk.2) (.int .i64 t549)) (fun _ hk => hk.2) (.int .i64 t550)) (fun _ hk => hk.2) (.int .i64 t551)) (fun _ hk => hk.2) (.int .i64 t552)) (fun _ h_ => h_.1))) hb) (Kd.R_base ho0)) (Kd.R_base ho1)) (Kd.R_base ho2)) (fun _ h_ => h_.1)); have n2_ := Aside0.mk (Kd.R_mono (Kd.R_told (Kd.R_told (Kd.R_told (Kd.R_old (by (with_reducible repeat (first | apply Kd.R_alloc | apply Kd.R_drewN | apply Kd.R_drew)); exact (Kd.R_mono (Kd.R_far (p := ⟨gb554, 5, none⟩) (Kd.R_far (p := ⟨gb554, 4, none⟩) (Kd.R_far (p := ⟨gb554, 3, none⟩) (Kd.R_far (p := ⟨gb554, 2, none⟩) (Kd.R_far (p := ⟨gb554, 1, none⟩) (Kd.R_far (p := ⟨gb554, 0, none⟩) (Kd.R_types HO546.out BK554.out di_) (fun _ hk => hk.2) (.int .i64 t547)) (fun _ hk => hk.2) (.int .i64 t548)) (fun _ hk => hk.2) (.int .i64 t549)) (fun _ hk => hk.2) (.int .i64 t550)) (fun _ hk => hk.2) (.int .i64 t551)) (fun _ hk => hk.2) (.int .i64 t552)) (fun _ h_ => h_.1))) hb) (Kd.R_base ho0)) (Kd.R_base ho1)) (Kd.R_base ho2)) (fun _ h_ => h_.1)); have n3_ := Aside0.mk (Kd.R_lower (Kd.R_new' (Kd.R_new' (Kd.R_new' ho0 (Kd.R_lt (by (with_reducible repeat (first | apply Kd.R_alloc | apply Kd.R_drewN | apply Kd.R_drew)); exact (Kd.R_mono (Kd.R_far (p := ⟨gb554, 5, none⟩) (Kd.R_far (p := ⟨gb554, 4, none⟩) (Kd.R_far (p := ⟨gb554, 3, none⟩) (Kd.R_far (p := ⟨gb554, 2, none⟩) (Kd.R_far (p := ⟨gb554, 1, none⟩) (Kd.R_far (p := ⟨gb554, 0, none⟩) (Kd.R_types HO540.out BK554.out di_) (fun _ hk => hk.2) (.int .i64 t547)) (fun _ hk => hk.2) (.int .i64 t548)) (fun _ hk => hk.2) (.int .i64 t549)) (fun _ hk => hk.2) (.int .i64 t550)) (fun _ hk => hk.2) (.int .i64 t551)) (fun _ hk => hk.2) (.int .i64 t552)) (fun _ h_ => h_.1))))) (Kd.R_lt (by (with_reducible repeat (first | apply Kd.R_alloc | apply Kd.R_drewN | apply Kd.R_drew)); exact (Kd.R_mono (Kd.R_far (p := ⟨gb554, 5, none⟩) (Kd.R_far (p := ⟨gb554, 4, none⟩) (Kd.R_far (p := ⟨gb554, 3, none⟩) (Kd.R_far (p := ⟨gb554, 2, none⟩) (Kd.R_far (p := ⟨gb554, 1, none⟩) (Kd.R_far (p := ⟨gb554, 0, none⟩) (Kd.R_types HO543.out BK554.out di_) (fun _ hk => hk.2) (.int .i64 t547)) (fun _ hk => hk.2) (.int .i64 t548)) (fun _ hk => hk.2) (.int .i64 t549)) (fun _ hk => hk.2) (.int .i64 t550)) (fun _ hk => hk.2) (.int .i64 t551)) (fun _ hk => hk.2) (.int .i64 t552)) (fun _ h_ => h_.1))))) (Kd.R_lt (by (with_reducible repeat (first | apply Kd.R_alloc | apply Kd.R_drewN | apply Kd.R_drew)); exact (Kd.R_mono (Kd.R_far (p := ⟨gb554, 5, none⟩) (Kd.R_far (p := ⟨gb554, 4, none⟩) (Kd.R_far (p := ⟨gb554, 3, none⟩) (Kd.R_far (p := ⟨gb554, 2, none⟩) (Kd.R_far (p := ⟨gb554, 1, none⟩) (Kd.R_far (p := ⟨gb554, 0, none⟩) (Kd.R_types HO546.out BK554.out di_) (fun _ hk => hk.2) (.int .i64 t547)) (fun _ hk => hk.2) (.int .i64 t548)) (fun _ hk => hk.2) (.int .i64 t549)) (fun _ hk => hk.2) (.int .i64 t550)) (fun _ hk => hk.2) (.int .i64 t551)) (fun _ hk => hk.2) (.int .i64 t552)) (fun _ h_ => h_.1))))) (below_size (hb_ HB))); have n4_ := Aside0.mk (Kd.R_lower (Kd.R_new' (Kd.R_new' (Kd.R_new' ho1 (Kd.R_lt (by (with_reducible repeat (first | apply Kd.R_alloc | apply Kd.R_drewN | apply Kd.R_drew)); exact (Kd.R_mono (Kd.R_far (p := ⟨gb554, 5, none⟩) (Kd.R_far (p := ⟨gb554, 4, none⟩) (Kd.R_far (p := ⟨gb554, 3, none⟩) (Kd.R_far (p := ⟨gb554, 2, none⟩) (Kd.R_far (p := ⟨gb554, 1, none⟩) (Kd.R_far (p := ⟨gb554, 0, none⟩) (Kd.R_types HO540.out BK554.out di_) (fun _ hk => hk.2) (.int .i64 t547)) (fun _ hk => hk.2) (.int .i64 t548)) (fun _ hk => hk.2) (.int .i64 t549)) (fun _ hk => hk.2) (.int .i64 t550)) (fun _ hk => hk.2) (.int .i64 t551)) (fun _ hk => hk.2) (.int .i64 t552)) (fun _ h_ => h_.1))))) (Kd.R_lt (by (with_reducible repeat (first | apply Kd.R_alloc | apply Kd.R_drewN | apply Kd.R_drew)); exact (Kd.R_mono (Kd.R_far (p := ⟨gb554, 5, none⟩) (Kd.R_far (p := ⟨gb554, 4, none⟩) (Kd.R_far (p := ⟨gb554, 3, none⟩) (Kd.R_far (p := ⟨gb554, 2, none⟩) (Kd.R_far (p := ⟨gb554, 1, none⟩) (Kd.R_far (p := ⟨gb554, 0, none⟩) (Kd.R_types HO543.out BK554.out di_) (fun _ hk => hk.2) (.int .i64 t547)) (fun _ hk => hk.2) (.int .i64 t548)) (fun _ hk => hk.2) (.int .i64 t549)) (fun _ hk => hk.2) (.int .i64 t550)) (fun _ hk => hk.2) (.int .i64 t551)) (fun _ hk => hk.2) (.int .i64 t552)) (fun _ h_ => h_.1))))) (Kd.R_lt (by (with_reducible repeat (first | apply Kd.R_alloc | apply Kd.R_drewN | apply Kd.R_drew)); exact (Kd.R_mono (Kd.R_far (p := ⟨gb554, 5, none⟩) (Kd.R_far (p := ⟨gb554, 4, none⟩) (Kd.R_far (p := ⟨gb554, 3, none⟩) (Kd.R_far (p := ⟨gb554, 2, none⟩) (Kd.R_far (p := ⟨gb554, 1, none⟩) (Kd.R_far (p := ⟨gb554, 0, none⟩) (Kd.R_types HO546.out BK554.out di_) (fun _ hk => hk.2) (.int .i64 t547)) (fun _ hk => hk.2) (.int .i64 t548)) (fun _ hk => hk.2) (.int .i64 t549)) (fun _ hk => hk.2) (.int .i64 t550)) (fun _ hk => hk.2) (.int .i64 t551)) (fun _ hk => hk.2) (.int .i64 t552)) (fun _ h_ => h_.1))))) (below_size (hb_ HB))); have n5_ := Aside0.mk (Kd.R_lower (Kd.R_new' (Kd.R_new' (Kd.R_new' ho2 (Kd.R_lt (by (with_reducible repeat (first | apply Kd.R_alloc | apply Kd.R_drewN | apply Kd.R_drew)); exact (Kd.R_mono (Kd.R_far (p := ⟨gb554, 5, none⟩) (Kd.R_far (p := ⟨gb554, 4, none⟩) (Kd.R_far (p := ⟨gb554, 3, none⟩) (Kd.R_far (p := ⟨gb554, 2, none⟩) (Kd.R_far (p := ⟨gb554, 1, none⟩) (Kd.R_far (p := ⟨gb554, 0, none⟩) (Kd.R_types HO540.out BK554.out di_) (fun _ hk => hk.2) (.int .i64 t547)) (fun _ hk => hk.2) (.int .i64 t548)) (fun _ hk => hk.2) (.int .i64 t549)) (fun _ hk => hk.2) (.int .i64 t550)) (fun _ hk => hk.2) (.int .i64 t551)) (fun _ hk => hk.2) (.int .i64 t552)) (fun _ h_ => h_.1))))) (Kd.R_lt (by (with_reducible repeat (first | apply Kd.R_alloc | apply Kd.R_drewN | apply Kd.R_drew)); exact (Kd.R_mono (Kd.R_far (p := ⟨gb554, 5, none⟩) (Kd.R_far (p := ⟨gb554, 4, none⟩) (Kd.R_far (p := ⟨gb554, 3, none⟩) (Kd.R_far (p := ⟨gb554, 2, none⟩) (Kd.R_far (p := ⟨gb554, 1, none⟩) (Kd.R_far (p := ⟨gb554, 0, none⟩) (Kd.R_types HO543.out BK554.out di_) (fun _ hk => hk.2) (.int .i64 t547)) (fun _ hk => hk.2) (.int .i64 t548)) (fun _ hk => hk.2) (.int .i64 t549)) (fun _ hk => hk.2) (.int .i64 t550)) (fun _ hk => hk.2) (.int .i64 t551)) (fun _ hk => hk.2) (.int .i64 t552)) (fun _ h_ => h_.1))))) (Kd.R_lt (by (with_reducible repeat (first | apply Kd.R_alloc | apply Kd.R_drewN | apply Kd.R_drew)); exact (Kd.R_mono (Kd.R_far (p := ⟨gb554, 5, none⟩) (Kd.R_far (p := ⟨gb554, 4, none⟩) (Kd.R_far (p := ⟨gb554, 3, none⟩) (Kd.R_far (p := ⟨gb554, 2, none⟩) (Kd.R_far (p := ⟨gb554, 1, none⟩) (Kd.R_far (p := ⟨gb554, 0, none⟩) (Kd.R_types HO546.out BK554.out di_) (fun _ hk => hk.2) (.int .i64 t547)) (fun _ hk => hk.2) (.int .i64 t548)) (fun _ hk => hk.2) (.int .i64 t549)) (fun _ hk => hk.2) (.int .i64 t550)) (fun _ hk => hk.2) (.int .i64 t551)) (fun _ hk => hk.2) (.int .i64 t552)) (fun _ h_ => h_.1))))) (below_size (hb_ HB))); have n6_ := Aside0.mk (blk_below (g := gb535) (o := .cells #[.slice A0_0 l0_0.length c0_0, .slice A0_1 l0_1.length c0_1, .slice A0_2 l0_2.length c0_2] 24 (0, 0)) (by (with_reducible repeat (first | refine blk_drewN ?_ _ | refine blk_drew ?_ | refine blk_alloc ?_ _)); refine blk_far ?_ NB535_554.out _; (with_reducible repeat (first | refine blk_drewN ?_ _ | refine blk_drew ?_ | refine blk_alloc ?_ _)); refine blk_far ?_ NB535_554.out _; (with_reducible repeat (first | refine blk_drewN ?_ _ | refine blk_drew ?_ | refine blk_alloc ?_ _)); refine blk_far ?_ NB535_554.out _; (with_reducible repeat (first | refine blk_drewN ?_ _ | refine blk_drew ?_ | refine blk_alloc ?_ _)); refine blk_far ?_ NB535_554.out _; (with_reducible repeat (first | refine blk_drewN ?_ _ | refine blk_drew ?_ | refine blk_alloc ?_ _)); refine blk_far ?_ NB535_554.out _; (with_reducible repeat (first | refine blk_drewN ?_ _ | refine blk_drew ?_ | refine blk_alloc ?_ _)); refine blk_far ?_ NB535_554.out _; (with_reducible repeat (first | refine blk_drewN ?_ _ | refine blk_drew ?_ | refine blk_alloc ?_ _)); exact BK535.out) hb); have n7_ := Aside0.mk (blk_below (g := gb554) (o := .cells #[.int .i64 t547, .int .i64 t548, .int .i64 t549, .int .i64 t550, .int .i64 t551, .int .i64 t552] 50 (0, 0)) (by (with_reducible repeat (first | refine blk_drewN ?_ _ | refine blk_drew ?_ | refine blk_alloc ?_ _)); refine blk_put (cs := #[.int .i64 t547, .int .i64 t548, .int .i64 t549, .int .i64 t550, .int .i64 t551, .int .i64 0]) ?_ 5 _ rfl; (with_reducible repeat (first | refine blk_drewN ?_ _ | refine blk_drew ?_ | refine blk_alloc ?_ _)); refine blk_put (cs := #[.int .i64 t547, .int .i64 t548, .int .i64 t549, .int .i64 t550, .int .i64 0, .int .i64 0]) ?_ 4 _ rfl; (with_reducible repeat (first | refine blk_drewN ?_ _ | refine blk_drew ?_ | refine blk_alloc ?_ _)); refine blk_put (cs := #[.int .i64 t547, .int .i64 t548, .int .i64 t549, .int .i64 0, .int .i64 0, .int .i64 0]) ?_ 3 _ rfl; (with_reducible repeat (first | refine blk_drewN ?_ _ | refine blk_drew ?_ | refine blk_alloc ?_ _)); refine blk_put (cs := #[.int .i64 t547, .int .i64 t548, .int .i64 0, .int .i64 0, .int .i64 0, .int .i64 0]) ?_ 2 _ rfl; (with_reducible repeat (first | refine blk_drewN ?_ _ | refine blk_drew ?_ | refine blk_alloc ?_ _)); refine blk_put (cs := #[.int .i64 t547, .int .i64 0, .int .i64 0, .int .i64 0, .int .i64 0, .int .i64 0]) ?_ 1 _ rfl; (with_reducible repeat (first | refine blk_drewN ?_ _ | refine blk_drew ?_ | refine blk_alloc ?_ _)); refine blk_put (cs := #[.int .i64 0, .int .i64 0, .int .i64 0, .int .i64 0, .int .i64 0, .int .i64 0]) ?_ 0 _ rfl; (with_reducible repeat (first | refine blk_drewN ?_ _ | refine blk_drew ?_ | refine blk_alloc ?_ _)); exact BK554.out) hb); have n8_ := Aside0.mk (below_step (hb_ HB) hb); clear HO540; clear HO543; clear HO546; clear BK535; clear BK554; clear HB; have HO540 := n0_; have HO543 := n1_; have HO546 := n2_; have HO557 := n3_; have HO560 := n4_; have HO563 := n5_; have BK535 := n6_; have BK554 := n7_; have HB := n8_; clear n0_ n1_ n2_ n3_ n4_ n5_ n6_ n7_ n8_; (try clear hb); (try clear hb2); (try clear hk); (try clear hi); (try clear ho0); (try clear ho1); (try clear ho2); obtain ⟨Ao122, co122, eo122⟩ := Kd.R_slice HO557.out; subst eo122; obtain ⟨Ao123, co123, eo123⟩ := Kd.R_slice HO560.out; subst eo123; obtain ⟨Ao124, co124, eo124⟩ := Kd.R_slice HO563.out; subst eo124) | ((with_reducible refine gate_callee (f := 32) rfl ?_); refine goesL_ (some 30) rfl rfl Try.func32 (by kernel_rfl) rfl #[.agg #[.slice Ao122 t555.length co122, .slice Ao123 t558.length co123, .slice Ao124 t561.length co124]] rfl ma_ ?_; (with_reducible refine (figure_Least.calls k _ _ t555 _ _ t558 _ _ t561 t564 t565 t566 _ ?side1 ?side2 ?side3 ?side4 ?side5 ?side6 A9.out).mono ?_); (case side1 => exact cb_ (Kd.R_reads' HO557.out).2.2); (case side2 => exact (Kd.R_reads' HO557.out).2.1); (case side3 => exact cb_ (Kd.R_reads' HO560.out).2.2); (case side4 => exact (Kd.R_reads' HO560.out).2.1); (case side5 => exact cb_ (Kd.R_reads' HO563.out).2.2); (case side6 => exact (Kd.R_reads' HO563.out).2.1); rintro e w125 ⟨rfl, hb⟩; refine ⟨_, rfl, ?_⟩; have n0_ := Aside0.mk (Kd.R_below (rk_ HO540) hb); have n1_ := Aside0.mk (Kd.R_below (rk_ HO543) hb); have n2_ := Aside0.mk (Kd.R_below (rk_ HO546) hb); have n3_ := Aside0.mk (Kd.R_below (rk_ HO557) hb); have n4_ := Aside0.mk (Kd.R_below (rk_ HO560) hb); have n5_ := Aside0.mk (Kd.R_below (rk_ HO563) hb); have n6_ := Aside0.mk (bb_ BK535 hb); have n7_ := Aside0.mk (bb_ BK554 hb); have n8_ := Aside0.mk (below_step (hb_ HB) hb); clear HO540; clear HO543; clear HO546; clear HO557; clear HO560; clear HO563; clear BK535; clear BK554; clear HB; have HO540 := n0_; have HO543 := n1_; have HO546 := n2_; have HO557 := n3_; have HO560 := n4_; have HO563 := n5_; have BK535 := n6_; have BK554 := n7_; have HB := n8_; clear n0_ n1_ n2_ n3_ n4_ n5_ n6_ n7_ n8_; (try clear hb); (try clear hb2); (try clear hk); (try clear hi)) | ((with_reducible refine gate_dst (N := 5) rfl ?_); refine box_event ?hg (N := 5) ?hd (cs := #[.int .i64 0, .int .i64 0]) (t := 28) ?hr ?_; (case hd => rfl); (case hg => rfl); (case hr => exact gr_); intro gb567 hg w126 hbox hb; have n0_ := Aside0.mk (Kd.R_below (rk_ HO540) hb); have n1_ := Aside0.mk (Kd.R_below (rk_ HO543) hb); have n2_ := Aside0.mk (Kd.R_below (rk_ HO546) hb); have n3_ := Aside0.mk (Kd.R_below (rk_ HO557) hb); have n4_ := Aside0.mk (Kd.R_below (rk_ HO560) hb); have n5_ := Aside0.mk (Kd.R_below (rk_ HO563) hb); have n6_ := Aside0.mk (bb_ BK535 hb); have n7_ := Aside0.mk (bb_ BK554 hb); have n8_ := Aside0.mk (below_step (hb_ HB) hb); have n9_ := Aside0.mk (hbox); have n10_ := Aside0.mk ((hz_ HB hg)); have n11_ := Aside0.mk ((hz_ HB hg)); have n12_ := Aside0.mk ((nl_ BK535 hg)); have n13_ := Aside0.mk ((ng_ BK535 hg)); have n14_ := Aside0.mk ((nl_ BK554 hg)); have n15_ := Aside0.mk ((ng_ BK554 hg)); clear HO540; clear HO543; clear HO546; clear HO557; clear HO560; clear HO563; clear BK535; clear BK554; clear HB; have HO540 := n0_; have HO543 := n1_; have HO546 := n2_; have HO557 := n3_; have HO560 := n4_; have HO563 := n5_; have BK535 := n6_; have BK554 := n7_; have HB := n8_; have BK567 := n9_; have GW567 := n10_; have GE567 := n11_; have NB535_567 := n12_; have NB567_535 := n13_; have NB554_567 := n14_; have NB567_554 := n15_; clear n0_ n1_ n2_ n3_ n4_ n5_ n6_ n7_ n8_ n9_ n10_ n11_ n12_ n13_ n14_ n15_; clear hb hbox hg; have hnb127 := NB567_535.out; have hnc127 := NB535_567.out; have hnb128 := NB567_554.out; have hnc128 := NB554_567.out; have hcz129_0 : w126.cell? ⟨gb567, 0, none⟩ = some (.int .i64 0) := (blk_cell BK567.out 0).trans rfl; have hcz129_1 : w126.cell? ⟨gb567, 1, none⟩ = some (.int .i64 0) := (blk_cell BK567.out 1).trans rfl; have hfz129_0 := blk_frozen BK567.out 0; have hfz129_1 := blk_frozen BK567.out 1; have hcz130_0 : w126.cell? ⟨gb535, 0, none⟩ = some (.slice A0_0 l0_0.length c0_0) := (blk_cell BK535.out 0).trans rfl; have hcz130_1 : w126.cell? ⟨gb535, 1, none⟩ = some (.slice A0_1 l0_1.length c0_1) := (blk_cell BK535.out 1).trans rfl; have hcz130_2 : w126.cell? ⟨gb535, 2, none⟩ = some (.slice A0_2 l0_2.length c0_2) := (blk_cell BK535.out 2).trans rfl; have hfz130_0 := blk_frozen BK535.out 0; have hfz130_1 := blk_frozen BK535.out 1; have hfz130_2 := blk_frozen BK535.out 2) | ((with_reducible refine gate_callee (f := 18) rfl ?_); refine goesL_ (some 34) rfl rfl Try.func18 (by kernel_rfl) rfl #[.agg #[.slice A0_0 l0_0.length c0_0, .slice A0_1 l0_1.length c0_1, .slice A0_2 l0_2.length c0_2]] rfl ma_ ?_; (with_reducible refine (speculumref06_CheckMap.calls k _ _ l0_0 _ _ l0_1 _ _ l0_2 t568 _ ?side1 ?side2 ?side3 ?side4 ?side5 ?side6 A10.out).mono ?_); (case side1 => exact Kd.C_below HR0_0.out (hb_ HB)); (case side2 => exact HC0_0.out); (case side3 => exact Kd.C_below HR0_1.out (hb_ HB)); (case side4 => exact HC0_1.out); (case side5 => exact Kd.C_below HR0_2.out (hb_ HB)); (case side6 => exact HC0_2.out); rintro e w131 ⟨rfl, hb⟩; refine ⟨_, rfl, ?_⟩; have n0_ := Aside0.mk (Kd.R_below (by (with_reducible repeat (first | apply Kd.R_alloc | apply Kd.R_drewN | apply Kd.R_drew)); exact (Kd.R_mono (Kd.R_far (p := ⟨gb567, 1, none⟩) (Kd.R_far (p := ⟨gb567, 0, none⟩) (Kd.R_types HO540.out BK567.out di_) (fun _ hk => hk.2) (.int .i64 t564)) (fun _ hk => hk.2) (.int .i64 t565)) (fun _ h_ => h_.1))) hb); have n1_ := Aside0.mk (Kd.R_below (by (with_reducible repeat (first | apply Kd.R_alloc | apply Kd.R_drewN | apply Kd.R_drew)); exact (Kd.R_mono (Kd.R_far (p := ⟨gb567, 1, none⟩) (Kd.R_far (p := ⟨gb567, 0, none⟩) (Kd.R_types HO543.out BK567.out di_) (fun _ hk => hk.2) (.int .i64 t564)) (fun _ hk => hk.2) (.int .i64 t565)) (fun _ h_ => h_.1))) hb); have n2_ := Aside0.mk (Kd.R_below (by (with_reducible repeat (first | apply Kd.R_alloc | apply Kd.R_drewN | apply Kd.R_drew)); exact (Kd.R_mono (Kd.R_far (p := ⟨gb567, 1, none⟩) (Kd.R_far (p := ⟨gb567, 0, none⟩) (Kd.R_types HO546.out BK567.out di_) (fun _ hk => hk.2) (.int .i64 t564)) (fun _ hk => hk.2) (.int .i64 t565)) (fun _ h_ => h_.1))) hb); have n3_ := Aside0.mk (Kd.R_below (by (with_reducible repeat (first | apply Kd.R_alloc | apply Kd.R_drewN | apply Kd.R_drew)); exact (Kd.R_mono (Kd.R_far (p := ⟨gb567, 1, none⟩) (Kd.R_far (p := ⟨gb567, 0, none⟩) (Kd.R_types HO557.out BK567.out di_) (fun _ hk => hk.2) (.int .i64 t564)) (fun _ hk => hk.2) (.int .i64 t565)) (fun _ h_ => h_.1))) hb); have n4_ := Aside0.mk (Kd.R_below (by (with_reducible repeat (first | apply Kd.R_alloc | apply Kd.R_drewN | apply Kd.R_drew)); exact (Kd.R_mono (Kd.R_far (p := ⟨gb567, 1, none⟩) (Kd.R_far (p := ⟨gb567, 0, none⟩) (Kd.R_types HO560.out BK567.out di_) (fun _ hk => hk.2) (.int .i64 t564)) (fun _ hk => hk.2) (.int .i64 t565)) (fun _ h_ => h_.1))) hb); have n5_ := Aside0.mk (Kd.R_below (by (with_reducible repeat (first | apply Kd.R_alloc | apply Kd.R_drewN | apply Kd.R_drew)); exact (Kd.R_mono (Kd.R_far (p := ⟨gb567, 1, none⟩) (Kd.R_far (p := ⟨gb567, 0, none⟩) (Kd.R_types HO563.out BK567.out di_) (fun _ hk => hk.2) (.int .i64 t564)) (fun _ hk => hk.2) (.int .i64 t565)) (fun _ h_ => h_.1))) hb); have n6_ := Aside0.mk (blk_below (g := gb535) (o := .cells #[.slice A0_0 l0_0.length c0_0, .slice A0_1 l0_1.length c0_1, .slice A0_2 l0_2.length c0_2] 24 (0, 0)) (by (with_reducible repeat (first | refine blk_drewN ?_ _ | refine blk_drew ?_ | refine blk_alloc ?_ _)); refine blk_far ?_ NB535_567.out _; (with_reducible repeat (first | refine blk_drewN ?_ _ | refine blk_drew ?_ | refine blk_alloc ?_ _)); refine blk_far ?_ NB535_567.out _; (with_reducible repeat (first | refine blk_drewN ?_ _ | refine blk_drew ?_ | refine blk_alloc ?_ _)); exact BK535.out) hb); have n7_ := Aside0.mk (blk_below (g := gb554) (o := .cells #[.int .i64 t547, .int .i64 t548, .int .i64 t549, .int .i64 t550, .int .i64 t551, .int .i64 t552] 50 (0, 0)) (by (with_reducible repeat (first | refine blk_drewN ?_ _ | refine blk_drew ?_ | refine blk_alloc ?_ _)); refine blk_far ?_ NB554_567.out _; (with_reducible repeat (first | refine blk_drewN ?_ _ | refine blk_drew ?_ | refine blk_alloc ?_ _)); refine blk_far ?_ NB554_567.out _; (with_reducible repeat (first | refine blk_drewN ?_ _ | refine blk_drew ?_ | refine blk_alloc ?_ _)); exact BK554.out) hb); have n8_ := Aside0.mk (blk_below (g := gb567) (o := .cells #[.int .i64 t564, .int .i64 t565] 28 (0, 0)) (by (with_reducible repeat (first | refine blk_drewN ?_ _ | refine blk_drew ?_ | refine blk_alloc ?_ _)); refine blk_put (cs := #[.int .i64 t564, .int .i64 0]) ?_ 1 _ rfl; (with_reducible repeat (first | refine blk_drewN ?_ _ | refine blk_drew ?_ | refine blk_alloc ?_ _)); refine blk_put (cs := #[.int .i64 0, .int .i64 0]) ?_ 0 _ rfl; (with_reducible repeat (first | refine blk_drewN ?_ _ | refine blk_drew ?_ | refine blk_alloc ?_ _)); exact BK567.out) hb); have n9_ := Aside0.mk (below_step (hb_ HB) hb); clear HO540; clear HO543; clear HO546; clear HO557; clear HO560; clear HO563; clear BK535; clear BK554; clear BK567; clear HB; have HO540 := n0_; have HO543 := n1_; have HO546 := n2_; have HO557 := n3_; have HO560 := n4_; have HO563 := n5_; have BK535 := n6_; have BK554 := n7_; have BK567 := n8_; have HB := n9_; clear n0_ n1_ n2_ n3_ n4_ n5_ n6_ n7_ n8_ n9_; (try clear hb); (try clear hb2); (try clear hk); (try clear hi); have hcz132_0 : w131.cell? ⟨gb554, 0, none⟩ = some (.int .i64 t547) := (blk_cell BK554.out 0).trans rfl; have hcz132_1 : w131.cell? ⟨gb554, 1, none⟩ = some (.int .i64 t548) := (blk_cell BK554.out 1).trans rfl; have hcz132_2 : w131.cell? ⟨gb554, 2, none⟩ = some (.int .i64 t549) := (blk_cell BK554.out 2).trans rfl; have hcz132_3 : w131.cell? ⟨gb554, 3, none⟩ = some (.int .i64 t550) := (blk_cell BK554.out 3).trans rfl; have hcz132_4 : w131.cell? ⟨gb554, 4, none⟩ = some (.int .i64 t551) := (blk_cell BK554.out 4).trans rfl; have hcz132_5 : w131.cell? ⟨gb554, 5, none⟩ = some (.int .i64 t552) := (blk_cell BK554.out 5).trans rfl; have hfz132_0 := blk_frozen BK554.out 0; have hfz132_1 := blk_frozen BK554.out 1; have hfz132_2 := blk_frozen BK554.out 2; have hfz132_3 := blk_frozen BK554.out 3; have hfz132_4 := blk_frozen BK554.out 4; have hfz132_5 := blk_frozen BK554.out 5) | (go_at_call 39; (with_reducible refine (speculumlaw06_none.calls t547 t548 t549 t550 t551 t552 true _ A105.out).mono ?_); rintro e w133 ⟨rfl, hb⟩; have n0_ := Aside0.mk (Kd.R_below (rk_ HO540) hb); have n1_ := Aside0.mk (Kd.R_below (rk_ HO543) hb); have n2_ := Aside0.mk (Kd.R_below (rk_ HO546) hb); have n3_ := Aside0.mk (Kd.R_below (rk_ HO557) hb); have n4_ := Aside0.mk (Kd.R_below (rk_ HO560) hb); have n5_ := Aside0.mk (Kd.R_below (rk_ HO563) hb); have n6_ := Aside0.mk (bb_ BK535 hb); have n7_ := Aside0.mk (bb_ BK554 hb); have n8_ := Aside0.mk (bb_ BK567 hb); have n9_ := Aside0.mk (below_step (hb_ HB) hb); clear HO540; clear HO543; clear HO546; clear HO557; clear HO560; clear HO563; clear BK535; clear BK554; clear BK567; clear HB; have HO540 := n0_; have HO543 := n1_; have HO546 := n2_; have HO557 := n3_; have HO560 := n4_; have HO563 := n5_; have BK535 := n6_; have BK554 := n7_; have BK567 := n8_; have HB := n9_; clear n0_ n1_ n2_ n3_ n4_ n5_ n6_ n7_ n8_ n9_; (try clear hb); (try clear hb2); (try clear hk); (try clear hi); have hcz134_0 : w133.cell? ⟨gb567, 0, none⟩ = some (.int .i64 t564) := (blk_cell BK567.out 0).trans rfl; have hcz134_1 : w133.cell? ⟨gb567, 1, none⟩ = some (.int .i64 t565) := (blk_cell BK567.out 1).trans rfl; have hfz134_0 := blk_frozen BK567.out 0; have hfz134_1 := blk_frozen BK567.out 1))
       go_ret
       exact ⟨ew_, hb_ HB⟩
      ·replace c106 := Bool.eq_false_iff.mpr c106
       subst c106
       have H1 : (some false) = some r := by rw [if_neg (show ¬ (false = true) by decide)] at H; exact H
       clear H
       have H := H1
       clear H1
       exact absurd (Option.some.inj H) (by rw [hr_]; decide)
     ·rw [if_neg c104] at H
      have c104b0 : (t566 == t568) = false := beq_eq_false_iff_ne.mpr c104
      have c104b1 : (t566 != t568) = true := bne_iff_ne.mpr c104
      exact absurd (Option.some.inj H) (by rw [hr_]; decide)
    ·rw [if_neg c103] at H
     have c103b0 : (t553 == t568) = false := beq_eq_false_iff_ne.mpr c103
     have c103b1 : (t553 != t568) = true := bne_iff_ne.mpr c103
     exact absurd (Option.some.inj H) (by rw [hr_]; decide)
  ·replace c5 := Bool.eq_false_iff.mpr c5
   subst c5
   have H1 : (some true) = some r := by rw [if_neg (show ¬ (false = true) by decide)] at H; exact H
   clear H
   have H := H1
   clear H1
   obtain rfl := Option.some.inj H
   go_enter Try.func7, Try.ntmps7
   go_wp2_with (first | ((with_reducible refine gate_dst (N := 1) rfl ?_); refine box_event ?hg (N := 1) ?hd (cs := #[.slice A0_0 l0_0.length c0_0, .slice A0_1 l0_1.length c0_1, .slice A0_2 l0_2.length c0_2]) (t := 24) ?hr ?_; (case hd => rfl); (case hg => rfl); (case hr => exact gr_); intro gb535 hg w212 hbox hb; have n0_ := Aside0.mk (below_step (hb_ HB) hb); have n1_ := Aside0.mk (hbox); have n2_ := Aside0.mk ((hz_ HB hg)); have n3_ := Aside0.mk ((hz_ HB hg)); clear HB; have HB := n0_; have BK535 := n1_; have GW535 := n2_; have GE535 := n3_; clear n0_ n1_ n2_ n3_; clear hb hbox hg) | ((with_reducible refine gate_callee (f := 14) rfl ?_); refine goesL_ (some 16) rfl rfl Try.func14 (by kernel_rfl) rfl #[] rfl ma_ ?_; (with_reducible refine (speculumlaw06_awake.calls k  true _ rfl A2.out).mono ?_); rintro e w213 ⟨rfl, hb⟩; refine ⟨_, rfl, ?_⟩; have n0_ := Aside0.mk (bb_ BK535 hb); have n1_ := Aside0.mk (below_step (hb_ HB) hb); clear BK535; clear HB; have BK535 := n0_; have HB := n1_; clear n0_ n1_; (try clear hb); (try clear hb2); (try clear hk); (try clear hi); have hcz214_0 : w213.cell? ⟨gb535, 0, none⟩ = some (.slice A0_0 l0_0.length c0_0) := (blk_cell BK535.out 0).trans rfl; have hcz214_1 : w213.cell? ⟨gb535, 1, none⟩ = some (.slice A0_1 l0_1.length c0_1) := (blk_cell BK535.out 1).trans rfl; have hcz214_2 : w213.cell? ⟨gb535, 2, none⟩ = some (.slice A0_2 l0_2.length c0_2) := (blk_cell BK535.out 2).trans rfl; have hfz214_0 := blk_frozen BK535.out 0; have hfz214_1 := blk_frozen BK535.out 1; have hfz214_2 := blk_frozen BK535.out 2) | ((with_reducible refine gate_callee (f := 15) rfl ?_); refine goesL_ (some 19) rfl rfl Try.func15 (by kernel_rfl) rfl #[.agg #[.slice A0_0 l0_0.length c0_0, .slice A0_1 l0_1.length c0_1, .slice A0_2 l0_2.length c0_2]] rfl ma_ ?_; (with_reducible refine (speculumlaw06_Few.calls _ _ l0_0 _ _ l0_1 _ _ l0_2 false _ ?side1 ?side2 ?side3 ?side4 ?side5 ?side6 A4.out).mono ?_); (case side1 => exact cb_ (Kd.C_below HR0_0.out HB.out)); (case side2 => exact HC0_0.out); (case side3 => exact cb_ (Kd.C_below HR0_1.out HB.out)); (case side4 => exact HC0_1.out); (case side5 => exact cb_ (Kd.C_below HR0_2.out HB.out)); (case side6 => exact HC0_2.out); rintro e w215 ⟨rfl, hb⟩; refine ⟨_, rfl, ?_⟩; have n0_ := Aside0.mk (bb_ BK535 hb); have n1_ := Aside0.mk (below_step (hb_ HB) hb); clear BK535; clear HB; have BK535 := n0_; have HB := n1_; clear n0_ n1_; (try clear hb); (try clear hb2); (try clear hk); (try clear hi)))
   go_ret
   exact ⟨ew_, hb_ HB⟩
 ·replace c3 := Bool.eq_false_iff.mpr c3
  subst c3
  have H1 : (some false) = some r := by rw [if_neg (show ¬ (false = true) by decide)] at H; exact H
  clear H
  have H := H1
  clear H1
  exact absurd (Option.some.inj H) (by rw [hr_]; decide)
end Go.Proofs.Ytdkahcolfcmmpaa.Pr
set_option linter.unusedVariables false
namespace Go.Proofs.Ytdkahcolfcmmpaa.Pure
open Go.RowKit Go.Proofs.Ytdkahcolfcmmpaa.Pr Go.Proofs.YtdkahcolfcmmpaaW.PrintWords Go.Proofs.YtdkahcolfcmmpaaW.PrintLast Go.Proofs.YtdkahcolfcmmpaaW.PrintMore
set_option maxRecDepth 100000 in
theorem awake60 : speculumlaw06_awake.f 60 = some true := by kernel_rfl
theorem awake_ev : Ev (fun k => speculumlaw06_awake.f k) true := Ev.of (fun k => speculumlaw06_awake.mono k) awake60
theorem w64 {n : Int} (h0 : -9223372036854775808 ≤ n) (h1 : n ≤ 9223372036854775807) : wrap64 n = n := by unfold wrap64; omega
theorem wi {i : Nat} (h : i ≤ 100000) : wrap64 ((i : Int) + 1) = ((i + 1 : Nat) : Int) := by rw [w64 (by omega) (by omega)]; omega
theorem rdn (l : List Int) (j : Nat) : rd l (j : Int) = l.getD j 0 := rfl
theorem Ev.s {α : Type} {g : Nat → Option α} {r : α} (h : Ev (fun k => g (k + 1)) r) : Ev g r := Ev.step (fun _ => rfl) h
theorem Ev.c {α : Type} {v r : α} (h : v = r) : Ev (fun _ => some v) r := h ▸ Ev.now v
theorem n0 (i : Nat) : (0 : Int) ≤ (i : Int) := Int.natCast_nonneg i
def inB (a b c : Int) : Bool := decide (b ≤ a) && decide (a ≤ c)
theorem inB_iff {a b c : Int} : inB a b c = true ↔ b ≤ a ∧ a ≤ c := by simp [inB]
theorem within_eq (a b c : Int) : figure_within.f a b c = some (inB a b c) := by
  unfold figure_within.f inB
  by_cases h : b ≤ a
  · rw [if_pos h, decide_eq_true h, Bool.true_and]
  · rw [if_neg h, decide_eq_false h, Bool.false_and]
theorem Within_eq (a b c : Int) : speculumbase_Within.f a b c = some (inB a b c) := by
  unfold speculumbase_Within.f inB
  by_cases h : b ≤ a
  · rw [if_pos h, decide_eq_true h, Bool.true_and]
  · rw [if_neg h, decide_eq_false h, Bool.false_and]
theorem isHeight_eq (a : Int) : speculumref06_isHeight.f a = some (inB a (-100000) 100000) := by
  unfold speculumref06_isHeight.f; rw [Within_eq]; rfl
theorem copy_eq (l : List Int) (h : l.length ≤ 100000) : speculumbase_CopyInts.f l = some l := by
  unfold speculumbase_CopyInts.f
  rw [Option.bind_some, if_pos (by simp only [List.length_nil]; omega), List.nil_append]
def hV (l : List Int) : Int := if 1 ≤ l.length ∧ l.length ≤ 40 then (if l.all (fun x => inB x (-100000) 100000) then 0 else 2) else 10
end Go.Proofs.Ytdkahcolfcmmpaa.Pure
