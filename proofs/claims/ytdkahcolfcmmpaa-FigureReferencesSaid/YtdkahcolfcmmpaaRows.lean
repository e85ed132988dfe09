/-
  No cell of these rows narrows 'for every input' (looked for: loops, veiled, ifaces, maps, wideKeys, modest, calm, conditions, laid).
  DERIVED. THE GIVEN ROWS OF THIS SEAT. 11 by the template 'for every input the law returns true; each argument reads behind the call as it read before'; 0 by the template 'total and deterministic' (their statements: YtdkahcolfcmmpaaTotals.lean).
  GIVEN WITH THE SEED: the statements are not yours to turn. If you find one false, say at which input.
  Laid BY PROGRAM, IN A SANDBOX (cutbox-rows.mjs): the forced cells as the released guide's own fill.sh prints them over the translation 15b47e0c1aa97f3d… (all of the seat's roots in one cut). By AI agents, Wed Nov 11 2026. No macro, syntax, notation, axiom, sorry.
-/
import Derived.Test.YtdkahcolfcmmpaaChecked
import GoSem.Claim
import GoSem.ClaimJoined
import GoSem.ClaimMapViews
import Derived.JoinedTies
import Derived.KernelRfl
namespace Go.Proofs.Ytdkahcolfcmmpaa
/- THE CELL 'sum', in the pinned program and in every row, IS THE sha256 OF THE DUMP (.gsa) THAT YtdkahcolfcmmpaaProg.lean LOADS. Nothing in Lean hashes anything: it is a label: what it is worth is what the hold of that sum in a sandbox is worth. -/
noncomputable def Try.pinned : Pinned := { name := "ytdkahcolfcmmpaa", sum := "15b47e0c1aa97f3dae6ab5a6ae21a1e71d321e539595b80976fbdc3f7b10804c", checked := Try.checked }
namespace Rows
def none {H : Type} : Left H := { results := [], args := [] }

/-- 'speculumlaw06.FigureMaps': WHATEVER THE INPUT: true; the input reads as it did. -/
def figureMapsSpec : ChangeSpec := { name := "figureMaps", fn := fun _ => fun
  | [d] => { results := [.lit (.bool true)], args := [d] }
  | _ => none }
def figureMapsRow : OpenClaim := { program := "ytdkahcolfcmmpaa", sum := "15b47e0c1aa97f3dae6ab5a6ae21a1e71d321e539595b80976fbdc3f7b10804c", func := "speculum/speculumlaw06.FigureMaps", spec := "figureMaps", unfollowed := true, recurses := true, apart := false }
def FigureMapsSaid : Prop := figureMapsRow.holds Try.pinned (OpenSpec.ofChange figureMapsSpec)

/-- ITS FALSE NEIGHBOUR: 'it returns false'. Refute it at one input. -/
def figureMapsWrong : ChangeSpec := { name := "figureMaps", fn := fun _ => fun
  | [d] => { results := [.lit (.bool false)], args := [d] }
  | _ => none }
def FigureMapsWrongFalsely : Prop := figureMapsRow.holds Try.pinned (OpenSpec.ofChange figureMapsWrong)

/-- 'speculumlaw06.FigureRanges': WHATEVER THE INPUT: true; the input reads as it did. -/
def figureRangesSpec : ChangeSpec := { name := "figureRanges", fn := fun _ => fun
  | [d1, d2] => { results := [.lit (.bool true)], args := [d1, d2] }
  | _ => none }
def figureRangesRow : OpenClaim := { program := "ytdkahcolfcmmpaa", sum := "15b47e0c1aa97f3dae6ab5a6ae21a1e71d321e539595b80976fbdc3f7b10804c", func := "speculum/speculumlaw06.FigureRanges", spec := "figureRanges", unfollowed := true, recurses := true, apart := false }
def FigureRangesSaid : Prop := figureRangesRow.holds Try.pinned (OpenSpec.ofChange figureRangesSpec)

/-- ITS FALSE NEIGHBOUR: 'it returns false'. Refute it at one input. -/
def figureRangesWrong : ChangeSpec := { name := "figureRanges", fn := fun _ => fun
  | [d1, d2] => { results := [.lit (.bool false)], args := [d1, d2] }
  | _ => none }
def FigureRangesWrongFalsely : Prop := figureRangesRow.holds Try.pinned (OpenSpec.ofChange figureRangesWrong)

/-- 'speculumlaw06.FigureLeast': WHATEVER THE INPUT: true; the input reads as it did. -/
def figureLeastSpec : ChangeSpec := { name := "figureLeast", fn := fun _ => fun
  | [d1, d2] => { results := [.lit (.bool true)], args := [d1, d2] }
  | _ => none }
def figureLeastRow : OpenClaim := { program := "ytdkahcolfcmmpaa", sum := "15b47e0c1aa97f3dae6ab5a6ae21a1e71d321e539595b80976fbdc3f7b10804c", func := "speculum/speculumlaw06.FigureLeast", spec := "figureLeast", unfollowed := true, recurses := true, apart := false }
def FigureLeastSaid : Prop := figureLeastRow.holds Try.pinned (OpenSpec.ofChange figureLeastSpec)

/-- ITS FALSE NEIGHBOUR: 'it returns false'. Refute it at one input. -/
def figureLeastWrong : ChangeSpec := { name := "figureLeast", fn := fun _ => fun
  | [d1, d2] => { results := [.lit (.bool false)], args := [d1, d2] }
  | _ => none }
def FigureLeastWrongFalsely : Prop := figureLeastRow.holds Try.pinned (OpenSpec.ofChange figureLeastWrong)

/-- 'speculumlaw06.FigureDecides': WHATEVER THE INPUT: true; the input reads as it did. -/
def figureDecidesSpec : ChangeSpec := { name := "figureDecides", fn := fun _ => fun
  | [d1, d2] => { results := [.lit (.bool true)], args := [d1, d2] }
  | _ => none }
def figureDecidesRow : OpenClaim := { program := "ytdkahcolfcmmpaa", sum := "15b47e0c1aa97f3dae6ab5a6ae21a1e71d321e539595b80976fbdc3f7b10804c", func := "speculum/speculumlaw06.FigureDecides", spec := "figureDecides", unfollowed := true, recurses := true, apart := false }
def FigureDecidesSaid : Prop := figureDecidesRow.holds Try.pinned (OpenSpec.ofChange figureDecidesSpec)

/-- ITS FALSE NEIGHBOUR: 'it returns false'. Refute it at one input. -/
def figureDecidesWrong : ChangeSpec := { name := "figureDecides", fn := fun _ => fun
  | [d1, d2] => { results := [.lit (.bool false)], args := [d1, d2] }
  | _ => none }
def FigureDecidesWrongFalsely : Prop := figureDecidesRow.holds Try.pinned (OpenSpec.ofChange figureDecidesWrong)

/-- 'speculumlaw06.FigureReferences': WHATEVER THE INPUT: true; the input reads as it did. -/
def figureReferencesSpec : ChangeSpec := { name := "figureReferences", fn := fun _ => fun
  | [d] => { results := [.lit (.bool true)], args := [d] }
  | _ => none }
def figureReferencesRow : OpenClaim := { program := "ytdkahcolfcmmpaa", sum := "15b47e0c1aa97f3dae6ab5a6ae21a1e71d321e539595b80976fbdc3f7b10804c", func := "speculum/speculumlaw06.FigureReferences", spec := "figureReferences", unfollowed := true, recurses := true, apart := false }
def FigureReferencesSaid : Prop := figureReferencesRow.holds Try.pinned (OpenSpec.ofChange figureReferencesSpec)

/-- ITS FALSE NEIGHBOUR: 'it returns false'. Refute it at one input. -/
def figureReferencesWrong : ChangeSpec := { name := "figureReferences", fn := fun _ => fun
  | [d] => { results := [.lit (.bool false)], args := [d] }
  | _ => none }
def FigureReferencesWrongFalsely : Prop := figureReferencesRow.holds Try.pinned (OpenSpec.ofChange figureReferencesWrong)

/-- 'speculumlaw06.FigureRemains': WHATEVER THE INPUT: true; the input reads as it did. -/
def figureRemainsSpec : ChangeSpec := { name := "figureRemains", fn := fun _ => fun
  | [d1, d2] => { results := [.lit (.bool true)], args := [d1, d2] }
  | _ => none }
def figureRemainsRow : OpenClaim := { program := "ytdkahcolfcmmpaa", sum := "15b47e0c1aa97f3dae6ab5a6ae21a1e71d321e539595b80976fbdc3f7b10804c", func := "speculum/speculumlaw06.FigureRemains", spec := "figureRemains", unfollowed := true, recurses := true, apart := false }
def FigureRemainsSaid : Prop := figureRemainsRow.holds Try.pinned (OpenSpec.ofChange figureRemainsSpec)

/-- ITS FALSE NEIGHBOUR: 'it returns false'. Refute it at one input. -/
def figureRemainsWrong : ChangeSpec := { name := "figureRemains", fn := fun _ => fun
  | [d1, d2] => { results := [.lit (.bool false)], args := [d1, d2] }
  | _ => none }
def FigureRemainsWrongFalsely : Prop := figureRemainsRow.holds Try.pinned (OpenSpec.ofChange figureRemainsWrong)

/-- 'speculumlaw06.FigureLines': WHATEVER THE INPUT: true; the input reads as it did. -/
def figureLinesSpec : ChangeSpec := { name := "figureLines", fn := fun _ => fun
  | [d1, d2] => { results := [.lit (.bool true)], args := [d1, d2] }
  | _ => none }
def figureLinesRow : OpenClaim := { program := "ytdkahcolfcmmpaa", sum := "15b47e0c1aa97f3dae6ab5a6ae21a1e71d321e539595b80976fbdc3f7b10804c", func := "speculum/speculumlaw06.FigureLines", spec := "figureLines", unfollowed := true, recurses := true, apart := false }
def FigureLinesSaid : Prop := figureLinesRow.holds Try.pinned (OpenSpec.ofChange figureLinesSpec)

/-- ITS FALSE NEIGHBOUR: 'it returns false'. Refute it at one input. -/
def figureLinesWrong : ChangeSpec := { name := "figureLines", fn := fun _ => fun
  | [d1, d2] => { results := [.lit (.bool false)], args := [d1, d2] }
  | _ => none }
def FigureLinesWrongFalsely : Prop := figureLinesRow.holds Try.pinned (OpenSpec.ofChange figureLinesWrong)

/-- 'speculumlaw06.FigureSessions': WHATEVER THE INPUT: true; the input reads as it did. -/
def figureSessionsSpec : ChangeSpec := { name := "figureSessions", fn := fun _ => fun
  | [d1, d2, d3] => { results := [.lit (.bool true)], args := [d1, d2, d3] }
  | _ => none }
def figureSessionsRow : OpenClaim := { program := "ytdkahcolfcmmpaa", sum := "15b47e0c1aa97f3dae6ab5a6ae21a1e71d321e539595b80976fbdc3f7b10804c", func := "speculum/speculumlaw06.FigureSessions", spec := "figureSessions", unfollowed := true, recurses := true, apart := false }
def FigureSessionsSaid : Prop := figureSessionsRow.holds Try.pinned (OpenSpec.ofChange figureSessionsSpec)

/-- ITS FALSE NEIGHBOUR: 'it returns false'. Refute it at one input. -/
def figureSessionsWrong : ChangeSpec := { name := "figureSessions", fn := fun _ => fun
  | [d1, d2, d3] => { results := [.lit (.bool false)], args := [d1, d2, d3] }
  | _ => none }
def FigureSessionsWrongFalsely : Prop := figureSessionsRow.holds Try.pinned (OpenSpec.ofChange figureSessionsWrong)

/-- 'speculumlaw06.FigureTimes': WHATEVER THE INPUT: true; the input reads as it did. -/
def figureTimesSpec : ChangeSpec := { name := "figureTimes", fn := fun _ => fun
  | [d1, d2, d3] => { results := [.lit (.bool true)], args := [d1, d2, d3] }
  | _ => none }
def figureTimesRow : OpenClaim := { program := "ytdkahcolfcmmpaa", sum := "15b47e0c1aa97f3dae6ab5a6ae21a1e71d321e539595b80976fbdc3f7b10804c", func := "speculum/speculumlaw06.FigureTimes", spec := "figureTimes", unfollowed := true, recurses := true, apart := false }
def FigureTimesSaid : Prop := figureTimesRow.holds Try.pinned (OpenSpec.ofChange figureTimesSpec)

/-- ITS FALSE NEIGHBOUR: 'it returns false'. Refute it at one input. -/
def figureTimesWrong : ChangeSpec := { name := "figureTimes", fn := fun _ => fun
  | [d1, d2, d3] => { results := [.lit (.bool false)], args := [d1, d2, d3] }
  | _ => none }
def FigureTimesWrongFalsely : Prop := figureTimesRow.holds Try.pinned (OpenSpec.ofChange figureTimesWrong)

/-- 'speculumlaw06.FigureFewest': WHATEVER THE INPUT: true; the input reads as it did. -/
def figureFewestSpec : ChangeSpec := { name := "figureFewest", fn := fun _ => fun
  | [d1, d2, d3] => { results := [.lit (.bool true)], args := [d1, d2, d3] }
  | _ => none }
def figureFewestRow : OpenClaim := { program := "ytdkahcolfcmmpaa", sum := "15b47e0c1aa97f3dae6ab5a6ae21a1e71d321e539595b80976fbdc3f7b10804c", func := "speculum/speculumlaw06.FigureFewest", spec := "figureFewest", unfollowed := true, recurses := true, apart := false }
def FigureFewestSaid : Prop := figureFewestRow.holds Try.pinned (OpenSpec.ofChange figureFewestSpec)

/-- ITS FALSE NEIGHBOUR: 'it returns false'. Refute it at one input. -/
def figureFewestWrong : ChangeSpec := { name := "figureFewest", fn := fun _ => fun
  | [d1, d2, d3] => { results := [.lit (.bool false)], args := [d1, d2, d3] }
  | _ => none }
def FigureFewestWrongFalsely : Prop := figureFewestRow.holds Try.pinned (OpenSpec.ofChange figureFewestWrong)

/-- 'speculumlaw06.FigureSquares': WHATEVER THE INPUT: true; the input reads as it did. -/
def figureSquaresSpec : ChangeSpec := { name := "figureSquares", fn := fun _ => fun
  | [d] => { results := [.lit (.bool true)], args := [d] }
  | _ => none }
def figureSquaresRow : OpenClaim := { program := "ytdkahcolfcmmpaa", sum := "15b47e0c1aa97f3dae6ab5a6ae21a1e71d321e539595b80976fbdc3f7b10804c", func := "speculum/speculumlaw06.FigureSquares", spec := "figureSquares", unfollowed := true, recurses := true, apart := false }
def FigureSquaresSaid : Prop := figureSquaresRow.holds Try.pinned (OpenSpec.ofChange figureSquaresSpec)

/-- ITS FALSE NEIGHBOUR: 'it returns false'. Refute it at one input. -/
def figureSquaresWrong : ChangeSpec := { name := "figureSquares", fn := fun _ => fun
  | [d] => { results := [.lit (.bool false)], args := [d] }
  | _ => none }
def FigureSquaresWrongFalsely : Prop := figureSquaresRow.holds Try.pinned (OpenSpec.ofChange figureSquaresWrong)

/- THE SECOND FORM. 'bulk': how many values and letters a reading holds, each counted each time it is reached (what is shared counts as often as it is met; a slice's spare places count too). A statement '..UptoSaid' is the law's where the arguments, and the package variables that the reading takes, are together of bulk at most 1048576: NARROWER than '..Said'. Prove '..Said' where nothing that the law and all that it calls make is longer than what came in: it says more and counts as full. Else prove '..UptoSaid'. A law counts once. -/
mutual
def uptoBulk {H : Type} : DataW H → Nat
  | .lit (.string bytes) => bytes.length + 1
  | .lit _ => 1
  | .nil => 1
  | .ptr d => uptoBulk d + 1
  | .slice elems spare => uptoBulkAll elems + uptoBulkAll spare + 1
  | .agg parts => uptoBulkAll parts + 1
  | .iface _ d => uptoBulk d + 1
  | .map entries => uptoBulkEntries entries + 1
  | .held _ => 1
def uptoBulkAll {H : Type} : List (DataW H) → Nat
  | [] => 0
  | d :: r => uptoBulk d + uptoBulkAll r
def uptoBulkEntries {H : Type} : List (Lit × DataW H) → Nat
  | [] => 0
  | x :: r => uptoBulkEntry x + uptoBulkEntries r
def uptoBulkEntry {H : Type} : Lit × DataW H → Nat
  | (.string bytes, d) => bytes.length + uptoBulk d + 1
  | (_, d) => uptoBulk d + 1
 end
def uptoSmall : (H : Type) → List (DataW H) → Bool := fun _ ds => decide (uptoBulkAll ds ≤ 1048576)
def OpenSpec.upto (s : _root_.Go.ChangeSpec) : _root_.Go.OpenSpec := { _root_.Go.OpenSpec.ofChange s with cond := some uptoSmall }

/-- 'speculumlaw06.FigureMaps', WHERE WHAT IT READS IS OF BULK AT MOST 1048576: true; the input reads as it did. -/
def figureMapsUptoRow : OpenClaim := { program := "ytdkahcolfcmmpaa", sum := "15b47e0c1aa97f3dae6ab5a6ae21a1e71d321e539595b80976fbdc3f7b10804c", func := "speculum/speculumlaw06.FigureMaps", spec := "figureMaps", unfollowed := true, recurses := true, apart := false, narrowed := true }
def FigureMapsUptoSaid : Prop := figureMapsUptoRow.holds Try.pinned (OpenSpec.upto figureMapsSpec)

/-- 'speculumlaw06.FigureRanges', WHERE WHAT IT READS IS OF BULK AT MOST 1048576: true; the input reads as it did. -/
def figureRangesUptoRow : OpenClaim := { program := "ytdkahcolfcmmpaa", sum := "15b47e0c1aa97f3dae6ab5a6ae21a1e71d321e539595b80976fbdc3f7b10804c", func := "speculum/speculumlaw06.FigureRanges", spec := "figureRanges", unfollowed := true, recurses := true, apart := false, narrowed := true }
def FigureRangesUptoSaid : Prop := figureRangesUptoRow.holds Try.pinned (OpenSpec.upto figureRangesSpec)

/-- 'speculumlaw06.FigureLeast', WHERE WHAT IT READS IS OF BULK AT MOST 1048576: true; the input reads as it did. -/
def figureLeastUptoRow : OpenClaim := { program := "ytdkahcolfcmmpaa", sum := "15b47e0c1aa97f3dae6ab5a6ae21a1e71d321e539595b80976fbdc3f7b10804c", func := "speculum/speculumlaw06.FigureLeast", spec := "figureLeast", unfollowed := true, recurses := true, apart := false, narrowed := true }
def FigureLeastUptoSaid : Prop := figureLeastUptoRow.holds Try.pinned (OpenSpec.upto figureLeastSpec)

/-- 'speculumlaw06.FigureDecides', WHERE WHAT IT READS IS OF BULK AT MOST 1048576: true; the input reads as it did. -/
def figureDecidesUptoRow : OpenClaim := { program := "ytdkahcolfcmmpaa", sum := "15b47e0c1aa97f3dae6ab5a6ae21a1e71d321e539595b80976fbdc3f7b10804c", func := "speculum/speculumlaw06.FigureDecides", spec := "figureDecides", unfollowed := true, recurses := true, apart := false, narrowed := true }
def FigureDecidesUptoSaid : Prop := figureDecidesUptoRow.holds Try.pinned (OpenSpec.upto figureDecidesSpec)

/-- 'speculumlaw06.FigureReferences', WHERE WHAT IT READS IS OF BULK AT MOST 1048576: true; the input reads as it did. -/
def figureReferencesUptoRow : OpenClaim := { program := "ytdkahcolfcmmpaa", sum := "15b47e0c1aa97f3dae6ab5a6ae21a1e71d321e539595b80976fbdc3f7b10804c", func := "speculum/speculumlaw06.FigureReferences", spec := "figureReferences", unfollowed := true, recurses := true, apart := false, narrowed := true }
def FigureReferencesUptoSaid : Prop := figureReferencesUptoRow.holds Try.pinned (OpenSpec.upto figureReferencesSpec)

/-- 'speculumlaw06.FigureRemains', WHERE WHAT IT READS IS OF BULK AT MOST 1048576: true; the input reads as it did. -/
def figureRemainsUptoRow : OpenClaim := { program := "ytdkahcolfcmmpaa", sum := "15b47e0c1aa97f3dae6ab5a6ae21a1e71d321e539595b80976fbdc3f7b10804c", func := "speculum/speculumlaw06.FigureRemains", spec := "figureRemains", unfollowed := true, recurses := true, apart := false, narrowed := true }
def FigureRemainsUptoSaid : Prop := figureRemainsUptoRow.holds Try.pinned (OpenSpec.upto figureRemainsSpec)

/-- 'speculumlaw06.FigureLines', WHERE WHAT IT READS IS OF BULK AT MOST 1048576: true; the input reads as it did. -/
def figureLinesUptoRow : OpenClaim := { program := "ytdkahcolfcmmpaa", sum := "15b47e0c1aa97f3dae6ab5a6ae21a1e71d321e539595b80976fbdc3f7b10804c", func := "speculum/speculumlaw06.FigureLines", spec := "figureLines", unfollowed := true, recurses := true, apart := false, narrowed := true }
def FigureLinesUptoSaid : Prop := figureLinesUptoRow.holds Try.pinned (OpenSpec.upto figureLinesSpec)

/-- 'speculumlaw06.FigureSessions', WHERE WHAT IT READS IS OF BULK AT MOST 1048576: true; the input reads as it did. -/
def figureSessionsUptoRow : OpenClaim := { program := "ytdkahcolfcmmpaa", sum := "15b47e0c1aa97f3dae6ab5a6ae21a1e71d321e539595b80976fbdc3f7b10804c", func := "speculum/speculumlaw06.FigureSessions", spec := "figureSessions", unfollowed := true, recurses := true, apart := false, narrowed := true }
def FigureSessionsUptoSaid : Prop := figureSessionsUptoRow.holds Try.pinned (OpenSpec.upto figureSessionsSpec)

/-- 'speculumlaw06.FigureTimes', WHERE WHAT IT READS IS OF BULK AT MOST 1048576: true; the input reads as it did. -/
def figureTimesUptoRow : OpenClaim := { program := "ytdkahcolfcmmpaa", sum := "15b47e0c1aa97f3dae6ab5a6ae21a1e71d321e539595b80976fbdc3f7b10804c", func := "speculum/speculumlaw06.FigureTimes", spec := "figureTimes", unfollowed := true, recurses := true, apart := false, narrowed := true }
def FigureTimesUptoSaid : Prop := figureTimesUptoRow.holds Try.pinned (OpenSpec.upto figureTimesSpec)

/-- 'speculumlaw06.FigureFewest', WHERE WHAT IT READS IS OF BULK AT MOST 1048576: true; the input reads as it did. -/
def figureFewestUptoRow : OpenClaim := { program := "ytdkahcolfcmmpaa", sum := "15b47e0c1aa97f3dae6ab5a6ae21a1e71d321e539595b80976fbdc3f7b10804c", func := "speculum/speculumlaw06.FigureFewest", spec := "figureFewest", unfollowed := true, recurses := true, apart := false, narrowed := true }
def FigureFewestUptoSaid : Prop := figureFewestUptoRow.holds Try.pinned (OpenSpec.upto figureFewestSpec)

/-- 'speculumlaw06.FigureSquares', WHERE WHAT IT READS IS OF BULK AT MOST 1048576: true; the input reads as it did. -/
def figureSquaresUptoRow : OpenClaim := { program := "ytdkahcolfcmmpaa", sum := "15b47e0c1aa97f3dae6ab5a6ae21a1e71d321e539595b80976fbdc3f7b10804c", func := "speculum/speculumlaw06.FigureSquares", spec := "figureSquares", unfollowed := true, recurses := true, apart := false, narrowed := true }
def FigureSquaresUptoSaid : Prop := figureSquaresUptoRow.holds Try.pinned (OpenSpec.upto figureSquaresSpec)

end Rows
end Go.Proofs.Ytdkahcolfcmmpaa
