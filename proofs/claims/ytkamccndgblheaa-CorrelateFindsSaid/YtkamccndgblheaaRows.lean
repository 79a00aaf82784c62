/-
  No cell of these rows narrows 'for every input' (looked for: loops, veiled, ifaces, maps, wideKeys, modest, calm, conditions, laid).
  DERIVED. THE GIVEN ROWS OF THIS SEAT. 4 by the template 'for every input the law returns true; each argument reads behind the call as it read before'; 0 by the template 'total and deterministic' (their statements: YtkamccndgblheaaTotals.lean).
  GIVEN WITH THE SEED: the statements are not yours to turn. If you find one false, say at which input.
  Laid BY PROGRAM, IN A SANDBOX (cutbox-rows.mjs): the forced cells as the released guide's own fill.sh prints them over the translation c20d52163125a4ca… (all of the seat's roots in one cut). By AI agents, Wed Nov 11 2026. No macro, syntax, notation, axiom, sorry.
-/
import Derived.Test.YtkamccndgblheaaChecked
import GoSem.Claim
import GoSem.ClaimJoined
import GoSem.ClaimMapViews
import Derived.JoinedTies
import Derived.KernelRfl
namespace Go.Proofs.Ytkamccndgblheaa
/- THE CELL 'sum', in the pinned program and in every row, IS THE sha256 OF THE DUMP (.gsa) THAT YtkamccndgblheaaProg.lean LOADS. Nothing in Lean hashes anything: it is a label: what it is worth is what the hold of that sum in a sandbox is worth. -/
noncomputable def Try.pinned : Pinned := { name := "ytkamccndgblheaa", sum := "c20d52163125a4ca7a74af5fcaa6da962b614034bf0f76f001cfe8dc9c079060", checked := Try.checked }
namespace Rows
def none {H : Type} : Left H := { results := [], args := [] }

/-- 'fiduciallaw23.CorrelateSquares': WHATEVER THE INPUT: true; the input reads as it did. -/
def correlateSquaresSpec : ChangeSpec := { name := "correlateSquares", fn := fun _ => fun
  | [d] => { results := [.lit (.bool true)], args := [d] }
  | _ => none }
def correlateSquaresRow : OpenClaim := { program := "ytkamccndgblheaa", sum := "c20d52163125a4ca7a74af5fcaa6da962b614034bf0f76f001cfe8dc9c079060", func := "fiducial/fiduciallaw23.CorrelateSquares", spec := "correlateSquares", unfollowed := true, recurses := true, apart := false }
def CorrelateSquaresSaid : Prop := correlateSquaresRow.holds Try.pinned (OpenSpec.ofChange correlateSquaresSpec)

/-- ITS FALSE NEIGHBOUR: 'it returns false'. Refute it at one input. -/
def correlateSquaresWrong : ChangeSpec := { name := "correlateSquares", fn := fun _ => fun
  | [d] => { results := [.lit (.bool false)], args := [d] }
  | _ => none }
def CorrelateSquaresWrongFalsely : Prop := correlateSquaresRow.holds Try.pinned (OpenSpec.ofChange correlateSquaresWrong)

/-- 'fiduciallaw23.CorrelateScales': WHATEVER THE INPUT: true; the input reads as it did. -/
def correlateScalesSpec : ChangeSpec := { name := "correlateScales", fn := fun _ => fun
  | [d1, d2, d3] => { results := [.lit (.bool true)], args := [d1, d2, d3] }
  | _ => none }
def correlateScalesRow : OpenClaim := { program := "ytkamccndgblheaa", sum := "c20d52163125a4ca7a74af5fcaa6da962b614034bf0f76f001cfe8dc9c079060", func := "fiducial/fiduciallaw23.CorrelateScales", spec := "correlateScales", unfollowed := true, recurses := true, apart := false }
def CorrelateScalesSaid : Prop := correlateScalesRow.holds Try.pinned (OpenSpec.ofChange correlateScalesSpec)

/-- ITS FALSE NEIGHBOUR: 'it returns false'. Refute it at one input. -/
def correlateScalesWrong : ChangeSpec := { name := "correlateScales", fn := fun _ => fun
  | [d1, d2, d3] => { results := [.lit (.bool false)], args := [d1, d2, d3] }
  | _ => none }
def CorrelateScalesWrongFalsely : Prop := correlateScalesRow.holds Try.pinned (OpenSpec.ofChange correlateScalesWrong)

/-- 'fiduciallaw23.CorrelateExchanges': WHATEVER THE INPUT: true; the input reads as it did. -/
def correlateExchangesSpec : ChangeSpec := { name := "correlateExchanges", fn := fun _ => fun
  | [d1, d2, d3] => { results := [.lit (.bool true)], args := [d1, d2, d3] }
  | _ => none }
def correlateExchangesRow : OpenClaim := { program := "ytkamccndgblheaa", sum := "c20d52163125a4ca7a74af5fcaa6da962b614034bf0f76f001cfe8dc9c079060", func := "fiducial/fiduciallaw23.CorrelateExchanges", spec := "correlateExchanges", unfollowed := true, recurses := true, apart := false }
def CorrelateExchangesSaid : Prop := correlateExchangesRow.holds Try.pinned (OpenSpec.ofChange correlateExchangesSpec)

/-- ITS FALSE NEIGHBOUR: 'it returns false'. Refute it at one input. -/
def correlateExchangesWrong : ChangeSpec := { name := "correlateExchanges", fn := fun _ => fun
  | [d1, d2, d3] => { results := [.lit (.bool false)], args := [d1, d2, d3] }
  | _ => none }
def CorrelateExchangesWrongFalsely : Prop := correlateExchangesRow.holds Try.pinned (OpenSpec.ofChange correlateExchangesWrong)

/-- 'fiduciallaw23.CorrelateFinds': WHATEVER THE INPUT: true; the input reads as it did. -/
def correlateFindsSpec : ChangeSpec := { name := "correlateFinds", fn := fun _ => fun
  | [d1, d2] => { results := [.lit (.bool true)], args := [d1, d2] }
  | _ => none }
def correlateFindsRow : OpenClaim := { program := "ytkamccndgblheaa", sum := "c20d52163125a4ca7a74af5fcaa6da962b614034bf0f76f001cfe8dc9c079060", func := "fiducial/fiduciallaw23.CorrelateFinds", spec := "correlateFinds", unfollowed := true, recurses := true, apart := false }
def CorrelateFindsSaid : Prop := correlateFindsRow.holds Try.pinned (OpenSpec.ofChange correlateFindsSpec)

/-- ITS FALSE NEIGHBOUR: 'it returns false'. Refute it at one input. -/
def correlateFindsWrong : ChangeSpec := { name := "correlateFinds", fn := fun _ => fun
  | [d1, d2] => { results := [.lit (.bool false)], args := [d1, d2] }
  | _ => none }
def CorrelateFindsWrongFalsely : Prop := correlateFindsRow.holds Try.pinned (OpenSpec.ofChange correlateFindsWrong)

/- THE SECOND FORM. 'bulk': how many values and letters a reading holds, each counted each time it is reached (what is shared counts as often as it is met; a slice's spare places count too). A statement '..UptoSaid' is the law's where the arguments, and the package variables that the reading takes, are together of bulk at most 1048576: NARROWER than '..Said'. Prove '..Said' where nothing that the law and all that it calls make is longer than what came in: it says more and counts as full. Else prove '..UptoSaid'. A law counts once. -/
mutual
def uptoBulk {H : Type} : DataW H → Nat
  | .lit (.string bytes) => bytes.length + 1
  | .lit _ => 1
  | .nil => 1
  | .ptr d => uptoBulk d + 1
  | .slice elems spare => uptoBulkAll elems + uptoBulkAll spare + 1
  | .agg parts => uptoBulkAll parts + 1
  | .iface _ d => uptoBulk d + 1
  | .map entries => uptoBulkEntries entries + 1
  | .held _ => 1
def uptoBulkAll {H : Type} : List (DataW H) → Nat
  | [] => 0
  | d :: r => uptoBulk d + uptoBulkAll r
def uptoBulkEntries {H : Type} : List (Lit × DataW H) → Nat
  | [] => 0
  | x :: r => uptoBulkEntry x + uptoBulkEntries r
def uptoBulkEntry {H : Type} : Lit × DataW H → Nat
  | (.string bytes, d) => bytes.length + uptoBulk d + 1
  | (_, d) => uptoBulk d + 1
 end
def uptoSmall : (H : Type) → List (DataW H) → Bool := fun _ ds => decide (uptoBulkAll ds ≤ 1048576)
def OpenSpec.upto (s : _root_.Go.ChangeSpec) : _root_.Go.OpenSpec := { _root_.Go.OpenSpec.ofChange s with cond := some uptoSmall }

/-- 'fiduciallaw23.CorrelateSquares', WHERE WHAT IT READS IS OF BULK AT MOST 1048576: true; the input reads as it did. -/
def correlateSquaresUptoRow : OpenClaim := { program := "ytkamccndgblheaa", sum := "c20d52163125a4ca7a74af5fcaa6da962b614034bf0f76f001cfe8dc9c079060", func := "fiducial/fiduciallaw23.CorrelateSquares", spec := "correlateSquares", unfollowed := true, recurses := true, apart := false, narrowed := true }
def CorrelateSquaresUptoSaid : Prop := correlateSquaresUptoRow.holds Try.pinned (OpenSpec.upto correlateSquaresSpec)

/-- 'fiduciallaw23.CorrelateScales', WHERE WHAT IT READS IS OF BULK AT MOST 1048576: true; the input reads as it did. -/
def correlateScalesUptoRow : OpenClaim := { program := "ytkamccndgblheaa", sum := "c20d52163125a4ca7a74af5fcaa6da962b614034bf0f76f001cfe8dc9c079060", func := "fiducial/fiduciallaw23.CorrelateScales", spec := "correlateScales", unfollowed := true, recurses := true, apart := false, narrowed := true }
def CorrelateScalesUptoSaid : Prop := correlateScalesUptoRow.holds Try.pinned (OpenSpec.upto correlateScalesSpec)

/-- 'fiduciallaw23.CorrelateExchanges', WHERE WHAT IT READS IS OF BULK AT MOST 1048576: true; the input reads as it did. -/
def correlateExchangesUptoRow : OpenClaim := { program := "ytkamccndgblheaa", sum := "c20d52163125a4ca7a74af5fcaa6da962b614034bf0f76f001cfe8dc9c079060", func := "fiducial/fiduciallaw23.CorrelateExchanges", spec := "correlateExchanges", unfollowed := true, recurses := true, apart := false, narrowed := true }
def CorrelateExchangesUptoSaid : Prop := correlateExchangesUptoRow.holds Try.pinned (OpenSpec.upto correlateExchangesSpec)

/-- 'fiduciallaw23.CorrelateFinds', WHERE WHAT IT READS IS OF BULK AT MOST 1048576: true; the input reads as it did. -/
def correlateFindsUptoRow : OpenClaim := { program := "ytkamccndgblheaa", sum := "c20d52163125a4ca7a74af5fcaa6da962b614034bf0f76f001cfe8dc9c079060", func := "fiducial/fiduciallaw23.CorrelateFinds", spec := "correlateFinds", unfollowed := true, recurses := true, apart := false, narrowed := true }
def CorrelateFindsUptoSaid : Prop := correlateFindsUptoRow.holds Try.pinned (OpenSpec.upto correlateFindsSpec)

end Rows
end Go.Proofs.Ytkamccndgblheaa
