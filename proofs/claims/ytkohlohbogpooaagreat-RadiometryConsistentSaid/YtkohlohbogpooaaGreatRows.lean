/-
  No cell of these rows narrows 'for every input' (looked for: loops, veiled, ifaces, maps, wideKeys, modest, calm, conditions, laid).
  DERIVED. THE GIVEN ROWS OF THIS SEAT. 7 by the template 'for every input the law returns true; each argument reads behind the call as it read before'; 0 by the template 'total and deterministic' (their statements: YtkohlohbogpooaaGreatTotals.lean).
  GIVEN WITH THE SEED: the statements are not yours to turn. If you find one false, say at which input.
  Laid BY PROGRAM, IN A SANDBOX (cutbox-rows.mjs): the forced cells as the released guide's own fill.sh prints them over the translation 35d67e3863aed494… (all of the seat's roots in one cut). By AI agents, Wed Nov 11 2026. No macro, syntax, notation, axiom, sorry.
-/
import Derived.Test.YtkohlohbogpooaaGreatChecked
import GoSem.Claim
import GoSem.ClaimJoined
import GoSem.ClaimMapViews
import Derived.JoinedTies
import Derived.KernelRfl
namespace Go.Proofs.YtkohlohbogpooaaGreat
/- THE CELL 'sum', in the pinned program and in every row, IS THE sha256 OF THE DUMP (.gsa) THAT YtkohlohbogpooaaGreatProg.lean LOADS. Nothing in Lean hashes anything: it is a label: what it is worth is what the hold of that sum in a sandbox is worth. -/
noncomputable def Tryz.pinned : Pinned := { name := "ytkohlohbogpooaagreat", sum := "35d67e3863aed494bd6da685fdebc28d69ca8c1ccfa600da53f60a9b2a02b7a9", checked := Tryz.checked }
namespace Rows
def none {H : Type} : Left H := { results := [], args := [] }

/-- 'fiduciallaw18.RadiometryGains': WHATEVER THE INPUT: true; the input reads as it did. -/
def radiometryGainsSpec : ChangeSpec := { name := "radiometryGains", fn := fun _ => fun
  | [d1, d2, d3] => { results := [.lit (.bool true)], args := [d1, d2, d3] }
  | _ => none }
def radiometryGainsRow : OpenClaim := { program := "ytkohlohbogpooaagreat", sum := "35d67e3863aed494bd6da685fdebc28d69ca8c1ccfa600da53f60a9b2a02b7a9", func := "fiducial/fiduciallaw18.RadiometryGains", spec := "radiometryGains", unfollowed := true, recurses := true, apart := false }
def RadiometryGainsSaid : Prop := radiometryGainsRow.holds Tryz.pinned (OpenSpec.ofChange radiometryGainsSpec)

/-- ITS FALSE NEIGHBOUR: 'it returns false'. Refute it at one input. -/
def radiometryGainsWrong : ChangeSpec := { name := "radiometryGains", fn := fun _ => fun
  | [d1, d2, d3] => { results := [.lit (.bool false)], args := [d1, d2, d3] }
  | _ => none }
def RadiometryGainsWrongFalsely : Prop := radiometryGainsRow.holds Tryz.pinned (OpenSpec.ofChange radiometryGainsWrong)

/-- 'fiduciallaw18.RadiometryCorrects': WHATEVER THE INPUT: true; the input reads as it did. -/
def radiometryCorrectsSpec : ChangeSpec := { name := "radiometryCorrects", fn := fun _ => fun
  | [d1, d2] => { results := [.lit (.bool true)], args := [d1, d2] }
  | _ => none }
def radiometryCorrectsRow : OpenClaim := { program := "ytkohlohbogpooaagreat", sum := "35d67e3863aed494bd6da685fdebc28d69ca8c1ccfa600da53f60a9b2a02b7a9", func := "fiducial/fiduciallaw18.RadiometryCorrects", spec := "radiometryCorrects", unfollowed := true, recurses := true, apart := false }
def RadiometryCorrectsSaid : Prop := radiometryCorrectsRow.holds Tryz.pinned (OpenSpec.ofChange radiometryCorrectsSpec)

/-- ITS FALSE NEIGHBOUR: 'it returns false'. Refute it at one input. -/
def radiometryCorrectsWrong : ChangeSpec := { name := "radiometryCorrects", fn := fun _ => fun
  | [d1, d2] => { results := [.lit (.bool false)], args := [d1, d2] }
  | _ => none }
def RadiometryCorrectsWrongFalsely : Prop := radiometryCorrectsRow.holds Tryz.pinned (OpenSpec.ofChange radiometryCorrectsWrong)

/-- 'fiduciallaw18.RadiometryOffsets': WHATEVER THE INPUT: true; the input reads as it did. -/
def radiometryOffsetsSpec : ChangeSpec := { name := "radiometryOffsets", fn := fun _ => fun
  | [d1, d2, d3] => { results := [.lit (.bool true)], args := [d1, d2, d3] }
  | _ => none }
def radiometryOffsetsRow : OpenClaim := { program := "ytkohlohbogpooaagreat", sum := "35d67e3863aed494bd6da685fdebc28d69ca8c1ccfa600da53f60a9b2a02b7a9", func := "fiducial/fiduciallaw18.RadiometryOffsets", spec := "radiometryOffsets", unfollowed := true, recurses := true, apart := false }
def RadiometryOffsetsSaid : Prop := radiometryOffsetsRow.holds Tryz.pinned (OpenSpec.ofChange radiometryOffsetsSpec)

/-- ITS FALSE NEIGHBOUR: 'it returns false'. Refute it at one input. -/
def radiometryOffsetsWrong : ChangeSpec := { name := "radiometryOffsets", fn := fun _ => fun
  | [d1, d2, d3] => { results := [.lit (.bool false)], args := [d1, d2, d3] }
  | _ => none }
def RadiometryOffsetsWrongFalsely : Prop := radiometryOffsetsRow.holds Tryz.pinned (OpenSpec.ofChange radiometryOffsetsWrong)

/-- 'fiduciallaw18.RadiometryConsistent': WHATEVER THE INPUT: true; the input reads as it did. -/
def radiometryConsistentSpec : ChangeSpec := { name := "radiometryConsistent", fn := fun _ => fun
  | [d1, d2] => { results := [.lit (.bool true)], args := [d1, d2] }
  | _ => none }
def radiometryConsistentRow : OpenClaim := { program := "ytkohlohbogpooaagreat", sum := "35d67e3863aed494bd6da685fdebc28d69ca8c1ccfa600da53f60a9b2a02b7a9", func := "fiducial/fiduciallaw18.RadiometryConsistent", spec := "radiometryConsistent", unfollowed := true, recurses := true, apart := false }
def RadiometryConsistentSaid : Prop := radiometryConsistentRow.holds Tryz.pinned (OpenSpec.ofChange radiometryConsistentSpec)

/-- ITS FALSE NEIGHBOUR: 'it returns false'. Refute it at one input. -/
def radiometryConsistentWrong : ChangeSpec := { name := "radiometryConsistent", fn := fun _ => fun
  | [d1, d2] => { results := [.lit (.bool false)], args := [d1, d2] }
  | _ => none }
def RadiometryConsistentWrongFalsely : Prop := radiometryConsistentRow.holds Tryz.pinned (OpenSpec.ofChange radiometryConsistentWrong)

/-- 'fiduciallaw18.RadiometryTables': WHATEVER THE INPUT: true; the input reads as it did. -/
def radiometryTablesSpec : ChangeSpec := { name := "radiometryTables", fn := fun _ => fun
  | [d1, d2] => { results := [.lit (.bool true)], args := [d1, d2] }
  | _ => none }
def radiometryTablesRow : OpenClaim := { program := "ytkohlohbogpooaagreat", sum := "35d67e3863aed494bd6da685fdebc28d69ca8c1ccfa600da53f60a9b2a02b7a9", func := "fiducial/fiduciallaw18.RadiometryTables", spec := "radiometryTables", unfollowed := true, recurses := true, apart := false }
def RadiometryTablesSaid : Prop := radiometryTablesRow.holds Tryz.pinned (OpenSpec.ofChange radiometryTablesSpec)

/-- ITS FALSE NEIGHBOUR: 'it returns false'. Refute it at one input. -/
def radiometryTablesWrong : ChangeSpec := { name := "radiometryTables", fn := fun _ => fun
  | [d1, d2] => { results := [.lit (.bool false)], args := [d1, d2] }
  | _ => none }
def RadiometryTablesWrongFalsely : Prop := radiometryTablesRow.holds Tryz.pinned (OpenSpec.ofChange radiometryTablesWrong)

/-- 'fiduciallaw18.RadiometryFlat': WHATEVER THE INPUT: true; the input reads as it did. -/
def radiometryFlatSpec : ChangeSpec := { name := "radiometryFlat", fn := fun _ => fun
  | [d1, d2, d3] => { results := [.lit (.bool true)], args := [d1, d2, d3] }
  | _ => none }
def radiometryFlatRow : OpenClaim := { program := "ytkohlohbogpooaagreat", sum := "35d67e3863aed494bd6da685fdebc28d69ca8c1ccfa600da53f60a9b2a02b7a9", func := "fiducial/fiduciallaw18.RadiometryFlat", spec := "radiometryFlat", unfollowed := true, recurses := true, apart := false }
def RadiometryFlatSaid : Prop := radiometryFlatRow.holds Tryz.pinned (OpenSpec.ofChange radiometryFlatSpec)

/-- ITS FALSE NEIGHBOUR: 'it returns false'. Refute it at one input. -/
def radiometryFlatWrong : ChangeSpec := { name := "radiometryFlat", fn := fun _ => fun
  | [d1, d2, d3] => { results := [.lit (.bool false)], args := [d1, d2, d3] }
  | _ => none }
def RadiometryFlatWrongFalsely : Prop := radiometryFlatRow.holds Tryz.pinned (OpenSpec.ofChange radiometryFlatWrong)

/-- 'fiduciallaw18.RadiometryConstant': WHATEVER THE INPUT: true; the input reads as it did. -/
def radiometryConstantSpec : ChangeSpec := { name := "radiometryConstant", fn := fun _ => fun
  | [d1, d2, d3] => { results := [.lit (.bool true)], args := [d1, d2, d3] }
  | _ => none }
def radiometryConstantRow : OpenClaim := { program := "ytkohlohbogpooaagreat", sum := "35d67e3863aed494bd6da685fdebc28d69ca8c1ccfa600da53f60a9b2a02b7a9", func := "fiducial/fiduciallaw18.RadiometryConstant", spec := "radiometryConstant", unfollowed := true, recurses := true, apart := false }
def RadiometryConstantSaid : Prop := radiometryConstantRow.holds Tryz.pinned (OpenSpec.ofChange radiometryConstantSpec)

/-- ITS FALSE NEIGHBOUR: 'it returns false'. Refute it at one input. -/
def radiometryConstantWrong : ChangeSpec := { name := "radiometryConstant", fn := fun _ => fun
  | [d1, d2, d3] => { results := [.lit (.bool false)], args := [d1, d2, d3] }
  | _ => none }
def RadiometryConstantWrongFalsely : Prop := radiometryConstantRow.holds Tryz.pinned (OpenSpec.ofChange radiometryConstantWrong)

/- THE SECOND FORM. 'bulk': how many values and letters a reading holds, each counted each time it is reached (what is shared counts as often as it is met; a slice's spare places count too). A statement '..UptoSaid' is the law's where the arguments, and the package variables that the reading takes, are together of bulk at most 1048576: NARROWER than '..Said'. Prove '..Said' where nothing that the law and all that it calls make is longer than what came in: it says more and counts as full. Else prove '..UptoSaid'. A law counts once. -/
mutual
def uptoBulk {H : Type} : DataW H → Nat
  | .lit (.string bytes) => bytes.length + 1
  | .lit _ => 1
  | .nil => 1
  | .ptr d => uptoBulk d + 1
  | .slice elems spare => uptoBulkAll elems + uptoBulkAll spare + 1
  | .agg parts => uptoBulkAll parts + 1
  | .iface _ d => uptoBulk d + 1
  | .map entries => uptoBulkEntries entries + 1
  | .held _ => 1
def uptoBulkAll {H : Type} : List (DataW H) → Nat
  | [] => 0
  | d :: r => uptoBulk d + uptoBulkAll r
def uptoBulkEntries {H : Type} : List (Lit × DataW H) → Nat
  | [] => 0
  | x :: r => uptoBulkEntry x + uptoBulkEntries r
def uptoBulkEntry {H : Type} : Lit × DataW H → Nat
  | (.string bytes, d) => bytes.length + uptoBulk d + 1
  | (_, d) => uptoBulk d + 1
 end
def uptoSmall : (H : Type) → List (DataW H) → Bool := fun _ ds => decide (uptoBulkAll ds ≤ 1048576)
def OpenSpec.upto (s : _root_.Go.ChangeSpec) : _root_.Go.OpenSpec := { _root_.Go.OpenSpec.ofChange s with cond := some uptoSmall }

/-- 'fiduciallaw18.RadiometryGains', WHERE WHAT IT READS IS OF BULK AT MOST 1048576: true; the input reads as it did. -/
def radiometryGainsUptoRow : OpenClaim := { program := "ytkohlohbogpooaagreat", sum := "35d67e3863aed494bd6da685fdebc28d69ca8c1ccfa600da53f60a9b2a02b7a9", func := "fiducial/fiduciallaw18.RadiometryGains", spec := "radiometryGains", unfollowed := true, recurses := true, apart := false, narrowed := true }
def RadiometryGainsUptoSaid : Prop := radiometryGainsUptoRow.holds Tryz.pinned (OpenSpec.upto radiometryGainsSpec)

/-- 'fiduciallaw18.RadiometryCorrects', WHERE WHAT IT READS IS OF BULK AT MOST 1048576: true; the input reads as it did. -/
def radiometryCorrectsUptoRow : OpenClaim := { program := "ytkohlohbogpooaagreat", sum := "35d67e3863aed494bd6da685fdebc28d69ca8c1ccfa600da53f60a9b2a02b7a9", func := "fiducial/fiduciallaw18.RadiometryCorrects", spec := "radiometryCorrects", unfollowed := true, recurses := true, apart := false, narrowed := true }
def RadiometryCorrectsUptoSaid : Prop := radiometryCorrectsUptoRow.holds Tryz.pinned (OpenSpec.upto radiometryCorrectsSpec)

/-- 'fiduciallaw18.RadiometryOffsets', WHERE WHAT IT READS IS OF BULK AT MOST 1048576: true; the input reads as it did. -/
def radiometryOffsetsUptoRow : OpenClaim := { program := "ytkohlohbogpooaagreat", sum := "35d67e3863aed494bd6da685fdebc28d69ca8c1ccfa600da53f60a9b2a02b7a9", func := "fiducial/fiduciallaw18.RadiometryOffsets", spec := "radiometryOffsets", unfollowed := true, recurses := true, apart := false, narrowed := true }
def RadiometryOffsetsUptoSaid : Prop := radiometryOffsetsUptoRow.holds Tryz.pinned (OpenSpec.upto radiometryOffsetsSpec)

/-- 'fiduciallaw18.RadiometryConsistent', WHERE WHAT IT READS IS OF BULK AT MOST 1048576: true; the input reads as it did. -/
def radiometryConsistentUptoRow : OpenClaim := { program := "ytkohlohbogpooaagreat", sum := "35d67e3863aed494bd6da685fdebc28d69ca8c1ccfa600da53f60a9b2a02b7a9", func := "fiducial/fiduciallaw18.RadiometryConsistent", spec := "radiometryConsistent", unfollowed := true, recurses := true, apart := false, narrowed := true }
def RadiometryConsistentUptoSaid : Prop := radiometryConsistentUptoRow.holds Tryz.pinned (OpenSpec.upto radiometryConsistentSpec)

/-- 'fiduciallaw18.RadiometryTables', WHERE WHAT IT READS IS OF BULK AT MOST 1048576: true; the input reads as it did. -/
def radiometryTablesUptoRow : OpenClaim := { program := "ytkohlohbogpooaagreat", sum := "35d67e3863aed494bd6da685fdebc28d69ca8c1ccfa600da53f60a9b2a02b7a9", func := "fiducial/fiduciallaw18.RadiometryTables", spec := "radiometryTables", unfollowed := true, recurses := true, apart := false, narrowed := true }
def RadiometryTablesUptoSaid : Prop := radiometryTablesUptoRow.holds Tryz.pinned (OpenSpec.upto radiometryTablesSpec)

/-- 'fiduciallaw18.RadiometryFlat', WHERE WHAT IT READS IS OF BULK AT MOST 1048576: true; the input reads as it did. -/
def radiometryFlatUptoRow : OpenClaim := { program := "ytkohlohbogpooaagreat", sum := "35d67e3863aed494bd6da685fdebc28d69ca8c1ccfa600da53f60a9b2a02b7a9", func := "fiducial/fiduciallaw18.RadiometryFlat", spec := "radiometryFlat", unfollowed := true, recurses := true, apart := false, narrowed := true }
def RadiometryFlatUptoSaid : Prop := radiometryFlatUptoRow.holds Tryz.pinned (OpenSpec.upto radiometryFlatSpec)

/-- 'fiduciallaw18.RadiometryConstant', WHERE WHAT IT READS IS OF BULK AT MOST 1048576: true; the input reads as it did. -/
def radiometryConstantUptoRow : OpenClaim := { program := "ytkohlohbogpooaagreat", sum := "35d67e3863aed494bd6da685fdebc28d69ca8c1ccfa600da53f60a9b2a02b7a9", func := "fiducial/fiduciallaw18.RadiometryConstant", spec := "radiometryConstant", unfollowed := true, recurses := true, apart := false, narrowed := true }
def RadiometryConstantUptoSaid : Prop := radiometryConstantUptoRow.holds Tryz.pinned (OpenSpec.upto radiometryConstantSpec)

end Rows
end Go.Proofs.YtkohlohbogpooaaGreat
