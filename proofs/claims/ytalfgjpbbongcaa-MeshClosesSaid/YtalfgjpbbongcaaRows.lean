/-
  No cell of these rows narrows 'for every input' (looked for: loops, veiled, ifaces, maps, wideKeys, modest, calm, conditions, laid).
  DERIVED. THE GIVEN ROWS OF THIS SEAT. 9 by the template 'for every input the law returns true; each argument reads behind the call as it read before'; 0 by the template 'total and deterministic' (their statements: YtalfgjpbbongcaaTotals.lean).
  GIVEN WITH THE SEED: the statements are not yours to turn. If you find one false, say at which input.
  Laid BY PROGRAM, IN A SANDBOX (cutbox-rows.mjs): the forced cells as the released guide's own fill.sh prints them over the translation c4dda4ced16eb18e… (all of the seat's roots in one cut). By AI agents, Wed Nov 11 2026. No macro, syntax, notation, axiom, sorry.
-/
import Derived.Test.YtalfgjpbbongcaaChecked
import GoSem.Claim
import GoSem.ClaimJoined
import GoSem.ClaimMapViews
import Derived.JoinedTies
import Derived.KernelRfl
namespace Go.Proofs.Ytalfgjpbbongcaa
/- THE CELL 'sum', in the pinned program and in every row, IS THE sha256 OF THE DUMP (.gsa) THAT YtalfgjpbbongcaaProg.lean LOADS. Nothing in Lean hashes anything: it is a label: what it is worth is what the hold of that sum in a sandbox is worth. -/
noncomputable def Try.pinned : Pinned := { name := "ytalfgjpbbongcaa", sum := "c4dda4ced16eb18e4e6701908528b42e701cd8453cb4ace883706dc2b5e898c7", checked := Try.checked }
namespace Rows
def none {H : Type} : Left H := { results := [], args := [] }

/-- 'fiduciallaw47.MeshChecks': WHATEVER THE INPUT: true; the input reads as it did. -/
def meshChecksSpec : ChangeSpec := { name := "meshChecks", fn := fun _ => fun
  | [d] => { results := [.lit (.bool true)], args := [d] }
  | _ => none }
def meshChecksRow : OpenClaim := { program := "ytalfgjpbbongcaa", sum := "c4dda4ced16eb18e4e6701908528b42e701cd8453cb4ace883706dc2b5e898c7", func := "fiducial/fiduciallaw47.MeshChecks", spec := "meshChecks", unfollowed := true, recurses := true, plainKeys := false, apart := false }
def MeshChecksSaid : Prop := meshChecksRow.holds Try.pinned (OpenSpec.ofChange meshChecksSpec)

/-- ITS FALSE NEIGHBOUR: 'it returns false'. Refute it at one input. -/
def meshChecksWrong : ChangeSpec := { name := "meshChecks", fn := fun _ => fun
  | [d] => { results := [.lit (.bool false)], args := [d] }
  | _ => none }
def MeshChecksWrongFalsely : Prop := meshChecksRow.holds Try.pinned (OpenSpec.ofChange meshChecksWrong)

/-- 'fiduciallaw47.MeshVolumes': WHATEVER THE INPUT: true; the input reads as it did. -/
def meshVolumesSpec : ChangeSpec := { name := "meshVolumes", fn := fun _ => fun
  | [d1, d2] => { results := [.lit (.bool true)], args := [d1, d2] }
  | _ => none }
def meshVolumesRow : OpenClaim := { program := "ytalfgjpbbongcaa", sum := "c4dda4ced16eb18e4e6701908528b42e701cd8453cb4ace883706dc2b5e898c7", func := "fiducial/fiduciallaw47.MeshVolumes", spec := "meshVolumes", unfollowed := true, recurses := true, plainKeys := false, apart := false }
def MeshVolumesSaid : Prop := meshVolumesRow.holds Try.pinned (OpenSpec.ofChange meshVolumesSpec)

/-- ITS FALSE NEIGHBOUR: 'it returns false'. Refute it at one input. -/
def meshVolumesWrong : ChangeSpec := { name := "meshVolumes", fn := fun _ => fun
  | [d1, d2] => { results := [.lit (.bool false)], args := [d1, d2] }
  | _ => none }
def MeshVolumesWrongFalsely : Prop := meshVolumesRow.holds Try.pinned (OpenSpec.ofChange meshVolumesWrong)

/-- 'fiduciallaw47.MeshVectors': WHATEVER THE INPUT: true; the input reads as it did. -/
def meshVectorsSpec : ChangeSpec := { name := "meshVectors", fn := fun _ => fun
  | [d] => { results := [.lit (.bool true)], args := [d] }
  | _ => none }
def meshVectorsRow : OpenClaim := { program := "ytalfgjpbbongcaa", sum := "c4dda4ced16eb18e4e6701908528b42e701cd8453cb4ace883706dc2b5e898c7", func := "fiducial/fiduciallaw47.MeshVectors", spec := "meshVectors", unfollowed := true, recurses := true, plainKeys := false, apart := false }
def MeshVectorsSaid : Prop := meshVectorsRow.holds Try.pinned (OpenSpec.ofChange meshVectorsSpec)

/-- ITS FALSE NEIGHBOUR: 'it returns false'. Refute it at one input. -/
def meshVectorsWrong : ChangeSpec := { name := "meshVectors", fn := fun _ => fun
  | [d] => { results := [.lit (.bool false)], args := [d] }
  | _ => none }
def MeshVectorsWrongFalsely : Prop := meshVectorsRow.holds Try.pinned (OpenSpec.ofChange meshVectorsWrong)

/-- 'fiduciallaw47.MeshBorders': WHATEVER THE INPUT: true; the input reads as it did. -/
def meshBordersSpec : ChangeSpec := { name := "meshBorders", fn := fun _ => fun
  | [d] => { results := [.lit (.bool true)], args := [d] }
  | _ => none }
def meshBordersRow : OpenClaim := { program := "ytalfgjpbbongcaa", sum := "c4dda4ced16eb18e4e6701908528b42e701cd8453cb4ace883706dc2b5e898c7", func := "fiducial/fiduciallaw47.MeshBorders", spec := "meshBorders", unfollowed := true, recurses := true, plainKeys := false, apart := false }
def MeshBordersSaid : Prop := meshBordersRow.holds Try.pinned (OpenSpec.ofChange meshBordersSpec)

/-- ITS FALSE NEIGHBOUR: 'it returns false'. Refute it at one input. -/
def meshBordersWrong : ChangeSpec := { name := "meshBorders", fn := fun _ => fun
  | [d] => { results := [.lit (.bool false)], args := [d] }
  | _ => none }
def MeshBordersWrongFalsely : Prop := meshBordersRow.holds Try.pinned (OpenSpec.ofChange meshBordersWrong)

/-- 'fiduciallaw47.MeshCloses': WHATEVER THE INPUT: true; the input reads as it did. -/
def meshClosesSpec : ChangeSpec := { name := "meshCloses", fn := fun _ => fun
  | [d] => { results := [.lit (.bool true)], args := [d] }
  | _ => none }
def meshClosesRow : OpenClaim := { program := "ytalfgjpbbongcaa", sum := "c4dda4ced16eb18e4e6701908528b42e701cd8453cb4ace883706dc2b5e898c7", func := "fiducial/fiduciallaw47.MeshCloses", spec := "meshCloses", unfollowed := true, recurses := true, plainKeys := false, apart := false }
def MeshClosesSaid : Prop := meshClosesRow.holds Try.pinned (OpenSpec.ofChange meshClosesSpec)

/-- ITS FALSE NEIGHBOUR: 'it returns false'. Refute it at one input. -/
def meshClosesWrong : ChangeSpec := { name := "meshCloses", fn := fun _ => fun
  | [d] => { results := [.lit (.bool false)], args := [d] }
  | _ => none }
def MeshClosesWrongFalsely : Prop := meshClosesRow.holds Try.pinned (OpenSpec.ofChange meshClosesWrong)

/-- 'fiduciallaw47.MeshWelds': WHATEVER THE INPUT: true; the input reads as it did. -/
def meshWeldsSpec : ChangeSpec := { name := "meshWelds", fn := fun _ => fun
  | [d] => { results := [.lit (.bool true)], args := [d] }
  | _ => none }
def meshWeldsRow : OpenClaim := { program := "ytalfgjpbbongcaa", sum := "c4dda4ced16eb18e4e6701908528b42e701cd8453cb4ace883706dc2b5e898c7", func := "fiducial/fiduciallaw47.MeshWelds", spec := "meshWelds", unfollowed := true, recurses := true, plainKeys := false, apart := false }
def MeshWeldsSaid : Prop := meshWeldsRow.holds Try.pinned (OpenSpec.ofChange meshWeldsSpec)

/-- ITS FALSE NEIGHBOUR: 'it returns false'. Refute it at one input. -/
def meshWeldsWrong : ChangeSpec := { name := "meshWelds", fn := fun _ => fun
  | [d] => { results := [.lit (.bool false)], args := [d] }
  | _ => none }
def MeshWeldsWrongFalsely : Prop := meshWeldsRow.holds Try.pinned (OpenSpec.ofChange meshWeldsWrong)

/-- 'fiduciallaw47.MeshOrients': WHATEVER THE INPUT: true; the input reads as it did. -/
def meshOrientsSpec : ChangeSpec := { name := "meshOrients", fn := fun _ => fun
  | [d] => { results := [.lit (.bool true)], args := [d] }
  | _ => none }
def meshOrientsRow : OpenClaim := { program := "ytalfgjpbbongcaa", sum := "c4dda4ced16eb18e4e6701908528b42e701cd8453cb4ace883706dc2b5e898c7", func := "fiducial/fiduciallaw47.MeshOrients", spec := "meshOrients", unfollowed := true, recurses := true, plainKeys := false, apart := false }
def MeshOrientsSaid : Prop := meshOrientsRow.holds Try.pinned (OpenSpec.ofChange meshOrientsSpec)

/-- ITS FALSE NEIGHBOUR: 'it returns false'. Refute it at one input. -/
def meshOrientsWrong : ChangeSpec := { name := "meshOrients", fn := fun _ => fun
  | [d] => { results := [.lit (.bool false)], args := [d] }
  | _ => none }
def MeshOrientsWrongFalsely : Prop := meshOrientsRow.holds Try.pinned (OpenSpec.ofChange meshOrientsWrong)

/-- 'fiduciallaw47.MeshInsides': WHATEVER THE INPUT: true; the input reads as it did. -/
def meshInsidesSpec : ChangeSpec := { name := "meshInsides", fn := fun _ => fun
  | [d1, d2] => { results := [.lit (.bool true)], args := [d1, d2] }
  | _ => none }
def meshInsidesRow : OpenClaim := { program := "ytalfgjpbbongcaa", sum := "c4dda4ced16eb18e4e6701908528b42e701cd8453cb4ace883706dc2b5e898c7", func := "fiducial/fiduciallaw47.MeshInsides", spec := "meshInsides", unfollowed := true, recurses := true, plainKeys := false, apart := false }
def MeshInsidesSaid : Prop := meshInsidesRow.holds Try.pinned (OpenSpec.ofChange meshInsidesSpec)

/-- ITS FALSE NEIGHBOUR: 'it returns false'. Refute it at one input. -/
def meshInsidesWrong : ChangeSpec := { name := "meshInsides", fn := fun _ => fun
  | [d1, d2] => { results := [.lit (.bool false)], args := [d1, d2] }
  | _ => none }
def MeshInsidesWrongFalsely : Prop := meshInsidesRow.holds Try.pinned (OpenSpec.ofChange meshInsidesWrong)

/-- 'fiduciallaw47.MeshFlips': WHATEVER THE INPUT: true; the input reads as it did. -/
def meshFlipsSpec : ChangeSpec := { name := "meshFlips", fn := fun _ => fun
  | [d1, d2] => { results := [.lit (.bool true)], args := [d1, d2] }
  | _ => none }
def meshFlipsRow : OpenClaim := { program := "ytalfgjpbbongcaa", sum := "c4dda4ced16eb18e4e6701908528b42e701cd8453cb4ace883706dc2b5e898c7", func := "fiducial/fiduciallaw47.MeshFlips", spec := "meshFlips", unfollowed := true, recurses := true, plainKeys := false, apart := false }
def MeshFlipsSaid : Prop := meshFlipsRow.holds Try.pinned (OpenSpec.ofChange meshFlipsSpec)

/-- ITS FALSE NEIGHBOUR: 'it returns false'. Refute it at one input. -/
def meshFlipsWrong : ChangeSpec := { name := "meshFlips", fn := fun _ => fun
  | [d1, d2] => { results := [.lit (.bool false)], args := [d1, d2] }
  | _ => none }
def MeshFlipsWrongFalsely : Prop := meshFlipsRow.holds Try.pinned (OpenSpec.ofChange meshFlipsWrong)

/- THE SECOND FORM. 'bulk': how many values and letters a reading holds, each counted each time it is reached (what is shared counts as often as it is met; a slice's spare places count too). A statement '..UptoSaid' is the law's where the arguments, and the package variables that the reading takes, are together of bulk at most 1048576: NARROWER than '..Said'. Prove '..Said' where nothing that the law and all that it calls make is longer than what came in: it says more and counts as full. Else prove '..UptoSaid'. A law counts once. -/
mutual
def uptoBulk {H : Type} : DataW H → Nat
  | .lit (.string bytes) => bytes.length + 1
  | .lit _ => 1
  | .nil => 1
  | .ptr d => uptoBulk d + 1
  | .slice elems spare => uptoBulkAll elems + uptoBulkAll spare + 1
  | .agg parts => uptoBulkAll parts + 1
  | .iface _ d => uptoBulk d + 1
  | .map entries => uptoBulkEntries entries + 1
  | .held _ => 1
def uptoBulkAll {H : Type} : List (DataW H) → Nat
  | [] => 0
  | d :: r => uptoBulk d + uptoBulkAll r
def uptoBulkEntries {H : Type} : List (Lit × DataW H) → Nat
  | [] => 0
  | x :: r => uptoBulkEntry x + uptoBulkEntries r
def uptoBulkEntry {H : Type} : Lit × DataW H → Nat
  | (.string bytes, d) => bytes.length + uptoBulk d + 1
  | (_, d) => uptoBulk d + 1
 end
def uptoSmall : (H : Type) → List (DataW H) → Bool := fun _ ds => decide (uptoBulkAll ds ≤ 1048576)
def OpenSpec.upto (s : _root_.Go.ChangeSpec) : _root_.Go.OpenSpec := { _root_.Go.OpenSpec.ofChange s with cond := some uptoSmall }

/-- 'fiduciallaw47.MeshChecks', WHERE WHAT IT READS IS OF BULK AT MOST 1048576: true; the input reads as it did. -/
def meshChecksUptoRow : OpenClaim := { program := "ytalfgjpbbongcaa", sum := "c4dda4ced16eb18e4e6701908528b42e701cd8453cb4ace883706dc2b5e898c7", func := "fiducial/fiduciallaw47.MeshChecks", spec := "meshChecks", unfollowed := true, recurses := true, plainKeys := false, apart := false, narrowed := true }
def MeshChecksUptoSaid : Prop := meshChecksUptoRow.holds Try.pinned (OpenSpec.upto meshChecksSpec)

/-- 'fiduciallaw47.MeshVolumes', WHERE WHAT IT READS IS OF BULK AT MOST 1048576: true; the input reads as it did. -/
def meshVolumesUptoRow : OpenClaim := { program := "ytalfgjpbbongcaa", sum := "c4dda4ced16eb18e4e6701908528b42e701cd8453cb4ace883706dc2b5e898c7", func := "fiducial/fiduciallaw47.MeshVolumes", spec := "meshVolumes", unfollowed := true, recurses := true, plainKeys := false, apart := false, narrowed := true }
def MeshVolumesUptoSaid : Prop := meshVolumesUptoRow.holds Try.pinned (OpenSpec.upto meshVolumesSpec)

/-- 'fiduciallaw47.MeshVectors', WHERE WHAT IT READS IS OF BULK AT MOST 1048576: true; the input reads as it did. -/
def meshVectorsUptoRow : OpenClaim := { program := "ytalfgjpbbongcaa", sum := "c4dda4ced16eb18e4e6701908528b42e701cd8453cb4ace883706dc2b5e898c7", func := "fiducial/fiduciallaw47.MeshVectors", spec := "meshVectors", unfollowed := true, recurses := true, plainKeys := false, apart := false, narrowed := true }
def MeshVectorsUptoSaid : Prop := meshVectorsUptoRow.holds Try.pinned (OpenSpec.upto meshVectorsSpec)

/-- 'fiduciallaw47.MeshBorders', WHERE WHAT IT READS IS OF BULK AT MOST 1048576: true; the input reads as it did. -/
def meshBordersUptoRow : OpenClaim := { program := "ytalfgjpbbongcaa", sum := "c4dda4ced16eb18e4e6701908528b42e701cd8453cb4ace883706dc2b5e898c7", func := "fiducial/fiduciallaw47.MeshBorders", spec := "meshBorders", unfollowed := true, recurses := true, plainKeys := false, apart := false, narrowed := true }
def MeshBordersUptoSaid : Prop := meshBordersUptoRow.holds Try.pinned (OpenSpec.upto meshBordersSpec)

/-- 'fiduciallaw47.MeshCloses', WHERE WHAT IT READS IS OF BULK AT MOST 1048576: true; the input reads as it did. -/
def meshClosesUptoRow : OpenClaim := { program := "ytalfgjpbbongcaa", sum := "c4dda4ced16eb18e4e6701908528b42e701cd8453cb4ace883706dc2b5e898c7", func := "fiducial/fiduciallaw47.MeshCloses", spec := "meshCloses", unfollowed := true, recurses := true, plainKeys := false, apart := false, narrowed := true }
def MeshClosesUptoSaid : Prop := meshClosesUptoRow.holds Try.pinned (OpenSpec.upto meshClosesSpec)

/-- 'fiduciallaw47.MeshWelds', WHERE WHAT IT READS IS OF BULK AT MOST 1048576: true; the input reads as it did. -/
def meshWeldsUptoRow : OpenClaim := { program := "ytalfgjpbbongcaa", sum := "c4dda4ced16eb18e4e6701908528b42e701cd8453cb4ace883706dc2b5e898c7", func := "fiducial/fiduciallaw47.MeshWelds", spec := "meshWelds", unfollowed := true, recurses := true, plainKeys := false, apart := false, narrowed := true }
def MeshWeldsUptoSaid : Prop := meshWeldsUptoRow.holds Try.pinned (OpenSpec.upto meshWeldsSpec)

/-- 'fiduciallaw47.MeshOrients', WHERE WHAT IT READS IS OF BULK AT MOST 1048576: true; the input reads as it did. -/
def meshOrientsUptoRow : OpenClaim := { program := "ytalfgjpbbongcaa", sum := "c4dda4ced16eb18e4e6701908528b42e701cd8453cb4ace883706dc2b5e898c7", func := "fiducial/fiduciallaw47.MeshOrients", spec := "meshOrients", unfollowed := true, recurses := true, plainKeys := false, apart := false, narrowed := true }
def MeshOrientsUptoSaid : Prop := meshOrientsUptoRow.holds Try.pinned (OpenSpec.upto meshOrientsSpec)

/-- 'fiduciallaw47.MeshInsides', WHERE WHAT IT READS IS OF BULK AT MOST 1048576: true; the input reads as it did. -/
def meshInsidesUptoRow : OpenClaim := { program := "ytalfgjpbbongcaa", sum := "c4dda4ced16eb18e4e6701908528b42e701cd8453cb4ace883706dc2b5e898c7", func := "fiducial/fiduciallaw47.MeshInsides", spec := "meshInsides", unfollowed := true, recurses := true, plainKeys := false, apart := false, narrowed := true }
def MeshInsidesUptoSaid : Prop := meshInsidesUptoRow.holds Try.pinned (OpenSpec.upto meshInsidesSpec)

/-- 'fiduciallaw47.MeshFlips', WHERE WHAT IT READS IS OF BULK AT MOST 1048576: true; the input reads as it did. -/
def meshFlipsUptoRow : OpenClaim := { program := "ytalfgjpbbongcaa", sum := "c4dda4ced16eb18e4e6701908528b42e701cd8453cb4ace883706dc2b5e898c7", func := "fiducial/fiduciallaw47.MeshFlips", spec := "meshFlips", unfollowed := true, recurses := true, plainKeys := false, apart := false, narrowed := true }
def MeshFlipsUptoSaid : Prop := meshFlipsUptoRow.holds Try.pinned (OpenSpec.upto meshFlipsSpec)

end Rows
end Go.Proofs.Ytalfgjpbbongcaa
