/-
  No cell of these rows narrows 'for every input' (looked for: loops, veiled, ifaces, maps, wideKeys, modest, calm, conditions, laid).
  DERIVED. THE GIVEN ROWS OF THIS SEAT. 4 by the template 'for every input the law returns true; each argument reads behind the call as it read before'; 0 by the template 'total and deterministic' (their statements: YtkamccndgblheaaGreatTotals.lean).
  GIVEN WITH THE SEED: the statements are not yours to turn. If you find one false, say at which input.
  Laid BY PROGRAM, IN A SANDBOX (cutbox-rows.mjs): the forced cells as the released guide's own fill.sh prints them over the translation cd95b50e68000476… (all of the seat's roots in one cut). By AI agents, Wed Nov 11 2026. No macro, syntax, notation, axiom, sorry.
-/
import Derived.Test.YtkamccndgblheaaGreatChecked
import GoSem.Claim
import GoSem.ClaimJoined
import GoSem.ClaimMapViews
import Derived.JoinedTies
import Derived.KernelRfl
namespace Go.Proofs.YtkamccndgblheaaGreat
/- THE CELL 'sum', in the pinned program and in every row, IS THE sha256 OF THE DUMP (.gsa) THAT YtkamccndgblheaaGreatProg.lean LOADS. Nothing in Lean hashes anything: it is a label: what it is worth is what the hold of that sum in a sandbox is worth. -/
noncomputable def Tryz.pinned : Pinned := { name := "ytkamccndgblheaagreat", sum := "cd95b50e680004764b0f9c1390babf28dc3aba1a80794359c4806ad417d91713", checked := Tryz.checked }
namespace Rows
def none {H : Type} : Left H := { results := [], args := [] }

/-- 'fiduciallaw23.CorrelateScores': WHATEVER THE INPUT: true; the input reads as it did. -/
def correlateScoresSpec : ChangeSpec := { name := "correlateScores", fn := fun _ => fun
  | [d1, d2, d3] => { results := [.lit (.bool true)], args := [d1, d2, d3] }
  | _ => none }
def correlateScoresRow : OpenClaim := { program := "ytkamccndgblheaagreat", sum := "cd95b50e680004764b0f9c1390babf28dc3aba1a80794359c4806ad417d91713", func := "fiducial/fiduciallaw23.CorrelateScores", spec := "correlateScores", unfollowed := true, recurses := true, apart := false }
def CorrelateScoresSaid : Prop := correlateScoresRow.holds Tryz.pinned (OpenSpec.ofChange correlateScoresSpec)

/-- ITS FALSE NEIGHBOUR: 'it returns false'. Refute it at one input. -/
def correlateScoresWrong : ChangeSpec := { name := "correlateScores", fn := fun _ => fun
  | [d1, d2, d3] => { results := [.lit (.bool false)], args := [d1, d2, d3] }
  | _ => none }
def CorrelateScoresWrongFalsely : Prop := correlateScoresRow.holds Tryz.pinned (OpenSpec.ofChange correlateScoresWrong)

/-- 'fiduciallaw23.CorrelateMaps': WHATEVER THE INPUT: true; the input reads as it did. -/
def correlateMapsSpec : ChangeSpec := { name := "correlateMaps", fn := fun _ => fun
  | [d1, d2] => { results := [.lit (.bool true)], args := [d1, d2] }
  | _ => none }
def correlateMapsRow : OpenClaim := { program := "ytkamccndgblheaagreat", sum := "cd95b50e680004764b0f9c1390babf28dc3aba1a80794359c4806ad417d91713", func := "fiducial/fiduciallaw23.CorrelateMaps", spec := "correlateMaps", unfollowed := true, recurses := true, apart := false }
def CorrelateMapsSaid : Prop := correlateMapsRow.holds Tryz.pinned (OpenSpec.ofChange correlateMapsSpec)

/-- ITS FALSE NEIGHBOUR: 'it returns false'. Refute it at one input. -/
def correlateMapsWrong : ChangeSpec := { name := "correlateMaps", fn := fun _ => fun
  | [d1, d2] => { results := [.lit (.bool false)], args := [d1, d2] }
  | _ => none }
def CorrelateMapsWrongFalsely : Prop := correlateMapsRow.holds Tryz.pinned (OpenSpec.ofChange correlateMapsWrong)

/-- 'fiduciallaw23.CorrelateRefines': WHATEVER THE INPUT: true; the input reads as it did. -/
def correlateRefinesSpec : ChangeSpec := { name := "correlateRefines", fn := fun _ => fun
  | [d1, d2, d3] => { results := [.lit (.bool true)], args := [d1, d2, d3] }
  | _ => none }
def correlateRefinesRow : OpenClaim := { program := "ytkamccndgblheaagreat", sum := "cd95b50e680004764b0f9c1390babf28dc3aba1a80794359c4806ad417d91713", func := "fiducial/fiduciallaw23.CorrelateRefines", spec := "correlateRefines", unfollowed := true, recurses := true, apart := false }
def CorrelateRefinesSaid : Prop := correlateRefinesRow.holds Tryz.pinned (OpenSpec.ofChange correlateRefinesSpec)

/-- ITS FALSE NEIGHBOUR: 'it returns false'. Refute it at one input. -/
def correlateRefinesWrong : ChangeSpec := { name := "correlateRefines", fn := fun _ => fun
  | [d1, d2, d3] => { results := [.lit (.bool false)], args := [d1, d2, d3] }
  | _ => none }
def CorrelateRefinesWrongFalsely : Prop := correlateRefinesRow.holds Tryz.pinned (OpenSpec.ofChange correlateRefinesWrong)

/-- 'fiduciallaw23.CorrelateShifts': WHATEVER THE INPUT: true; the input reads as it did. -/
def correlateShiftsSpec : ChangeSpec := { name := "correlateShifts", fn := fun _ => fun
  | [d1, d2, d3] => { results := [.lit (.bool true)], args := [d1, d2, d3] }
  | _ => none }
def correlateShiftsRow : OpenClaim := { program := "ytkamccndgblheaagreat", sum := "cd95b50e680004764b0f9c1390babf28dc3aba1a80794359c4806ad417d91713", func := "fiducial/fiduciallaw23.CorrelateShifts", spec := "correlateShifts", unfollowed := true, recurses := true, apart := false }
def CorrelateShiftsSaid : Prop := correlateShiftsRow.holds Tryz.pinned (OpenSpec.ofChange correlateShiftsSpec)

/-- ITS FALSE NEIGHBOUR: 'it returns false'. Refute it at one input. -/
def correlateShiftsWrong : ChangeSpec := { name := "correlateShifts", fn := fun _ => fun
  | [d1, d2, d3] => { results := [.lit (.bool false)], args := [d1, d2, d3] }
  | _ => none }
def CorrelateShiftsWrongFalsely : Prop := correlateShiftsRow.holds Tryz.pinned (OpenSpec.ofChange correlateShiftsWrong)

/- THE SECOND FORM. 'bulk': how many values and letters a reading holds, each counted each time it is reached (what is shared counts as often as it is met; a slice's spare places count too). A statement '..UptoSaid' is the law's where the arguments, and the package variables that the reading takes, are together of bulk at most 1048576: NARROWER than '..Said'. Prove '..Said' where nothing that the law and all that it calls make is longer than what came in: it says more and counts as full. Else prove '..UptoSaid'. A law counts once. -/
mutual
def uptoBulk {H : Type} : DataW H → Nat
  | .lit (.string bytes) => bytes.length + 1
  | .lit _ => 1
  | .nil => 1
  | .ptr d => uptoBulk d + 1
  | .slice elems spare => uptoBulkAll elems + uptoBulkAll spare + 1
  | .agg parts => uptoBulkAll parts + 1
  | .iface _ d => uptoBulk d + 1
  | .map entries => uptoBulkEntries entries + 1
  | .held _ => 1
def uptoBulkAll {H : Type} : List (DataW H) → Nat
  | [] => 0
  | d :: r => uptoBulk d + uptoBulkAll r
def uptoBulkEntries {H : Type} : List (Lit × DataW H) → Nat
  | [] => 0
  | x :: r => uptoBulkEntry x + uptoBulkEntries r
def uptoBulkEntry {H : Type} : Lit × DataW H → Nat
  | (.string bytes, d) => bytes.length + uptoBulk d + 1
  | (_, d) => uptoBulk d + 1
 end
def uptoSmall : (H : Type) → List (DataW H) → Bool := fun _ ds => decide (uptoBulkAll ds ≤ 1048576)
def OpenSpec.upto (s : _root_.Go.ChangeSpec) : _root_.Go.OpenSpec := { _root_.Go.OpenSpec.ofChange s with cond := some uptoSmall }

/-- 'fiduciallaw23.CorrelateScores', WHERE WHAT IT READS IS OF BULK AT MOST 1048576: true; the input reads as it did. -/
def correlateScoresUptoRow : OpenClaim := { program := "ytkamccndgblheaagreat", sum := "cd95b50e680004764b0f9c1390babf28dc3aba1a80794359c4806ad417d91713", func := "fiducial/fiduciallaw23.CorrelateScores", spec := "correlateScores", unfollowed := true, recurses := true, apart := false, narrowed := true }
def CorrelateScoresUptoSaid : Prop := correlateScoresUptoRow.holds Tryz.pinned (OpenSpec.upto correlateScoresSpec)

/-- 'fiduciallaw23.CorrelateMaps', WHERE WHAT IT READS IS OF BULK AT MOST 1048576: true; the input reads as it did. -/
def correlateMapsUptoRow : OpenClaim := { program := "ytkamccndgblheaagreat", sum := "cd95b50e680004764b0f9c1390babf28dc3aba1a80794359c4806ad417d91713", func := "fiducial/fiduciallaw23.CorrelateMaps", spec := "correlateMaps", unfollowed := true, recurses := true, apart := false, narrowed := true }
def CorrelateMapsUptoSaid : Prop := correlateMapsUptoRow.holds Tryz.pinned (OpenSpec.upto correlateMapsSpec)

/-- 'fiduciallaw23.CorrelateRefines', WHERE WHAT IT READS IS OF BULK AT MOST 1048576: true; the input reads as it did. -/
def correlateRefinesUptoRow : OpenClaim := { program := "ytkamccndgblheaagreat", sum := "cd95b50e680004764b0f9c1390babf28dc3aba1a80794359c4806ad417d91713", func := "fiducial/fiduciallaw23.CorrelateRefines", spec := "correlateRefines", unfollowed := true, recurses := true, apart := false, narrowed := true }
def CorrelateRefinesUptoSaid : Prop := correlateRefinesUptoRow.holds Tryz.pinned (OpenSpec.upto correlateRefinesSpec)

/-- 'fiduciallaw23.CorrelateShifts', WHERE WHAT IT READS IS OF BULK AT MOST 1048576: true; the input reads as it did. -/
def correlateShiftsUptoRow : OpenClaim := { program := "ytkamccndgblheaagreat", sum := "cd95b50e680004764b0f9c1390babf28dc3aba1a80794359c4806ad417d91713", func := "fiducial/fiduciallaw23.CorrelateShifts", spec := "correlateShifts", unfollowed := true, recurses := true, apart := false, narrowed := true }
def CorrelateShiftsUptoSaid : Prop := correlateShiftsUptoRow.holds Tryz.pinned (OpenSpec.upto correlateShiftsSpec)

end Rows
end Go.Proofs.YtkamccndgblheaaGreat
