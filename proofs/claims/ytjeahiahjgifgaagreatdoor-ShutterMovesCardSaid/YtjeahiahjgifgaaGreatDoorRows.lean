/-
  NARROWER THAN 'FOR EVERY INPUT', by the rows' own cells (each row's printed sentence says how): ShutterChecks: laid · ShutterCorrects: laid · ShutterMoves: laid · ShutterAffine: laid · ShutterGrounds: laid · ShutterImages: laid · ShutterPoses: laid · ShutterRows: laid.
  DERIVED. THE GIVEN ROWS OF THIS SEAT. 8 by the template 'for every input the law returns true; each argument reads behind the call as it read before'; 0 by the template 'total and deterministic' (their statements: YtjeahiahjgifgaaGreatDoorTotals.lean).
  GIVEN WITH THE SEED: the statements are not yours to turn. If you find one false, say at which input.
  Laid BY PROGRAM, IN A SANDBOX (cutbox-rows.mjs): the forced cells as the released guide's own fill.sh prints them over the translation 9e81be9e46c1d271… (all of the seat's roots in one cut). By AI agents, Wed Nov 11 2026. No macro, syntax, notation, axiom, sorry.
-/
import Derived.Test.YtjeahiahjgifgaaGreatDoorChecked
import GoSem.Claim
import GoSem.ClaimJoined
import GoSem.ClaimMapViews
import Derived.JoinedTies
import Derived.KernelRfl
namespace Go.Proofs.YtjeahiahjgifgaaGreatDoor
/- THE CELL 'sum', in the pinned program and in every row, IS THE sha256 OF THE DUMP (.gsa) THAT YtjeahiahjgifgaaGreatDoorProg.lean LOADS. Nothing in Lean hashes anything: it is a label: what it is worth is what the hold of that sum in a sandbox is worth. -/
noncomputable def Tryz.pinned : Pinned := { name := "ytjeahiahjgifgaagreatdoor", sum := "9e81be9e46c1d271bb09f7677dd2f7cce49625144380e1802b818d9622208d1a", checked := Tryz.checked }
namespace Rows
def none {H : Type} : Left H := { results := [], args := [] }

/- WHAT THE LISTED PACKAGE-LEVEL VARIABLES READ AS WHEN THE CALL BEGINS. Each datum BY PROGRAM (the guide's laid-datum.mjs) off the statement by which the dump's own 'gosem.cut.vars' lays the variable. In a bare row this is a premise. The card (YtjeahiahjgifgaaGreatDoorCards.lean) ties it to the program's text. -/
def laid_fiducial_shutter_signs {H : Type} : DataW H := .agg [.agg [.slice [.agg [.lit (.int .i64 1), .lit (.int .i64 0), .lit (.int .i64 0)], .agg [.lit (.int .i64 1), .lit (.int .i64 1), .lit (.int .i64 1)], .agg [.lit (.int .i64 (-1)), .lit (.int .i64 2), .lit (.int .i64 2)], .agg [.lit (.int .i64 (-1)), .lit (.int .i64 3), .lit (.int .i64 3)]] [], .slice [.agg [.lit (.int .i64 2), .lit (.int .i64 1), .lit (.int .i64 2)], .agg [.lit (.int .i64 (-2)), .lit (.int .i64 0), .lit (.int .i64 3)]] [], .slice [.agg [.lit (.int .i64 2), .lit (.int .i64 1), .lit (.int .i64 3)], .agg [.lit (.int .i64 2), .lit (.int .i64 0), .lit (.int .i64 2)]] []], .agg [.slice [.agg [.lit (.int .i64 2), .lit (.int .i64 1), .lit (.int .i64 2)], .agg [.lit (.int .i64 2), .lit (.int .i64 0), .lit (.int .i64 3)]] [], .slice [.agg [.lit (.int .i64 1), .lit (.int .i64 0), .lit (.int .i64 0)], .agg [.lit (.int .i64 (-1)), .lit (.int .i64 1), .lit (.int .i64 1)], .agg [.lit (.int .i64 1), .lit (.int .i64 2), .lit (.int .i64 2)], .agg [.lit (.int .i64 (-1)), .lit (.int .i64 3), .lit (.int .i64 3)]] [], .slice [.agg [.lit (.int .i64 2), .lit (.int .i64 2), .lit (.int .i64 3)], .agg [.lit (.int .i64 (-2)), .lit (.int .i64 0), .lit (.int .i64 1)]] []], .agg [.slice [.agg [.lit (.int .i64 2), .lit (.int .i64 1), .lit (.int .i64 3)], .agg [.lit (.int .i64 (-2)), .lit (.int .i64 0), .lit (.int .i64 2)]] [], .slice [.agg [.lit (.int .i64 2), .lit (.int .i64 2), .lit (.int .i64 3)], .agg [.lit (.int .i64 2), .lit (.int .i64 0), .lit (.int .i64 1)]] [], .slice [.agg [.lit (.int .i64 1), .lit (.int .i64 0), .lit (.int .i64 0)], .agg [.lit (.int .i64 (-1)), .lit (.int .i64 1), .lit (.int .i64 1)], .agg [.lit (.int .i64 (-1)), .lit (.int .i64 2), .lit (.int .i64 2)], .agg [.lit (.int .i64 1), .lit (.int .i64 3), .lit (.int .i64 3)]] []]]

/-- 'fiduciallaw19.ShutterChecks': WHATEVER THE INPUT: true; the input reads as it did. -/
def shutterChecksSpec : ChangeSpec := { name := "shutterChecks", fn := fun _ => fun
  | [d1, d2] => { results := [.lit (.bool true)], args := [d1, d2] }
  | _ => none }
def shutterChecksRow : OpenClaim := { program := "ytjeahiahjgifgaagreatdoor", sum := "9e81be9e46c1d271bb09f7677dd2f7cce49625144380e1802b818d9622208d1a", func := "fiducial/fiduciallaw19.ShutterChecks", spec := "shutterChecks", unfollowed := true, recurses := true, named := ["fiducial/shutter.signs"], apart := false, laid := [("fiducial/shutter.signs", laid_fiducial_shutter_signs)] }
def ShutterChecksSaid : Prop := shutterChecksRow.holds Tryz.pinned (OpenSpec.ofChange shutterChecksSpec)

/-- ITS FALSE NEIGHBOUR: 'it returns false'. Refute it at one input. -/
def shutterChecksWrong : ChangeSpec := { name := "shutterChecks", fn := fun _ => fun
  | [d1, d2] => { results := [.lit (.bool false)], args := [d1, d2] }
  | _ => none }
def ShutterChecksWrongFalsely : Prop := shutterChecksRow.holds Tryz.pinned (OpenSpec.ofChange shutterChecksWrong)

/-- 'fiduciallaw19.ShutterCorrects': WHATEVER THE INPUT: true; the input reads as it did. -/
def shutterCorrectsSpec : ChangeSpec := { name := "shutterCorrects", fn := fun _ => fun
  | [d1, d2] => { results := [.lit (.bool true)], args := [d1, d2] }
  | _ => none }
def shutterCorrectsRow : OpenClaim := { program := "ytjeahiahjgifgaagreatdoor", sum := "9e81be9e46c1d271bb09f7677dd2f7cce49625144380e1802b818d9622208d1a", func := "fiducial/fiduciallaw19.ShutterCorrects", spec := "shutterCorrects", unfollowed := true, recurses := true, named := ["fiducial/shutter.signs"], apart := false, laid := [("fiducial/shutter.signs", laid_fiducial_shutter_signs)] }
def ShutterCorrectsSaid : Prop := shutterCorrectsRow.holds Tryz.pinned (OpenSpec.ofChange shutterCorrectsSpec)

/-- ITS FALSE NEIGHBOUR: 'it returns false'. Refute it at one input. -/
def shutterCorrectsWrong : ChangeSpec := { name := "shutterCorrects", fn := fun _ => fun
  | [d1, d2] => { results := [.lit (.bool false)], args := [d1, d2] }
  | _ => none }
def ShutterCorrectsWrongFalsely : Prop := shutterCorrectsRow.holds Tryz.pinned (OpenSpec.ofChange shutterCorrectsWrong)

/-- 'fiduciallaw19.ShutterMoves': WHATEVER THE INPUT: true; the input reads as it did. -/
def shutterMovesSpec : ChangeSpec := { name := "shutterMoves", fn := fun _ => fun
  | [d1, d2, d3] => { results := [.lit (.bool true)], args := [d1, d2, d3] }
  | _ => none }
def shutterMovesRow : OpenClaim := { program := "ytjeahiahjgifgaagreatdoor", sum := "9e81be9e46c1d271bb09f7677dd2f7cce49625144380e1802b818d9622208d1a", func := "fiducial/fiduciallaw19.ShutterMoves", spec := "shutterMoves", unfollowed := true, recurses := true, named := ["fiducial/shutter.signs"], apart := false, laid := [("fiducial/shutter.signs", laid_fiducial_shutter_signs)] }
def ShutterMovesSaid : Prop := shutterMovesRow.holds Tryz.pinned (OpenSpec.ofChange shutterMovesSpec)

/-- ITS FALSE NEIGHBOUR: 'it returns false'. Refute it at one input. -/
def shutterMovesWrong : ChangeSpec := { name := "shutterMoves", fn := fun _ => fun
  | [d1, d2, d3] => { results := [.lit (.bool false)], args := [d1, d2, d3] }
  | _ => none }
def ShutterMovesWrongFalsely : Prop := shutterMovesRow.holds Tryz.pinned (OpenSpec.ofChange shutterMovesWrong)

/-- 'fiduciallaw19.ShutterAffine': WHATEVER THE INPUT: true; the input reads as it did. -/
def shutterAffineSpec : ChangeSpec := { name := "shutterAffine", fn := fun _ => fun
  | [d1, d2, d3] => { results := [.lit (.bool true)], args := [d1, d2, d3] }
  | _ => none }
def shutterAffineRow : OpenClaim := { program := "ytjeahiahjgifgaagreatdoor", sum := "9e81be9e46c1d271bb09f7677dd2f7cce49625144380e1802b818d9622208d1a", func := "fiducial/fiduciallaw19.ShutterAffine", spec := "shutterAffine", unfollowed := true, recurses := true, named := ["fiducial/shutter.signs"], apart := false, laid := [("fiducial/shutter.signs", laid_fiducial_shutter_signs)] }
def ShutterAffineSaid : Prop := shutterAffineRow.holds Tryz.pinned (OpenSpec.ofChange shutterAffineSpec)

/-- ITS FALSE NEIGHBOUR: 'it returns false'. Refute it at one input. -/
def shutterAffineWrong : ChangeSpec := { name := "shutterAffine", fn := fun _ => fun
  | [d1, d2, d3] => { results := [.lit (.bool false)], args := [d1, d2, d3] }
  | _ => none }
def ShutterAffineWrongFalsely : Prop := shutterAffineRow.holds Tryz.pinned (OpenSpec.ofChange shutterAffineWrong)

/-- 'fiduciallaw19.ShutterGrounds': WHATEVER THE INPUT: true; the input reads as it did. -/
def shutterGroundsSpec : ChangeSpec := { name := "shutterGrounds", fn := fun _ => fun
  | [d1, d2] => { results := [.lit (.bool true)], args := [d1, d2] }
  | _ => none }
def shutterGroundsRow : OpenClaim := { program := "ytjeahiahjgifgaagreatdoor", sum := "9e81be9e46c1d271bb09f7677dd2f7cce49625144380e1802b818d9622208d1a", func := "fiducial/fiduciallaw19.ShutterGrounds", spec := "shutterGrounds", unfollowed := true, recurses := true, named := ["fiducial/shutter.signs"], apart := false, laid := [("fiducial/shutter.signs", laid_fiducial_shutter_signs)] }
def ShutterGroundsSaid : Prop := shutterGroundsRow.holds Tryz.pinned (OpenSpec.ofChange shutterGroundsSpec)

/-- ITS FALSE NEIGHBOUR: 'it returns false'. Refute it at one input. -/
def shutterGroundsWrong : ChangeSpec := { name := "shutterGrounds", fn := fun _ => fun
  | [d1, d2] => { results := [.lit (.bool false)], args := [d1, d2] }
  | _ => none }
def ShutterGroundsWrongFalsely : Prop := shutterGroundsRow.holds Tryz.pinned (OpenSpec.ofChange shutterGroundsWrong)

/-- 'fiduciallaw19.ShutterImages': WHATEVER THE INPUT: true; the input reads as it did. -/
def shutterImagesSpec : ChangeSpec := { name := "shutterImages", fn := fun _ => fun
  | [d1, d2] => { results := [.lit (.bool true)], args := [d1, d2] }
  | _ => none }
def shutterImagesRow : OpenClaim := { program := "ytjeahiahjgifgaagreatdoor", sum := "9e81be9e46c1d271bb09f7677dd2f7cce49625144380e1802b818d9622208d1a", func := "fiducial/fiduciallaw19.ShutterImages", spec := "shutterImages", unfollowed := true, recurses := true, named := ["fiducial/shutter.signs"], apart := false, laid := [("fiducial/shutter.signs", laid_fiducial_shutter_signs)] }
def ShutterImagesSaid : Prop := shutterImagesRow.holds Tryz.pinned (OpenSpec.ofChange shutterImagesSpec)

/-- ITS FALSE NEIGHBOUR: 'it returns false'. Refute it at one input. -/
def shutterImagesWrong : ChangeSpec := { name := "shutterImages", fn := fun _ => fun
  | [d1, d2] => { results := [.lit (.bool false)], args := [d1, d2] }
  | _ => none }
def ShutterImagesWrongFalsely : Prop := shutterImagesRow.holds Tryz.pinned (OpenSpec.ofChange shutterImagesWrong)

/-- 'fiduciallaw19.ShutterPoses': WHATEVER THE INPUT: true; the input reads as it did. -/
def shutterPosesSpec : ChangeSpec := { name := "shutterPoses", fn := fun _ => fun
  | [d1, d2] => { results := [.lit (.bool true)], args := [d1, d2] }
  | _ => none }
def shutterPosesRow : OpenClaim := { program := "ytjeahiahjgifgaagreatdoor", sum := "9e81be9e46c1d271bb09f7677dd2f7cce49625144380e1802b818d9622208d1a", func := "fiducial/fiduciallaw19.ShutterPoses", spec := "shutterPoses", unfollowed := true, recurses := true, named := ["fiducial/shutter.signs"], apart := false, laid := [("fiducial/shutter.signs", laid_fiducial_shutter_signs)] }
def ShutterPosesSaid : Prop := shutterPosesRow.holds Tryz.pinned (OpenSpec.ofChange shutterPosesSpec)

/-- ITS FALSE NEIGHBOUR: 'it returns false'. Refute it at one input. -/
def shutterPosesWrong : ChangeSpec := { name := "shutterPoses", fn := fun _ => fun
  | [d1, d2] => { results := [.lit (.bool false)], args := [d1, d2] }
  | _ => none }
def ShutterPosesWrongFalsely : Prop := shutterPosesRow.holds Tryz.pinned (OpenSpec.ofChange shutterPosesWrong)

/-- 'fiduciallaw19.ShutterRows': WHATEVER THE INPUT: true; the input reads as it did. -/
def shutterRowsSpec : ChangeSpec := { name := "shutterRows", fn := fun _ => fun
  | [d1, d2] => { results := [.lit (.bool true)], args := [d1, d2] }
  | _ => none }
def shutterRowsRow : OpenClaim := { program := "ytjeahiahjgifgaagreatdoor", sum := "9e81be9e46c1d271bb09f7677dd2f7cce49625144380e1802b818d9622208d1a", func := "fiducial/fiduciallaw19.ShutterRows", spec := "shutterRows", unfollowed := true, recurses := true, named := ["fiducial/shutter.signs"], apart := false, laid := [("fiducial/shutter.signs", laid_fiducial_shutter_signs)] }
def ShutterRowsSaid : Prop := shutterRowsRow.holds Tryz.pinned (OpenSpec.ofChange shutterRowsSpec)

/-- ITS FALSE NEIGHBOUR: 'it returns false'. Refute it at one input. -/
def shutterRowsWrong : ChangeSpec := { name := "shutterRows", fn := fun _ => fun
  | [d1, d2] => { results := [.lit (.bool false)], args := [d1, d2] }
  | _ => none }
def ShutterRowsWrongFalsely : Prop := shutterRowsRow.holds Tryz.pinned (OpenSpec.ofChange shutterRowsWrong)

/- THE SECOND FORM. 'bulk': how many values and letters a reading holds, each counted each time it is reached (what is shared counts as often as it is met; a slice's spare places count too). A statement '..UptoSaid' is the law's where the arguments, and the package variables that the reading takes, are together of bulk at most 1048576: NARROWER than '..Said'. Prove '..Said' where nothing that the law and all that it calls make is longer than what came in: it says more and counts as full. Else prove '..UptoSaid'. A law counts once. -/
mutual
def uptoBulk {H : Type} : DataW H → Nat
  | .lit (.string bytes) => bytes.length + 1
  | .lit _ => 1
  | .nil => 1
  | .ptr d => uptoBulk d + 1
  | .slice elems spare => uptoBulkAll elems + uptoBulkAll spare + 1
  | .agg parts => uptoBulkAll parts + 1
  | .iface _ d => uptoBulk d + 1
  | .map entries => uptoBulkEntries entries + 1
  | .held _ => 1
def uptoBulkAll {H : Type} : List (DataW H) → Nat
  | [] => 0
  | d :: r => uptoBulk d + uptoBulkAll r
def uptoBulkEntries {H : Type} : List (Lit × DataW H) → Nat
  | [] => 0
  | x :: r => uptoBulkEntry x + uptoBulkEntries r
def uptoBulkEntry {H : Type} : Lit × DataW H → Nat
  | (.string bytes, d) => bytes.length + uptoBulk d + 1
  | (_, d) => uptoBulk d + 1
 end
def uptoSmall : (H : Type) → List (DataW H) → Bool := fun _ ds => decide (uptoBulkAll ds ≤ 1048576)
def OpenSpec.upto (s : _root_.Go.ChangeSpec) : _root_.Go.OpenSpec := { _root_.Go.OpenSpec.ofChange s with cond := some uptoSmall }

/-- 'fiduciallaw19.ShutterChecks', WHERE WHAT IT READS IS OF BULK AT MOST 1048576: true; the input reads as it did. -/
def shutterChecksUptoRow : OpenClaim := { program := "ytjeahiahjgifgaagreatdoor", sum := "9e81be9e46c1d271bb09f7677dd2f7cce49625144380e1802b818d9622208d1a", func := "fiducial/fiduciallaw19.ShutterChecks", spec := "shutterChecks", unfollowed := true, recurses := true, named := ["fiducial/shutter.signs"], apart := false, laid := [("fiducial/shutter.signs", laid_fiducial_shutter_signs)], narrowed := true }
def ShutterChecksUptoSaid : Prop := shutterChecksUptoRow.holds Tryz.pinned (OpenSpec.upto shutterChecksSpec)

/-- 'fiduciallaw19.ShutterCorrects', WHERE WHAT IT READS IS OF BULK AT MOST 1048576: true; the input reads as it did. -/
def shutterCorrectsUptoRow : OpenClaim := { program := "ytjeahiahjgifgaagreatdoor", sum := "9e81be9e46c1d271bb09f7677dd2f7cce49625144380e1802b818d9622208d1a", func := "fiducial/fiduciallaw19.ShutterCorrects", spec := "shutterCorrects", unfollowed := true, recurses := true, named := ["fiducial/shutter.signs"], apart := false, laid := [("fiducial/shutter.signs", laid_fiducial_shutter_signs)], narrowed := true }
def ShutterCorrectsUptoSaid : Prop := shutterCorrectsUptoRow.holds Tryz.pinned (OpenSpec.upto shutterCorrectsSpec)

/-- 'fiduciallaw19.ShutterMoves', WHERE WHAT IT READS IS OF BULK AT MOST 1048576: true; the input reads as it did. -/
def shutterMovesUptoRow : OpenClaim := { program := "ytjeahiahjgifgaagreatdoor", sum := "9e81be9e46c1d271bb09f7677dd2f7cce49625144380e1802b818d9622208d1a", func := "fiducial/fiduciallaw19.ShutterMoves", spec := "shutterMoves", unfollowed := true, recurses := true, named := ["fiducial/shutter.signs"], apart := false, laid := [("fiducial/shutter.signs", laid_fiducial_shutter_signs)], narrowed := true }
def ShutterMovesUptoSaid : Prop := shutterMovesUptoRow.holds Tryz.pinned (OpenSpec.upto shutterMovesSpec)

/-- 'fiduciallaw19.ShutterAffine', WHERE WHAT IT READS IS OF BULK AT MOST 1048576: true; the input reads as it did. -/
def shutterAffineUptoRow : OpenClaim := { program := "ytjeahiahjgifgaagreatdoor", sum := "9e81be9e46c1d271bb09f7677dd2f7cce49625144380e1802b818d9622208d1a", func := "fiducial/fiduciallaw19.ShutterAffine", spec := "shutterAffine", unfollowed := true, recurses := true, named := ["fiducial/shutter.signs"], apart := false, laid := [("fiducial/shutter.signs", laid_fiducial_shutter_signs)], narrowed := true }
def ShutterAffineUptoSaid : Prop := shutterAffineUptoRow.holds Tryz.pinned (OpenSpec.upto shutterAffineSpec)

/-- 'fiduciallaw19.ShutterGrounds', WHERE WHAT IT READS IS OF BULK AT MOST 1048576: true; the input reads as it did. -/
def shutterGroundsUptoRow : OpenClaim := { program := "ytjeahiahjgifgaagreatdoor", sum := "9e81be9e46c1d271bb09f7677dd2f7cce49625144380e1802b818d9622208d1a", func := "fiducial/fiduciallaw19.ShutterGrounds", spec := "shutterGrounds", unfollowed := true, recurses := true, named := ["fiducial/shutter.signs"], apart := false, laid := [("fiducial/shutter.signs", laid_fiducial_shutter_signs)], narrowed := true }
def ShutterGroundsUptoSaid : Prop := shutterGroundsUptoRow.holds Tryz.pinned (OpenSpec.upto shutterGroundsSpec)

/-- 'fiduciallaw19.ShutterImages', WHERE WHAT IT READS IS OF BULK AT MOST 1048576: true; the input reads as it did. -/
def shutterImagesUptoRow : OpenClaim := { program := "ytjeahiahjgifgaagreatdoor", sum := "9e81be9e46c1d271bb09f7677dd2f7cce49625144380e1802b818d9622208d1a", func := "fiducial/fiduciallaw19.ShutterImages", spec := "shutterImages", unfollowed := true, recurses := true, named := ["fiducial/shutter.signs"], apart := false, laid := [("fiducial/shutter.signs", laid_fiducial_shutter_signs)], narrowed := true }
def ShutterImagesUptoSaid : Prop := shutterImagesUptoRow.holds Tryz.pinned (OpenSpec.upto shutterImagesSpec)

/-- 'fiduciallaw19.ShutterPoses', WHERE WHAT IT READS IS OF BULK AT MOST 1048576: true; the input reads as it did. -/
def shutterPosesUptoRow : OpenClaim := { program := "ytjeahiahjgifgaagreatdoor", sum := "9e81be9e46c1d271bb09f7677dd2f7cce49625144380e1802b818d9622208d1a", func := "fiducial/fiduciallaw19.ShutterPoses", spec := "shutterPoses", unfollowed := true, recurses := true, named := ["fiducial/shutter.signs"], apart := false, laid := [("fiducial/shutter.signs", laid_fiducial_shutter_signs)], narrowed := true }
def ShutterPosesUptoSaid : Prop := shutterPosesUptoRow.holds Tryz.pinned (OpenSpec.upto shutterPosesSpec)

/-- 'fiduciallaw19.ShutterRows', WHERE WHAT IT READS IS OF BULK AT MOST 1048576: true; the input reads as it did. -/
def shutterRowsUptoRow : OpenClaim := { program := "ytjeahiahjgifgaagreatdoor", sum := "9e81be9e46c1d271bb09f7677dd2f7cce49625144380e1802b818d9622208d1a", func := "fiducial/fiduciallaw19.ShutterRows", spec := "shutterRows", unfollowed := true, recurses := true, named := ["fiducial/shutter.signs"], apart := false, laid := [("fiducial/shutter.signs", laid_fiducial_shutter_signs)], narrowed := true }
def ShutterRowsUptoSaid : Prop := shutterRowsUptoRow.holds Tryz.pinned (OpenSpec.upto shutterRowsSpec)

end Rows
end Go.Proofs.YtjeahiahjgifgaaGreatDoor
