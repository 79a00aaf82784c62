/-
  No cell of these rows narrows 'for every input' (looked for: loops, veiled, ifaces, maps, wideKeys, modest, calm, conditions, laid).
  DERIVED. THE GIVEN ROWS OF THIS SEAT. 3 by the template 'for every input the law returns true; each argument reads behind the call as it read before'; 0 by the template 'total and deterministic' (their statements: YtahiajepeodhoaaGreatTotals.lean).
  GIVEN WITH THE SEED: the statements are not yours to turn. If you find one false, say at which input.
  Laid BY PROGRAM, IN A SANDBOX (cutbox-rows.mjs): the forced cells as the released guide's own fill.sh prints them over the translation 41da9798dcd61c97… (all of the seat's roots in one cut). By AI agents, Wed Nov 11 2026. No macro, syntax, notation, axiom, sorry.
-/
import Derived.Test.YtahiajepeodhoaaGreatChecked
import GoSem.Claim
import GoSem.ClaimJoined
import GoSem.ClaimMapViews
import Derived.JoinedTies
import Derived.KernelRfl
namespace Go.Proofs.YtahiajepeodhoaaGreat
/- THE CELL 'sum', in the pinned program and in every row, IS THE sha256 OF THE DUMP (.gsa) THAT YtahiajepeodhoaaGreatProg.lean LOADS. Nothing in Lean hashes anything: it is a label: what it is worth is what the hold of that sum in a sandbox is worth. -/
noncomputable def Tryz.pinned : Pinned := { name := "ytahiajepeodhoaagreat", sum := "41da9798dcd61c971b6e37362574793c96d6e3bb7148ac435f5e2acd098ccd23", checked := Tryz.checked }
namespace Rows
def none {H : Type} : Left H := { results := [], args := [] }

/-- 'fiduciallaw17.CameraDistorts': WHATEVER THE INPUT: true; the input reads as it did. -/
def cameraDistortsSpec : ChangeSpec := { name := "cameraDistorts", fn := fun _ => fun
  | [d1, d2] => { results := [.lit (.bool true)], args := [d1, d2] }
  | _ => none }
def cameraDistortsRow : OpenClaim := { program := "ytahiajepeodhoaagreat", sum := "41da9798dcd61c971b6e37362574793c96d6e3bb7148ac435f5e2acd098ccd23", func := "fiducial/fiduciallaw17.CameraDistorts", spec := "cameraDistorts", unfollowed := true, recurses := true, apart := false }
def CameraDistortsSaid : Prop := cameraDistortsRow.holds Tryz.pinned (OpenSpec.ofChange cameraDistortsSpec)

/-- ITS FALSE NEIGHBOUR: 'it returns false'. Refute it at one input. -/
def cameraDistortsWrong : ChangeSpec := { name := "cameraDistorts", fn := fun _ => fun
  | [d1, d2] => { results := [.lit (.bool false)], args := [d1, d2] }
  | _ => none }
def CameraDistortsWrongFalsely : Prop := cameraDistortsRow.holds Tryz.pinned (OpenSpec.ofChange cameraDistortsWrong)

/-- 'fiduciallaw17.CameraRadial': WHATEVER THE INPUT: true; the input reads as it did. -/
def cameraRadialSpec : ChangeSpec := { name := "cameraRadial", fn := fun _ => fun
  | [d1, d2, d3] => { results := [.lit (.bool true)], args := [d1, d2, d3] }
  | _ => none }
def cameraRadialRow : OpenClaim := { program := "ytahiajepeodhoaagreat", sum := "41da9798dcd61c971b6e37362574793c96d6e3bb7148ac435f5e2acd098ccd23", func := "fiducial/fiduciallaw17.CameraRadial", spec := "cameraRadial", unfollowed := true, recurses := true, apart := false }
def CameraRadialSaid : Prop := cameraRadialRow.holds Tryz.pinned (OpenSpec.ofChange cameraRadialSpec)

/-- ITS FALSE NEIGHBOUR: 'it returns false'. Refute it at one input. -/
def cameraRadialWrong : ChangeSpec := { name := "cameraRadial", fn := fun _ => fun
  | [d1, d2, d3] => { results := [.lit (.bool false)], args := [d1, d2, d3] }
  | _ => none }
def CameraRadialWrongFalsely : Prop := cameraRadialRow.holds Tryz.pinned (OpenSpec.ofChange cameraRadialWrong)

/-- 'fiduciallaw17.CameraForms': WHATEVER THE INPUT: true; the input reads as it did. -/
def cameraFormsSpec : ChangeSpec := { name := "cameraForms", fn := fun _ => fun
  | [d1, d2] => { results := [.lit (.bool true)], args := [d1, d2] }
  | _ => none }
def cameraFormsRow : OpenClaim := { program := "ytahiajepeodhoaagreat", sum := "41da9798dcd61c971b6e37362574793c96d6e3bb7148ac435f5e2acd098ccd23", func := "fiducial/fiduciallaw17.CameraForms", spec := "cameraForms", unfollowed := true, recurses := true, apart := false }
def CameraFormsSaid : Prop := cameraFormsRow.holds Tryz.pinned (OpenSpec.ofChange cameraFormsSpec)

/-- ITS FALSE NEIGHBOUR: 'it returns false'. Refute it at one input. -/
def cameraFormsWrong : ChangeSpec := { name := "cameraForms", fn := fun _ => fun
  | [d1, d2] => { results := [.lit (.bool false)], args := [d1, d2] }
  | _ => none }
def CameraFormsWrongFalsely : Prop := cameraFormsRow.holds Tryz.pinned (OpenSpec.ofChange cameraFormsWrong)

/- THE SECOND FORM. 'bulk': how many values and letters a reading holds, each counted each time it is reached (what is shared counts as often as it is met; a slice's spare places count too). A statement '..UptoSaid' is the law's where the arguments, and the package variables that the reading takes, are together of bulk at most 1048576: NARROWER than '..Said'. Prove '..Said' where nothing that the law and all that it calls make is longer than what came in: it says more and counts as full. Else prove '..UptoSaid'. A law counts once. -/
mutual
def uptoBulk {H : Type} : DataW H → Nat
  | .lit (.string bytes) => bytes.length + 1
  | .lit _ => 1
  | .nil => 1
  | .ptr d => uptoBulk d + 1
  | .slice elems spare => uptoBulkAll elems + uptoBulkAll spare + 1
  | .agg parts => uptoBulkAll parts + 1
  | .iface _ d => uptoBulk d + 1
  | .map entries => uptoBulkEntries entries + 1
  | .held _ => 1
def uptoBulkAll {H : Type} : List (DataW H) → Nat
  | [] => 0
  | d :: r => uptoBulk d + uptoBulkAll r
def uptoBulkEntries {H : Type} : List (Lit × DataW H) → Nat
  | [] => 0
  | x :: r => uptoBulkEntry x + uptoBulkEntries r
def uptoBulkEntry {H : Type} : Lit × DataW H → Nat
  | (.string bytes, d) => bytes.length + uptoBulk d + 1
  | (_, d) => uptoBulk d + 1
 end
def uptoSmall : (H : Type) → List (DataW H) → Bool := fun _ ds => decide (uptoBulkAll ds ≤ 1048576)
def OpenSpec.upto (s : _root_.Go.ChangeSpec) : _root_.Go.OpenSpec := { _root_.Go.OpenSpec.ofChange s with cond := some uptoSmall }

/-- 'fiduciallaw17.CameraDistorts', WHERE WHAT IT READS IS OF BULK AT MOST 1048576: true; the input reads as it did. -/
def cameraDistortsUptoRow : OpenClaim := { program := "ytahiajepeodhoaagreat", sum := "41da9798dcd61c971b6e37362574793c96d6e3bb7148ac435f5e2acd098ccd23", func := "fiducial/fiduciallaw17.CameraDistorts", spec := "cameraDistorts", unfollowed := true, recurses := true, apart := false, narrowed := true }
def CameraDistortsUptoSaid : Prop := cameraDistortsUptoRow.holds Tryz.pinned (OpenSpec.upto cameraDistortsSpec)

/-- 'fiduciallaw17.CameraRadial', WHERE WHAT IT READS IS OF BULK AT MOST 1048576: true; the input reads as it did. -/
def cameraRadialUptoRow : OpenClaim := { program := "ytahiajepeodhoaagreat", sum := "41da9798dcd61c971b6e37362574793c96d6e3bb7148ac435f5e2acd098ccd23", func := "fiducial/fiduciallaw17.CameraRadial", spec := "cameraRadial", unfollowed := true, recurses := true, apart := false, narrowed := true }
def CameraRadialUptoSaid : Prop := cameraRadialUptoRow.holds Tryz.pinned (OpenSpec.upto cameraRadialSpec)

/-- 'fiduciallaw17.CameraForms', WHERE WHAT IT READS IS OF BULK AT MOST 1048576: true; the input reads as it did. -/
def cameraFormsUptoRow : OpenClaim := { program := "ytahiajepeodhoaagreat", sum := "41da9798dcd61c971b6e37362574793c96d6e3bb7148ac435f5e2acd098ccd23", func := "fiducial/fiduciallaw17.CameraForms", spec := "cameraForms", unfollowed := true, recurses := true, apart := false, narrowed := true }
def CameraFormsUptoSaid : Prop := cameraFormsUptoRow.holds Tryz.pinned (OpenSpec.upto cameraFormsSpec)

end Rows
end Go.Proofs.YtahiajepeodhoaaGreat
