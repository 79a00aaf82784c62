/-
  No cell of these rows narrows 'for every input' (looked for: loops, veiled, ifaces, maps, wideKeys, modest, calm, conditions, laid).
  DERIVED. THE GIVEN ROWS OF THIS SEAT. 8 by the template 'for every input the law returns true; each argument reads behind the call as it read before'; 0 by the template 'total and deterministic' (their statements: YtjcpbhlijoigfaaGreatTotals.lean).
  GIVEN WITH THE SEED: the statements are not yours to turn. If you find one false, say at which input.
  Laid BY PROGRAM, IN A SANDBOX (cutbox-rows.mjs): the forced cells as the released guide's own fill.sh prints them over the translation 0744d8eb4db9e6e8… (all of the seat's roots in one cut). By AI agents, Wed Nov 11 2026. No macro, syntax, notation, axiom, sorry.
-/
import Derived.Test.YtjcpbhlijoigfaaGreatChecked
import GoSem.Claim
import GoSem.ClaimJoined
import GoSem.ClaimMapViews
import Derived.JoinedTies
import Derived.KernelRfl
namespace Go.Proofs.YtjcpbhlijoigfaaGreat
/- THE CELL 'sum', in the pinned program and in every row, IS THE sha256 OF THE DUMP (.gsa) THAT YtjcpbhlijoigfaaGreatProg.lean LOADS. Nothing in Lean hashes anything: it is a label: what it is worth is what the hold of that sum in a sandbox is worth. -/
noncomputable def Tryz.pinned : Pinned := { name := "ytjcpbhlijoigfaagreat", sum := "0744d8eb4db9e6e8e8a5a56a9882ffe3585253af0c11e7652d94e922526417b9", checked := Tryz.checked }
namespace Rows
def none {H : Type} : Left H := { results := [], args := [] }

/-- 'fiduciallaw10.PolygonChecks': WHATEVER THE INPUT: true; the input reads as it did. -/
def polygonChecksSpec : ChangeSpec := { name := "polygonChecks", fn := fun _ => fun
  | [d] => { results := [.lit (.bool true)], args := [d] }
  | _ => none }
def polygonChecksRow : OpenClaim := { program := "ytjcpbhlijoigfaagreat", sum := "0744d8eb4db9e6e8e8a5a56a9882ffe3585253af0c11e7652d94e922526417b9", func := "fiducial/fiduciallaw10.PolygonChecks", spec := "polygonChecks", unfollowed := true, recurses := true, plainKeys := false, apart := false }
def PolygonChecksSaid : Prop := polygonChecksRow.holds Tryz.pinned (OpenSpec.ofChange polygonChecksSpec)

/-- ITS FALSE NEIGHBOUR: 'it returns false'. Refute it at one input. -/
def polygonChecksWrong : ChangeSpec := { name := "polygonChecks", fn := fun _ => fun
  | [d] => { results := [.lit (.bool false)], args := [d] }
  | _ => none }
def PolygonChecksWrongFalsely : Prop := polygonChecksRow.holds Tryz.pinned (OpenSpec.ofChange polygonChecksWrong)

/-- 'fiduciallaw10.PolygonInside': WHATEVER THE INPUT: true; the input reads as it did. -/
def polygonInsideSpec : ChangeSpec := { name := "polygonInside", fn := fun _ => fun
  | [d1, d2] => { results := [.lit (.bool true)], args := [d1, d2] }
  | _ => none }
def polygonInsideRow : OpenClaim := { program := "ytjcpbhlijoigfaagreat", sum := "0744d8eb4db9e6e8e8a5a56a9882ffe3585253af0c11e7652d94e922526417b9", func := "fiducial/fiduciallaw10.PolygonInside", spec := "polygonInside", unfollowed := true, recurses := true, plainKeys := false, apart := false }
def PolygonInsideSaid : Prop := polygonInsideRow.holds Tryz.pinned (OpenSpec.ofChange polygonInsideSpec)

/-- ITS FALSE NEIGHBOUR: 'it returns false'. Refute it at one input. -/
def polygonInsideWrong : ChangeSpec := { name := "polygonInside", fn := fun _ => fun
  | [d1, d2] => { results := [.lit (.bool false)], args := [d1, d2] }
  | _ => none }
def PolygonInsideWrongFalsely : Prop := polygonInsideRow.holds Tryz.pinned (OpenSpec.ofChange polygonInsideWrong)

/-- 'fiduciallaw10.PolygonWindows': WHATEVER THE INPUT: true; the input reads as it did. -/
def polygonWindowsSpec : ChangeSpec := { name := "polygonWindows", fn := fun _ => fun
  | [d1, d2, d3] => { results := [.lit (.bool true)], args := [d1, d2, d3] }
  | _ => none }
def polygonWindowsRow : OpenClaim := { program := "ytjcpbhlijoigfaagreat", sum := "0744d8eb4db9e6e8e8a5a56a9882ffe3585253af0c11e7652d94e922526417b9", func := "fiducial/fiduciallaw10.PolygonWindows", spec := "polygonWindows", unfollowed := true, recurses := true, plainKeys := false, apart := false }
def PolygonWindowsSaid : Prop := polygonWindowsRow.holds Tryz.pinned (OpenSpec.ofChange polygonWindowsSpec)

/-- ITS FALSE NEIGHBOUR: 'it returns false'. Refute it at one input. -/
def polygonWindowsWrong : ChangeSpec := { name := "polygonWindows", fn := fun _ => fun
  | [d1, d2, d3] => { results := [.lit (.bool false)], args := [d1, d2, d3] }
  | _ => none }
def PolygonWindowsWrongFalsely : Prop := polygonWindowsRow.holds Tryz.pinned (OpenSpec.ofChange polygonWindowsWrong)

/-- 'fiduciallaw10.PolygonTurned': WHATEVER THE INPUT: true; the input reads as it did. -/
def polygonTurnedSpec : ChangeSpec := { name := "polygonTurned", fn := fun _ => fun
  | [d1, d2, d3] => { results := [.lit (.bool true)], args := [d1, d2, d3] }
  | _ => none }
def polygonTurnedRow : OpenClaim := { program := "ytjcpbhlijoigfaagreat", sum := "0744d8eb4db9e6e8e8a5a56a9882ffe3585253af0c11e7652d94e922526417b9", func := "fiducial/fiduciallaw10.PolygonTurned", spec := "polygonTurned", unfollowed := true, recurses := true, plainKeys := false, apart := false }
def PolygonTurnedSaid : Prop := polygonTurnedRow.holds Tryz.pinned (OpenSpec.ofChange polygonTurnedSpec)

/-- ITS FALSE NEIGHBOUR: 'it returns false'. Refute it at one input. -/
def polygonTurnedWrong : ChangeSpec := { name := "polygonTurned", fn := fun _ => fun
  | [d1, d2, d3] => { results := [.lit (.bool false)], args := [d1, d2, d3] }
  | _ => none }
def PolygonTurnedWrongFalsely : Prop := polygonTurnedRow.holds Tryz.pinned (OpenSpec.ofChange polygonTurnedWrong)

/-- 'fiduciallaw10.PolygonEars': WHATEVER THE INPUT: true; the input reads as it did. -/
def polygonEarsSpec : ChangeSpec := { name := "polygonEars", fn := fun _ => fun
  | [d] => { results := [.lit (.bool true)], args := [d] }
  | _ => none }
def polygonEarsRow : OpenClaim := { program := "ytjcpbhlijoigfaagreat", sum := "0744d8eb4db9e6e8e8a5a56a9882ffe3585253af0c11e7652d94e922526417b9", func := "fiducial/fiduciallaw10.PolygonEars", spec := "polygonEars", unfollowed := true, recurses := true, plainKeys := false, apart := false }
def PolygonEarsSaid : Prop := polygonEarsRow.holds Tryz.pinned (OpenSpec.ofChange polygonEarsSpec)

/-- ITS FALSE NEIGHBOUR: 'it returns false'. Refute it at one input. -/
def polygonEarsWrong : ChangeSpec := { name := "polygonEars", fn := fun _ => fun
  | [d] => { results := [.lit (.bool false)], args := [d] }
  | _ => none }
def PolygonEarsWrongFalsely : Prop := polygonEarsRow.holds Tryz.pinned (OpenSpec.ofChange polygonEarsWrong)

/-- 'fiduciallaw10.PolygonCheckEars': WHATEVER THE INPUT: true; the input reads as it did. -/
def polygonCheckEarsSpec : ChangeSpec := { name := "polygonCheckEars", fn := fun _ => fun
  | [d1, d2] => { results := [.lit (.bool true)], args := [d1, d2] }
  | _ => none }
def polygonCheckEarsRow : OpenClaim := { program := "ytjcpbhlijoigfaagreat", sum := "0744d8eb4db9e6e8e8a5a56a9882ffe3585253af0c11e7652d94e922526417b9", func := "fiducial/fiduciallaw10.PolygonCheckEars", spec := "polygonCheckEars", unfollowed := true, recurses := true, plainKeys := false, apart := false }
def PolygonCheckEarsSaid : Prop := polygonCheckEarsRow.holds Tryz.pinned (OpenSpec.ofChange polygonCheckEarsSpec)

/-- ITS FALSE NEIGHBOUR: 'it returns false'. Refute it at one input. -/
def polygonCheckEarsWrong : ChangeSpec := { name := "polygonCheckEars", fn := fun _ => fun
  | [d1, d2] => { results := [.lit (.bool false)], args := [d1, d2] }
  | _ => none }
def PolygonCheckEarsWrongFalsely : Prop := polygonCheckEarsRow.holds Tryz.pinned (OpenSpec.ofChange polygonCheckEarsWrong)

/-- 'fiduciallaw10.PolygonCovers': WHATEVER THE INPUT: true; the input reads as it did. -/
def polygonCoversSpec : ChangeSpec := { name := "polygonCovers", fn := fun _ => fun
  | [d1, d2, d3] => { results := [.lit (.bool true)], args := [d1, d2, d3] }
  | _ => none }
def polygonCoversRow : OpenClaim := { program := "ytjcpbhlijoigfaagreat", sum := "0744d8eb4db9e6e8e8a5a56a9882ffe3585253af0c11e7652d94e922526417b9", func := "fiducial/fiduciallaw10.PolygonCovers", spec := "polygonCovers", unfollowed := true, recurses := true, plainKeys := false, apart := false }
def PolygonCoversSaid : Prop := polygonCoversRow.holds Tryz.pinned (OpenSpec.ofChange polygonCoversSpec)

/-- ITS FALSE NEIGHBOUR: 'it returns false'. Refute it at one input. -/
def polygonCoversWrong : ChangeSpec := { name := "polygonCovers", fn := fun _ => fun
  | [d1, d2, d3] => { results := [.lit (.bool false)], args := [d1, d2, d3] }
  | _ => none }
def PolygonCoversWrongFalsely : Prop := polygonCoversRow.holds Tryz.pinned (OpenSpec.ofChange polygonCoversWrong)

/-- 'fiduciallaw10.PolygonForms': WHATEVER THE INPUT: true; the input reads as it did. -/
def polygonFormsSpec : ChangeSpec := { name := "polygonForms", fn := fun _ => fun
  | [d] => { results := [.lit (.bool true)], args := [d] }
  | _ => none }
def polygonFormsRow : OpenClaim := { program := "ytjcpbhlijoigfaagreat", sum := "0744d8eb4db9e6e8e8a5a56a9882ffe3585253af0c11e7652d94e922526417b9", func := "fiducial/fiduciallaw10.PolygonForms", spec := "polygonForms", unfollowed := true, recurses := true, plainKeys := false, apart := false }
def PolygonFormsSaid : Prop := polygonFormsRow.holds Tryz.pinned (OpenSpec.ofChange polygonFormsSpec)

/-- ITS FALSE NEIGHBOUR: 'it returns false'. Refute it at one input. -/
def polygonFormsWrong : ChangeSpec := { name := "polygonForms", fn := fun _ => fun
  | [d] => { results := [.lit (.bool false)], args := [d] }
  | _ => none }
def PolygonFormsWrongFalsely : Prop := polygonFormsRow.holds Tryz.pinned (OpenSpec.ofChange polygonFormsWrong)

/- THE SECOND FORM. 'bulk': how many values and letters a reading holds, each counted each time it is reached (what is shared counts as often as it is met; a slice's spare places count too). A statement '..UptoSaid' is the law's where the arguments, and the package variables that the reading takes, are together of bulk at most 1048576: NARROWER than '..Said'. Prove '..Said' where nothing that the law and all that it calls make is longer than what came in: it says more and counts as full. Else prove '..UptoSaid'. A law counts once. -/
mutual
def uptoBulk {H : Type} : DataW H → Nat
  | .lit (.string bytes) => bytes.length + 1
  | .lit _ => 1
  | .nil => 1
  | .ptr d => uptoBulk d + 1
  | .slice elems spare => uptoBulkAll elems + uptoBulkAll spare + 1
  | .agg parts => uptoBulkAll parts + 1
  | .iface _ d => uptoBulk d + 1
  | .map entries => uptoBulkEntries entries + 1
  | .held _ => 1
def uptoBulkAll {H : Type} : List (DataW H) → Nat
  | [] => 0
  | d :: r => uptoBulk d + uptoBulkAll r
def uptoBulkEntries {H : Type} : List (Lit × DataW H) → Nat
  | [] => 0
  | x :: r => uptoBulkEntry x + uptoBulkEntries r
def uptoBulkEntry {H : Type} : Lit × DataW H → Nat
  | (.string bytes, d) => bytes.length + uptoBulk d + 1
  | (_, d) => uptoBulk d + 1
 end
def uptoSmall : (H : Type) → List (DataW H) → Bool := fun _ ds => decide (uptoBulkAll ds ≤ 1048576)
def OpenSpec.upto (s : _root_.Go.ChangeSpec) : _root_.Go.OpenSpec := { _root_.Go.OpenSpec.ofChange s with cond := some uptoSmall }

/-- 'fiduciallaw10.PolygonChecks', WHERE WHAT IT READS IS OF BULK AT MOST 1048576: true; the input reads as it did. -/
def polygonChecksUptoRow : OpenClaim := { program := "ytjcpbhlijoigfaagreat", sum := "0744d8eb4db9e6e8e8a5a56a9882ffe3585253af0c11e7652d94e922526417b9", func := "fiducial/fiduciallaw10.PolygonChecks", spec := "polygonChecks", unfollowed := true, recurses := true, plainKeys := false, apart := false, narrowed := true }
def PolygonChecksUptoSaid : Prop := polygonChecksUptoRow.holds Tryz.pinned (OpenSpec.upto polygonChecksSpec)

/-- 'fiduciallaw10.PolygonInside', WHERE WHAT IT READS IS OF BULK AT MOST 1048576: true; the input reads as it did. -/
def polygonInsideUptoRow : OpenClaim := { program := "ytjcpbhlijoigfaagreat", sum := "0744d8eb4db9e6e8e8a5a56a9882ffe3585253af0c11e7652d94e922526417b9", func := "fiducial/fiduciallaw10.PolygonInside", spec := "polygonInside", unfollowed := true, recurses := true, plainKeys := false, apart := false, narrowed := true }
def PolygonInsideUptoSaid : Prop := polygonInsideUptoRow.holds Tryz.pinned (OpenSpec.upto polygonInsideSpec)

/-- 'fiduciallaw10.PolygonWindows', WHERE WHAT IT READS IS OF BULK AT MOST 1048576: true; the input reads as it did. -/
def polygonWindowsUptoRow : OpenClaim := { program := "ytjcpbhlijoigfaagreat", sum := "0744d8eb4db9e6e8e8a5a56a9882ffe3585253af0c11e7652d94e922526417b9", func := "fiducial/fiduciallaw10.PolygonWindows", spec := "polygonWindows", unfollowed := true, recurses := true, plainKeys := false, apart := false, narrowed := true }
def PolygonWindowsUptoSaid : Prop := polygonWindowsUptoRow.holds Tryz.pinned (OpenSpec.upto polygonWindowsSpec)

/-- 'fiduciallaw10.PolygonTurned', WHERE WHAT IT READS IS OF BULK AT MOST 1048576: true; the input reads as it did. -/
def polygonTurnedUptoRow : OpenClaim := { program := "ytjcpbhlijoigfaagreat", sum := "0744d8eb4db9e6e8e8a5a56a9882ffe3585253af0c11e7652d94e922526417b9", func := "fiducial/fiduciallaw10.PolygonTurned", spec := "polygonTurned", unfollowed := true, recurses := true, plainKeys := false, apart := false, narrowed := true }
def PolygonTurnedUptoSaid : Prop := polygonTurnedUptoRow.holds Tryz.pinned (OpenSpec.upto polygonTurnedSpec)

/-- 'fiduciallaw10.PolygonEars', WHERE WHAT IT READS IS OF BULK AT MOST 1048576: true; the input reads as it did. -/
def polygonEarsUptoRow : OpenClaim := { program := "ytjcpbhlijoigfaagreat", sum := "0744d8eb4db9e6e8e8a5a56a9882ffe3585253af0c11e7652d94e922526417b9", func := "fiducial/fiduciallaw10.PolygonEars", spec := "polygonEars", unfollowed := true, recurses := true, plainKeys := false, apart := false, narrowed := true }
def PolygonEarsUptoSaid : Prop := polygonEarsUptoRow.holds Tryz.pinned (OpenSpec.upto polygonEarsSpec)

/-- 'fiduciallaw10.PolygonCheckEars', WHERE WHAT IT READS IS OF BULK AT MOST 1048576: true; the input reads as it did. -/
def polygonCheckEarsUptoRow : OpenClaim := { program := "ytjcpbhlijoigfaagreat", sum := "0744d8eb4db9e6e8e8a5a56a9882ffe3585253af0c11e7652d94e922526417b9", func := "fiducial/fiduciallaw10.PolygonCheckEars", spec := "polygonCheckEars", unfollowed := true, recurses := true, plainKeys := false, apart := false, narrowed := true }
def PolygonCheckEarsUptoSaid : Prop := polygonCheckEarsUptoRow.holds Tryz.pinned (OpenSpec.upto polygonCheckEarsSpec)

/-- 'fiduciallaw10.PolygonCovers', WHERE WHAT IT READS IS OF BULK AT MOST 1048576: true; the input reads as it did. -/
def polygonCoversUptoRow : OpenClaim := { program := "ytjcpbhlijoigfaagreat", sum := "0744d8eb4db9e6e8e8a5a56a9882ffe3585253af0c11e7652d94e922526417b9", func := "fiducial/fiduciallaw10.PolygonCovers", spec := "polygonCovers", unfollowed := true, recurses := true, plainKeys := false, apart := false, narrowed := true }
def PolygonCoversUptoSaid : Prop := polygonCoversUptoRow.holds Tryz.pinned (OpenSpec.upto polygonCoversSpec)

/-- 'fiduciallaw10.PolygonForms', WHERE WHAT IT READS IS OF BULK AT MOST 1048576: true; the input reads as it did. -/
def polygonFormsUptoRow : OpenClaim := { program := "ytjcpbhlijoigfaagreat", sum := "0744d8eb4db9e6e8e8a5a56a9882ffe3585253af0c11e7652d94e922526417b9", func := "fiducial/fiduciallaw10.PolygonForms", spec := "polygonForms", unfollowed := true, recurses := true, plainKeys := false, apart := false, narrowed := true }
def PolygonFormsUptoSaid : Prop := polygonFormsUptoRow.holds Tryz.pinned (OpenSpec.upto polygonFormsSpec)

end Rows
end Go.Proofs.YtjcpbhlijoigfaaGreat
