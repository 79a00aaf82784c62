/-
  No cell of these rows narrows 'for every input' (looked for: loops, veiled, ifaces, maps, wideKeys, modest, calm, conditions, laid).
  DERIVED. THE GIVEN ROWS OF THIS SEAT. 6 by the template 'for every input the law returns true; each argument reads behind the call as it read before'; 0 by the template 'total and deterministic' (their statements: YtefbbhiaalcjfaaTotals.lean).
  GIVEN WITH THE SEED: the statements are not yours to turn. If you find one false, say at which input.
  Laid BY PROGRAM, IN A SANDBOX (cutbox-rows.mjs): the forced cells as the released guide's own fill.sh prints them over the translation 98ffb9eab193d72f… (all of the seat's roots in one cut). By AI agents, Wed Nov 11 2026. No macro, syntax, notation, axiom, sorry.
-/
import Derived.Test.YtefbbhiaalcjfaaChecked
import GoSem.Claim
import GoSem.ClaimJoined
import GoSem.ClaimMapViews
import Derived.JoinedTies
import Derived.KernelRfl
namespace Go.Proofs.Ytefbbhiaalcjfaa
/- THE CELL 'sum', in the pinned program and in every row, IS THE sha256 OF THE DUMP (.gsa) THAT YtefbbhiaalcjfaaProg.lean LOADS. Nothing in Lean hashes anything: it is a label: what it is worth is what the hold of that sum in a sandbox is worth. -/
noncomputable def Try.pinned : Pinned := { name := "ytefbbhiaalcjfaa", sum := "98ffb9eab193d72ff8e04df7a2fa7138beba63ee245f5b8b4e7ee38316e7e836", checked := Try.checked }
namespace Rows
def none {H : Type} : Left H := { results := [], args := [] }

/-- 'fiduciallaw24.BlobLabels': WHATEVER THE INPUT: true; the input reads as it did. -/
def blobLabelsSpec : ChangeSpec := { name := "blobLabels", fn := fun _ => fun
  | [d1, d2] => { results := [.lit (.bool true)], args := [d1, d2] }
  | _ => none }
def blobLabelsRow : OpenClaim := { program := "ytefbbhiaalcjfaa", sum := "98ffb9eab193d72ff8e04df7a2fa7138beba63ee245f5b8b4e7ee38316e7e836", func := "fiducial/fiduciallaw24.BlobLabels", spec := "blobLabels", unfollowed := true, recurses := true, apart := false }
def BlobLabelsSaid : Prop := blobLabelsRow.holds Try.pinned (OpenSpec.ofChange blobLabelsSpec)

/-- ITS FALSE NEIGHBOUR: 'it returns false'. Refute it at one input. -/
def blobLabelsWrong : ChangeSpec := { name := "blobLabels", fn := fun _ => fun
  | [d1, d2] => { results := [.lit (.bool false)], args := [d1, d2] }
  | _ => none }
def BlobLabelsWrongFalsely : Prop := blobLabelsRow.holds Try.pinned (OpenSpec.ofChange blobLabelsWrong)

/-- 'fiduciallaw24.BlobHoles': WHATEVER THE INPUT: true; the input reads as it did. -/
def blobHolesSpec : ChangeSpec := { name := "blobHoles", fn := fun _ => fun
  | [d1, d2] => { results := [.lit (.bool true)], args := [d1, d2] }
  | _ => none }
def blobHolesRow : OpenClaim := { program := "ytefbbhiaalcjfaa", sum := "98ffb9eab193d72ff8e04df7a2fa7138beba63ee245f5b8b4e7ee38316e7e836", func := "fiducial/fiduciallaw24.BlobHoles", spec := "blobHoles", unfollowed := true, recurses := true, apart := false }
def BlobHolesSaid : Prop := blobHolesRow.holds Try.pinned (OpenSpec.ofChange blobHolesSpec)

/-- ITS FALSE NEIGHBOUR: 'it returns false'. Refute it at one input. -/
def blobHolesWrong : ChangeSpec := { name := "blobHoles", fn := fun _ => fun
  | [d1, d2] => { results := [.lit (.bool false)], args := [d1, d2] }
  | _ => none }
def BlobHolesWrongFalsely : Prop := blobHolesRow.holds Try.pinned (OpenSpec.ofChange blobHolesWrong)

/-- 'fiduciallaw24.BlobEuler': WHATEVER THE INPUT: true; the input reads as it did. -/
def blobEulerSpec : ChangeSpec := { name := "blobEuler", fn := fun _ => fun
  | [d1, d2] => { results := [.lit (.bool true)], args := [d1, d2] }
  | _ => none }
def blobEulerRow : OpenClaim := { program := "ytefbbhiaalcjfaa", sum := "98ffb9eab193d72ff8e04df7a2fa7138beba63ee245f5b8b4e7ee38316e7e836", func := "fiducial/fiduciallaw24.BlobEuler", spec := "blobEuler", unfollowed := true, recurses := true, apart := false }
def BlobEulerSaid : Prop := blobEulerRow.holds Try.pinned (OpenSpec.ofChange blobEulerSpec)

/-- ITS FALSE NEIGHBOUR: 'it returns false'. Refute it at one input. -/
def blobEulerWrong : ChangeSpec := { name := "blobEuler", fn := fun _ => fun
  | [d1, d2] => { results := [.lit (.bool false)], args := [d1, d2] }
  | _ => none }
def BlobEulerWrongFalsely : Prop := blobEulerRow.holds Try.pinned (OpenSpec.ofChange blobEulerWrong)

/-- 'fiduciallaw24.BlobMoves': WHATEVER THE INPUT: true; the input reads as it did. -/
def blobMovesSpec : ChangeSpec := { name := "blobMoves", fn := fun _ => fun
  | [d1, d2, d3] => { results := [.lit (.bool true)], args := [d1, d2, d3] }
  | _ => none }
def blobMovesRow : OpenClaim := { program := "ytefbbhiaalcjfaa", sum := "98ffb9eab193d72ff8e04df7a2fa7138beba63ee245f5b8b4e7ee38316e7e836", func := "fiducial/fiduciallaw24.BlobMoves", spec := "blobMoves", unfollowed := true, recurses := true, apart := false }
def BlobMovesSaid : Prop := blobMovesRow.holds Try.pinned (OpenSpec.ofChange blobMovesSpec)

/-- ITS FALSE NEIGHBOUR: 'it returns false'. Refute it at one input. -/
def blobMovesWrong : ChangeSpec := { name := "blobMoves", fn := fun _ => fun
  | [d1, d2, d3] => { results := [.lit (.bool false)], args := [d1, d2, d3] }
  | _ => none }
def BlobMovesWrongFalsely : Prop := blobMovesRow.holds Try.pinned (OpenSpec.ofChange blobMovesWrong)

/-- 'fiduciallaw24.BlobMerges': WHATEVER THE INPUT: true; the input reads as it did. -/
def blobMergesSpec : ChangeSpec := { name := "blobMerges", fn := fun _ => fun
  | [d1, d2] => { results := [.lit (.bool true)], args := [d1, d2] }
  | _ => none }
def blobMergesRow : OpenClaim := { program := "ytefbbhiaalcjfaa", sum := "98ffb9eab193d72ff8e04df7a2fa7138beba63ee245f5b8b4e7ee38316e7e836", func := "fiducial/fiduciallaw24.BlobMerges", spec := "blobMerges", unfollowed := true, recurses := true, apart := false }
def BlobMergesSaid : Prop := blobMergesRow.holds Try.pinned (OpenSpec.ofChange blobMergesSpec)

/-- ITS FALSE NEIGHBOUR: 'it returns false'. Refute it at one input. -/
def blobMergesWrong : ChangeSpec := { name := "blobMerges", fn := fun _ => fun
  | [d1, d2] => { results := [.lit (.bool false)], args := [d1, d2] }
  | _ => none }
def BlobMergesWrongFalsely : Prop := blobMergesRow.holds Try.pinned (OpenSpec.ofChange blobMergesWrong)

/-- 'fiduciallaw24.BlobWhole': WHATEVER THE INPUT: true; the input reads as it did. -/
def blobWholeSpec : ChangeSpec := { name := "blobWhole", fn := fun _ => fun
  | [d1, d2, d3] => { results := [.lit (.bool true)], args := [d1, d2, d3] }
  | _ => none }
def blobWholeRow : OpenClaim := { program := "ytefbbhiaalcjfaa", sum := "98ffb9eab193d72ff8e04df7a2fa7138beba63ee245f5b8b4e7ee38316e7e836", func := "fiducial/fiduciallaw24.BlobWhole", spec := "blobWhole", unfollowed := true, recurses := true, apart := false }
def BlobWholeSaid : Prop := blobWholeRow.holds Try.pinned (OpenSpec.ofChange blobWholeSpec)

/-- ITS FALSE NEIGHBOUR: 'it returns false'. Refute it at one input. -/
def blobWholeWrong : ChangeSpec := { name := "blobWhole", fn := fun _ => fun
  | [d1, d2, d3] => { results := [.lit (.bool false)], args := [d1, d2, d3] }
  | _ => none }
def BlobWholeWrongFalsely : Prop := blobWholeRow.holds Try.pinned (OpenSpec.ofChange blobWholeWrong)

/- THE SECOND FORM. 'bulk': how many values and letters a reading holds, each counted each time it is reached (what is shared counts as often as it is met; a slice's spare places count too). A statement '..UptoSaid' is the law's where the arguments, and the package variables that the reading takes, are together of bulk at most 1048576: NARROWER than '..Said'. Prove '..Said' where nothing that the law and all that it calls make is longer than what came in: it says more and counts as full. Else prove '..UptoSaid'. A law counts once. -/
mutual
def uptoBulk {H : Type} : DataW H → Nat
  | .lit (.string bytes) => bytes.length + 1
  | .lit _ => 1
  | .nil => 1
  | .ptr d => uptoBulk d + 1
  | .slice elems spare => uptoBulkAll elems + uptoBulkAll spare + 1
  | .agg parts => uptoBulkAll parts + 1
  | .iface _ d => uptoBulk d + 1
  | .map entries => uptoBulkEntries entries + 1
  | .held _ => 1
def uptoBulkAll {H : Type} : List (DataW H) → Nat
  | [] => 0
  | d :: r => uptoBulk d + uptoBulkAll r
def uptoBulkEntries {H : Type} : List (Lit × DataW H) → Nat
  | [] => 0
  | x :: r => uptoBulkEntry x + uptoBulkEntries r
def uptoBulkEntry {H : Type} : Lit × DataW H → Nat
  | (.string bytes, d) => bytes.length + uptoBulk d + 1
  | (_, d) => uptoBulk d + 1
 end
def uptoSmall : (H : Type) → List (DataW H) → Bool := fun _ ds => decide (uptoBulkAll ds ≤ 1048576)
def OpenSpec.upto (s : _root_.Go.ChangeSpec) : _root_.Go.OpenSpec := { _root_.Go.OpenSpec.ofChange s with cond := some uptoSmall }

/-- 'fiduciallaw24.BlobLabels', WHERE WHAT IT READS IS OF BULK AT MOST 1048576: true; the input reads as it did. -/
def blobLabelsUptoRow : OpenClaim := { program := "ytefbbhiaalcjfaa", sum := "98ffb9eab193d72ff8e04df7a2fa7138beba63ee245f5b8b4e7ee38316e7e836", func := "fiducial/fiduciallaw24.BlobLabels", spec := "blobLabels", unfollowed := true, recurses := true, apart := false, narrowed := true }
def BlobLabelsUptoSaid : Prop := blobLabelsUptoRow.holds Try.pinned (OpenSpec.upto blobLabelsSpec)

/-- 'fiduciallaw24.BlobHoles', WHERE WHAT IT READS IS OF BULK AT MOST 1048576: true; the input reads as it did. -/
def blobHolesUptoRow : OpenClaim := { program := "ytefbbhiaalcjfaa", sum := "98ffb9eab193d72ff8e04df7a2fa7138beba63ee245f5b8b4e7ee38316e7e836", func := "fiducial/fiduciallaw24.BlobHoles", spec := "blobHoles", unfollowed := true, recurses := true, apart := false, narrowed := true }
def BlobHolesUptoSaid : Prop := blobHolesUptoRow.holds Try.pinned (OpenSpec.upto blobHolesSpec)

/-- 'fiduciallaw24.BlobEuler', WHERE WHAT IT READS IS OF BULK AT MOST 1048576: true; the input reads as it did. -/
def blobEulerUptoRow : OpenClaim := { program := "ytefbbhiaalcjfaa", sum := "98ffb9eab193d72ff8e04df7a2fa7138beba63ee245f5b8b4e7ee38316e7e836", func := "fiducial/fiduciallaw24.BlobEuler", spec := "blobEuler", unfollowed := true, recurses := true, apart := false, narrowed := true }
def BlobEulerUptoSaid : Prop := blobEulerUptoRow.holds Try.pinned (OpenSpec.upto blobEulerSpec)

/-- 'fiduciallaw24.BlobMoves', WHERE WHAT IT READS IS OF BULK AT MOST 1048576: true; the input reads as it did. -/
def blobMovesUptoRow : OpenClaim := { program := "ytefbbhiaalcjfaa", sum := "98ffb9eab193d72ff8e04df7a2fa7138beba63ee245f5b8b4e7ee38316e7e836", func := "fiducial/fiduciallaw24.BlobMoves", spec := "blobMoves", unfollowed := true, recurses := true, apart := false, narrowed := true }
def BlobMovesUptoSaid : Prop := blobMovesUptoRow.holds Try.pinned (OpenSpec.upto blobMovesSpec)

/-- 'fiduciallaw24.BlobMerges', WHERE WHAT IT READS IS OF BULK AT MOST 1048576: true; the input reads as it did. -/
def blobMergesUptoRow : OpenClaim := { program := "ytefbbhiaalcjfaa", sum := "98ffb9eab193d72ff8e04df7a2fa7138beba63ee245f5b8b4e7ee38316e7e836", func := "fiducial/fiduciallaw24.BlobMerges", spec := "blobMerges", unfollowed := true, recurses := true, apart := false, narrowed := true }
def BlobMergesUptoSaid : Prop := blobMergesUptoRow.holds Try.pinned (OpenSpec.upto blobMergesSpec)

/-- 'fiduciallaw24.BlobWhole', WHERE WHAT IT READS IS OF BULK AT MOST 1048576: true; the input reads as it did. -/
def blobWholeUptoRow : OpenClaim := { program := "ytefbbhiaalcjfaa", sum := "98ffb9eab193d72ff8e04df7a2fa7138beba63ee245f5b8b4e7ee38316e7e836", func := "fiducial/fiduciallaw24.BlobWhole", spec := "blobWhole", unfollowed := true, recurses := true, apart := false, narrowed := true }
def BlobWholeUptoSaid : Prop := blobWholeUptoRow.holds Try.pinned (OpenSpec.upto blobWholeSpec)

end Rows
end Go.Proofs.Ytefbbhiaalcjfaa
