/-
  No cell of these rows narrows 'for every input' (looked for: loops, veiled, ifaces, maps, wideKeys, modest, calm, conditions, laid).
  DERIVED. THE GIVEN ROWS OF THIS SEAT. 2 by the template 'for every input the law returns true; each argument reads behind the call as it read before'; 0 by the template 'total and deterministic' (their statements: YtefbbhiaalcjfaaGreatTotals.lean).
  GIVEN WITH THE SEED: the statements are not yours to turn. If you find one false, say at which input.
  Laid BY PROGRAM, IN A SANDBOX (cutbox-rows.mjs): the forced cells as the released guide's own fill.sh prints them over the translation f5e490c5292141b6… (all of the seat's roots in one cut). By AI agents, Wed Nov 11 2026. No macro, syntax, notation, axiom, sorry.
-/
import Derived.Test.YtefbbhiaalcjfaaGreatChecked
import GoSem.Claim
import GoSem.ClaimJoined
import GoSem.ClaimMapViews
import Derived.JoinedTies
import Derived.KernelRfl
namespace Go.Proofs.YtefbbhiaalcjfaaGreat
/- THE CELL 'sum', in the pinned program and in every row, IS THE sha256 OF THE DUMP (.gsa) THAT YtefbbhiaalcjfaaGreatProg.lean LOADS. Nothing in Lean hashes anything: it is a label: what it is worth is what the hold of that sum in a sandbox is worth. -/
noncomputable def Tryz.pinned : Pinned := { name := "ytefbbhiaalcjfaagreat", sum := "f5e490c5292141b6515cbe9ffc1b4cde0479011619c6bd7d1437b985f9ed331d", checked := Tryz.checked }
namespace Rows
def none {H : Type} : Left H := { results := [], args := [] }

/-- 'fiduciallaw24.BlobSums': WHATEVER THE INPUT: true; the input reads as it did. -/
def blobSumsSpec : ChangeSpec := { name := "blobSums", fn := fun _ => fun
  | [d1, d2] => { results := [.lit (.bool true)], args := [d1, d2] }
  | _ => none }
def blobSumsRow : OpenClaim := { program := "ytefbbhiaalcjfaagreat", sum := "f5e490c5292141b6515cbe9ffc1b4cde0479011619c6bd7d1437b985f9ed331d", func := "fiducial/fiduciallaw24.BlobSums", spec := "blobSums", unfollowed := true, recurses := true, apart := false }
def BlobSumsSaid : Prop := blobSumsRow.holds Tryz.pinned (OpenSpec.ofChange blobSumsSpec)

/-- ITS FALSE NEIGHBOUR: 'it returns false'. Refute it at one input. -/
def blobSumsWrong : ChangeSpec := { name := "blobSums", fn := fun _ => fun
  | [d1, d2] => { results := [.lit (.bool false)], args := [d1, d2] }
  | _ => none }
def BlobSumsWrongFalsely : Prop := blobSumsRow.holds Tryz.pinned (OpenSpec.ofChange blobSumsWrong)

/-- 'fiduciallaw24.BlobMoments': WHATEVER THE INPUT: true; the input reads as it did. -/
def blobMomentsSpec : ChangeSpec := { name := "blobMoments", fn := fun _ => fun
  | [d1, d2, d3] => { results := [.lit (.bool true)], args := [d1, d2, d3] }
  | _ => none }
def blobMomentsRow : OpenClaim := { program := "ytefbbhiaalcjfaagreat", sum := "f5e490c5292141b6515cbe9ffc1b4cde0479011619c6bd7d1437b985f9ed331d", func := "fiducial/fiduciallaw24.BlobMoments", spec := "blobMoments", unfollowed := true, recurses := true, apart := false }
def BlobMomentsSaid : Prop := blobMomentsRow.holds Tryz.pinned (OpenSpec.ofChange blobMomentsSpec)

/-- ITS FALSE NEIGHBOUR: 'it returns false'. Refute it at one input. -/
def blobMomentsWrong : ChangeSpec := { name := "blobMoments", fn := fun _ => fun
  | [d1, d2, d3] => { results := [.lit (.bool false)], args := [d1, d2, d3] }
  | _ => none }
def BlobMomentsWrongFalsely : Prop := blobMomentsRow.holds Tryz.pinned (OpenSpec.ofChange blobMomentsWrong)

/- THE SECOND FORM. 'bulk': how many values and letters a reading holds, each counted each time it is reached (what is shared counts as often as it is met; a slice's spare places count too). A statement '..UptoSaid' is the law's where the arguments, and the package variables that the reading takes, are together of bulk at most 1048576: NARROWER than '..Said'. Prove '..Said' where nothing that the law and all that it calls make is longer than what came in: it says more and counts as full. Else prove '..UptoSaid'. A law counts once. -/
mutual
def uptoBulk {H : Type} : DataW H → Nat
  | .lit (.string bytes) => bytes.length + 1
  | .lit _ => 1
  | .nil => 1
  | .ptr d => uptoBulk d + 1
  | .slice elems spare => uptoBulkAll elems + uptoBulkAll spare + 1
  | .agg parts => uptoBulkAll parts + 1
  | .iface _ d => uptoBulk d + 1
  | .map entries => uptoBulkEntries entries + 1
  | .held _ => 1
def uptoBulkAll {H : Type} : List (DataW H) → Nat
  | [] => 0
  | d :: r => uptoBulk d + uptoBulkAll r
def uptoBulkEntries {H : Type} : List (Lit × DataW H) → Nat
  | [] => 0
  | x :: r => uptoBulkEntry x + uptoBulkEntries r
def uptoBulkEntry {H : Type} : Lit × DataW H → Nat
  | (.string bytes, d) => bytes.length + uptoBulk d + 1
  | (_, d) => uptoBulk d + 1
 end
def uptoSmall : (H : Type) → List (DataW H) → Bool := fun _ ds => decide (uptoBulkAll ds ≤ 1048576)
def OpenSpec.upto (s : _root_.Go.ChangeSpec) : _root_.Go.OpenSpec := { _root_.Go.OpenSpec.ofChange s with cond := some uptoSmall }

/-- 'fiduciallaw24.BlobSums', WHERE WHAT IT READS IS OF BULK AT MOST 1048576: true; the input reads as it did. -/
def blobSumsUptoRow : OpenClaim := { program := "ytefbbhiaalcjfaagreat", sum := "f5e490c5292141b6515cbe9ffc1b4cde0479011619c6bd7d1437b985f9ed331d", func := "fiducial/fiduciallaw24.BlobSums", spec := "blobSums", unfollowed := true, recurses := true, apart := false, narrowed := true }
def BlobSumsUptoSaid : Prop := blobSumsUptoRow.holds Tryz.pinned (OpenSpec.upto blobSumsSpec)

/-- 'fiduciallaw24.BlobMoments', WHERE WHAT IT READS IS OF BULK AT MOST 1048576: true; the input reads as it did. -/
def blobMomentsUptoRow : OpenClaim := { program := "ytefbbhiaalcjfaagreat", sum := "f5e490c5292141b6515cbe9ffc1b4cde0479011619c6bd7d1437b985f9ed331d", func := "fiducial/fiduciallaw24.BlobMoments", spec := "blobMoments", unfollowed := true, recurses := true, apart := false, narrowed := true }
def BlobMomentsUptoSaid : Prop := blobMomentsUptoRow.holds Tryz.pinned (OpenSpec.upto blobMomentsSpec)

end Rows
end Go.Proofs.YtefbbhiaalcjfaaGreat
