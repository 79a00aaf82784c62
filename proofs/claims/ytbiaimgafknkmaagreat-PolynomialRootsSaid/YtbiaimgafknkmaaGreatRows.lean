/-
  No cell of these rows narrows 'for every input' (looked for: loops, veiled, ifaces, maps, wideKeys, modest, calm, conditions, laid).
  DERIVED. THE GIVEN ROWS OF THIS SEAT. 6 by the template 'for every input the law returns true; each argument reads behind the call as it read before'; 0 by the template 'total and deterministic' (their statements: YtbiaimgafknkmaaGreatTotals.lean).
  GIVEN WITH THE SEED: the statements are not yours to turn. If you find one false, say at which input.
  Laid BY PROGRAM, IN A SANDBOX (cutbox-rows.mjs): the forced cells as the released guide's own fill.sh prints them over the translation 6a8c0c6d763b26f8… (all of the seat's roots in one cut). By AI agents, Wed Nov 11 2026. No macro, syntax, notation, axiom, sorry.
-/
import Derived.Test.YtbiaimgafknkmaaGreatChecked
import GoSem.Claim
import GoSem.ClaimJoined
import GoSem.ClaimMapViews
import Derived.JoinedTies
import Derived.KernelRfl
namespace Go.Proofs.YtbiaimgafknkmaaGreat
/- THE CELL 'sum', in the pinned program and in every row, IS THE sha256 OF THE DUMP (.gsa) THAT YtbiaimgafknkmaaGreatProg.lean LOADS. Nothing in Lean hashes anything: it is a label: what it is worth is what the hold of that sum in a sandbox is worth. -/
noncomputable def Tryz.pinned : Pinned := { name := "ytbiaimgafknkmaagreat", sum := "6a8c0c6d763b26f8ba1c1b2abb097ee7ba3b01a7ac11cd62fc0e6e76b6f3ebbd", checked := Tryz.checked }
namespace Rows
def none {H : Type} : Left H := { results := [], args := [] }

/-- 'fiduciallaw04.PolynomialSums': WHATEVER THE INPUT: true; the input reads as it did. -/
def polynomialSumsSpec : ChangeSpec := { name := "polynomialSums", fn := fun _ => fun
  | [d1, d2, d3] => { results := [.lit (.bool true)], args := [d1, d2, d3] }
  | _ => none }
def polynomialSumsRow : OpenClaim := { program := "ytbiaimgafknkmaagreat", sum := "6a8c0c6d763b26f8ba1c1b2abb097ee7ba3b01a7ac11cd62fc0e6e76b6f3ebbd", func := "fiducial/fiduciallaw04.PolynomialSums", spec := "polynomialSums", unfollowed := true, recurses := true, apart := false }
def PolynomialSumsSaid : Prop := polynomialSumsRow.holds Tryz.pinned (OpenSpec.ofChange polynomialSumsSpec)

/-- ITS FALSE NEIGHBOUR: 'it returns false'. Refute it at one input. -/
def polynomialSumsWrong : ChangeSpec := { name := "polynomialSums", fn := fun _ => fun
  | [d1, d2, d3] => { results := [.lit (.bool false)], args := [d1, d2, d3] }
  | _ => none }
def PolynomialSumsWrongFalsely : Prop := polynomialSumsRow.holds Tryz.pinned (OpenSpec.ofChange polynomialSumsWrong)

/-- 'fiduciallaw04.PolynomialRing': WHATEVER THE INPUT: true; the input reads as it did. -/
def polynomialRingSpec : ChangeSpec := { name := "polynomialRing", fn := fun _ => fun
  | [d1, d2, d3] => { results := [.lit (.bool true)], args := [d1, d2, d3] }
  | _ => none }
def polynomialRingRow : OpenClaim := { program := "ytbiaimgafknkmaagreat", sum := "6a8c0c6d763b26f8ba1c1b2abb097ee7ba3b01a7ac11cd62fc0e6e76b6f3ebbd", func := "fiducial/fiduciallaw04.PolynomialRing", spec := "polynomialRing", unfollowed := true, recurses := true, apart := false }
def PolynomialRingSaid : Prop := polynomialRingRow.holds Tryz.pinned (OpenSpec.ofChange polynomialRingSpec)

/-- ITS FALSE NEIGHBOUR: 'it returns false'. Refute it at one input. -/
def polynomialRingWrong : ChangeSpec := { name := "polynomialRing", fn := fun _ => fun
  | [d1, d2, d3] => { results := [.lit (.bool false)], args := [d1, d2, d3] }
  | _ => none }
def PolynomialRingWrongFalsely : Prop := polynomialRingRow.holds Tryz.pinned (OpenSpec.ofChange polynomialRingWrong)

/-- 'fiduciallaw04.PolynomialDivides': WHATEVER THE INPUT: true; the input reads as it did. -/
def polynomialDividesSpec : ChangeSpec := { name := "polynomialDivides", fn := fun _ => fun
  | [d1, d2] => { results := [.lit (.bool true)], args := [d1, d2] }
  | _ => none }
def polynomialDividesRow : OpenClaim := { program := "ytbiaimgafknkmaagreat", sum := "6a8c0c6d763b26f8ba1c1b2abb097ee7ba3b01a7ac11cd62fc0e6e76b6f3ebbd", func := "fiducial/fiduciallaw04.PolynomialDivides", spec := "polynomialDivides", unfollowed := true, recurses := true, apart := false }
def PolynomialDividesSaid : Prop := polynomialDividesRow.holds Tryz.pinned (OpenSpec.ofChange polynomialDividesSpec)

/-- ITS FALSE NEIGHBOUR: 'it returns false'. Refute it at one input. -/
def polynomialDividesWrong : ChangeSpec := { name := "polynomialDivides", fn := fun _ => fun
  | [d1, d2] => { results := [.lit (.bool false)], args := [d1, d2] }
  | _ => none }
def PolynomialDividesWrongFalsely : Prop := polynomialDividesRow.holds Tryz.pinned (OpenSpec.ofChange polynomialDividesWrong)

/-- 'fiduciallaw04.PolynomialBasic': WHATEVER THE INPUT: true; the input reads as it did. -/
def polynomialBasicSpec : ChangeSpec := { name := "polynomialBasic", fn := fun _ => fun
  | [d1, d2] => { results := [.lit (.bool true)], args := [d1, d2] }
  | _ => none }
def polynomialBasicRow : OpenClaim := { program := "ytbiaimgafknkmaagreat", sum := "6a8c0c6d763b26f8ba1c1b2abb097ee7ba3b01a7ac11cd62fc0e6e76b6f3ebbd", func := "fiducial/fiduciallaw04.PolynomialBasic", spec := "polynomialBasic", unfollowed := true, recurses := true, apart := false }
def PolynomialBasicSaid : Prop := polynomialBasicRow.holds Tryz.pinned (OpenSpec.ofChange polynomialBasicSpec)

/-- ITS FALSE NEIGHBOUR: 'it returns false'. Refute it at one input. -/
def polynomialBasicWrong : ChangeSpec := { name := "polynomialBasic", fn := fun _ => fun
  | [d1, d2] => { results := [.lit (.bool false)], args := [d1, d2] }
  | _ => none }
def PolynomialBasicWrongFalsely : Prop := polynomialBasicRow.holds Tryz.pinned (OpenSpec.ofChange polynomialBasicWrong)

/-- 'fiduciallaw04.PolynomialRefines': WHATEVER THE INPUT: true; the input reads as it did. -/
def polynomialRefinesSpec : ChangeSpec := { name := "polynomialRefines", fn := fun _ => fun
  | [d1, d2, d3] => { results := [.lit (.bool true)], args := [d1, d2, d3] }
  | _ => none }
def polynomialRefinesRow : OpenClaim := { program := "ytbiaimgafknkmaagreat", sum := "6a8c0c6d763b26f8ba1c1b2abb097ee7ba3b01a7ac11cd62fc0e6e76b6f3ebbd", func := "fiducial/fiduciallaw04.PolynomialRefines", spec := "polynomialRefines", unfollowed := true, recurses := true, apart := false }
def PolynomialRefinesSaid : Prop := polynomialRefinesRow.holds Tryz.pinned (OpenSpec.ofChange polynomialRefinesSpec)

/-- ITS FALSE NEIGHBOUR: 'it returns false'. Refute it at one input. -/
def polynomialRefinesWrong : ChangeSpec := { name := "polynomialRefines", fn := fun _ => fun
  | [d1, d2, d3] => { results := [.lit (.bool false)], args := [d1, d2, d3] }
  | _ => none }
def PolynomialRefinesWrongFalsely : Prop := polynomialRefinesRow.holds Tryz.pinned (OpenSpec.ofChange polynomialRefinesWrong)

/-- 'fiduciallaw04.PolynomialRoots': WHATEVER THE INPUT: true; the input reads as it did. -/
def polynomialRootsSpec : ChangeSpec := { name := "polynomialRoots", fn := fun _ => fun
  | [d] => { results := [.lit (.bool true)], args := [d] }
  | _ => none }
def polynomialRootsRow : OpenClaim := { program := "ytbiaimgafknkmaagreat", sum := "6a8c0c6d763b26f8ba1c1b2abb097ee7ba3b01a7ac11cd62fc0e6e76b6f3ebbd", func := "fiducial/fiduciallaw04.PolynomialRoots", spec := "polynomialRoots", unfollowed := true, recurses := true, apart := false }
def PolynomialRootsSaid : Prop := polynomialRootsRow.holds Tryz.pinned (OpenSpec.ofChange polynomialRootsSpec)

/-- ITS FALSE NEIGHBOUR: 'it returns false'. Refute it at one input. -/
def polynomialRootsWrong : ChangeSpec := { name := "polynomialRoots", fn := fun _ => fun
  | [d] => { results := [.lit (.bool false)], args := [d] }
  | _ => none }
def PolynomialRootsWrongFalsely : Prop := polynomialRootsRow.holds Tryz.pinned (OpenSpec.ofChange polynomialRootsWrong)

/- THE SECOND FORM. 'bulk': how many values and letters a reading holds, each counted each time it is reached (what is shared counts as often as it is met; a slice's spare places count too). A statement '..UptoSaid' is the law's where the arguments, and the package variables that the reading takes, are together of bulk at most 1048576: NARROWER than '..Said'. Prove '..Said' where nothing that the law and all that it calls make is longer than what came in: it says more and counts as full. Else prove '..UptoSaid'. A law counts once. -/
mutual
def uptoBulk {H : Type} : DataW H → Nat
  | .lit (.string bytes) => bytes.length + 1
  | .lit _ => 1
  | .nil => 1
  | .ptr d => uptoBulk d + 1
  | .slice elems spare => uptoBulkAll elems + uptoBulkAll spare + 1
  | .agg parts => uptoBulkAll parts + 1
  | .iface _ d => uptoBulk d + 1
  | .map entries => uptoBulkEntries entries + 1
  | .held _ => 1
def uptoBulkAll {H : Type} : List (DataW H) → Nat
  | [] => 0
  | d :: r => uptoBulk d + uptoBulkAll r
def uptoBulkEntries {H : Type} : List (Lit × DataW H) → Nat
  | [] => 0
  | x :: r => uptoBulkEntry x + uptoBulkEntries r
def uptoBulkEntry {H : Type} : Lit × DataW H → Nat
  | (.string bytes, d) => bytes.length + uptoBulk d + 1
  | (_, d) => uptoBulk d + 1
 end
def uptoSmall : (H : Type) → List (DataW H) → Bool := fun _ ds => decide (uptoBulkAll ds ≤ 1048576)
def OpenSpec.upto (s : _root_.Go.ChangeSpec) : _root_.Go.OpenSpec := { _root_.Go.OpenSpec.ofChange s with cond := some uptoSmall }

/-- 'fiduciallaw04.PolynomialSums', WHERE WHAT IT READS IS OF BULK AT MOST 1048576: true; the input reads as it did. -/
def polynomialSumsUptoRow : OpenClaim := { program := "ytbiaimgafknkmaagreat", sum := "6a8c0c6d763b26f8ba1c1b2abb097ee7ba3b01a7ac11cd62fc0e6e76b6f3ebbd", func := "fiducial/fiduciallaw04.PolynomialSums", spec := "polynomialSums", unfollowed := true, recurses := true, apart := false, narrowed := true }
def PolynomialSumsUptoSaid : Prop := polynomialSumsUptoRow.holds Tryz.pinned (OpenSpec.upto polynomialSumsSpec)

/-- 'fiduciallaw04.PolynomialRing', WHERE WHAT IT READS IS OF BULK AT MOST 1048576: true; the input reads as it did. -/
def polynomialRingUptoRow : OpenClaim := { program := "ytbiaimgafknkmaagreat", sum := "6a8c0c6d763b26f8ba1c1b2abb097ee7ba3b01a7ac11cd62fc0e6e76b6f3ebbd", func := "fiducial/fiduciallaw04.PolynomialRing", spec := "polynomialRing", unfollowed := true, recurses := true, apart := false, narrowed := true }
def PolynomialRingUptoSaid : Prop := polynomialRingUptoRow.holds Tryz.pinned (OpenSpec.upto polynomialRingSpec)

/-- 'fiduciallaw04.PolynomialDivides', WHERE WHAT IT READS IS OF BULK AT MOST 1048576: true; the input reads as it did. -/
def polynomialDividesUptoRow : OpenClaim := { program := "ytbiaimgafknkmaagreat", sum := "6a8c0c6d763b26f8ba1c1b2abb097ee7ba3b01a7ac11cd62fc0e6e76b6f3ebbd", func := "fiducial/fiduciallaw04.PolynomialDivides", spec := "polynomialDivides", unfollowed := true, recurses := true, apart := false, narrowed := true }
def PolynomialDividesUptoSaid : Prop := polynomialDividesUptoRow.holds Tryz.pinned (OpenSpec.upto polynomialDividesSpec)

/-- 'fiduciallaw04.PolynomialBasic', WHERE WHAT IT READS IS OF BULK AT MOST 1048576: true; the input reads as it did. -/
def polynomialBasicUptoRow : OpenClaim := { program := "ytbiaimgafknkmaagreat", sum := "6a8c0c6d763b26f8ba1c1b2abb097ee7ba3b01a7ac11cd62fc0e6e76b6f3ebbd", func := "fiducial/fiduciallaw04.PolynomialBasic", spec := "polynomialBasic", unfollowed := true, recurses := true, apart := false, narrowed := true }
def PolynomialBasicUptoSaid : Prop := polynomialBasicUptoRow.holds Tryz.pinned (OpenSpec.upto polynomialBasicSpec)

/-- 'fiduciallaw04.PolynomialRefines', WHERE WHAT IT READS IS OF BULK AT MOST 1048576: true; the input reads as it did. -/
def polynomialRefinesUptoRow : OpenClaim := { program := "ytbiaimgafknkmaagreat", sum := "6a8c0c6d763b26f8ba1c1b2abb097ee7ba3b01a7ac11cd62fc0e6e76b6f3ebbd", func := "fiducial/fiduciallaw04.PolynomialRefines", spec := "polynomialRefines", unfollowed := true, recurses := true, apart := false, narrowed := true }
def PolynomialRefinesUptoSaid : Prop := polynomialRefinesUptoRow.holds Tryz.pinned (OpenSpec.upto polynomialRefinesSpec)

/-- 'fiduciallaw04.PolynomialRoots', WHERE WHAT IT READS IS OF BULK AT MOST 1048576: true; the input reads as it did. -/
def polynomialRootsUptoRow : OpenClaim := { program := "ytbiaimgafknkmaagreat", sum := "6a8c0c6d763b26f8ba1c1b2abb097ee7ba3b01a7ac11cd62fc0e6e76b6f3ebbd", func := "fiducial/fiduciallaw04.PolynomialRoots", spec := "polynomialRoots", unfollowed := true, recurses := true, apart := false, narrowed := true }
def PolynomialRootsUptoSaid : Prop := polynomialRootsUptoRow.holds Tryz.pinned (OpenSpec.upto polynomialRootsSpec)

end Rows
end Go.Proofs.YtbiaimgafknkmaaGreat
