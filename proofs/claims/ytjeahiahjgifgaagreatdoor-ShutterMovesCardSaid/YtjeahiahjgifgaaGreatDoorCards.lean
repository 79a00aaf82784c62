/-
  DERIVED. GIVEN WITH THE SEED: THE CARDS: each row of YtjeahiahjgifgaaGreatDoorRows.lean that lists a variable, with what it lists TIED to the program's text (the seventh form; the later family's looks); each row that meets fmt, with fmt's text TOLD by the authors' own Lean function (tested against real Go, not proved from fmt's source: count such statements apart). THE CARD IS WHAT COUNTS. Prove the row's statement (the work); the ties are given (YtjeahiahjgifgaaGreatDoorTie.lean); close each card by the builder's one call (the guide's Derived/Test/ToyasCard.lean, 'card_holds'). Laid BY PROGRAM, IN A SANDBOX (cutbox-door.mjs). By AI agents, Wed Nov 11 2026. No macro, syntax, notation, axiom, sorry.
-/
import Derived.Test.YtjeahiahjgifgaaGreatDoorRows
import GoSem.ClaimSeven
namespace Go.Proofs.YtjeahiahjgifgaaGreatDoor
namespace Rows

/-- THE TIED CARD OF 'fiduciallaw19.ShutterChecks'. -/
def shutterChecksCard : Claim7 := { stood := { row := shutterChecksRow, standIns := [], harness := (true, "84fa4f8d8f896eeb299dcb2888fd3af8744042f85488bc040e3e0f0d314bfbf6"), looks := false }, kinds := [], alts := [], laidByText := true, laidKinds := [.data], laidTests := true, laidLooks := .later }
def ShutterChecksCardSaid : Prop := Claim7.holds Tryz.pinned (.plain (OpenSpec.ofChange shutterChecksSpec)) shutterChecksCard

/-- THE TIED CARD OF 'fiduciallaw19.ShutterCorrects'. -/
def shutterCorrectsCard : Claim7 := { stood := { row := shutterCorrectsRow, standIns := [], harness := (true, "84fa4f8d8f896eeb299dcb2888fd3af8744042f85488bc040e3e0f0d314bfbf6"), looks := false }, kinds := [], alts := [], laidByText := true, laidKinds := [.data], laidTests := true, laidLooks := .later }
def ShutterCorrectsCardSaid : Prop := Claim7.holds Tryz.pinned (.plain (OpenSpec.ofChange shutterCorrectsSpec)) shutterCorrectsCard

/-- THE TIED CARD OF 'fiduciallaw19.ShutterMoves'. -/
def shutterMovesCard : Claim7 := { stood := { row := shutterMovesRow, standIns := [], harness := (true, "84fa4f8d8f896eeb299dcb2888fd3af8744042f85488bc040e3e0f0d314bfbf6"), looks := false }, kinds := [], alts := [], laidByText := true, laidKinds := [.data], laidTests := true, laidLooks := .later }
def ShutterMovesCardSaid : Prop := Claim7.holds Tryz.pinned (.plain (OpenSpec.ofChange shutterMovesSpec)) shutterMovesCard

/-- THE TIED CARD OF 'fiduciallaw19.ShutterAffine'. -/
def shutterAffineCard : Claim7 := { stood := { row := shutterAffineRow, standIns := [], harness := (true, "84fa4f8d8f896eeb299dcb2888fd3af8744042f85488bc040e3e0f0d314bfbf6"), looks := false }, kinds := [], alts := [], laidByText := true, laidKinds := [.data], laidTests := true, laidLooks := .later }
def ShutterAffineCardSaid : Prop := Claim7.holds Tryz.pinned (.plain (OpenSpec.ofChange shutterAffineSpec)) shutterAffineCard

/-- THE TIED CARD OF 'fiduciallaw19.ShutterGrounds'. -/
def shutterGroundsCard : Claim7 := { stood := { row := shutterGroundsRow, standIns := [], harness := (true, "84fa4f8d8f896eeb299dcb2888fd3af8744042f85488bc040e3e0f0d314bfbf6"), looks := false }, kinds := [], alts := [], laidByText := true, laidKinds := [.data], laidTests := true, laidLooks := .later }
def ShutterGroundsCardSaid : Prop := Claim7.holds Tryz.pinned (.plain (OpenSpec.ofChange shutterGroundsSpec)) shutterGroundsCard

/-- THE TIED CARD OF 'fiduciallaw19.ShutterImages'. -/
def shutterImagesCard : Claim7 := { stood := { row := shutterImagesRow, standIns := [], harness := (true, "84fa4f8d8f896eeb299dcb2888fd3af8744042f85488bc040e3e0f0d314bfbf6"), looks := false }, kinds := [], alts := [], laidByText := true, laidKinds := [.data], laidTests := true, laidLooks := .later }
def ShutterImagesCardSaid : Prop := Claim7.holds Tryz.pinned (.plain (OpenSpec.ofChange shutterImagesSpec)) shutterImagesCard

/-- THE TIED CARD OF 'fiduciallaw19.ShutterPoses'. -/
def shutterPosesCard : Claim7 := { stood := { row := shutterPosesRow, standIns := [], harness := (true, "84fa4f8d8f896eeb299dcb2888fd3af8744042f85488bc040e3e0f0d314bfbf6"), looks := false }, kinds := [], alts := [], laidByText := true, laidKinds := [.data], laidTests := true, laidLooks := .later }
def ShutterPosesCardSaid : Prop := Claim7.holds Tryz.pinned (.plain (OpenSpec.ofChange shutterPosesSpec)) shutterPosesCard

/-- THE TIED CARD OF 'fiduciallaw19.ShutterRows'. -/
def shutterRowsCard : Claim7 := { stood := { row := shutterRowsRow, standIns := [], harness := (true, "84fa4f8d8f896eeb299dcb2888fd3af8744042f85488bc040e3e0f0d314bfbf6"), looks := false }, kinds := [], alts := [], laidByText := true, laidKinds := [.data], laidTests := true, laidLooks := .later }
def ShutterRowsCardSaid : Prop := Claim7.holds Tryz.pinned (.plain (OpenSpec.ofChange shutterRowsSpec)) shutterRowsCard

/-- THE SECOND FORM's CARD OF 'fiduciallaw19.ShutterChecks'. -/
def shutterChecksUptoCard : Claim7 := { stood := { row := shutterChecksUptoRow, standIns := [], harness := (true, "84fa4f8d8f896eeb299dcb2888fd3af8744042f85488bc040e3e0f0d314bfbf6"), looks := false }, kinds := [], alts := [], laidByText := true, laidKinds := [.data], laidTests := true, laidLooks := .later }
def ShutterChecksUptoCardSaid : Prop := Claim7.holds Tryz.pinned (.plain (OpenSpec.upto shutterChecksSpec)) shutterChecksUptoCard

/-- THE SECOND FORM's CARD OF 'fiduciallaw19.ShutterCorrects'. -/
def shutterCorrectsUptoCard : Claim7 := { stood := { row := shutterCorrectsUptoRow, standIns := [], harness := (true, "84fa4f8d8f896eeb299dcb2888fd3af8744042f85488bc040e3e0f0d314bfbf6"), looks := false }, kinds := [], alts := [], laidByText := true, laidKinds := [.data], laidTests := true, laidLooks := .later }
def ShutterCorrectsUptoCardSaid : Prop := Claim7.holds Tryz.pinned (.plain (OpenSpec.upto shutterCorrectsSpec)) shutterCorrectsUptoCard

/-- THE SECOND FORM's CARD OF 'fiduciallaw19.ShutterMoves'. -/
def shutterMovesUptoCard : Claim7 := { stood := { row := shutterMovesUptoRow, standIns := [], harness := (true, "84fa4f8d8f896eeb299dcb2888fd3af8744042f85488bc040e3e0f0d314bfbf6"), looks := false }, kinds := [], alts := [], laidByText := true, laidKinds := [.data], laidTests := true, laidLooks := .later }
def ShutterMovesUptoCardSaid : Prop := Claim7.holds Tryz.pinned (.plain (OpenSpec.upto shutterMovesSpec)) shutterMovesUptoCard

/-- THE SECOND FORM's CARD OF 'fiduciallaw19.ShutterAffine'. -/
def shutterAffineUptoCard : Claim7 := { stood := { row := shutterAffineUptoRow, standIns := [], harness := (true, "84fa4f8d8f896eeb299dcb2888fd3af8744042f85488bc040e3e0f0d314bfbf6"), looks := false }, kinds := [], alts := [], laidByText := true, laidKinds := [.data], laidTests := true, laidLooks := .later }
def ShutterAffineUptoCardSaid : Prop := Claim7.holds Tryz.pinned (.plain (OpenSpec.upto shutterAffineSpec)) shutterAffineUptoCard

/-- THE SECOND FORM's CARD OF 'fiduciallaw19.ShutterGrounds'. -/
def shutterGroundsUptoCard : Claim7 := { stood := { row := shutterGroundsUptoRow, standIns := [], harness := (true, "84fa4f8d8f896eeb299dcb2888fd3af8744042f85488bc040e3e0f0d314bfbf6"), looks := false }, kinds := [], alts := [], laidByText := true, laidKinds := [.data], laidTests := true, laidLooks := .later }
def ShutterGroundsUptoCardSaid : Prop := Claim7.holds Tryz.pinned (.plain (OpenSpec.upto shutterGroundsSpec)) shutterGroundsUptoCard

/-- THE SECOND FORM's CARD OF 'fiduciallaw19.ShutterImages'. -/
def shutterImagesUptoCard : Claim7 := { stood := { row := shutterImagesUptoRow, standIns := [], harness := (true, "84fa4f8d8f896eeb299dcb2888fd3af8744042f85488bc040e3e0f0d314bfbf6"), looks := false }, kinds := [], alts := [], laidByText := true, laidKinds := [.data], laidTests := true, laidLooks := .later }
def ShutterImagesUptoCardSaid : Prop := Claim7.holds Tryz.pinned (.plain (OpenSpec.upto shutterImagesSpec)) shutterImagesUptoCard

/-- THE SECOND FORM's CARD OF 'fiduciallaw19.ShutterPoses'. -/
def shutterPosesUptoCard : Claim7 := { stood := { row := shutterPosesUptoRow, standIns := [], harness := (true, "84fa4f8d8f896eeb299dcb2888fd3af8744042f85488bc040e3e0f0d314bfbf6"), looks := false }, kinds := [], alts := [], laidByText := true, laidKinds := [.data], laidTests := true, laidLooks := .later }
def ShutterPosesUptoCardSaid : Prop := Claim7.holds Tryz.pinned (.plain (OpenSpec.upto shutterPosesSpec)) shutterPosesUptoCard

/-- THE SECOND FORM's CARD OF 'fiduciallaw19.ShutterRows'. -/
def shutterRowsUptoCard : Claim7 := { stood := { row := shutterRowsUptoRow, standIns := [], harness := (true, "84fa4f8d8f896eeb299dcb2888fd3af8744042f85488bc040e3e0f0d314bfbf6"), looks := false }, kinds := [], alts := [], laidByText := true, laidKinds := [.data], laidTests := true, laidLooks := .later }
def ShutterRowsUptoCardSaid : Prop := Claim7.holds Tryz.pinned (.plain (OpenSpec.upto shutterRowsSpec)) shutterRowsUptoCard
end Rows
end Go.Proofs.YtjeahiahjgifgaaGreatDoor
