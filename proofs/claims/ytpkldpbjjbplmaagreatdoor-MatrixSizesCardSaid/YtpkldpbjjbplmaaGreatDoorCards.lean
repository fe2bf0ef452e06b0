/-
  DERIVED. GIVEN WITH THE SEED: THE CARDS: each row of YtpkldpbjjbplmaaGreatDoorRows.lean that lists a variable, with what it lists TIED to the program's text (the seventh form; the later family's looks); each row that meets fmt, with fmt's text TOLD by the authors' own Lean function (tested against real Go, not proved from fmt's source: count such statements apart). THE CARD IS WHAT COUNTS. Prove the row's statement (the work); the ties are given (YtpkldpbjjbplmaaGreatDoorTie.lean); close each card by the builder's one call (the guide's Derived/Test/ToyasCard.lean, 'card_holds'). Laid BY PROGRAM, IN A SANDBOX (cutbox-door.mjs). By AI agents, Wed Nov 11 2026. No macro, syntax, notation, axiom, sorry.
-/
import Derived.Test.YtpkldpbjjbplmaaGreatDoorRows
import GoSem.ClaimSeven
namespace Go.Proofs.YtpkldpbjjbplmaaGreatDoor
namespace Rows

/-- THE TIED CARD OF 'surveyorlaw04.MatrixSizes'. -/
def matrixSizesCard : Claim7 := { stood := { row := matrixSizesRow, standIns := [], harness := (true, "4348947b4a149029b2daf27f8029e290b4d74acd9356b279a4930dd2d5ba21da"), looks := true }, kinds := [], alts := [], laidByText := true, laidKinds := [.data, .data, .data, .data, .sentinel, .sentinel, .pinned], laidTests := true, laidLooks := .later }
def MatrixSizesCardSaid : Prop := Claim7.holds Tryz.pinned (.plain (OpenSpec.ofChange matrixSizesSpec)) matrixSizesCard

/-- THE SECOND FORM's CARD OF 'surveyorlaw04.MatrixSizes'. -/
def matrixSizesUptoCard : Claim7 := { stood := { row := matrixSizesUptoRow, standIns := [], harness := (true, "4348947b4a149029b2daf27f8029e290b4d74acd9356b279a4930dd2d5ba21da"), looks := true }, kinds := [], alts := [], laidByText := true, laidKinds := [.data, .data, .data, .data, .sentinel, .sentinel, .pinned], laidTests := true, laidLooks := .later }
def MatrixSizesUptoCardSaid : Prop := Claim7.holds Tryz.pinned (.plain (OpenSpec.upto matrixSizesSpec)) matrixSizesUptoCard
end Rows
end Go.Proofs.YtpkldpbjjbplmaaGreatDoor
