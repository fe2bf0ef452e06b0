/-
  DERIVED. GIVEN WITH THE SEED: THE CARDS: each row of YtccmgnimoheekaaGreatDoorRows.lean that lists a variable, with what it lists TIED to the program's text (the seventh form; the later family's looks); each row that meets fmt, with fmt's text TOLD by the authors' own Lean function (tested against real Go, not proved from fmt's source: count such statements apart). THE CARD IS WHAT COUNTS. Prove the row's statement (the work); the ties are given (YtccmgnimoheekaaGreatDoorTie.lean); close each card by the builder's one call (the guide's Derived/Test/ToyasCard.lean, 'card_holds'). Laid BY PROGRAM, IN A SANDBOX (cutbox-door.mjs). By AI agents, Wed Nov 11 2026. No macro, syntax, notation, axiom, sorry.
-/
import Derived.Test.YtccmgnimoheekaaGreatDoorRows
import GoSem.ClaimSeven
namespace Go.Proofs.YtccmgnimoheekaaGreatDoor
namespace Rows

/-- THE TIED CARD OF 'surveyorlaw05.SimplexChecks'. -/
def simplexChecksCard : Claim7 := { stood := { row := simplexChecksRow, standIns := [], harness := (true, "1a116ce9c7f932bd553c497cac4c60944923369d61d7296bd10d108ecfaa65c3"), looks := true }, kinds := [], alts := [], laidByText := true, laidKinds := [.data, .data, .data, .data, .sentinel, .sentinel, .pinned], laidTests := true, laidLooks := .later }
def SimplexChecksCardSaid : Prop := Claim7.holds Tryz.pinned (.plain (OpenSpec.ofChange simplexChecksSpec)) simplexChecksCard

/-- THE SECOND FORM's CARD OF 'surveyorlaw05.SimplexChecks'. -/
def simplexChecksUptoCard : Claim7 := { stood := { row := simplexChecksUptoRow, standIns := [], harness := (true, "1a116ce9c7f932bd553c497cac4c60944923369d61d7296bd10d108ecfaa65c3"), looks := true }, kinds := [], alts := [], laidByText := true, laidKinds := [.data, .data, .data, .data, .sentinel, .sentinel, .pinned], laidTests := true, laidLooks := .later }
def SimplexChecksUptoCardSaid : Prop := Claim7.holds Tryz.pinned (.plain (OpenSpec.upto simplexChecksSpec)) simplexChecksUptoCard
end Rows
end Go.Proofs.YtccmgnimoheekaaGreatDoor
