/-
  DERIVED. GIVEN WITH THE SEED: THE CARDS: each row of YtjbpcddplaakfaaGreatDoorRows.lean that lists a variable, with what it lists TIED to the program's text (the seventh form; the later family's looks); each row that meets fmt, with fmt's text TOLD by the authors' own Lean function (tested against real Go, not proved from fmt's source: count such statements apart). THE CARD IS WHAT COUNTS. Prove the row's statement (the work); the ties are given (YtjbpcddplaakfaaGreatDoorTie.lean); close each card by the builder's one call (the guide's Derived/Test/ToyasCard.lean, 'card_holds'). Laid BY PROGRAM, IN A SANDBOX (cutbox-door.mjs). By AI agents, Wed Nov 11 2026. No macro, syntax, notation, axiom, sorry.
-/
import Derived.Test.YtjbpcddplaakfaaGreatDoorRows
import GoSem.ClaimSeven
namespace Go.Proofs.YtjbpcddplaakfaaGreatDoor
namespace Rows

/-- THE TIED CARD OF 'surveyorlaw07.CutsLimits'. -/
def cutsLimitsCard : Claim7 := { stood := { row := cutsLimitsRow, standIns := [], harness := (true, "9aa115522ccd6163834520eb3c1af7955cd3c4c0cd3e17af619cffe2e391114a"), looks := true }, kinds := [], alts := [], laidByText := true, laidKinds := [.data, .data, .data, .data, .sentinel, .sentinel, .pinned], laidTests := true, laidLooks := .later }
def CutsLimitsCardSaid : Prop := Claim7.holds Tryz.pinned (.plain (OpenSpec.ofChange cutsLimitsSpec)) cutsLimitsCard

/-- THE SECOND FORM's CARD OF 'surveyorlaw07.CutsLimits'. -/
def cutsLimitsUptoCard : Claim7 := { stood := { row := cutsLimitsUptoRow, standIns := [], harness := (true, "9aa115522ccd6163834520eb3c1af7955cd3c4c0cd3e17af619cffe2e391114a"), looks := true }, kinds := [], alts := [], laidByText := true, laidKinds := [.data, .data, .data, .data, .sentinel, .sentinel, .pinned], laidTests := true, laidLooks := .later }
def CutsLimitsUptoCardSaid : Prop := Claim7.holds Tryz.pinned (.plain (OpenSpec.upto cutsLimitsSpec)) cutsLimitsUptoCard
end Rows
end Go.Proofs.YtjbpcddplaakfaaGreatDoor
