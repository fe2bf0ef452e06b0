/-
  The row and its card: CutsLimits answers true, and its arguments read as before, for every argument; no condition.
-/
import Derived.Test.YtjbpcddplaakfaaGreatDoorRowLq
namespace Go.Proofs.YtjbpcddplaakfaaGreatDoor.cutsLimits
open Go Go.ChangeShapes Go.WideShapes Go.ChangeAt Go.RowKit
set_option linter.unusedVariables false
set_option linter.unusedSimpArgs false

theorem named : Tryz.checked.prog.funcNamed Rows.cutsLimitsRow.func = some 3 := by kernel_rfl
theorem closed : joinedFacts Tryz.checked.prog 3 Tryz.f3 Rows.cutsLimitsSpec Rows.cutsLimitsRow = true := by kernel_rfl
theorem over : Rows.cutsLimitsRow.holds Tryz.pinned (OpenSpec.ofChange Rows.cutsLimitsSpec) :=
  OpenClaim.holds_of_wide 3 Tryz.f3 rfl rfl rfl rfl rfl rfl rfl ⟨rfl, rfl, rfl, rfl, rfl⟩ rfl rfl rfl rfl rfl named Tryz.func3 closed
    (of_decide_eq_true (by kernel_rfl)) (by unfold Func.isWrapper; first | (rw [if_pos (by decide +kernel)]; kernel_rfl) | (rw [if_neg (by decide +kernel)]; exact ⟨rfl, rfl⟩))
    (fun os started H enc _ => lifted os started H enc)

/-- ████ THE STATEMENT ████ -/
theorem said : Rows.CutsLimitsSaid :=
  over
theorem params_two {j t : Nat} (h : Tryz.f3.params[j]? = some t) : t = 22 := by
  rw [Tryz.params3] at h
  rcases j with _ | _ | j <;> simp at h <;> exact h.symm
/-- ████ THE CARD ████ -/
theorem proved : Rows.CutsLimitsCardSaid :=
  Claim7.holds_tied_plain_at .later [] [.data, .data, .data, .data, .sentinel, .sentinel, .pinned] true (true, "9aa115522ccd6163834520eb3c1af7955cd3c4c0cd3e17af619cffe2e391114a") true
    said (fun _ h => by cases h) (by kernel_rfl) (fun _ h => by cases h) cutsLimits_row_tie rfl ⟨rfl, rfl⟩ (by kernel_rfl) rfl
    (fun f fn hf hfn => by
      obtain rfl : f = 3 := Option.some.inj ((show Tryz.prog.funcNamed "surveyor/surveyorlaw07.CutsLimits" = some 3 by kernel_rfl).symm.trans hf) |>.symm
      obtain rfl : fn = Tryz.f3 := (Option.some.inj (Tryz.func3.symm.trans hfn)).symm
      exact ⟨by kernel_rfl, fun j t ht => by
        obtain rfl := params_two ht
        exact (show Tryz.prog.wantsStandIn 22 = false by kernel_rfl)⟩)
    (by kernel_rfl)
#print axioms proved
end Go.Proofs.YtjbpcddplaakfaaGreatDoor.cutsLimits
