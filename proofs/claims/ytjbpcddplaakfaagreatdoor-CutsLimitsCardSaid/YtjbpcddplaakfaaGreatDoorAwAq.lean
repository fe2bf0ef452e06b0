/-
  The program's types and functions, as the interpreter has them.
-/
import Derived.Test.YtjbpcddplaakfaaGreatDoorProg
import Derived.Test.YtjbpcddplaakfaaGreatDoorK3
import Derived.KernelRfl
namespace Go.Proofs.YtjbpcddplaakfaaGreatDoor.Det
open Go
set_option linter.unusedVariables false
set_option linter.unusedSimpArgs false
set_option maxRecDepth 100000
noncomputable def tabP : Tab := tabOf Tryz.prog (List.range Tryz.prog.types.size)
theorem tabP_ok : TabOK Tryz.prog tabP := tabOf_ok _ _
theorem mixed : Tryz.prog.follows .mixedOrders = true := by kernel_rfl
def extP : Nat → Option (List AV → AH → Option (AV × AH)) := fun g => cond (Nat.beq g 277) (some indexByteX) (cond (Nat.beq g 272) (some noEscX) (cond (Nat.beq g 308) (some (mkNoZeroX 5)) none))
theorem extP_ok : ∀ g p, extP g = some p → ExtOK Tryz.prog tabP g p := by
  intro g p h
  simp only [extP] at h
  cases h1 : Nat.beq g 277 with
  | true =>
    rw [h1, cond_true] at h; cases h
    have e := Nat.eq_of_beq_eq_true h1; subst e
    exact indexByteX_ok Tryz.func277 (by kernel_rfl) (by kernel_rfl) (by kernel_rfl) (by kernel_rfl)
  | false =>
    rw [h1, cond_false] at h
    cases h2 : Nat.beq g 272 with
    | true =>
      rw [h2, cond_true] at h; cases h
      have e := Nat.eq_of_beq_eq_true h2; subst e
      exact noEscX_ok Tryz.func272 (by kernel_rfl) (by kernel_rfl) (by kernel_rfl) (by kernel_rfl)
    | false =>
      rw [h2, cond_false] at h
      cases h3 : Nat.beq g 308 with
      | true =>
        rw [h3, cond_true] at h; cases h
        have e := Nat.eq_of_beq_eq_true h3; subst e
        exact mkNoZeroX_ok Tryz.func308 (by kernel_rfl) (by kernel_rfl) (by kernel_rfl) (by kernel_rfl) (t := 180) (by kernel_rfl) (by kernel_rfl)
      | false => rw [h3, cond_false] at h; cases h
noncomputable def E0 : Env := envOf Tryz.prog tabP (fun _ _ => none) extP
theorem E0_ok : EnvOK Tryz.prog tabP E0 := envOf_ok extP_ok (fun _ _ _ h => by cases h)
end Go.Proofs.YtjbpcddplaakfaaGreatDoor.Det
