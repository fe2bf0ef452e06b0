/-
  MatrixSizes: the interpreter's code is the program's; the law's contract.
-/
import Derived.Test.YtpkldpbjjbplmaaGreatDoorS1
import Derived.Test.YtpkldpbjjbplmaaGreatDoorAwCq
import Derived.KernelRfl
namespace Go.Proofs.YtpkldpbjjbplmaaGreatDoor.Det
open Go
set_option linter.unusedVariables false
set_option linter.unusedSimpArgs false
set_option maxRecDepth 100000
theorem fn3 : E0.fn 3 = some F3 := by kernel_rfl
theorem fn5 : E0.fn 5 = some F5 := by kernel_rfl
theorem fn6 : E0.fn 6 = some F6 := by kernel_rfl
theorem fn7 : E0.fn 7 = some F7 := by kernel_rfl
theorem fn8 : E0.fn 8 = some F8 := by kernel_rfl
theorem fn9 : E0.fn 9 = some F9 := by kernel_rfl
theorem fn20 : E0.fn 20 = some F20 := by kernel_rfl
theorem fn53 : E0.fn 53 = some F53 := by kernel_rfl
theorem fn21 : E0.fn 21 = some F21 := by kernel_rfl
theorem fn22 : E0.fn 22 = some F22 := by kernel_rfl
theorem fn24 : E0.fn 24 = some F24 := by kernel_rfl
theorem fn25 : E0.fn 25 = some F25 := by kernel_rfl
theorem fn26 : E0.fn 26 = some F26 := by kernel_rfl
theorem fn34 : E0.fn 34 = some F34 := by kernel_rfl
theorem fn36 : E0.fn 36 = some F36 := by kernel_rfl
theorem fn31 : E0.fn 31 = some F31 := by kernel_rfl
theorem fn39 : E0.fn 39 = some F39 := by kernel_rfl
theorem fn59 : E0.fn 59 = some F59 := by kernel_rfl
theorem fn60 : E0.fn 60 = some F60 := by kernel_rfl
theorem fn66 : E0.fn 66 = some F66 := by kernel_rfl
theorem fn90 : E0.fn 90 = some F90 := by kernel_rfl
theorem fn91 : E0.fn 91 = some F91 := by kernel_rfl
theorem fn114 : E0.fn 114 = some F114 := by kernel_rfl
theorem run23 : runsTo E7 4000 23 [.str [48]] (.int .i64 0) = true := by kernel_rfl
theorem run61 : runsTo E7 4000 61 [.str [48]] (.int .i64 0) = true := by kernel_rfl
theorem prim23 : PrimOK Tryz.prog tabP 23 [.str [48]] (.int .i64 0) := by
  obtain ⟨H', h⟩ := runsTo_ok run23
  exact primOK_of_run tabP_ok mixed E7_ok h (by kernel_rfl) rfl rfl
theorem prim61 : PrimOK Tryz.prog tabP 61 [.str [48]] (.int .i64 0) := by
  obtain ⟨H', h⟩ := runsTo_ok run61
  exact primOK_of_run tabP_ok mixed E7_ok h (by kernel_rfl) rfl rfl
/-- The calls that are known already: the run of the examples, the checks of a zero. -/
def primM (g : Nat) (args : List AV) : Option AV :=
  cond (Nat.beq g 4) (cond (AV.sameL [] args) (some (.bool true)) none) (cond (Nat.beq g 23) (cond (AV.sameL [.str [48]] args) (some (.int .i64 0)) none) (cond (Nat.beq g 61) (cond (AV.sameL [.str [48]] args) (some (.int .i64 0)) none) none))
theorem primM_ok (g : Nat) (args : List AV) (v : AV) (h : primM g args = some v) : PrimOK Tryz.prog tabP g args v := by
  simp only [primM] at h
  cases h1 : Nat.beq g 4 with
  | true =>
    rw [h1, cond_true] at h
    cases h2 : AV.sameL [] args with
    | false => rw [h2] at h; cases h
    | true =>
      rw [h2] at h; cases h
      rw [Nat.eq_of_beq_eq_true h1, ← AV.sameL_eq _ _ h2]
      exact awake_prim
  | false =>
    rw [h1, cond_false] at h
    cases h3 : Nat.beq g 23 with
    | true =>
      rw [h3, cond_true] at h
      cases h2 : AV.sameL [.str [48]] args with
      | false => rw [h2] at h; cases h
      | true =>
        rw [h2] at h; cases h
        rw [Nat.eq_of_beq_eq_true h3, ← AV.sameL_eq _ _ h2]
        exact prim23
    | false =>
      rw [h3, cond_false] at h
      cases h4 : Nat.beq g 61 with
      | false => rw [h4] at h; cases h
      | true =>
        rw [h4, cond_true] at h
        cases h2 : AV.sameL [.str [48]] args with
        | false => rw [h2] at h; cases h
        | true =>
          rw [h2] at h; cases h
          rw [Nat.eq_of_beq_eq_true h4, ← AV.sameL_eq _ _ h2]
          exact prim61
noncomputable def EM : Env := { E0 with prim := primM }
theorem EM_ok : EnvOK Tryz.prog tabP EM where
  fn := E0_ok.fn
  ext := E0_ok.ext
  prim := primM_ok
theorem EM_both : Both EM where
  k5 := ⟨fn5, fun _ => rfl, rfl⟩
  k20 := ⟨fn20, fun _ => rfl, rfl⟩
  k53 := ⟨fn53, fun _ => rfl, rfl⟩
  k21 := ⟨fn21, fun _ => rfl, rfl⟩
  k22 := ⟨fn22, fun _ => rfl, rfl⟩
  k24 := ⟨fn24, fun _ => rfl, rfl⟩
  k34 := ⟨fn34, fun _ => rfl, rfl⟩
  k39 := ⟨fn39, fun _ => rfl, rfl⟩
  k59 := ⟨fn59, fun _ => rfl, rfl⟩
  k36 := ⟨fn36, fun _ => rfl, rfl⟩
  k66 := ⟨fn66, fun _ => rfl, rfl⟩
  k31 := ⟨fn31, fun _ => rfl, rfl⟩
  k7 := ⟨fn7, fun _ => rfl, rfl⟩
  k3 := ⟨fn3, fun _ => rfl, rfl⟩
  k6 := ⟨fn6, fun _ => rfl, rfl⟩
  k8 := ⟨fn8, fun _ => rfl, rfl⟩
  k25 := ⟨fn25, fun _ => rfl, rfl⟩
  k9 := ⟨fn9, fun _ => rfl, rfl⟩
  k26 := ⟨fn26, fun _ => rfl, rfl⟩
  k60 := ⟨fn60, fun _ => rfl, rfl⟩
  k90 := ⟨fn90, fun _ => rfl, rfl⟩
  k114 := ⟨fn114, fun _ => rfl, rfl⟩
  k91 := ⟨fn91, fun _ => rfl, rfl⟩
  p23 := by kernel_rfl
  p61 := by kernel_rfl
  p4 := by kernel_rfl
theorem sizes_prim (a0 a1 a2 : Int) : PrimOK Tryz.prog tabP 3 [.int .i64 a0, .int .i64 a1, .int .i64 a2] (.bool true) := by
  obtain ⟨⟨v, H'⟩, hr, rfl⟩ := sizes_c EM_both H0 a0 a1 a2
  obtain ⟨n, h⟩ := C_run hr
  exact primOK_of_run tabP_ok mixed EM_ok h (by kernel_rfl) rfl rfl
end Go.Proofs.YtpkldpbjjbplmaaGreatDoor.Det
