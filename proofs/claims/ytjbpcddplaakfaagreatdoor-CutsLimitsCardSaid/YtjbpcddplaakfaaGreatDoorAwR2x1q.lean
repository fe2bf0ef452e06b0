/-
  Table 2, rows: what calls give, each by a run.
-/
import Derived.Test.YtjbpcddplaakfaaGreatDoorAwB1q
import Derived.KernelRfl
namespace Go.Proofs.YtjbpcddplaakfaaGreatDoor.Det
open Go
set_option linter.unusedVariables false
set_option linter.unusedSimpArgs false
set_option maxRecDepth 100000
def rows2_1 : List Ent := [⟨72, 53, [(.str [50])], (.int .i64 0)⟩, ⟨72, 51, [(.str [48])], (.int .i64 0)⟩, ⟨72, 195, [(.str [45, 51])], (.int .i64 0)⟩, ⟨72, 52, [(.str [49])], (.int .i64 0)⟩, ⟨72, 194, [(.str [45, 50])], (.int .i64 0)⟩, ⟨72, 54, [(.str [51])], (.int .i64 0)⟩]
theorem rows2_1_ok : rows2_1.all (rowOK E1 4000) = true := by kernel_rfl
def rows2_2 : List Ent := [⟨72, 193, [(.str [45, 49])], (.int .i64 0)⟩, ⟨72, 56, [(.str [53])], (.int .i64 0)⟩, ⟨72, 197, [(.str [45, 53])], (.int .i64 0)⟩, ⟨72, 196, [(.str [45, 52])], (.int .i64 0)⟩, ⟨72, 57, [(.str [54])], (.int .i64 0)⟩, ⟨72, 198, [(.str [45, 54])], (.int .i64 0)⟩]
theorem rows2_2_ok : rows2_2.all (rowOK E1 4000) = true := by kernel_rfl
end Go.Proofs.YtjbpcddplaakfaaGreatDoor.Det
