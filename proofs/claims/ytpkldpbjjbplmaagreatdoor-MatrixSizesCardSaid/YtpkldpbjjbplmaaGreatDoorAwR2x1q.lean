/-
  Table 2, rows: what calls give, each by a run.
-/
import Derived.Test.YtpkldpbjjbplmaaGreatDoorAwB1q
import Derived.KernelRfl
namespace Go.Proofs.YtpkldpbjjbplmaaGreatDoor.Det
open Go
set_option linter.unusedVariables false
set_option maxRecDepth 100000
def rows2_1 : List Ent := [⟨44, 52, [(.str [49])], (.int .i64 0)⟩, ⟨44, 53, [(.str [50])], (.int .i64 0)⟩, ⟨44, 54, [(.str [51])], (.int .i64 0)⟩, ⟨44, 55, [(.str [52])], (.int .i64 0)⟩, ⟨44, 58, [(.str [55])], (.int .i64 0)⟩, ⟨44, 51, [(.str [48])], (.int .i64 0)⟩]
theorem rows2_1_ok : rows2_1.all (rowOK E1 4000) = true := by kernel_rfl
def rows2_2 : List Ent := [⟨44, 194, [(.str [45, 50])], (.int .i64 0)⟩, ⟨44, 196, [(.str [45, 52])], (.int .i64 0)⟩, ⟨44, 198, [(.str [45, 54])], (.int .i64 0)⟩, ⟨44, 195, [(.str [45, 51])], (.int .i64 0)⟩, ⟨44, 193, [(.str [45, 49])], (.int .i64 0)⟩, ⟨44, 56, [(.str [53])], (.int .i64 0)⟩]
theorem rows2_2_ok : rows2_2.all (rowOK E1 4000) = true := by kernel_rfl
end Go.Proofs.YtpkldpbjjbplmaaGreatDoor.Det
