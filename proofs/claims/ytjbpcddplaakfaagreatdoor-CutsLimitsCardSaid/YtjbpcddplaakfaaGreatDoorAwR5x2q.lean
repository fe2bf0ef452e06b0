/-
  Table 5, rows: what calls give, each by a run.
-/
import Derived.Test.YtjbpcddplaakfaaGreatDoorAwB4q
import Derived.KernelRfl
namespace Go.Proofs.YtjbpcddplaakfaaGreatDoor.Det
open Go
set_option linter.unusedVariables false
set_option linter.unusedSimpArgs false
set_option maxRecDepth 100000
def rows5_7 : List Ent := [⟨73, 1032, [(.str [45, 52]), (.str [49])], (.tuple [(.str [45, 52]), (.int .i64 0)])⟩, ⟨73, 1017, [(.str [45, 49]), (.str [49])], (.tuple [(.str [45, 49]), (.int .i64 0)])⟩, ⟨73, 1158, [(.str [45, 49]), (.str [45, 49])], (.tuple [(.str [49]), (.int .i64 0)])⟩]
theorem rows5_7_ok : rows5_7.all (rowOK E4 4000) = true := by kernel_rfl
end Go.Proofs.YtjbpcddplaakfaaGreatDoor.Det
