/-
  Table 3, rows: what calls give, each by a run.
-/
import Derived.Test.YtjbpcddplaakfaaGreatDoorAwB2q
import Derived.KernelRfl
namespace Go.Proofs.YtjbpcddplaakfaaGreatDoor.Det
open Go
set_option linter.unusedVariables false
set_option linter.unusedSimpArgs false
set_option maxRecDepth 100000
def rows3_13 : List Ent := [⟨90, 317, [(.str [50]), (.str [49])], (.tuple [(.str [50]), (.int .i64 0)])⟩, ⟨90, 307, [(.str [48]), (.str [49])], (.tuple [(.str [48]), (.int .i64 0)])⟩, ⟨90, 1027, [(.str [45, 51]), (.str [49])], (.tuple [(.str [45, 51]), (.int .i64 0)])⟩, ⟨90, 308, [(.str [48]), (.str [50])], (.tuple [(.str [48]), (.int .i64 0)])⟩, ⟨90, 1032, [(.str [45, 52]), (.str [49])], (.tuple [(.str [45, 52]), (.int .i64 0)])⟩, ⟨90, 317, [(.str [49]), (.str [54])], (.tuple [(.str [54]), (.int .i64 0)])⟩]
theorem rows3_13_ok : rows3_13.all (rowOK E2 4000) = true := by kernel_rfl
def rows3_14 : List Ent := [⟨90, 453, [(.str [49]), (.str [45, 49])], (.tuple [(.str [45, 49]), (.int .i64 0)])⟩]
theorem rows3_14_ok : rows3_14.all (rowOK E2 4000) = true := by kernel_rfl
def rows3_15 : List Ent := [⟨133, 449, [(.str [48]), (.str [45, 50])], (.tuple [(.str [50]), (.int .i64 0)])⟩, ⟨133, 308, [(.str [48]), (.str [50])], (.tuple [(.str [45, 50]), (.int .i64 0)])⟩, ⟨133, 311, [(.str [48]), (.str [53])], (.tuple [(.str [45, 53]), (.int .i64 0)])⟩, ⟨133, 306, [(.str [48]), (.str [48])], (.tuple [(.str [48]), (.int .i64 0)])⟩, ⟨133, 307, [(.str [48]), (.str [49])], (.tuple [(.str [45, 49]), (.int .i64 0)])⟩]
theorem rows3_15_ok : rows3_15.all (rowOK E2 4000) = true := by kernel_rfl
end Go.Proofs.YtjbpcddplaakfaaGreatDoor.Det
