/-
  Table 4, rows: what calls give, each by a run.
-/
import Derived.Test.YtjbpcddplaakfaaGreatDoorAwB3q
import Derived.KernelRfl
namespace Go.Proofs.YtjbpcddplaakfaaGreatDoor.Det
open Go
set_option linter.unusedVariables false
set_option linter.unusedSimpArgs false
set_option maxRecDepth 100000
def rows4_13 : List Ent := [⟨159, 8112, [(.str [49]), (.str [49]), (.str [49]), (.str [49])], (.tuple [(.str [49]), (.str [49]), (.int .i64 0)])⟩, ⟨159, 25862, [(.str [45, 50]), (.str [49]), (.str [49]), (.str [49])], (.tuple [(.str [45, 50]), (.str [49]), (.int .i64 0)])⟩, ⟨159, 8697, [(.str [48]), (.str [49]), (.str [45, 50]), (.str [49])], (.tuple [(.str [48]), (.str [45, 50]), (.int .i64 0)])⟩, ⟨159, 8107, [(.str [49]), (.str [49]), (.str [48]), (.str [49])], (.tuple [(.str [49]), (.str [48]), (.int .i64 0)])⟩, ⟨159, 26112, [(.str [45, 52]), (.str [49]), (.str [49]), (.str [49])], (.tuple [(.str [45, 52]), (.str [49]), (.int .i64 0)])⟩, ⟨159, 8707, [(.str [48]), (.str [49]), (.str [45, 52]), (.str [49])], (.tuple [(.str [48]), (.str [45, 52]), (.int .i64 0)])⟩]
theorem rows4_13_ok : rows4_13.all (rowOK E3 4000) = true := by kernel_rfl
def rows4_14 : List Ent := [⟨159, 25737, [(.str [45, 49]), (.str [49]), (.str [49]), (.str [49])], (.tuple [(.str [45, 49]), (.str [49]), (.int .i64 0)])⟩, ⟨159, 8817, [(.str [49]), (.str [49]), (.str [45, 49]), (.str [49])], (.tuple [(.str [49]), (.str [45, 49]), (.int .i64 0)])⟩, ⟨159, 26107, [(.str [45, 52]), (.str [49]), (.str [48]), (.str [49])], (.tuple [(.str [45, 52]), (.str [48]), (.int .i64 0)])⟩, ⟨159, 25878, [(.str [45, 49]), (.str [49]), (.str [49]), (.str [45, 49])], (.tuple [(.str [45, 49]), (.str [45, 49]), (.int .i64 0)])⟩]
theorem rows4_14_ok : rows4_14.all (rowOK E3 4000) = true := by kernel_rfl
end Go.Proofs.YtjbpcddplaakfaaGreatDoor.Det
