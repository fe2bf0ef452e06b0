/-
  Table 3, rows: what calls give, each by a run.
-/
import Derived.Test.YtjbpcddplaakfaaGreatDoorAwB2q
import Derived.KernelRfl
namespace Go.Proofs.YtjbpcddplaakfaaGreatDoor.Det
open Go
set_option linter.unusedVariables false
set_option linter.unusedSimpArgs false
set_option maxRecDepth 100000
def rows3_7 : List Ent := [⟨79, 319, [(.str [50]), (.str [51])], (.tuple [(.str [53]), (.int .i64 0)])⟩, ⟨79, 451, [(.str [48]), (.str [45, 52])], (.tuple [(.str [45, 52]), (.int .i64 0)])⟩, ⟨79, 312, [(.str [49]), (.str [49])], (.tuple [(.str [50]), (.int .i64 0)])⟩, ⟨79, 453, [(.str [49]), (.str [45, 49])], (.tuple [(.str [48]), (.int .i64 0)])⟩, ⟨79, 1031, [(.str [45, 52]), (.str [48])], (.tuple [(.str [45, 52]), (.int .i64 0)])⟩, ⟨79, 1174, [(.str [45, 52]), (.str [45, 50])], (.tuple [(.str [45, 54]), (.int .i64 0)])⟩]
theorem rows3_7_ok : rows3_7.all (rowOK E2 4000) = true := by kernel_rfl
def rows3_8 : List Ent := [⟨79, 460, [(.str [50]), (.str [45, 51])], (.tuple [(.str [45, 49]), (.int .i64 0)])⟩]
theorem rows3_8_ok : rows3_8.all (rowOK E2 4000) = true := by kernel_rfl
def rows3_9 : List Ent := [⟨83, 322, [(.str [51]), (.str [49])], (.tuple [(.str [51]), (.str [48]), (.int .i64 0)])⟩, ⟨83, 317, [(.str [50]), (.str [49])], (.tuple [(.str [50]), (.str [48]), (.int .i64 0)])⟩, ⟨83, 1023, [(.str [45, 50]), (.str [50])], (.tuple [(.str [45, 49]), (.str [48]), (.int .i64 0)])⟩, ⟨83, 318, [(.str [50]), (.str [50])], (.tuple [(.str [49]), (.str [48]), (.int .i64 0)])⟩, ⟨83, 312, [(.str [49]), (.str [49])], (.tuple [(.str [49]), (.str [48]), (.int .i64 0)])⟩, ⟨83, 307, [(.str [48]), (.str [49])], (.tuple [(.str [48]), (.str [48]), (.int .i64 0)])⟩]
theorem rows3_9_ok : rows3_9.all (rowOK E2 4000) = true := by kernel_rfl
def rows3_10 : List Ent := [⟨83, 1027, [(.str [45, 51]), (.str [49])], (.tuple [(.str [45, 51]), (.str [48]), (.int .i64 0)])⟩, ⟨83, 1017, [(.str [45, 49]), (.str [49])], (.tuple [(.str [45, 49]), (.str [48]), (.int .i64 0)])⟩, ⟨83, 1028, [(.str [45, 51]), (.str [50])], (.tuple [(.str [45, 50]), (.str [49]), (.int .i64 0)])⟩, ⟨83, 308, [(.str [48]), (.str [50])], (.tuple [(.str [48]), (.str [48]), (.int .i64 0)])⟩, ⟨83, 1022, [(.str [45, 50]), (.str [49])], (.tuple [(.str [45, 50]), (.str [48]), (.int .i64 0)])⟩, ⟨83, 1026, [(.str [45, 50]), (.str [53])], (.tuple [(.str [45, 49]), (.str [51]), (.int .i64 0)])⟩]
theorem rows3_10_ok : rows3_10.all (rowOK E2 4000) = true := by kernel_rfl
def rows3_11 : List Ent := [⟨83, 1032, [(.str [45, 52]), (.str [49])], (.tuple [(.str [45, 52]), (.str [48]), (.int .i64 0)])⟩, ⟨83, 342, [(.str [54]), (.str [54])], (.tuple [(.str [49]), (.str [48]), (.int .i64 0)])⟩, ⟨83, 1047, [(.str [45, 54]), (.str [54])], (.tuple [(.str [45, 49]), (.str [48]), (.int .i64 0)])⟩, ⟨83, 312, [(.str [48]), (.str [54])], (.tuple [(.str [48]), (.str [48]), (.int .i64 0)])⟩, ⟨83, 1158, [(.str [45, 49]), (.str [45, 49])], (.tuple [(.str [49]), (.str [48]), (.int .i64 0)])⟩]
theorem rows3_11_ok : rows3_11.all (rowOK E2 4000) = true := by kernel_rfl
def rows3_12 : List Ent := [⟨90, 322, [(.str [51]), (.str [49])], (.tuple [(.str [51]), (.int .i64 0)])⟩, ⟨90, 313, [(.str [49]), (.str [50])], (.tuple [(.str [50]), (.int .i64 0)])⟩, ⟨90, 1022, [(.str [45, 50]), (.str [49])], (.tuple [(.str [45, 50]), (.int .i64 0)])⟩, ⟨90, 312, [(.str [49]), (.str [49])], (.tuple [(.str [49]), (.int .i64 0)])⟩, ⟨90, 1019, [(.str [45, 49]), (.str [51])], (.tuple [(.str [45, 51]), (.int .i64 0)])⟩, ⟨90, 1017, [(.str [45, 49]), (.str [49])], (.tuple [(.str [45, 49]), (.int .i64 0)])⟩]
theorem rows3_12_ok : rows3_12.all (rowOK E2 4000) = true := by kernel_rfl
end Go.Proofs.YtjbpcddplaakfaaGreatDoor.Det
