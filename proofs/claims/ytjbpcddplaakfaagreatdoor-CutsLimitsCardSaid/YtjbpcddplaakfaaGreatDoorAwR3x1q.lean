/-
  Table 3, rows: what calls give, each by a run.
-/
import Derived.Test.YtjbpcddplaakfaaGreatDoorAwB2q
import Derived.KernelRfl
namespace Go.Proofs.YtjbpcddplaakfaaGreatDoor.Det
open Go
set_option linter.unusedVariables false
set_option linter.unusedSimpArgs false
set_option maxRecDepth 100000
def rows3_1 : List Ent := [⟨47, 323, [(.str [51]), (.str [50])], (.tuple [(.str [49]), (.int .i64 0)])⟩, ⟨47, 1023, [(.str [45, 50]), (.str [50])], (.tuple [(.str [50]), (.int .i64 0)])⟩, ⟨47, 313, [(.str [49]), (.str [50])], (.tuple [(.str [49]), (.int .i64 0)])⟩, ⟨47, 312, [(.str [49]), (.str [49])], (.tuple [(.str [49]), (.int .i64 0)])⟩, ⟨47, 307, [(.str [48]), (.str [49])], (.tuple [(.str [49]), (.int .i64 0)])⟩, ⟨47, 1028, [(.str [45, 51]), (.str [50])], (.tuple [(.str [49]), (.int .i64 0)])⟩]
theorem rows3_1_ok : rows3_1.all (rowOK E2 4000) = true := by kernel_rfl
def rows3_2 : List Ent := [⟨47, 1018, [(.str [45, 49]), (.str [50])], (.tuple [(.str [49]), (.int .i64 0)])⟩, ⟨47, 317, [(.str [50]), (.str [49])], (.tuple [(.str [49]), (.int .i64 0)])⟩, ⟨47, 318, [(.str [50]), (.str [50])], (.tuple [(.str [50]), (.int .i64 0)])⟩, ⟨47, 308, [(.str [48]), (.str [50])], (.tuple [(.str [50]), (.int .i64 0)])⟩, ⟨47, 1027, [(.str [45, 51]), (.str [49])], (.tuple [(.str [49]), (.int .i64 0)])⟩, ⟨47, 1022, [(.str [45, 50]), (.str [49])], (.tuple [(.str [49]), (.int .i64 0)])⟩]
theorem rows3_2_ok : rows3_2.all (rowOK E2 4000) = true := by kernel_rfl
def rows3_3 : List Ent := [⟨47, 1032, [(.str [45, 52]), (.str [49])], (.tuple [(.str [49]), (.int .i64 0)])⟩, ⟨47, 1017, [(.str [45, 49]), (.str [49])], (.tuple [(.str [49]), (.int .i64 0)])⟩, ⟨47, 1158, [(.str [45, 49]), (.str [45, 49])], (.tuple [(.str [49]), (.int .i64 0)])⟩]
theorem rows3_3_ok : rows3_3.all (rowOK E2 4000) = true := by kernel_rfl
def rows3_4 : List Ent := [⟨67, 316, [(.str [50]), (.str [48])], (.tuple [(.int .i64 1), (.int .i64 0)])⟩, ⟨67, 311, [(.str [49]), (.str [48])], (.tuple [(.int .i64 1), (.int .i64 0)])⟩, ⟨67, 306, [(.str [48]), (.str [48])], (.tuple [(.int .i64 0), (.int .i64 0)])⟩, ⟨67, 1164, [(.str [45, 50]), (.str [45, 50])], (.tuple [(.int .i64 0), (.int .i64 0)])⟩, ⟨67, 333, [(.str [53]), (.str [50])], (.tuple [(.int .i64 1), (.int .i64 0)])⟩, ⟨67, 1182, [(.str [45, 53]), (.str [45, 53])], (.tuple [(.int .i64 0), (.int .i64 0)])⟩]
theorem rows3_4_ok : rows3_4.all (rowOK E2 4000) = true := by kernel_rfl
def rows3_5 : List Ent := [⟨67, 338, [(.str [54]), (.str [50])], (.tuple [(.int .i64 1), (.int .i64 0)])⟩, ⟨67, 1016, [(.str [45, 49]), (.str [48])], (.tuple [(.int .i64 (-1)), (.int .i64 0)])⟩]
theorem rows3_5_ok : rows3_5.all (rowOK E2 4000) = true := by kernel_rfl
def rows3_6 : List Ent := [⟨79, 459, [(.str [50]), (.str [45, 50])], (.tuple [(.str [48]), (.int .i64 0)])⟩, ⟨79, 307, [(.str [48]), (.str [49])], (.tuple [(.str [49]), (.int .i64 0)])⟩, ⟨79, 306, [(.str [48]), (.str [48])], (.tuple [(.str [48]), (.int .i64 0)])⟩, ⟨79, 450, [(.str [48]), (.str [45, 51])], (.tuple [(.str [45, 51]), (.int .i64 0)])⟩, ⟨79, 449, [(.str [48]), (.str [45, 50])], (.tuple [(.str [45, 50]), (.int .i64 0)])⟩, ⟨79, 316, [(.str [50]), (.str [48])], (.tuple [(.str [50]), (.int .i64 0)])⟩]
theorem rows3_6_ok : rows3_6.all (rowOK E2 4000) = true := by kernel_rfl
end Go.Proofs.YtjbpcddplaakfaaGreatDoor.Det
