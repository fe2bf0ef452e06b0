/-
  Table 3, rows: what calls give, each by a run.
-/
import Derived.Test.YtpkldpbjjbplmaaGreatDoorAwB2q
import Derived.KernelRfl
namespace Go.Proofs.YtpkldpbjjbplmaaGreatDoor.Det
open Go
set_option linter.unusedVariables false
set_option maxRecDepth 100000
def rows3_1 : List Ent := [⟨78, 312, [(.str [49]), (.str [49])], (.tuple [(.str [49]), (.int .i64 0)])⟩, ⟨78, 317, [(.str [50]), (.str [49])], (.tuple [(.str [50]), (.int .i64 0)])⟩, ⟨78, 322, [(.str [51]), (.str [49])], (.tuple [(.str [51]), (.int .i64 0)])⟩, ⟨78, 1022, [(.str [45, 50]), (.str [49])], (.tuple [(.str [45, 50]), (.int .i64 0)])⟩, ⟨78, 1023, [(.str [45, 50]), (.str [50])], (.tuple [(.str [45, 52]), (.int .i64 0)])⟩, ⟨78, 327, [(.str [52]), (.str [49])], (.tuple [(.str [52]), (.int .i64 0)])⟩]
theorem rows3_1_ok : rows3_1.all (rowOK E2 4000) = true := by kernel_rfl
def rows3_2 : List Ent := [⟨78, 1032, [(.str [45, 52]), (.str [49])], (.tuple [(.str [45, 52]), (.int .i64 0)])⟩, ⟨78, 1024, [(.str [45, 50]), (.str [51])], (.tuple [(.str [45, 54]), (.int .i64 0)])⟩, ⟨78, 342, [(.str [55]), (.str [49])], (.tuple [(.str [55]), (.int .i64 0)])⟩, ⟨78, 1042, [(.str [45, 54]), (.str [49])], (.tuple [(.str [45, 54]), (.int .i64 0)])⟩, ⟨78, 307, [(.str [48]), (.str [49])], (.tuple [(.str [48]), (.int .i64 0)])⟩, ⟨78, 1027, [(.str [45, 51]), (.str [49])], (.tuple [(.str [45, 51]), (.int .i64 0)])⟩]
theorem rows3_2_ok : rows3_2.all (rowOK E2 4000) = true := by kernel_rfl
def rows3_3 : List Ent := [⟨78, 1028, [(.str [45, 51]), (.str [50])], (.tuple [(.str [45, 54]), (.int .i64 0)])⟩, ⟨78, 454, [(.str [49]), (.str [45, 50])], (.tuple [(.str [45, 50]), (.int .i64 0)])⟩, ⟨78, 313, [(.str [49]), (.str [50])], (.tuple [(.str [50]), (.int .i64 0)])⟩, ⟨78, 1163, [(.str [45, 50]), (.str [45, 49])], (.tuple [(.str [50]), (.int .i64 0)])⟩, ⟨78, 315, [(.str [49]), (.str [52])], (.tuple [(.str [52]), (.int .i64 0)])⟩, ⟨78, 311, [(.str [49]), (.str [48])], (.tuple [(.str [48]), (.int .i64 0)])⟩]
theorem rows3_3_ok : rows3_3.all (rowOK E2 4000) = true := by kernel_rfl
def rows3_4 : List Ent := [⟨78, 458, [(.str [50]), (.str [45, 49])], (.tuple [(.str [45, 50]), (.int .i64 0)])⟩, ⟨78, 463, [(.str [51]), (.str [45, 49])], (.tuple [(.str [45, 51]), (.int .i64 0)])⟩, ⟨78, 314, [(.str [49]), (.str [51])], (.tuple [(.str [51]), (.int .i64 0)])⟩, ⟨78, 448, [(.str [48]), (.str [45, 49])], (.tuple [(.str [48]), (.int .i64 0)])⟩, ⟨78, 306, [(.str [48]), (.str [48])], (.tuple [(.str [48]), (.int .i64 0)])⟩, ⟨78, 308, [(.str [48]), (.str [50])], (.tuple [(.str [48]), (.int .i64 0)])⟩]
theorem rows3_4_ok : rows3_4.all (rowOK E2 4000) = true := by kernel_rfl
def rows3_5 : List Ent := [⟨78, 309, [(.str [48]), (.str [51])], (.tuple [(.str [48]), (.int .i64 0)])⟩, ⟨78, 449, [(.str [48]), (.str [45, 50])], (.tuple [(.str [48]), (.int .i64 0)])⟩]
theorem rows3_5_ok : rows3_5.all (rowOK E2 4000) = true := by kernel_rfl
def rows3_6 : List Ent := [⟨79, 308, [(.str [48]), (.str [50])], (.tuple [(.str [45, 50]), (.int .i64 0)])⟩, ⟨79, 307, [(.str [48]), (.str [49])], (.tuple [(.str [45, 49]), (.int .i64 0)])⟩, ⟨79, 323, [(.str [51]), (.str [50])], (.tuple [(.str [49]), (.int .i64 0)])⟩, ⟨79, 335, [(.str [53]), (.str [52])], (.tuple [(.str [49]), (.int .i64 0)])⟩, ⟨79, 318, [(.str [50]), (.str [50])], (.tuple [(.str [48]), (.int .i64 0)])⟩, ⟨79, 328, [(.str [52]), (.str [50])], (.tuple [(.str [50]), (.int .i64 0)])⟩]
theorem rows3_6_ok : rows3_6.all (rowOK E2 4000) = true := by kernel_rfl
end Go.Proofs.YtpkldpbjjbplmaaGreatDoor.Det
