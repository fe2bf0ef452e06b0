/-
  Table 6, rows: what calls give, each by a run.
-/
import Derived.Test.YtpkldpbjjbplmaaGreatDoorAwB5q
import Derived.KernelRfl
namespace Go.Proofs.YtpkldpbjjbplmaaGreatDoor.Det
open Go
set_option linter.unusedVariables false
set_option maxRecDepth 100000
def rows6_1 : List Ent := [⟨96, 1487, [(.int .u8 47), (.str [49]), (.str [49])], (.tuple [(.str [49]), (.int .i64 0)])⟩, ⟨96, 1492, [(.int .u8 47), (.str [50]), (.str [49])], (.tuple [(.str [50]), (.int .i64 0)])⟩, ⟨96, 1497, [(.int .u8 47), (.str [51]), (.str [49])], (.tuple [(.str [51]), (.int .i64 0)])⟩, ⟨96, 2072, [(.int .u8 42), (.str [45, 50]), (.str [49])], (.tuple [(.str [45, 50]), (.int .i64 0)])⟩, ⟨96, 1534, [(.int .u8 43), (.str [50]), (.str [45, 50])], (.tuple [(.str [48]), (.int .i64 0)])⟩, ⟨96, 2073, [(.int .u8 42), (.str [45, 50]), (.str [50])], (.tuple [(.str [45, 52]), (.int .i64 0)])⟩]
theorem rows6_1_ok : rows6_1.all (rowOK E5 4000) = true := by kernel_rfl
def rows6_2 : List Ent := [⟨96, 1546, [(.int .u8 43), (.str [52]), (.str [45, 52])], (.tuple [(.str [48]), (.int .i64 0)])⟩, ⟨96, 2074, [(.int .u8 42), (.str [45, 50]), (.str [51])], (.tuple [(.str [45, 54]), (.int .i64 0)])⟩, ⟨96, 1563, [(.int .u8 43), (.str [55]), (.str [45, 54])], (.tuple [(.str [49]), (.int .i64 0)])⟩, ⟨96, 1482, [(.int .u8 47), (.str [48]), (.str [49])], (.tuple [(.str [48]), (.int .i64 0)])⟩, ⟨96, 2077, [(.int .u8 42), (.str [45, 51]), (.str [49])], (.tuple [(.str [45, 51]), (.int .i64 0)])⟩, ⟨96, 1540, [(.int .u8 43), (.str [51]), (.str [45, 51])], (.tuple [(.str [48]), (.int .i64 0)])⟩]
theorem rows6_2_ok : rows6_2.all (rowOK E5 4000) = true := by kernel_rfl
def rows6_3 : List Ent := [⟨96, 1539, [(.int .u8 43), (.str [51]), (.str [45, 50])], (.tuple [(.str [49]), (.int .i64 0)])⟩, ⟨96, 1524, [(.int .u8 43), (.str [48]), (.str [45, 50])], (.tuple [(.str [45, 50]), (.int .i64 0)])⟩, ⟨96, 2197, [(.int .u8 47), (.str [45, 50]), (.str [49])], (.tuple [(.str [45, 50]), (.int .i64 0)])⟩, ⟨96, 2078, [(.int .u8 42), (.str [45, 51]), (.str [50])], (.tuple [(.str [45, 54]), (.int .i64 0)])⟩, ⟨96, 1548, [(.int .u8 43), (.str [52]), (.str [45, 54])], (.tuple [(.str [45, 50]), (.int .i64 0)])⟩, ⟨96, 1525, [(.int .u8 43), (.str [48]), (.str [45, 51])], (.tuple [(.str [45, 51]), (.int .i64 0)])⟩]
theorem rows6_3_ok : rows6_3.all (rowOK E5 4000) = true := by kernel_rfl
def rows6_4 : List Ent := [⟨96, 1624, [(.int .u8 47), (.str [48]), (.str [45, 50])], (.tuple [(.str [48]), (.int .i64 0)])⟩, ⟨96, 2339, [(.int .u8 47), (.str [45, 50]), (.str [45, 50])], (.tuple [(.str [49]), (.int .i64 0)])⟩, ⟨96, 2344, [(.int .u8 47), (.str [45, 51]), (.str [45, 50])], (.tuple [(.str [51, 47, 50]), (.int .i64 0)])⟩, ⟨96, 1629, [(.int .u8 47), (.str [49]), (.str [45, 50])], (.tuple [(.str [45, 49, 47, 50]), (.int .i64 0)])⟩, ⟨96, 2697, [(.int .u8 42), (.str [45, 50]), (.str [51, 47, 50])], (.tuple [(.str [45, 51]), (.int .i64 0)])⟩, ⟨96, 1530, [(.int .u8 43), (.str [49]), (.str [45, 51])], (.tuple [(.str [45, 50]), (.int .i64 0)])⟩]
theorem rows6_4_ok : rows6_4.all (rowOK E5 4000) = true := by kernel_rfl
def rows6_5 : List Ent := [⟨96, 3948, [(.int .u8 42), (.str [45, 50]), (.str [45, 49, 47, 50])], (.tuple [(.str [49]), (.int .i64 0)])⟩, ⟨96, 1382, [(.int .u8 43), (.str [48]), (.str [49])], (.tuple [(.str [49]), (.int .i64 0)])⟩]
theorem rows6_5_ok : rows6_5.all (rowOK E5 4000) = true := by kernel_rfl
end Go.Proofs.YtpkldpbjjbplmaaGreatDoor.Det
