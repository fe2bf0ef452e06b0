/-
  Joined out of: SymC SymM1 SymM2 SymM3 SymM4 SymM5 SymM6 SymM7 SymM8 SymM9 SymM10 SymM11 SymM12.
-/
import Derived.Test.YtpkldpbjjbplmaaGreatDoorK3

/-! The code of the functions that a matrix of zeros comes to, as the interpreter has it. -/
namespace Go.Proofs.YtpkldpbjjbplmaaGreatDoor.Det
open Go
def r3_1 : List AOper := [⟨some 6, .mv (.c (.bool false)), none⟩]
def r3_2 : List AOper := [⟨some 12, .mv (.t 0), none⟩, ⟨some 13, .bin .gtr (.t 12) (.c (.int .i64 70)), none⟩, ⟨some 14, .mv (.t 13), none⟩, ⟨some 15, .mv (.t 0), some (14, false)⟩, ⟨some 16, .bin .lss (.t 15) (.c (.int .i64 (-1))), some (14, false)⟩, ⟨some 17, .pick (.t 14) (.c (.bool true)) (.t 16), none⟩, ⟨some 18, .mv (.t 17), none⟩, ⟨some 19, .mv (.t 1), some (18, false)⟩, ⟨some 20, .bin .lss (.t 19) (.c (.int .i64 0)), some (18, false)⟩, ⟨some 21, .pick (.t 18) (.c (.bool true)) (.t 20), none⟩, ⟨some 22, .mv (.t 21), none⟩, ⟨some 23, .mv (.t 1), some (22, false)⟩, ⟨some 24, .bin .gtr (.t 23) (.c (.int .i64 70)), some (22, false)⟩, ⟨some 25, .pick (.t 22) (.c (.bool true)) (.t 24), none⟩, ⟨some 26, .mv (.t 25), none⟩, ⟨some 27, .mv (.t 2), some (26, false)⟩, ⟨some 28, .bin .lss (.t 27) (.c (.int .i64 0)), some (26, false)⟩, ⟨some 29, .pick (.t 26) (.c (.bool true)) (.t 28), none⟩, ⟨some 30, .mv (.t 29), none⟩, ⟨some 31, .mv (.t 2), some (30, false)⟩, ⟨some 32, .bin .gtr (.t 31) (.c (.int .i64 70)), some (30, false)⟩, ⟨some 33, .pick (.t 30) (.c (.bool true)) (.t 32), none⟩]
def r3_3 : List AOper := [⟨some 34, .call (.c (.func 4 [] [])) [], none⟩, ⟨some 35, .mv (.t 34), none⟩, ⟨some 36, .build [(.int .i64 0), (.slice none 0 0 0)] [(0, 1, (.c (.int .i64 65)))], some (35, true)⟩, ⟨some 37, .call (.c (.func 5 [] [])) [(.t 36)], some (35, true)⟩, ⟨some 38, .bin .eql (.t 37) (.c (.int .i64 2)), some (35, true)⟩, ⟨some 39, .pick (.t 35) (.t 38) (.c (.bool false)), none⟩, ⟨some 6, .mv (.t 39), none⟩]
def c3_4 : ACode := (.seq (.region r3_3) .ret)
def r3_5 : List AOper := [⟨some 40, .mv (.t 0), none⟩, ⟨some 41, .build [(.int .i64 0), (.slice none 0 0 0)] [(0, 1, (.t 40))], none⟩, ⟨some 7, .alloc 27 [(.int .i64 0), (.slice none 0 0 0)], none⟩, ⟨none, .store 2 (.t 7) (.t 41), none⟩]
def r3_6 : List AOper := [⟨some 42, .mv (.t 1), none⟩, ⟨some 43, .mv (.c (.int .i64 0)), none⟩]
def r3_7 : List AOper := [⟨some 44, .bin .lss (.t 43) (.t 42), none⟩]
def r3_8 : List AOper := [⟨some 45, .faddr 1 (.t 7), none⟩, ⟨some 46, .load1 (.t 45), none⟩, ⟨some 47, .mv (.t 0), none⟩, ⟨some 48, .minmax true [(.t 47), (.c (.int .i64 0))], none⟩, ⟨some 49, .call (.c (.func 6 [] [])) [(.t 48)], none⟩, ⟨some 50, .bslice [(.slice none 0 0 0)] 1 [(0, 1, (.t 49))], none⟩, ⟨some 51, .append 28 [(.slice none 0 0 0)] 24 (.t 46) (.t 50), none⟩, ⟨some 52, .faddr 1 (.t 7), none⟩, ⟨none, .store 1 (.t 52) (.t 51), none⟩]
def p3_9 : List (Nat × Nat) := [(2, 0), (3, 4), (4, 12), (0, 0), (1, 1), (5, 28), (6, 63), (7, 127), (8, 255)]
def c3_10 : ACode := (.regionD r3_8 p3_9)
def r3_11 : List AOper := [⟨some 53, .bin .add (.t 43) (.c (.int .i64 1)), none⟩, ⟨some 43, .mv (.t 53), none⟩]
def c3_12 : ACode := (.seq (.region r3_7) (.seq (.cond (.t 44) .skip (.exit 0)) (.seq (.block 1 c3_10) (.region r3_11))))
def c3_13 : ACode := (.loop c3_12)
def r3_14 : List AOper := [⟨some 54, .faddr 1 (.t 7), none⟩, ⟨some 55, .load1 (.t 54), none⟩, ⟨some 56, .mv (.t 2), none⟩, ⟨some 57, .call (.c (.func 6 [] [])) [(.t 56)], none⟩, ⟨some 58, .bslice [(.slice none 0 0 0)] 1 [(0, 1, (.t 57))], none⟩, ⟨some 59, .append 28 [(.slice none 0 0 0)] 24 (.t 55) (.t 58), none⟩, ⟨some 60, .faddr 1 (.t 7), none⟩, ⟨none, .store 1 (.t 60) (.t 59), none⟩]
def p3_15 : List (Nat × Nat) := [(2, 0), (3, 4), (0, 0), (1, 1), (4, 12), (5, 31), (6, 63), (7, 127)]
def r3_16 : List AOper := [⟨some 62, .loadN 2 (.t 7), none⟩, ⟨some 63, .call (.c (.func 7 [] [])) [(.t 62)], none⟩, ⟨some 61, .mv (.t 63), none⟩, ⟨some 64, .ext (.t 61) 0, none⟩, ⟨some 65, .ext (.t 61) 1, none⟩, ⟨some 8, .mv (.t 64), none⟩, ⟨some 9, .mv (.t 65), none⟩]
def r3_17 : List AOper := [⟨some 67, .loadN 2 (.t 7), none⟩, ⟨some 68, .call (.c (.func 8 [] [])) [(.t 67)], none⟩, ⟨some 66, .mv (.t 68), none⟩, ⟨some 69, .ext (.t 66) 0, none⟩, ⟨some 70, .ext (.t 66) 1, none⟩, ⟨some 10, .mv (.t 69), none⟩, ⟨some 11, .mv (.t 70), none⟩]
def r3_18 : List AOper := [⟨some 71, .call (.c (.func 4 [] [])) [], none⟩, ⟨some 72, .mv (.t 71), none⟩, ⟨some 73, .loadN 2 (.t 7), some (72, true)⟩, ⟨some 74, .call (.c (.func 5 [] [])) [(.t 73)], some (72, true)⟩, ⟨some 75, .loadN 2 (.t 7), some (72, true)⟩, ⟨some 76, .call (.c (.func 9 [] [])) [(.t 75)], some (72, true)⟩, ⟨some 77, .bin .eql (.t 74) (.t 76), some (72, true)⟩, ⟨some 78, .pick (.t 72) (.t 77) (.c (.bool false)), none⟩, ⟨some 79, .mv (.t 78), none⟩, ⟨some 80, .mv (.t 8), some (79, true)⟩, ⟨some 81, .mv (.t 10), some (79, true)⟩, ⟨some 82, .bin .eql (.t 80) (.t 81), some (79, true)⟩, ⟨some 83, .pick (.t 79) (.t 82) (.c (.bool false)), none⟩, ⟨some 84, .mv (.t 83), none⟩, ⟨some 85, .mv (.t 9), some (84, true)⟩, ⟨some 86, .mv (.t 11), some (84, true)⟩, ⟨some 87, .bin .eql (.t 85) (.t 86), some (84, true)⟩, ⟨some 88, .pick (.t 84) (.t 87) (.c (.bool false)), none⟩, ⟨some 6, .mv (.t 88), none⟩]
def p3_19 : List (Nat × Nat) := [(0, 0), (1, 1), (2, 3), (3, 7), (4, 3), (5, 31), (6, 63), (7, 127), (8, 255), (9, 511), (10, 511), (11, 2047), (12, 4095), (13, 8191), (14, 16383), (15, 16383), (16, 65535), (17, 131071), (18, 262143)]
def c3_0 : ACode := (.seq (.region r3_1) (.seq (.seq (.region r3_2) (.cond (.t 33) c3_4 .skip)) (.seq (.region r3_5) (.seq (.seq (.region r3_6) (.block 0 c3_13)) (.seq (.regionD r3_14 p3_15) (.seq (.region r3_16) (.seq (.region r3_17) (.seq (.regionD r3_18 p3_19) .ret))))))))
def F3 : AFn := ⟨89, [.t 6], c3_0⟩
def r5_1 : List AOper := [⟨some 1, .box (.t 0), none⟩, ⟨some 2, .mv (.c (.int .i64 0)), none⟩]
def r5_2 : List AOper := [⟨some 7, .faddr 0 (.t 1), none⟩, ⟨some 8, .load1 (.t 7), none⟩, ⟨some 9, .bin .lss (.t 8) (.c (.int .i64 0)), none⟩, ⟨some 10, .mv (.t 9), none⟩, ⟨some 11, .faddr 0 (.t 1), some (10, false)⟩, ⟨some 12, .load1 (.t 11), some (10, false)⟩, ⟨some 13, .bin .gtr (.t 12) (.c (.int .i64 64)), some (10, false)⟩, ⟨some 14, .pick (.t 10) (.c (.bool true)) (.t 13), none⟩, ⟨some 6, .mv (.t 14), none⟩]
def r5_3 : List AOper := [⟨some 2, .mv (.c (.int .i64 2)), none⟩]
def c5_4 : ACode := (.seq (.region r5_3) .ret)
def r5_5 : List AOper := [⟨some 16, .faddr 1 (.t 1), none⟩, ⟨some 17, .load1 (.t 16), none⟩, ⟨some 18, .len .slice (.t 17), none⟩, ⟨some 19, .bin .gtr (.t 18) (.c (.int .i64 64)), none⟩, ⟨some 15, .mv (.t 19), none⟩]
def r5_6 : List AOper := [⟨some 2, .mv (.c (.int .i64 5)), none⟩]
def c5_7 : ACode := (.seq (.region r5_6) .ret)
def r5_8 : List AOper := [⟨some 21, .faddr 1 (.t 1), none⟩, ⟨some 22, .load1 (.t 21), none⟩, ⟨some 23, .mkfun 21 [] [(.t 1)], none⟩, ⟨some 24, .call (.c (.func 20 [] [])) [(.t 22), (.t 23)], none⟩, ⟨some 20, .mv (.t 24), none⟩]
def r5_9 : List AOper := [⟨some 2, .mv (.c (.int .i64 15)), none⟩]
def c5_10 : ACode := (.seq (.region r5_9) .ret)
def c5_11 : ACode := (.seq (.region r5_8) (.cond (.t 20) c5_10 .skip))
def c5_12 : ACode := (.seq (.region r5_5) (.cond (.t 15) c5_7 c5_11))
def c5_13 : ACode := (.seq (.region r5_2) (.cond (.t 6) c5_4 c5_12))
def r5_14 : List AOper := [⟨some 25, .faddr 1 (.t 1), none⟩, ⟨some 26, .load1 (.t 25), none⟩, ⟨some 27, .len .slice (.t 26), none⟩, ⟨some 28, .mv (.c (.int .i64 0)), none⟩]
def r5_15 : List AOper := [⟨some 29, .bin .lss (.t 28) (.t 27), none⟩]
def r5_16 : List AOper := [⟨some 30, .iaddr 1 (.t 26) (.t 28), none⟩, ⟨some 31, .load1 (.t 30), none⟩, ⟨some 4, .mv (.t 31), none⟩]
def r5_17 : List AOper := [⟨some 32, .mv (.t 4), none⟩, ⟨some 33, .call (.c (.func 22 [] [])) [(.t 32), (.c (.func 23 [] []))], none⟩, ⟨some 5, .mv (.t 33), none⟩]
def r5_18 : List AOper := [⟨some 34, .mv (.t 5), none⟩, ⟨some 35, .bin .neq (.t 34) (.c (.int .i64 0)), none⟩]
def r5_19 : List AOper := [⟨some 36, .mv (.t 5), none⟩, ⟨some 2, .mv (.t 36), none⟩]
def c5_20 : ACode := (.seq (.region r5_19) .ret)
def c5_21 : ACode := (.seq (.region r5_16) (.seq (.region r5_17) (.seq (.region r5_18) (.cond (.t 35) c5_20 .skip))))
def r5_22 : List AOper := [⟨some 37, .bin .add (.t 28) (.c (.int .i64 1)), none⟩, ⟨some 28, .mv (.t 37), none⟩]
def c5_23 : ACode := (.seq (.region r5_15) (.seq (.cond (.t 29) .skip (.exit 1)) (.seq (.block 2 c5_21) (.region r5_22))))
def c5_24 : ACode := (.loop c5_23)
def r5_25 : List AOper := [⟨some 2, .mv (.c (.int .i64 0)), none⟩]
def c5_0 : ACode := (.seq (.region r5_1) (.seq (.block 0 c5_13) (.seq (.seq (.region r5_14) (.block 1 c5_24)) (.seq (.region r5_25) .ret))))
def F5 : AFn := ⟨38, [.t 2], c5_0⟩
def r6_1 : List AOper := [⟨some 2, .mv (.c (.slice none 0 0 0)), none⟩]
def r6_2 : List AOper := [⟨some 5, .mv (.t 0), none⟩, ⟨some 6, .mkslice [(.str [])] 16 (.t 5) (.t 5), none⟩, ⟨some 3, .mv (.t 6), none⟩]
def r6_3 : List AOper := [⟨some 4, .mv (.c (.int .i64 0)), none⟩]
def r6_4 : List AOper := [⟨some 7, .mv (.t 4), none⟩, ⟨some 8, .mv (.t 0), none⟩, ⟨some 9, .bin .lss (.t 7) (.t 8), none⟩]
def r6_5 : List AOper := [⟨some 12, .mv (.t 3), none⟩, ⟨some 13, .mv (.t 4), none⟩, ⟨some 14, .iaddr 1 (.t 12) (.t 13), none⟩, ⟨none, .store 1 (.t 14) (.c (.str [48])), none⟩]
def c6_6 : ACode := (.region r6_5)
def r6_7 : List AOper := [⟨some 10, .mv (.t 4), none⟩, ⟨some 11, .bin .add (.t 10) (.c (.int .i64 1)), none⟩, ⟨some 4, .mv (.t 11), none⟩]
def c6_8 : ACode := (.seq (.seq (.region r6_4) (.cond (.t 9) .skip (.exit 0))) (.seq (.block 1 c6_6) (.region r6_7)))
def c6_9 : ACode := (.loop c6_8)
def r6_10 : List AOper := [⟨some 15, .mv (.t 3), none⟩, ⟨some 2, .mv (.t 15), none⟩]
def c6_0 : ACode := (.seq (.region r6_1) (.seq (.region r6_2) (.seq (.seq (.region r6_3) (.block 0 c6_9)) (.seq (.region r6_10) .ret))))
def F6 : AFn := ⟨16, [.t 2], c6_0⟩
def r7_1 : List AOper := [⟨some 1, .box (.t 0), none⟩, ⟨some 2, .mv (.c (.int .i64 0)), none⟩, ⟨some 3, .mv (.c (.int .i64 0)), none⟩]
def r7_2 : List AOper := [⟨some 8, .loadN 2 (.t 1), none⟩, ⟨some 9, .call (.c (.func 24 [] [])) [(.t 8)], none⟩, ⟨some 7, .mv (.t 9), none⟩, ⟨some 10, .ext (.t 7) 0, none⟩, ⟨some 11, .ext (.t 7) 1, none⟩, ⟨some 12, .ext (.t 7) 2, none⟩, ⟨some 4, .alloc 27 [(.int .i64 0), (.slice none 0 0 0)], none⟩, ⟨none, .store 2 (.t 4) (.t 10), none⟩, ⟨some 5, .mv (.t 11), none⟩, ⟨some 6, .mv (.t 12), none⟩]
def r7_3 : List AOper := [⟨some 13, .mv (.t 5), none⟩, ⟨some 14, .len .slice (.t 13), none⟩, ⟨some 15, .mv (.t 6), none⟩, ⟨some 2, .mv (.t 14), none⟩, ⟨some 3, .mv (.t 15), none⟩]
def c7_0 : ACode := (.seq (.region r7_1) (.seq (.region r7_2) (.seq (.region r7_3) .ret)))
def F7 : AFn := ⟨16, [.t 2, .t 3], c7_0⟩
def r8_1 : List AOper := [⟨some 1, .box (.t 0), none⟩, ⟨some 2, .mv (.c (.int .i64 0)), none⟩, ⟨some 3, .mv (.c (.int .i64 0)), none⟩]
def r8_2 : List AOper := [⟨some 7, .loadN 2 (.t 1), none⟩, ⟨some 8, .call (.c (.func 25 [] [])) [(.t 7)], none⟩, ⟨some 6, .mv (.t 8), none⟩, ⟨some 9, .ext (.t 6) 0, none⟩, ⟨some 10, .ext (.t 6) 1, none⟩, ⟨some 4, .alloc 27 [(.int .i64 0), (.slice none 0 0 0)], none⟩, ⟨none, .store 2 (.t 4) (.t 9), none⟩, ⟨some 5, .mv (.t 10), none⟩]
def r8_3 : List AOper := [⟨some 11, .faddr 1 (.t 4), none⟩, ⟨some 12, .load1 (.t 11), none⟩, ⟨some 13, .len .slice (.t 12), none⟩, ⟨some 14, .mv (.t 5), none⟩, ⟨some 2, .mv (.t 13), none⟩, ⟨some 3, .mv (.t 14), none⟩]
def c8_0 : ACode := (.seq (.region r8_1) (.seq (.region r8_2) (.seq (.region r8_3) .ret)))
def F8 : AFn := ⟨15, [.t 2, .t 3], c8_0⟩
def r9_1 : List AOper := [⟨some 1, .box (.t 0), none⟩, ⟨some 2, .mv (.c (.int .i64 0)), none⟩]
def r9_2 : List AOper := [⟨some 6, .faddr 0 (.t 1), none⟩, ⟨some 7, .load1 (.t 6), none⟩, ⟨some 8, .bin .lss (.t 7) (.c (.int .i64 0)), none⟩, ⟨some 9, .mv (.t 8), none⟩, ⟨some 10, .faddr 0 (.t 1), some (9, false)⟩, ⟨some 11, .load1 (.t 10), some (9, false)⟩, ⟨some 12, .bin .gtr (.t 11) (.c (.int .i64 64)), some (9, false)⟩, ⟨some 13, .pick (.t 9) (.c (.bool true)) (.t 12), none⟩]
def r9_3 : List AOper := [⟨some 2, .mv (.c (.int .i64 2)), none⟩]
def c9_4 : ACode := (.seq (.region r9_3) .ret)
def r9_5 : List AOper := [⟨some 14, .faddr 1 (.t 1), none⟩, ⟨some 15, .load1 (.t 14), none⟩, ⟨some 16, .len .slice (.t 15), none⟩, ⟨some 17, .bin .gtr (.t 16) (.c (.int .i64 64)), none⟩]
def r9_6 : List AOper := [⟨some 2, .mv (.c (.int .i64 5)), none⟩]
def c9_7 : ACode := (.seq (.region r9_6) .ret)
def r9_8 : List AOper := [⟨some 3, .mv (.c (.int .i64 0)), none⟩]
def r9_9 : List AOper := [⟨some 18, .mv (.t 3), none⟩, ⟨some 19, .faddr 1 (.t 1), none⟩, ⟨some 20, .load1 (.t 19), none⟩, ⟨some 21, .len .slice (.t 20), none⟩, ⟨some 22, .bin .lss (.t 18) (.t 21), none⟩]
def r9_10 : List AOper := [⟨some 25, .faddr 1 (.t 1), none⟩, ⟨some 26, .load1 (.t 25), none⟩, ⟨some 27, .mv (.t 3), none⟩, ⟨some 28, .iaddr 1 (.t 26) (.t 27), none⟩, ⟨some 29, .load1 (.t 28), none⟩, ⟨some 30, .len .slice (.t 29), none⟩, ⟨some 31, .faddr 0 (.t 1), none⟩, ⟨some 32, .load1 (.t 31), none⟩, ⟨some 33, .bin .neq (.t 30) (.t 32), none⟩]
def p9_11 : List (Nat × Nat) := [(0, 0), (1, 1), (2, 0), (3, 7), (4, 15), (5, 31), (6, 0), (7, 64), (8, 255)]
def r9_12 : List AOper := [⟨some 2, .mv (.c (.int .i64 15)), none⟩]
def c9_13 : ACode := (.seq (.region r9_12) .ret)
def c9_14 : ACode := (.seq (.regionD r9_10 p9_11) (.cond (.t 33) c9_13 .skip))
def r9_15 : List AOper := [⟨some 23, .mv (.t 3), none⟩, ⟨some 24, .bin .add (.t 23) (.c (.int .i64 1)), none⟩, ⟨some 3, .mv (.t 24), none⟩]
def c9_16 : ACode := (.seq (.seq (.region r9_9) (.cond (.t 22) .skip (.exit 0))) (.seq (.block 1 c9_14) (.region r9_15)))
def c9_17 : ACode := (.loop c9_16)
def r9_18 : List AOper := [⟨some 4, .mv (.c (.int .i64 0)), none⟩]
def r9_19 : List AOper := [⟨some 34, .mv (.t 4), none⟩, ⟨some 35, .faddr 1 (.t 1), none⟩, ⟨some 36, .load1 (.t 35), none⟩, ⟨some 37, .len .slice (.t 36), none⟩, ⟨some 38, .bin .lss (.t 34) (.t 37), none⟩]
def r9_20 : List AOper := [⟨some 41, .faddr 0 (.t 1), none⟩, ⟨some 42, .load1 (.t 41), none⟩, ⟨some 43, .faddr 1 (.t 1), none⟩, ⟨some 44, .load1 (.t 43), none⟩, ⟨some 45, .mv (.t 4), none⟩, ⟨some 46, .iaddr 1 (.t 44) (.t 45), none⟩, ⟨some 47, .load1 (.t 46), none⟩, ⟨some 48, .call (.c (.func 26 [] [])) [(.t 42), (.t 47)], none⟩, ⟨some 5, .mv (.t 48), none⟩]
def p9_21 : List (Nat × Nat) := [(0, 0), (1, 1), (2, 0), (3, 4), (4, 0), (5, 28), (6, 60), (7, 127), (8, 255)]
def r9_22 : List AOper := [⟨some 49, .mv (.t 5), none⟩, ⟨some 50, .bin .neq (.t 49) (.c (.int .i64 0)), none⟩]
def r9_23 : List AOper := [⟨some 51, .mv (.t 5), none⟩, ⟨some 2, .mv (.t 51), none⟩]
def c9_24 : ACode := (.seq (.region r9_23) .ret)
def c9_25 : ACode := (.seq (.regionD r9_20 p9_21) (.seq (.region r9_22) (.cond (.t 50) c9_24 .skip)))
def r9_26 : List AOper := [⟨some 39, .mv (.t 4), none⟩, ⟨some 40, .bin .add (.t 39) (.c (.int .i64 1)), none⟩, ⟨some 4, .mv (.t 40), none⟩]
def c9_27 : ACode := (.seq (.seq (.region r9_19) (.cond (.t 38) .skip (.exit 2))) (.seq (.block 3 c9_25) (.region r9_26)))
def c9_28 : ACode := (.loop c9_27)
def r9_29 : List AOper := [⟨some 2, .mv (.c (.int .i64 0)), none⟩]
def c9_0 : ACode := (.seq (.region r9_1) (.seq (.seq (.region r9_2) (.cond (.t 13) c9_4 .skip)) (.seq (.seq (.region r9_5) (.cond (.t 17) c9_7 .skip)) (.seq (.seq (.region r9_8) (.block 0 c9_17)) (.seq (.seq (.region r9_18) (.block 2 c9_28)) (.seq (.region r9_29) .ret))))))
def F9 : AFn := ⟨52, [.t 2], c9_0⟩
def r20_1 : List AOper := [⟨some 4, .mv (.c (.bool false)), none⟩]
def r20_2 : List AOper := [⟨some 5, .mv (.t 0), none⟩, ⟨some 6, .mv (.t 1), none⟩, ⟨some 7, .call (.c (.func 53 [] [])) [(.t 5), (.t 6)], none⟩, ⟨some 8, .bin .geq (.t 7) (.c (.int .i64 0)), none⟩, ⟨some 4, .mv (.t 8), none⟩]
def c20_0 : ACode := (.seq (.region r20_1) (.seq (.region r20_2) .ret))
def F20 : AFn := ⟨9, [.t 4], c20_0⟩
def r53_1 : List AOper := [⟨some 4, .mv (.c (.int .i64 0)), none⟩]
def r53_2 : List AOper := [⟨some 6, .mv (.t 0), none⟩, ⟨some 7, .len .slice (.t 6), none⟩, ⟨some 8, .mv (.c (.int .i64 0)), none⟩]
def r53_3 : List AOper := [⟨some 9, .bin .lss (.t 8) (.t 7), none⟩]
def r53_4 : List AOper := [⟨some 10, .mv (.t 8), none⟩, ⟨some 5, .mv (.t 10), none⟩]
def r53_5 : List AOper := [⟨some 11, .mv (.t 1), none⟩, ⟨some 12, .mv (.t 0), none⟩, ⟨some 13, .mv (.t 5), none⟩, ⟨some 14, .iaddr 1 (.t 12) (.t 13), none⟩, ⟨some 15, .load1 (.t 14), none⟩, ⟨some 16, .call (.t 11) [(.t 15)], none⟩]
def r53_6 : List AOper := [⟨some 17, .mv (.t 5), none⟩, ⟨some 4, .mv (.t 17), none⟩]
def c53_7 : ACode := (.seq (.region r53_6) .ret)
def c53_8 : ACode := (.seq (.region r53_4) (.seq (.region r53_5) (.cond (.t 16) c53_7 .skip)))
def r53_9 : List AOper := [⟨some 18, .bin .add (.t 8) (.c (.int .i64 1)), none⟩, ⟨some 8, .mv (.t 18), none⟩]
def c53_10 : ACode := (.seq (.region r53_3) (.seq (.cond (.t 9) .skip (.exit 0)) (.seq (.block 1 c53_8) (.region r53_9))))
def c53_11 : ACode := (.loop c53_10)
def r53_12 : List AOper := [⟨some 4, .mv (.c (.int .i64 (-1))), none⟩]
def c53_0 : ACode := (.seq (.region r53_1) (.seq (.seq (.region r53_2) (.block 0 c53_11)) (.seq (.region r53_12) .ret)))
def F53 : AFn := ⟨19, [.t 4], c53_0⟩
def r21_1 : List AOper := [⟨some 3, .mv (.c (.bool false)), none⟩]
def r21_2 : List AOper := [⟨some 4, .mv (.t 0), none⟩, ⟨some 5, .len .slice (.t 4), none⟩, ⟨some 6, .faddr 0 (.t 1), none⟩, ⟨some 7, .load1 (.t 6), none⟩, ⟨some 8, .bin .neq (.t 5) (.t 7), none⟩, ⟨some 3, .mv (.t 8), none⟩]
def c21_0 : ACode := (.seq (.region r21_1) (.seq (.region r21_2) .ret))
def F21 : AFn := ⟨9, [.t 3], c21_0⟩
def r22_1 : List AOper := [⟨some 4, .mv (.c (.int .i64 0)), none⟩]
def r22_2 : List AOper := [⟨some 8, .mv (.t 0), none⟩, ⟨some 9, .len .slice (.t 8), none⟩, ⟨some 10, .mv (.c (.int .i64 0)), none⟩]
def r22_3 : List AOper := [⟨some 11, .bin .lss (.t 10) (.t 9), none⟩]
def r22_4 : List AOper := [⟨some 12, .iaddr 1 (.t 8) (.t 10), none⟩, ⟨some 13, .load1 (.t 12), none⟩, ⟨some 6, .mv (.t 13), none⟩]
def r22_5 : List AOper := [⟨some 14, .mv (.t 1), none⟩, ⟨some 15, .mv (.t 6), none⟩, ⟨some 16, .call (.t 14) [(.t 15)], none⟩, ⟨some 7, .mv (.t 16), none⟩]
def r22_6 : List AOper := [⟨some 17, .mv (.t 7), none⟩, ⟨some 18, .bin .neq (.t 17) (.c (.int .i64 0)), none⟩]
def r22_7 : List AOper := [⟨some 19, .mv (.t 7), none⟩, ⟨some 4, .mv (.t 19), none⟩]
def c22_8 : ACode := (.seq (.region r22_7) .ret)
def c22_9 : ACode := (.seq (.region r22_4) (.seq (.region r22_5) (.seq (.region r22_6) (.cond (.t 18) c22_8 .skip))))
def r22_10 : List AOper := [⟨some 20, .bin .add (.t 10) (.c (.int .i64 1)), none⟩, ⟨some 10, .mv (.t 20), none⟩]
def c22_11 : ACode := (.seq (.region r22_3) (.seq (.cond (.t 11) .skip (.exit 0)) (.seq (.block 1 c22_9) (.region r22_10))))
def c22_12 : ACode := (.loop c22_11)
def r22_13 : List AOper := [⟨some 4, .mv (.c (.int .i64 0)), none⟩]
def c22_0 : ACode := (.seq (.region r22_1) (.seq (.seq (.region r22_2) (.block 0 c22_12)) (.seq (.region r22_13) .ret)))
def F22 : AFn := ⟨21, [.t 4], c22_0⟩
def r24_1 : List AOper := [⟨some 1, .box (.t 0), none⟩, ⟨some 2, .alloc 27 [(.int .i64 0), (.slice none 0 0 0)], none⟩, ⟨some 3, .mv (.c (.slice none 0 0 0)), none⟩, ⟨some 4, .mv (.c (.int .i64 0)), none⟩]
def r24_2 : List AOper := [⟨some 10, .loadN 2 (.t 1), none⟩, ⟨some 11, .call (.c (.func 5 [] [])) [(.t 10)], none⟩, ⟨some 5, .mv (.t 11), none⟩]
def r24_3 : List AOper := [⟨some 12, .mv (.t 5), none⟩, ⟨some 13, .bin .neq (.t 12) (.c (.int .i64 0)), none⟩]
def r24_4 : List AOper := [⟨some 14, .build [(.int .i64 0), (.slice none 0 0 0)] [], none⟩, ⟨some 15, .mv (.t 5), none⟩, ⟨none, .store 2 (.t 2) (.t 14), none⟩, ⟨some 3, .mv (.c (.slice none 0 0 0)), none⟩, ⟨some 4, .mv (.t 15), none⟩]
def c24_5 : ACode := (.seq (.region r24_4) .ret)
def r24_6 : List AOper := [⟨some 16, .build [(.int .i64 0)] [], none⟩, ⟨some 17, .box (.t 16), none⟩, ⟨some 6, .mv (.t 17), none⟩]
def r24_7 : List AOper := [⟨some 18, .faddr 1 (.t 1), none⟩, ⟨some 19, .load1 (.t 18), none⟩, ⟨some 20, .call (.c (.func 34 [] [])) [(.t 19), (.c (.func 59 [] []))], none⟩, ⟨some 7, .mv (.t 20), none⟩]
def r24_8 : List AOper := [⟨some 21, .mv (.t 6), none⟩, ⟨some 22, .mv (.t 7), none⟩, ⟨some 23, .faddr 0 (.t 1), none⟩, ⟨some 24, .load1 (.t 23), none⟩, ⟨some 25, .call (.c (.func 36 [] [])) [(.t 21), (.t 22), (.t 24)], none⟩, ⟨some 8, .mv (.t 25), none⟩]
def r24_9 : List AOper := [⟨some 26, .mv (.t 6), none⟩, ⟨some 27, .call (.c (.func 31 [] [])) [(.t 26)], none⟩, ⟨some 9, .mv (.t 27), none⟩]
def r24_10 : List AOper := [⟨some 28, .mv (.t 9), none⟩, ⟨some 29, .bin .neq (.t 28) (.c (.int .i64 0)), none⟩]
def r24_11 : List AOper := [⟨some 30, .build [(.int .i64 0), (.slice none 0 0 0)] [], none⟩, ⟨some 31, .mv (.t 9), none⟩, ⟨none, .store 2 (.t 2) (.t 30), none⟩, ⟨some 3, .mv (.c (.slice none 0 0 0)), none⟩, ⟨some 4, .mv (.t 31), none⟩]
def c24_12 : ACode := (.seq (.region r24_11) .ret)
def r24_13 : List AOper := [⟨some 32, .faddr 0 (.t 1), none⟩, ⟨some 33, .load1 (.t 32), none⟩, ⟨some 34, .mv (.t 7), none⟩, ⟨some 35, .mv (.t 8), none⟩, ⟨some 36, .len .slice (.t 35), none⟩, ⟨some 37, .slice 1 (.t 34) none (some (.t 36)) none, none⟩, ⟨some 38, .build [(.int .i64 0), (.slice none 0 0 0)] [(0, 1, (.t 33)), (1, 1, (.t 37))], none⟩, ⟨some 39, .mv (.t 8), none⟩, ⟨none, .store 2 (.t 2) (.t 38), none⟩, ⟨some 3, .mv (.t 39), none⟩, ⟨some 4, .mv (.c (.int .i64 0)), none⟩]
def p24_14 : List (Nat × Nat) := [(0, 0), (1, 1), (2, 0), (3, 0), (4, 8), (5, 28), (6, 63), (8, 127), (7, 0), (9, 511), (10, 1023)]
def c24_0 : ACode := (.seq (.region r24_1) (.seq (.seq (.region r24_2) (.seq (.region r24_3) (.cond (.t 13) c24_5 .skip))) (.seq (.region r24_6) (.seq (.region r24_7) (.seq (.region r24_8) (.seq (.seq (.region r24_9) (.seq (.region r24_10) (.cond (.t 29) c24_12 .skip))) (.seq (.regionD r24_13 p24_14) .ret)))))))
def F24 : AFn := ⟨40, [.cN 2 2, .t 3, .t 4], c24_0⟩
def r25_1 : List AOper := [⟨some 1, .box (.t 0), none⟩, ⟨some 2, .alloc 27 [(.int .i64 0), (.slice none 0 0 0)], none⟩, ⟨some 3, .mv (.c (.int .i64 0)), none⟩]
def r25_2 : List AOper := [⟨some 5, .loadN 2 (.t 1), none⟩, ⟨some 6, .call (.c (.func 9 [] [])) [(.t 5)], none⟩, ⟨some 4, .mv (.t 6), none⟩]
def r25_3 : List AOper := [⟨some 7, .mv (.t 4), none⟩, ⟨some 8, .bin .neq (.t 7) (.c (.int .i64 0)), none⟩]
def r25_4 : List AOper := [⟨some 9, .build [(.int .i64 0), (.slice none 0 0 0)] [], none⟩, ⟨some 10, .mv (.t 4), none⟩, ⟨none, .store 2 (.t 2) (.t 9), none⟩, ⟨some 3, .mv (.t 10), none⟩]
def c25_5 : ACode := (.seq (.region r25_4) .ret)
def r25_6 : List AOper := [⟨some 11, .loadN 2 (.t 1), none⟩, ⟨some 12, .call (.c (.func 60 [] [])) [(.t 11)], none⟩, ⟨none, .store 2 (.t 2) (.t 12), none⟩, ⟨some 3, .mv (.c (.int .i64 0)), none⟩]
def c25_0 : ACode := (.seq (.region r25_1) (.seq (.seq (.region r25_2) (.seq (.region r25_3) (.cond (.t 8) c25_5 .skip))) (.seq (.region r25_6) .ret)))
def F25 : AFn := ⟨13, [.cN 2 2, .t 3], c25_0⟩
def r26_1 : List AOper := [⟨some 4, .mv (.c (.int .i64 0)), none⟩]
def r26_2 : List AOper := [⟨some 7, .mv (.t 1), none⟩, ⟨some 8, .len .slice (.t 7), none⟩, ⟨some 9, .mv (.t 0), none⟩, ⟨some 10, .bin .neq (.t 8) (.t 9), none⟩]
def r26_3 : List AOper := [⟨some 4, .mv (.c (.int .i64 15)), none⟩]
def c26_4 : ACode := (.seq (.region r26_3) .ret)
def r26_5 : List AOper := [⟨some 5, .mv (.c (.int .i64 0)), none⟩]
def r26_6 : List AOper := [⟨some 11, .mv (.t 5), none⟩, ⟨some 12, .mv (.t 1), none⟩, ⟨some 13, .len .slice (.t 12), none⟩, ⟨some 14, .bin .lss (.t 11) (.t 13), none⟩]
def r26_7 : List AOper := [⟨some 17, .mv (.t 1), none⟩, ⟨some 18, .mv (.t 5), none⟩, ⟨some 19, .iaddr 1 (.t 17) (.t 18), none⟩, ⟨some 20, .load1 (.t 19), none⟩, ⟨some 21, .call (.c (.func 61 [] [])) [(.t 20)], none⟩, ⟨some 6, .mv (.t 21), none⟩]
def r26_8 : List AOper := [⟨some 22, .mv (.t 6), none⟩, ⟨some 23, .bin .neq (.t 22) (.c (.int .i64 0)), none⟩]
def r26_9 : List AOper := [⟨some 24, .mv (.t 6), none⟩, ⟨some 4, .mv (.t 24), none⟩]
def c26_10 : ACode := (.seq (.region r26_9) .ret)
def c26_11 : ACode := (.seq (.region r26_7) (.seq (.region r26_8) (.cond (.t 23) c26_10 .skip)))
def r26_12 : List AOper := [⟨some 15, .mv (.t 5), none⟩, ⟨some 16, .bin .add (.t 15) (.c (.int .i64 1)), none⟩, ⟨some 5, .mv (.t 16), none⟩]
def c26_13 : ACode := (.seq (.seq (.region r26_6) (.cond (.t 14) .skip (.exit 0))) (.seq (.block 1 c26_11) (.region r26_12)))
def c26_14 : ACode := (.loop c26_13)
def r26_15 : List AOper := [⟨some 4, .mv (.c (.int .i64 0)), none⟩]
def c26_0 : ACode := (.seq (.region r26_1) (.seq (.seq (.region r26_2) (.cond (.t 10) c26_4 .skip)) (.seq (.seq (.region r26_5) (.block 0 c26_14)) (.seq (.region r26_15) .ret))))
def F26 : AFn := ⟨25, [.t 4], c26_0⟩
def r34_1 : List AOper := [⟨some 4, .mv (.c (.slice none 0 0 0)), none⟩]
def r34_2 : List AOper := [⟨some 5, .mv (.c (.slice none 0 0 0)), none⟩]
def r34_3 : List AOper := [⟨some 8, .mv (.t 0), none⟩, ⟨some 9, .len .slice (.t 8), none⟩, ⟨some 10, .mv (.c (.int .i64 0)), none⟩]
def r34_4 : List AOper := [⟨some 11, .bin .lss (.t 10) (.t 9), none⟩]
def r34_5 : List AOper := [⟨some 12, .mv (.t 10), none⟩, ⟨some 13, .iaddr 1 (.t 8) (.t 10), none⟩, ⟨some 14, .load1 (.t 13), none⟩, ⟨some 6, .mv (.t 12), none⟩, ⟨some 7, .mv (.t 14), none⟩]
def r34_6 : List AOper := [⟨some 15, .mv (.t 5), none⟩, ⟨some 16, .mv (.t 7), none⟩, ⟨some 17, .call (.c (.func 39 [] [])) [(.t 16)], none⟩, ⟨some 18, .mv (.t 1), none⟩, ⟨some 19, .mv (.t 6), none⟩, ⟨some 20, .call (.t 18) [(.t 19)], none⟩, ⟨some 21, .append 39 [(.str [])] 16 (.t 17) (.t 20), none⟩, ⟨some 22, .bslice [(.slice none 0 0 0)] 1 [(0, 1, (.t 21))], none⟩, ⟨some 23, .append 28 [(.slice none 0 0 0)] 24 (.t 15) (.t 22), none⟩, ⟨some 5, .mv (.t 23), none⟩]
def c34_7 : ACode := (.seq (.region r34_5) (.region r34_6))
def r34_8 : List AOper := [⟨some 24, .bin .add (.t 10) (.c (.int .i64 1)), none⟩, ⟨some 10, .mv (.t 24), none⟩]
def c34_9 : ACode := (.seq (.region r34_4) (.seq (.cond (.t 11) .skip (.exit 0)) (.seq (.block 1 c34_7) (.region r34_8))))
def c34_10 : ACode := (.loop c34_9)
def r34_11 : List AOper := [⟨some 25, .mv (.t 5), none⟩, ⟨some 4, .mv (.t 25), none⟩]
def c34_0 : ACode := (.seq (.region r34_1) (.seq (.region r34_2) (.seq (.seq (.region r34_3) (.block 0 c34_10)) (.seq (.region r34_11) .ret))))
def F34 : AFn := ⟨26, [.t 4], c34_0⟩
def r36_1 : List AOper := [⟨some 3, .box (.t 0), none⟩, ⟨some 6, .mv (.c (.slice none 0 0 0)), none⟩]
def r36_2 : List AOper := [⟨some 7, .mv (.c (.slice none 0 0 0)), none⟩]
def r36_3 : List AOper := [⟨some 17, .mv (.t 2), none⟩, ⟨some 18, .mv (.c (.int .i64 0)), none⟩]
def r36_4 : List AOper := [⟨some 19, .bin .lss (.t 18) (.t 17), none⟩]
def r36_5 : List AOper := [⟨some 20, .mv (.t 18), none⟩, ⟨some 8, .mv (.t 20), none⟩]
def r36_6 : List AOper := [⟨some 21, .mv (.t 7), none⟩, ⟨some 22, .len .slice (.t 21), none⟩, ⟨some 9, .mv (.t 22), none⟩]
def r36_7 : List AOper := [⟨some 23, .call (.c (.func 66 [] [])) [], none⟩, ⟨some 10, .alloc 69 [(.int .i64 0), (.int .i64 0)], none⟩, ⟨none, .store 2 (.t 10) (.t 23), none⟩]
def r36_8 : List AOper := [⟨some 24, .mv (.t 9), none⟩, ⟨some 11, .mv (.t 24), none⟩]
def r36_9 : List AOper := [⟨some 25, .mv (.t 11), none⟩, ⟨some 26, .mv (.t 1), none⟩, ⟨some 27, .len .slice (.t 26), none⟩, ⟨some 28, .bin .lss (.t 25) (.t 27), none⟩, ⟨some 29, .mv (.t 28), none⟩, ⟨some 30, .loadN 2 (.t 10), some (29, true)⟩, ⟨some 31, .call (.c (.func 66 [] [])) [], some (29, true)⟩, ⟨some 32, .eqv false (.leaves [.int, .int]) (.t 30) (.t 31), some (29, true)⟩, ⟨some 33, .pick (.t 29) (.t 32) (.c (.bool false)), none⟩]
def p36_10 : List (Nat × Nat) := [(0, 0), (1, 0), (2, 2), (3, 7), (4, 15), (6, 31), (5, 31), (7, 127), (8, 255)]
def r36_11 : List AOper := [⟨some 36, .mv (.t 1), none⟩, ⟨some 37, .mv (.t 11), none⟩, ⟨some 38, .iaddr 1 (.t 36) (.t 37), none⟩, ⟨some 39, .load1 (.t 38), none⟩, ⟨some 40, .mv (.t 8), none⟩, ⟨some 41, .iaddr 1 (.t 39) (.t 40), none⟩, ⟨some 42, .load1 (.t 41), none⟩, ⟨some 43, .bin .neq (.t 42) (.c (.str [48])), none⟩]
def r36_12 : List AOper := [⟨some 44, .mv (.t 11), none⟩, ⟨some 45, .mv (.t 8), none⟩, ⟨some 46, .build [(.int .i64 0), (.int .i64 0)] [(0, 1, (.t 44)), (1, 1, (.t 45))], none⟩, ⟨none, .store 2 (.t 10) (.t 46), none⟩]
def c36_13 : ACode := (.region r36_12)
def c36_14 : ACode := (.seq (.region r36_11) (.cond (.t 43) c36_13 .skip))
def r36_15 : List AOper := [⟨some 34, .mv (.t 11), none⟩, ⟨some 35, .bin .add (.t 34) (.c (.int .i64 1)), none⟩, ⟨some 11, .mv (.t 35), none⟩]
def c36_16 : ACode := (.seq (.seq (.regionD r36_9 p36_10) (.cond (.t 33) .skip (.exit 2))) (.seq (.block 3 c36_14) (.region r36_15)))
def c36_17 : ACode := (.loop c36_16)
def r36_18 : List AOper := [⟨some 47, .loadN 2 (.t 10), none⟩, ⟨some 48, .call (.c (.func 66 [] [])) [], none⟩, ⟨some 49, .eqv false (.leaves [.int, .int]) (.t 47) (.t 48), none⟩, ⟨some 50, .mv (.t 49), none⟩, ⟨some 51, .load1 (.t 3), some (50, false)⟩, ⟨some 52, .nilc (.t 51), some (50, false)⟩, ⟨some 53, .faddr 0 (.t 52), some (50, false)⟩, ⟨some 54, .load1 (.t 53), some (50, false)⟩, ⟨some 55, .bin .neq (.t 54) (.c (.int .i64 0)), some (50, false)⟩, ⟨some 56, .pick (.t 50) (.c (.bool true)) (.t 55), none⟩]
def p36_19 : List (Nat × Nat) := [(1, 0), (0, 0), (2, 3), (3, 7), (4, 15), (5, 31), (6, 63), (7, 127), (8, 255), (9, 511)]
def r36_20 : List AOper := [⟨some 57, .mv (.t 1), none⟩, ⟨some 58, .mv (.t 9), none⟩, ⟨some 59, .mv (.t 1), none⟩, ⟨some 60, .faddr 0 (.t 10), none⟩, ⟨some 61, .load1 (.t 60), none⟩, ⟨some 62, .mv (.t 1), none⟩, ⟨some 63, .faddr 0 (.t 10), none⟩, ⟨some 64, .load1 (.t 63), none⟩, ⟨some 65, .iaddr 1 (.t 62) (.t 64), none⟩, ⟨some 66, .load1 (.t 65), none⟩, ⟨some 67, .mv (.t 1), none⟩, ⟨some 68, .mv (.t 9), none⟩, ⟨some 69, .iaddr 1 (.t 67) (.t 68), none⟩, ⟨some 70, .load1 (.t 69), none⟩, ⟨some 71, .iaddr 1 (.t 57) (.t 58), none⟩, ⟨none, .store 1 (.t 71) (.t 66), none⟩, ⟨some 72, .iaddr 1 (.t 59) (.t 61), none⟩, ⟨none, .store 1 (.t 72) (.t 70), none⟩]
def p36_21 : List (Nat × Nat) := [(0, 0), (1, 0), (5, 0), (6, 0), (7, 64), (8, 224), (9, 480), (10, 0), (11, 0), (12, 3072), (13, 7168), (14, 16355), (15, 32739), (2, 0), (3, 0), (4, 8), (16, 65535), (17, 131071)]
def r36_22 : List AOper := [⟨some 73, .mv (.t 1), none⟩, ⟨some 74, .mv (.t 9), none⟩, ⟨some 75, .iaddr 1 (.t 73) (.t 74), none⟩, ⟨some 76, .load1 (.t 75), none⟩, ⟨some 77, .mv (.t 8), none⟩, ⟨some 78, .iaddr 1 (.t 76) (.t 77), none⟩, ⟨some 79, .load1 (.t 78), none⟩, ⟨some 12, .mv (.t 79), none⟩]
def r36_23 : List AOper := [⟨some 80, .mv (.t 1), none⟩, ⟨some 81, .mv (.t 9), none⟩, ⟨some 82, .iaddr 1 (.t 80) (.t 81), none⟩, ⟨some 83, .load1 (.t 82), none⟩, ⟨some 84, .len .slice (.t 83), none⟩, ⟨some 85, .mv (.c (.int .i64 0)), none⟩]
def r36_24 : List AOper := [⟨some 86, .bin .lss (.t 85) (.t 84), none⟩]
def r36_25 : List AOper := [⟨some 87, .mv (.t 85), none⟩, ⟨some 13, .mv (.t 87), none⟩]
def r36_26 : List AOper := [⟨some 88, .mv (.t 1), none⟩, ⟨some 89, .mv (.t 9), none⟩, ⟨some 90, .iaddr 1 (.t 88) (.t 89), none⟩, ⟨some 91, .load1 (.t 90), none⟩, ⟨some 92, .mv (.t 13), none⟩, ⟨some 93, .load1 (.t 3), none⟩, ⟨some 94, .mv (.t 1), none⟩, ⟨some 95, .mv (.t 9), none⟩, ⟨some 96, .iaddr 1 (.t 94) (.t 95), none⟩, ⟨some 97, .load1 (.t 96), none⟩, ⟨some 98, .mv (.t 13), none⟩, ⟨some 99, .iaddr 1 (.t 97) (.t 98), none⟩, ⟨some 100, .load1 (.t 99), none⟩, ⟨some 101, .mv (.t 12), none⟩, ⟨some 102, .call (.c (.func 37 [] [])) [(.t 93), (.t 100), (.t 101)], none⟩, ⟨some 103, .iaddr 1 (.t 91) (.t 92), none⟩, ⟨none, .store 1 (.t 103) (.t 102), none⟩]
def p36_27 : List (Nat × Nat) := [(5, 0), (6, 0), (7, 0), (8, 192), (9, 448), (10, 0), (11, 1984), (12, 4032), (13, 0), (14, 16352), (0, 0), (1, 0), (2, 3), (3, 7), (4, 0), (15, 32767), (16, 65535)]
def c36_28 : ACode := (.seq (.region r36_25) (.regionD r36_26 p36_27))
def r36_29 : List AOper := [⟨some 104, .bin .add (.t 85) (.c (.int .i64 1)), none⟩, ⟨some 85, .mv (.t 104), none⟩]
def c36_30 : ACode := (.seq (.region r36_24) (.seq (.cond (.t 86) .skip (.exit 4)) (.seq (.block 5 c36_28) (.region r36_29))))
def c36_31 : ACode := (.loop c36_30)
def r36_32 : List AOper := [⟨some 105, .mv (.t 1), none⟩, ⟨some 106, .len .slice (.t 105), none⟩, ⟨some 107, .mv (.c (.int .i64 0)), none⟩]
def r36_33 : List AOper := [⟨some 108, .bin .lss (.t 107) (.t 106), none⟩]
def r36_34 : List AOper := [⟨some 109, .mv (.t 107), none⟩, ⟨some 14, .mv (.t 109), none⟩]
def r36_35 : List AOper := [⟨some 110, .mv (.t 1), none⟩, ⟨some 111, .mv (.t 14), none⟩, ⟨some 112, .iaddr 1 (.t 110) (.t 111), none⟩, ⟨some 113, .load1 (.t 112), none⟩, ⟨some 114, .mv (.t 8), none⟩, ⟨some 115, .iaddr 1 (.t 113) (.t 114), none⟩, ⟨some 116, .load1 (.t 115), none⟩, ⟨some 15, .mv (.t 116), none⟩]
def r36_36 : List AOper := [⟨some 117, .mv (.t 14), none⟩, ⟨some 118, .mv (.t 9), none⟩, ⟨some 119, .bin .neq (.t 117) (.t 118), none⟩, ⟨some 120, .mv (.t 119), none⟩, ⟨some 121, .mv (.t 15), some (120, true)⟩, ⟨some 122, .bin .neq (.t 121) (.c (.str [48])), some (120, true)⟩, ⟨some 123, .pick (.t 120) (.t 122) (.c (.bool false)), none⟩, ⟨some 124, .mv (.t 123), none⟩, ⟨some 125, .load1 (.t 3), some (124, true)⟩, ⟨some 126, .nilc (.t 125), some (124, true)⟩, ⟨some 127, .faddr 0 (.t 126), some (124, true)⟩, ⟨some 128, .load1 (.t 127), some (124, true)⟩, ⟨some 129, .bin .eql (.t 128) (.c (.int .i64 0)), some (124, true)⟩, ⟨some 130, .pick (.t 124) (.t 129) (.c (.bool false)), none⟩]
def r36_37 : List AOper := [⟨some 131, .load1 (.t 3), none⟩, ⟨some 132, .mv (.t 15), none⟩, ⟨some 133, .call (.c (.func 30 [] [])) [(.t 131), (.t 132)], none⟩, ⟨some 16, .alloc 39 [(.str [])], none⟩, ⟨none, .store 1 (.t 16) (.t 133), none⟩]
def r36_38 : List AOper := [⟨some 134, .mv (.t 1), none⟩, ⟨some 135, .mv (.t 14), none⟩, ⟨some 136, .mv (.t 1), none⟩, ⟨some 137, .mv (.t 14), none⟩, ⟨some 138, .iaddr 1 (.t 136) (.t 137), none⟩, ⟨some 139, .load1 (.t 138), none⟩, ⟨some 140, .mv (.t 1), none⟩, ⟨some 141, .mv (.t 9), none⟩, ⟨some 142, .iaddr 1 (.t 140) (.t 141), none⟩, ⟨some 143, .load1 (.t 142), none⟩, ⟨some 144, .mkfun 68 [] [(.t 3), (.t 16)], none⟩, ⟨some 145, .call (.c (.func 67 [] [])) [(.t 139), (.t 143), (.t 144)], none⟩, ⟨some 146, .iaddr 1 (.t 134) (.t 135), none⟩, ⟨none, .store 1 (.t 146) (.t 145), none⟩]
def p36_39 : List (Nat × Nat) := [(2, 0), (3, 0), (4, 12), (5, 28), (6, 0), (7, 0), (8, 192), (9, 448), (10, 0), (11, 2044), (0, 0), (1, 0), (12, 4095), (13, 8191)]
def c36_40 : ACode := (.seq (.region r36_37) (.regionD r36_38 p36_39))
def c36_41 : ACode := (.seq (.region r36_34) (.seq (.region r36_35) (.seq (.region r36_36) (.cond (.t 130) c36_40 .skip))))
def r36_42 : List AOper := [⟨some 147, .bin .add (.t 107) (.c (.int .i64 1)), none⟩, ⟨some 107, .mv (.t 147), none⟩]
def c36_43 : ACode := (.seq (.region r36_33) (.seq (.cond (.t 108) .skip (.exit 6)) (.seq (.block 7 c36_41) (.region r36_42))))
def c36_44 : ACode := (.loop c36_43)
def r36_45 : List AOper := [⟨some 148, .mv (.t 7), none⟩, ⟨some 149, .mv (.t 9), none⟩, ⟨some 150, .mv (.t 8), none⟩, ⟨some 151, .build [(.int .i64 0), (.int .i64 0)] [(0, 1, (.t 149)), (1, 1, (.t 150))], none⟩, ⟨some 152, .bslice [(.int .i64 0), (.int .i64 0)] 1 [(0, 2, (.t 151))], none⟩, ⟨some 153, .append 69 [(.int .i64 0), (.int .i64 0)] 16 (.t 148) (.t 152), none⟩, ⟨some 7, .mv (.t 153), none⟩]
def c36_46 : ACode := (.seq (.region r36_5) (.seq (.region r36_6) (.seq (.region r36_7) (.seq (.seq (.region r36_8) (.block 2 c36_17)) (.seq (.seq (.regionD r36_18 p36_19) (.cond (.t 56) (.exit 1) .skip)) (.seq (.regionD r36_20 p36_21) (.seq (.region r36_22) (.seq (.seq (.region r36_23) (.block 4 c36_31)) (.seq (.seq (.region r36_32) (.block 6 c36_44)) (.region r36_45))))))))))
def r36_47 : List AOper := [⟨some 154, .bin .add (.t 18) (.c (.int .i64 1)), none⟩, ⟨some 18, .mv (.t 154), none⟩]
def c36_48 : ACode := (.seq (.region r36_4) (.seq (.cond (.t 19) .skip (.exit 0)) (.seq (.block 1 c36_46) (.region r36_47))))
def c36_49 : ACode := (.loop c36_48)
def r36_50 : List AOper := [⟨some 155, .mv (.t 7), none⟩, ⟨some 6, .mv (.t 155), none⟩]
def c36_0 : ACode := (.seq (.region r36_1) (.seq (.region r36_2) (.seq (.seq (.region r36_3) (.block 0 c36_49)) (.seq (.region r36_50) .ret))))
def F36 : AFn := ⟨156, [.t 6], c36_0⟩
def r31_1 : List AOper := [⟨some 2, .mv (.c (.int .i64 0)), none⟩]
def r31_2 : List AOper := [⟨some 3, .mv (.t 0), none⟩, ⟨some 4, .nilc (.t 3), none⟩, ⟨some 5, .faddr 0 (.t 4), none⟩, ⟨some 6, .load1 (.t 5), none⟩, ⟨some 7, .bin .neq (.t 6) (.c (.int .i64 0)), none⟩]
def r31_3 : List AOper := [⟨some 2, .mv (.c (.int .i64 10)), none⟩]
def c31_4 : ACode := (.seq (.region r31_3) .ret)
def r31_5 : List AOper := [⟨some 2, .mv (.c (.int .i64 0)), none⟩]
def c31_0 : ACode := (.seq (.region r31_1) (.seq (.seq (.region r31_2) (.cond (.t 7) c31_4 .skip)) (.seq (.region r31_5) .ret)))
def F31 : AFn := ⟨8, [.t 2], c31_0⟩
def r39_1 : List AOper := [⟨some 2, .mv (.c (.slice none 0 0 0)), none⟩]
def r39_2 : List AOper := [⟨some 3, .mv (.t 0), none⟩, ⟨some 4, .eqv false .sliceNil (.t 3) (.c (.slice none 0 0 0)), none⟩]
def r39_3 : List AOper := [⟨some 2, .mv (.c (.slice none 0 0 0)), none⟩]
def c39_4 : ACode := (.seq (.region r39_3) .ret)
def r39_5 : List AOper := [⟨some 5, .bslice [(.str [])] 0 [], none⟩, ⟨some 6, .mv (.t 0), none⟩, ⟨some 7, .append 39 [(.str [])] 16 (.t 5) (.t 6), none⟩, ⟨some 2, .mv (.t 7), none⟩]
def c39_0 : ACode := (.seq (.region r39_1) (.seq (.seq (.region r39_2) (.cond (.t 4) c39_4 .skip)) (.seq (.region r39_5) .ret)))
def F39 : AFn := ⟨8, [.t 2], c39_0⟩
def r59_1 : List AOper := [⟨some 2, .mv (.c (.slice none 0 0 0)), none⟩]
def r59_2 : List AOper := [⟨some 2, .mv (.c (.slice none 0 0 0)), none⟩]
def c59_0 : ACode := (.seq (.region r59_1) (.seq (.region r59_2) .ret))
def F59 : AFn := ⟨3, [.t 2], c59_0⟩
def r60_1 : List AOper := [⟨some 1, .box (.t 0), none⟩, ⟨some 2, .alloc 27 [(.int .i64 0), (.slice none 0 0 0)], none⟩]
def r60_2 : List AOper := [⟨some 6, .faddr 0 (.t 1), none⟩, ⟨some 7, .load1 (.t 6), none⟩, ⟨some 8, .build [(.int .i64 0), (.slice none 0 0 0)] [(0, 1, (.t 7))], none⟩, ⟨some 3, .alloc 27 [(.int .i64 0), (.slice none 0 0 0)], none⟩, ⟨none, .store 2 (.t 3) (.t 8), none⟩]
def r60_3 : List AOper := [⟨some 9, .faddr 1 (.t 1), none⟩, ⟨some 10, .load1 (.t 9), none⟩, ⟨some 11, .faddr 0 (.t 1), none⟩, ⟨some 12, .load1 (.t 11), none⟩, ⟨some 13, .call (.c (.func 90 [] [])) [(.t 10), (.t 12)], none⟩, ⟨some 4, .mv (.t 13), none⟩]
def r60_4 : List AOper := [⟨some 5, .mv (.c (.int .i64 0)), none⟩]
def r60_5 : List AOper := [⟨some 14, .mv (.t 5), none⟩, ⟨some 15, .mv (.t 4), none⟩, ⟨some 16, .len .slice (.t 15), none⟩, ⟨some 17, .bin .lss (.t 14) (.t 16), none⟩]
def r60_6 : List AOper := [⟨some 20, .mv (.t 4), none⟩, ⟨some 21, .mv (.t 5), none⟩, ⟨some 22, .iaddr 1 (.t 20) (.t 21), none⟩, ⟨some 23, .load1 (.t 22), none⟩, ⟨some 24, .faddr 0 (.t 1), none⟩, ⟨some 25, .load1 (.t 24), none⟩, ⟨some 26, .call (.c (.func 91 [] [])) [(.t 23), (.t 25)], none⟩, ⟨some 27, .bin .geq (.t 26) (.c (.int .i64 0)), none⟩]
def p60_7 : List (Nat × Nat) := [(0, 0), (1, 0), (2, 3), (3, 7), (4, 0), (5, 16), (6, 63), (7, 127)]
def r60_8 : List AOper := [⟨some 28, .faddr 1 (.t 3), none⟩, ⟨some 29, .load1 (.t 28), none⟩, ⟨some 30, .mv (.t 4), none⟩, ⟨some 31, .mv (.t 5), none⟩, ⟨some 32, .iaddr 1 (.t 30) (.t 31), none⟩, ⟨some 33, .load1 (.t 32), none⟩, ⟨some 34, .bslice [(.slice none 0 0 0)] 1 [(0, 1, (.t 33))], none⟩, ⟨some 35, .append 28 [(.slice none 0 0 0)] 24 (.t 29) (.t 34), none⟩, ⟨some 36, .faddr 1 (.t 3), none⟩, ⟨none, .store 1 (.t 36) (.t 35), none⟩]
def p60_9 : List (Nat × Nat) := [(0, 0), (1, 1), (2, 0), (3, 0), (4, 12), (5, 28), (6, 60), (7, 127), (8, 255), (9, 511)]
def c60_10 : ACode := (.regionD r60_8 p60_9)
def c60_11 : ACode := (.seq (.regionD r60_6 p60_7) (.cond (.t 27) c60_10 .skip))
def r60_12 : List AOper := [⟨some 18, .mv (.t 5), none⟩, ⟨some 19, .bin .add (.t 18) (.c (.int .i64 1)), none⟩, ⟨some 5, .mv (.t 19), none⟩]
def c60_13 : ACode := (.seq (.seq (.region r60_5) (.cond (.t 17) .skip (.exit 0))) (.seq (.block 1 c60_11) (.region r60_12)))
def c60_14 : ACode := (.loop c60_13)
def r60_15 : List AOper := [⟨some 37, .loadN 2 (.t 3), none⟩, ⟨none, .store 2 (.t 2) (.t 37), none⟩]
def c60_0 : ACode := (.seq (.region r60_1) (.seq (.region r60_2) (.seq (.region r60_3) (.seq (.seq (.region r60_4) (.block 0 c60_14)) (.seq (.region r60_15) .ret)))))
def F60 : AFn := ⟨38, [.cN 2 2], c60_0⟩
def r66_1 : List AOper := [⟨some 0, .alloc 69 [(.int .i64 0), (.int .i64 0)], none⟩]
def r66_2 : List AOper := [⟨some 1, .build [(.int .i64 0), (.int .i64 0)] [(0, 1, (.c (.int .i64 (-1)))), (1, 1, (.c (.int .i64 (-1))))], none⟩, ⟨none, .store 2 (.t 0) (.t 1), none⟩]
def c66_0 : ACode := (.seq (.region r66_1) (.seq (.region r66_2) .ret))
def F66 : AFn := ⟨2, [.cN 0 2], c66_0⟩
def r90_1 : List AOper := [⟨some 4, .mv (.c (.slice none 0 0 0)), none⟩]
def r90_2 : List AOper := [⟨some 10, .mv (.t 0), none⟩, ⟨some 11, .call (.c (.func 114 [] [])) [(.t 10)], none⟩, ⟨some 5, .mv (.t 11), none⟩]
def r90_3 : List AOper := [⟨some 6, .mv (.c (.int .i64 0)), none⟩]
def r90_4 : List AOper := [⟨some 7, .mv (.c (.int .i64 0)), none⟩]
def r90_5 : List AOper := [⟨some 12, .mv (.t 7), none⟩, ⟨some 13, .mv (.t 1), none⟩, ⟨some 14, .bin .lss (.t 12) (.t 13), none⟩, ⟨some 15, .mv (.t 14), none⟩, ⟨some 16, .mv (.t 6), some (15, true)⟩, ⟨some 17, .mv (.t 5), some (15, true)⟩, ⟨some 18, .len .slice (.t 17), some (15, true)⟩, ⟨some 19, .bin .lss (.t 16) (.t 18), some (15, true)⟩, ⟨some 20, .pick (.t 15) (.t 19) (.c (.bool false)), none⟩]
def r90_6 : List AOper := [⟨some 23, .mv (.t 6), none⟩, ⟨some 8, .mv (.t 23), none⟩]
def r90_7 : List AOper := [⟨some 24, .mv (.t 8), none⟩, ⟨some 25, .mv (.t 5), none⟩, ⟨some 26, .len .slice (.t 25), none⟩, ⟨some 27, .bin .lss (.t 24) (.t 26), none⟩, ⟨some 28, .mv (.t 27), none⟩, ⟨some 29, .mv (.t 5), some (28, true)⟩, ⟨some 30, .mv (.t 8), some (28, true)⟩, ⟨some 31, .iaddr 1 (.t 29) (.t 30), some (28, true)⟩, ⟨some 32, .load1 (.t 31), some (28, true)⟩, ⟨some 33, .mv (.t 7), some (28, true)⟩, ⟨some 34, .iaddr 1 (.t 32) (.t 33), some (28, true)⟩, ⟨some 35, .load1 (.t 34), some (28, true)⟩, ⟨some 36, .bin .eql (.t 35) (.c (.str [48])), some (28, true)⟩, ⟨some 37, .pick (.t 28) (.t 36) (.c (.bool false)), none⟩]
def r90_8 : List AOper := [⟨some 38, .mv (.t 8), none⟩, ⟨some 39, .bin .add (.t 38) (.c (.int .i64 1)), none⟩, ⟨some 8, .mv (.t 39), none⟩]
def c90_9 : ACode := (.region r90_8)
def c90_10 : ACode := (.seq (.seq (.region r90_7) (.cond (.t 37) .skip (.exit 2))) (.block 3 c90_9))
def c90_11 : ACode := (.loop c90_10)
def r90_12 : List AOper := [⟨some 40, .mv (.t 8), none⟩, ⟨some 41, .mv (.t 5), none⟩, ⟨some 42, .len .slice (.t 41), none⟩, ⟨some 43, .bin .eql (.t 40) (.t 42), none⟩]
def r90_13 : List AOper := [⟨some 44, .mv (.t 5), none⟩, ⟨some 45, .mv (.t 6), none⟩, ⟨some 46, .mv (.t 5), none⟩, ⟨some 47, .mv (.t 8), none⟩, ⟨some 48, .mv (.t 5), none⟩, ⟨some 49, .mv (.t 8), none⟩, ⟨some 50, .iaddr 1 (.t 48) (.t 49), none⟩, ⟨some 51, .load1 (.t 50), none⟩, ⟨some 52, .mv (.t 5), none⟩, ⟨some 53, .mv (.t 6), none⟩, ⟨some 54, .iaddr 1 (.t 52) (.t 53), none⟩, ⟨some 55, .load1 (.t 54), none⟩, ⟨some 56, .iaddr 1 (.t 44) (.t 45), none⟩, ⟨none, .store 1 (.t 56) (.t 51), none⟩, ⟨some 57, .iaddr 1 (.t 46) (.t 47), none⟩, ⟨none, .store 1 (.t 57) (.t 55), none⟩]
def p90_14 : List (Nat × Nat) := [(0, 0), (1, 0), (4, 0), (5, 0), (6, 48), (7, 112), (8, 0), (9, 0), (10, 768), (11, 1792), (12, 4083), (13, 8179), (2, 0), (3, 0), (14, 16383), (15, 32767)]
def r90_15 : List AOper := [⟨some 58, .mv (.t 5), none⟩, ⟨some 59, .mv (.t 6), none⟩, ⟨some 60, .mv (.t 5), none⟩, ⟨some 61, .mv (.t 6), none⟩, ⟨some 62, .iaddr 1 (.t 60) (.t 61), none⟩, ⟨some 63, .load1 (.t 62), none⟩, ⟨some 64, .mv (.t 5), none⟩, ⟨some 65, .mv (.t 6), none⟩, ⟨some 66, .iaddr 1 (.t 64) (.t 65), none⟩, ⟨some 67, .load1 (.t 66), none⟩, ⟨some 68, .mv (.t 7), none⟩, ⟨some 69, .iaddr 1 (.t 67) (.t 68), none⟩, ⟨some 70, .load1 (.t 69), none⟩, ⟨some 71, .call (.c (.func 116 [] [])) [(.c (.str [49])), (.t 70)], none⟩, ⟨some 72, .call (.c (.func 115 [] [])) [(.t 63), (.t 71)], none⟩, ⟨some 73, .iaddr 1 (.t 58) (.t 59), none⟩, ⟨none, .store 1 (.t 73) (.t 72), none⟩]
def p90_16 : List (Nat × Nat) := [(6, 0), (7, 0), (8, 192), (9, 448), (10, 0), (11, 1984), (12, 4032), (13, 8128), (2, 0), (3, 0), (4, 12), (5, 28), (14, 16380), (0, 0), (1, 0), (15, 32767), (16, 65535)]
def r90_17 : List AOper := [⟨some 9, .mv (.c (.int .i64 0)), none⟩]
def r90_18 : List AOper := [⟨some 74, .mv (.t 9), none⟩, ⟨some 75, .mv (.t 5), none⟩, ⟨some 76, .len .slice (.t 75), none⟩, ⟨some 77, .bin .lss (.t 74) (.t 76), none⟩]
def r90_19 : List AOper := [⟨some 80, .mv (.t 9), none⟩, ⟨some 81, .mv (.t 6), none⟩, ⟨some 82, .bin .neq (.t 80) (.t 81), none⟩, ⟨some 83, .mv (.t 82), none⟩, ⟨some 84, .mv (.t 5), some (83, true)⟩, ⟨some 85, .mv (.t 9), some (83, true)⟩, ⟨some 86, .iaddr 1 (.t 84) (.t 85), some (83, true)⟩, ⟨some 87, .load1 (.t 86), some (83, true)⟩, ⟨some 88, .mv (.t 7), some (83, true)⟩, ⟨some 89, .iaddr 1 (.t 87) (.t 88), some (83, true)⟩, ⟨some 90, .load1 (.t 89), some (83, true)⟩, ⟨some 91, .bin .neq (.t 90) (.c (.str [48])), some (83, true)⟩, ⟨some 92, .pick (.t 83) (.t 91) (.c (.bool false)), none⟩]
def r90_20 : List AOper := [⟨some 93, .mv (.t 5), none⟩, ⟨some 94, .mv (.t 9), none⟩, ⟨some 95, .mv (.t 5), none⟩, ⟨some 96, .mv (.t 9), none⟩, ⟨some 97, .iaddr 1 (.t 95) (.t 96), none⟩, ⟨some 98, .load1 (.t 97), none⟩, ⟨some 99, .mv (.t 5), none⟩, ⟨some 100, .mv (.t 6), none⟩, ⟨some 101, .iaddr 1 (.t 99) (.t 100), none⟩, ⟨some 102, .load1 (.t 101), none⟩, ⟨some 103, .mv (.t 5), none⟩, ⟨some 104, .mv (.t 9), none⟩, ⟨some 105, .iaddr 1 (.t 103) (.t 104), none⟩, ⟨some 106, .load1 (.t 105), none⟩, ⟨some 107, .mv (.t 7), none⟩, ⟨some 108, .iaddr 1 (.t 106) (.t 107), none⟩, ⟨some 109, .load1 (.t 108), none⟩, ⟨some 110, .call (.c (.func 118 [] [])) [(.t 109)], none⟩, ⟨some 111, .call (.c (.func 117 [] [])) [(.t 98), (.t 102), (.t 110)], none⟩, ⟨some 112, .iaddr 1 (.t 93) (.t 94), none⟩, ⟨none, .store 1 (.t 112) (.t 111), none⟩]
def p90_21 : List (Nat × Nat) := [(10, 0), (11, 0), (12, 3072), (13, 7168), (14, 0), (15, 31744), (16, 64512), (17, 130048), (2, 0), (3, 0), (4, 12), (5, 28), (6, 0), (7, 0), (8, 192), (9, 448), (18, 262140), (0, 0), (1, 0), (19, 524287), (20, 1048575)]
def c90_22 : ACode := (.regionD r90_20 p90_21)
def c90_23 : ACode := (.seq (.region r90_19) (.cond (.t 92) c90_22 .skip))
def r90_24 : List AOper := [⟨some 78, .mv (.t 9), none⟩, ⟨some 79, .bin .add (.t 78) (.c (.int .i64 1)), none⟩, ⟨some 9, .mv (.t 79), none⟩]
def c90_25 : ACode := (.seq (.seq (.region r90_18) (.cond (.t 77) .skip (.exit 4))) (.seq (.block 5 c90_23) (.region r90_24)))
def c90_26 : ACode := (.loop c90_25)
def r90_27 : List AOper := [⟨some 113, .mv (.t 6), none⟩, ⟨some 114, .bin .add (.t 113) (.c (.int .i64 1)), none⟩, ⟨some 6, .mv (.t 114), none⟩]
def c90_28 : ACode := (.seq (.region r90_6) (.seq (.block 2 c90_11) (.seq (.seq (.region r90_12) (.cond (.t 43) (.exit 1) .skip)) (.seq (.regionD r90_13 p90_14) (.seq (.regionD r90_15 p90_16) (.seq (.seq (.region r90_17) (.block 4 c90_26)) (.region r90_27)))))))
def r90_29 : List AOper := [⟨some 21, .mv (.t 7), none⟩, ⟨some 22, .bin .add (.t 21) (.c (.int .i64 1)), none⟩, ⟨some 7, .mv (.t 22), none⟩]
def c90_30 : ACode := (.seq (.seq (.region r90_5) (.cond (.t 20) .skip (.exit 0))) (.seq (.block 1 c90_28) (.region r90_29)))
def c90_31 : ACode := (.loop c90_30)
def r90_32 : List AOper := [⟨some 115, .mv (.t 5), none⟩, ⟨some 4, .mv (.t 115), none⟩]
def c90_0 : ACode := (.seq (.region r90_1) (.seq (.region r90_2) (.seq (.region r90_3) (.seq (.seq (.region r90_4) (.block 0 c90_31)) (.seq (.region r90_32) .ret)))))
def F90 : AFn := ⟨116, [.t 4], c90_0⟩
def r91_1 : List AOper := [⟨some 4, .mv (.c (.int .i64 0)), none⟩]
def r91_2 : List AOper := [⟨some 5, .mv (.c (.int .i64 0)), none⟩]
def r91_3 : List AOper := [⟨some 6, .mv (.t 5), none⟩, ⟨some 7, .mv (.t 1), none⟩, ⟨some 8, .bin .lss (.t 6) (.t 7), none⟩]
def r91_4 : List AOper := [⟨some 11, .mv (.t 0), none⟩, ⟨some 12, .mv (.t 5), none⟩, ⟨some 13, .iaddr 1 (.t 11) (.t 12), none⟩, ⟨some 14, .load1 (.t 13), none⟩, ⟨some 15, .bin .neq (.t 14) (.c (.str [48])), none⟩]
def r91_5 : List AOper := [⟨some 16, .mv (.t 5), none⟩, ⟨some 4, .mv (.t 16), none⟩]
def c91_6 : ACode := (.seq (.region r91_5) .ret)
def c91_7 : ACode := (.seq (.region r91_4) (.cond (.t 15) c91_6 .skip))
def r91_8 : List AOper := [⟨some 9, .mv (.t 5), none⟩, ⟨some 10, .bin .add (.t 9) (.c (.int .i64 1)), none⟩, ⟨some 5, .mv (.t 10), none⟩]
def c91_9 : ACode := (.seq (.seq (.region r91_3) (.cond (.t 8) .skip (.exit 0))) (.seq (.block 1 c91_7) (.region r91_8)))
def c91_10 : ACode := (.loop c91_9)
def r91_11 : List AOper := [⟨some 4, .mv (.c (.int .i64 (-1))), none⟩]
def c91_0 : ACode := (.seq (.region r91_1) (.seq (.seq (.region r91_2) (.block 0 c91_10)) (.seq (.region r91_11) .ret)))
def F91 : AFn := ⟨17, [.t 4], c91_0⟩
def r114_1 : List AOper := [⟨some 2, .mv (.c (.slice none 0 0 0)), none⟩]
def r114_2 : List AOper := [⟨some 3, .mv (.c (.slice none 0 0 0)), none⟩]
def r114_3 : List AOper := [⟨some 4, .mv (.c (.int .i64 0)), none⟩]
def r114_4 : List AOper := [⟨some 5, .mv (.t 4), none⟩, ⟨some 6, .mv (.t 0), none⟩, ⟨some 7, .len .slice (.t 6), none⟩, ⟨some 8, .bin .lss (.t 5) (.t 7), none⟩]
def r114_5 : List AOper := [⟨some 11, .mv (.t 3), none⟩, ⟨some 12, .bslice [(.str [])] 0 [], none⟩, ⟨some 13, .mv (.t 0), none⟩, ⟨some 14, .mv (.t 4), none⟩, ⟨some 15, .iaddr 1 (.t 13) (.t 14), none⟩, ⟨some 16, .load1 (.t 15), none⟩, ⟨some 17, .append 39 [(.str [])] 16 (.t 12) (.t 16), none⟩, ⟨some 18, .bslice [(.slice none 0 0 0)] 1 [(0, 1, (.t 17))], none⟩, ⟨some 19, .append 28 [(.slice none 0 0 0)] 24 (.t 11) (.t 18), none⟩, ⟨some 3, .mv (.t 19), none⟩]
def c114_6 : ACode := (.region r114_5)
def r114_7 : List AOper := [⟨some 9, .mv (.t 4), none⟩, ⟨some 10, .bin .add (.t 9) (.c (.int .i64 1)), none⟩, ⟨some 4, .mv (.t 10), none⟩]
def c114_8 : ACode := (.seq (.seq (.region r114_4) (.cond (.t 8) .skip (.exit 0))) (.seq (.block 1 c114_6) (.region r114_7)))
def c114_9 : ACode := (.loop c114_8)
def r114_10 : List AOper := [⟨some 20, .mv (.t 3), none⟩, ⟨some 2, .mv (.t 20), none⟩]
def c114_0 : ACode := (.seq (.region r114_1) (.seq (.region r114_2) (.seq (.seq (.region r114_3) (.block 0 c114_9)) (.seq (.region r114_10) .ret))))
def F114 : AFn := ⟨21, [.t 2], c114_0⟩
end Go.Proofs.YtpkldpbjjbplmaaGreatDoor.Det

/-! The matrix of zeros: vectors of zeros; small functions. -/
namespace Go.Proofs.YtpkldpbjjbplmaaGreatDoor.Det
open Go
set_option linter.unusedVariables false
set_option linter.unusedSimpArgs false
def zer (n : Nat) : List AV := List.replicate n (.str [48])
@[simp] theorem zer_length (n : Nat) : (zer n).length = n := by simp [zer]
theorem rep_one (v : AV) : ∀ n, rep [v] n = List.replicate n v
  | 0 => rfl
  | n + 1 => by rw [rep, rep_one v n]; rfl
theorem zeros_loop {E : Env} : ∀ (k : Nat) (f : AF) (H : AH) (n i b : Nat), n = i + k → n ≤ 1000 → f.n = 16 → f.get 0 = .int .i64 (n : Int) → f.get 3 = .slice (some (b, 0)) n n 0 → f.get 4 = .int .i64 (i : Int) →
    H.get b = some (.cells (zer i ++ List.replicate k (.str [])) false none) →
    Ok (X E c6_9 f H) fun r => r.1 = .exit 0 ∧ r.2.1.n = 16 ∧ r.2.1.get 3 = .slice (some (b, 0)) n n 0 ∧ r.2.2.next = H.next ∧ ∀ j, r.2.2.get j = if j = b then some (.cells (zer n) false none) else H.get j := by
  intro k
  induction k with
  | zero =>
    intro f H n i b hn hb hfn h0 h3 h4 hH
    unfold c6_9
    rw [X_loop]
    simp [c6_8, r6_4, X_seq, X_region, X_cond, X_exit, X_skip, X_block, X_ret, runOps, wantedA, doOp, cls, pureOp, readOp, allocOp, effOp, writeAt, AF.put_p, binInt, isShift, IntKind.same, ltI_cast, leI_cast, cellsOf, addrAdd, oneCells, blt_dec, ble_dec, beq_dec, fillAt, callV_func, evs, same00, lt_irrefl_i, List.append_nil, List.nil_append, List.cons_append, X_regionD, runD, checkR, AV.same_refl, Bool.cond_self, Int.same_self, binStr, bs0, hfn, h0, h3, h4, hn]
    rw [hH]; simp
  | succ k ih =>
    intro f H n i b hn hb hfn h0 h3 h4 hH
    have hlt : i < n := by omega
    have hset : (zer i ++ List.replicate (k + 1) (AV.str [])).set i (.str [48]) = zer (i + 1) ++ List.replicate k (AV.str []) := by
      rw [zer, zer, List.replicate_succ' (n := i)]
      simp [List.set_append, List.replicate_succ]
    unfold c6_9
    rw [X_loop]
    simp [c6_8, r6_4, r6_7, c6_6, r6_5, X_seq, X_region, X_cond, X_exit, X_skip, X_block, X_ret, runOps, wantedA, doOp, cls, pureOp, readOp, allocOp, effOp, writeAt, AF.put_p, binInt, isShift, IntKind.same, ltI_cast, leI_cast, cellsOf, addrAdd, oneCells, blt_dec, ble_dec, beq_dec, fillAt, callV_func, evs, same00, lt_irrefl_i, List.append_nil, List.nil_append, List.cons_append, X_regionD, runD, checkR, AV.same_refl, Bool.cond_self, Int.same_self, binStr, bs0, hfn, h0, h3, h4, hlt, hH, hset, wrap_succ (show i + 1 ≤ 1099511627776 by omega)]
    refine (ih _ _ n (i + 1) b (by omega) hb (by simp [hfn]) (by simp [h0]) (by simp [h3]) (by simp) (by simp)).mono ?_
    rintro ⟨e, f', H'⟩ ⟨h1, h2, h3, h4, h5⟩
    refine ⟨h1, h2, h3, by simpa using h4, fun j => ?_⟩
    rw [h5, AH.get_set]
    by_cases e : j = b
    · simp [e]
    · have : ¬ b = j := fun h => e h.symm
      simp [e, this]
theorem zeros_c {E : Env} (K : Knows E 6 F6) {n : Nat} (hn : n ≤ 1000) (H : AH) :
    Ok (C E 6 [.int .i64 (n : Int)] H) fun r => r.1 = .slice (some (H.next, 0)) n n 0 ∧ r.2.next = H.next + 1 ∧ ∀ j, r.2.get j = if j = H.next then some (.cells (zer n) false none) else H.get j := by
  rw [K.C]
  have h1 : n * 16 ≤ 1099511627776 := by omega
  have h2 : n ≤ 1099511627776 := by omega
  obtain ⟨⟨e, f', H'⟩, hr, hP⟩ := zeros_loop (E := E) n (((((AF.init [AV.int .i64 (n : Int)] 16).p 2 (.slice none 0 0 0)).p 5 (.int .i64 (n : Int))).p 6 (.slice (some (H.next, 0)) n n 0)).p 3 (.slice (some (H.next, 0)) n n 0) |>.p 4 (.int .i64 0))
    (H.new (.cells (List.replicate n (.str [])) false none)) n 0 H.next (by omega) hn rfl (by simp [init1_get]) (by simp) (by simp) (by simp [zer])
  simp only at hP
  obtain ⟨rfl, g2, g3, g4, g5⟩ := hP
  simp [F6, c6_0, r6_1, r6_2, r6_3, r6_10, X_seq, X_region, X_cond, X_exit, X_skip, X_block, X_ret, runOps, wantedA, doOp, cls, pureOp, readOp, allocOp, effOp, writeAt, AF.put_p, binInt, isShift, IntKind.same, ltI_cast, leI_cast, cellsOf, addrAdd, oneCells, blt_dec, ble_dec, beq_dec, fillAt, callV_func, evs, same00, lt_irrefl_i, List.append_nil, List.nil_append, List.cons_append, X_regionD, runD, checkR, AV.same_refl, Bool.cond_self, Int.same_self, binStr, bs0, AF.init_n, init1_get, rep_one, h1, h2, hr, g2, g3, callEnd, resAll, resOf, g4, g5]
  intro j
  by_cases e : j = H.next
  · simp [e]
  · simp [e, AH.get_new_ne]
end Go.Proofs.YtpkldpbjjbplmaaGreatDoor.Det

/-! The matrix of zeros: what it is in memory; the checks of the program's own side. -/
namespace Go.Proofs.YtpkldpbjjbplmaaGreatDoor.Det
open Go
set_option linter.unusedVariables false
set_option linter.unusedSimpArgs false
/-- Nothing that was there has changed. -/
def Keeps (H H' : AH) : Prop := H.next ≤ H'.next ∧ ∀ i, i < H.next → H'.get i = H.get i
theorem Keeps.refl (H : AH) : Keeps H H := ⟨Nat.le_refl _, fun _ _ => rfl⟩
theorem Keeps.trans {H H' H'' : AH} (h : Keeps H H') (h' : Keeps H' H'') : Keeps H H'' := ⟨Nat.le_trans h.1 h'.1, fun i hi => (h'.2 i (Nat.lt_of_lt_of_le hi h.1)).trans (h.2 i hi)⟩
theorem Keeps.new (H : AH) (b : AB) : Keeps H (H.new b) := ⟨by simp, fun i hi => AH.get_new_ne b (Nat.ne_of_lt hi)⟩
theorem Keeps.set {H0 H : AH} (h : Keeps H0 H) {i : Nat} (hi : H0.next ≤ i) (b : Option AB) : Keeps H0 (H.set i b) := ⟨by simpa using h.1, fun j hj => by rw [AH.get_set_ne _ (by omega)]; exact h.2 j hj⟩
theorem Keeps.newK {H0 H : AH} (h : Keeps H0 H) (b : AB) : Keeps H0 (H.new b) := h.trans (.new H b)
/-- A row of zeros, in memory. -/
def Row (H : AH) (c : Nat) (v : AV) : Prop := ∃ b o cap ex cs ro el, v = .slice (some (b, o)) c cap ex ∧ b < H.next ∧ H.get b = some (.cells cs ro el) ∧ (∀ j, j < c → cs[o + j]? = some (.str [48])) ∧ o + c ≤ cs.length
def Mat (H : AH) (ls : List Nat) (v : AV) : Prop := ∃ b o cap ex cs ro el, v = .slice (some (b, o)) ls.length cap ex ∧ b < H.next ∧ H.get b = some (.cells cs ro el) ∧ ∀ j c, ls[j]? = some c → ∃ r, cs[o + j]? = some r ∧ Row H c r
theorem Row.keeps {H H' : AH} (hk : Keeps H H') {c : Nat} {v : AV} (h : Row H c v) : Row H' c v := by
  obtain ⟨b, o, cap, ex, cs, ro, el, h1, h2, h3, h4⟩ := h
  exact ⟨b, o, cap, ex, cs, ro, el, h1, Nat.lt_of_lt_of_le h2 hk.1, by rw [hk.2 b h2]; exact h3, h4⟩
theorem Mat.keeps {H H' : AH} (hk : Keeps H H') {ls : List Nat} {v : AV} (h : Mat H ls v) : Mat H' ls v := by
  obtain ⟨b, o, cap, ex, cs, ro, el, h1, h2, h3, h4⟩ := h
  exact ⟨b, o, cap, ex, cs, ro, el, h1, Nat.lt_of_lt_of_le h2 hk.1, by rw [hk.2 b h2]; exact h3, fun j c hj => let ⟨r, hr1, hr2⟩ := h4 j c hj; ⟨r, hr1, hr2.keeps hk⟩⟩
theorem init2_get' (a b : AV) (n i : Nat) : (AF.init [a, b] n).get i = if i = 0 then a else if i = 1 then b else .undef := init2_get a b n i

/-! ### The closure that compares lengths -/
theorem c21_c {E : Env} (K : Knows E 21 F21) {H : AH} {a : Option (Nat × Nat)} {c cap ex m : Nat} {cols : Int} {cs : List AV} {ro : Bool} {el : Option (Nat × Bool)} (hm : H.get m = some (.cells (.int .i64 cols :: cs) ro el)) :
    C E 21 [.slice a c cap ex, .ptr (some (m, 0))] H = some (.bool (!Int.same (c : Int) cols), H) := by
  rw [K.C]
  simp [F21, c21_0, r21_1, r21_2, X_seq, X_region, X_cond, X_exit, X_skip, X_block, X_ret, runOps, wantedA, doOp, cls, pureOp, readOp, allocOp, effOp, writeAt, AF.put_p, binInt, isShift, IntKind.same, ltI_cast, leI_cast, cellsOf, addrAdd, oneCells, blt_dec, ble_dec, beq_dec, fillAt, callV_func, evs, same00, lt_irrefl_i, List.append_nil, List.nil_append, List.cons_append, X_regionD, runD, checkR, AV.same_refl, Bool.cond_self, Int.same_self, binStr, bs0, AF.init_n, init2_get, hm, callEnd, resAll, resOf]
/-! ### The numbers of a row -/
theorem numbers_loop {E : Env} (hp : E.prim 23 [.str [48]] = some (.int .i64 0)) {H : AH} {b o c cap ex : Nat} {cs : List AV} {ro : Bool} {el : Option (Nat × Bool)} (hb : H.get b = some (.cells cs ro el)) (hz : ∀ j, j < c → cs[o + j]? = some (.str [48])) (hc : c ≤ 1000) :
    ∀ (k i : Nat) (f : AF), c = i + k → f.n = 21 → f.get 1 = .func 23 [] [] → f.get 8 = .slice (some (b, o)) c cap ex → f.get 9 = .int .i64 (c : Int) → f.get 10 = .int .i64 (i : Int) →
    Ok (X E c22_12 f H) fun r => r.1 = .exit 0 ∧ r.2.1.n = 21 ∧ r.2.2 = H := by
  have hC : ∀ H, C E 23 [.str [48]] H = some (.int .i64 0, H) := fun H => C_prim hp
  intro k
  induction k with
  | zero =>
    intro i f hi hn h1 h8 h9 h10
    unfold c22_12
    rw [X_loop]
    simp [c22_11, r22_3, X_seq, X_region, X_cond, X_exit, X_skip, X_block, X_ret, runOps, wantedA, doOp, cls, pureOp, readOp, allocOp, effOp, writeAt, AF.put_p, binInt, isShift, IntKind.same, ltI_cast, leI_cast, cellsOf, addrAdd, oneCells, blt_dec, ble_dec, beq_dec, fillAt, callV_func, evs, same00, lt_irrefl_i, List.append_nil, List.nil_append, List.cons_append, X_regionD, runD, checkR, AV.same_refl, Bool.cond_self, Int.same_self, binStr, bs0, hn, h9, h10, hi]
  | succ k ih =>
    intro i f hi hn h1 h8 h9 h10
    have hlt : i < c := by omega
    have hg := hz i hlt
    unfold c22_12
    rw [X_loop]
    simp [c22_11, r22_3, c22_9, r22_4, r22_5, r22_6, r22_10, X_seq, X_region, X_cond, X_exit, X_skip, X_block, X_ret, runOps, wantedA, doOp, cls, pureOp, readOp, allocOp, effOp, writeAt, AF.put_p, binInt, isShift, IntKind.same, ltI_cast, leI_cast, cellsOf, addrAdd, oneCells, blt_dec, ble_dec, beq_dec, fillAt, callV_func, evs, same00, lt_irrefl_i, List.append_nil, List.nil_append, List.cons_append, X_regionD, runD, checkR, AV.same_refl, Bool.cond_self, Int.same_self, binStr, bs0, hn, h1, h8, h9, h10, hlt, hb, hg, hC, wrap_succ (show i + 1 ≤ 1099511627776 by omega)]
    exact ih (i + 1) _ (by omega) (by simp [hn]) (by simp [h1]) (by simp [h8]) (by simp [h9]) (by simp)
theorem numbers_c {E : Env} (K : Knows E 22 F22) (hp : E.prim 23 [.str [48]] = some (.int .i64 0)) {H : AH} {c : Nat} {v : AV} (hr : Row H c v) (hc : c ≤ 1000) : C E 22 [v, .func 23 [] []] H = some (.int .i64 0, H) := by
  obtain ⟨b, o, cap, ex, cs, ro, el, rfl, h2, h3, h4⟩ := hr
  rw [K.C]
  obtain ⟨⟨e, f', H'⟩, hr, hP⟩ := numbers_loop hp h3 h4.1 hc (cap := cap) (ex := ex) c 0 (((((AF.init [.slice (some (b, o)) c cap ex, .func 23 [] []] 21).p 4 (.int .i64 0)).p 8 (.slice (some (b, o)) c cap ex)).p 9 (.int .i64 (c : Int))).p 10 (.int .i64 0)) (by omega) rfl (by simp [init2_get]) (by simp) (by simp) (by simp)
  simp only at hP
  obtain ⟨rfl, g2, rfl⟩ := hP
  simp [F22, c22_0, r22_1, r22_2, r22_13, X_seq, X_region, X_cond, X_exit, X_skip, X_block, X_ret, runOps, wantedA, doOp, cls, pureOp, readOp, allocOp, effOp, writeAt, AF.put_p, binInt, isShift, IntKind.same, ltI_cast, leI_cast, cellsOf, addrAdd, oneCells, blt_dec, ble_dec, beq_dec, fillAt, callV_func, evs, same00, lt_irrefl_i, List.append_nil, List.nil_append, List.cons_append, X_regionD, runD, checkR, AV.same_refl, Bool.cond_self, Int.same_self, binStr, bs0, AF.init_n, init2_get, hr, g2, callEnd, resAll, resOf]

/-! ### Whether a row has another length -/
def allLen (cols : Int) : List Nat → Bool
  | [] => true
  | c :: ls => Int.same (c : Int) cols && allLen cols ls
theorem index_loop {E : Env} (K : Knows E 21 F21) {H : AH} {m : Nat} {cols : Int} {mc : List AV} {mro : Bool} {mel : Option (Nat × Bool)} (hm : H.get m = some (.cells (.int .i64 cols :: mc) mro mel))
    {ls : List Nat} {b o cap ex : Nat} {cs : List AV} {ro : Bool} {el : Option (Nat × Bool)} (hb : H.get b = some (.cells cs ro el)) (hz : ∀ j c, ls[j]? = some c → ∃ r, cs[o + j]? = some r ∧ Row H c r) (hl : ls.length ≤ 1000) :
    ∀ (k i : Nat) (f : AF), ls.length = i + k → f.n = 19 → f.get 0 = .slice (some (b, o)) ls.length cap ex → f.get 1 = .func 21 [] [.ptr (some (m, 0))] → f.get 7 = .int .i64 (ls.length : Int) → f.get 8 = .int .i64 (i : Int) →
    Ok (X E c53_11 f H) fun r => r.2.2 = H ∧ r.2.1.n = 19 ∧ (allLen cols (ls.drop i) = true → r.1 = .exit 0) ∧ (allLen cols (ls.drop i) = false → r.1 = .ret ∧ ∃ q : Nat, r.2.1.get 4 = .int .i64 (q : Int)) := by
  intro k
  induction k with
  | zero =>
    intro i f hi hn h0 h1 h7 h8
    unfold c53_11
    rw [X_loop]
    simp [c53_10, r53_3, X_seq, X_region, X_cond, X_exit, X_skip, X_block, X_ret, runOps, wantedA, doOp, cls, pureOp, readOp, allocOp, effOp, writeAt, AF.put_p, binInt, isShift, IntKind.same, ltI_cast, leI_cast, cellsOf, addrAdd, oneCells, blt_dec, ble_dec, beq_dec, fillAt, callV_func, evs, same00, lt_irrefl_i, List.append_nil, List.nil_append, List.cons_append, X_regionD, runD, checkR, AV.same_refl, Bool.cond_self, Int.same_self, binStr, bs0, hn, h7, h8, hi]
    rw [List.drop_of_length_le (by omega)]
    simp [allLen]
  | succ k ih =>
    intro i f hi hn h0 h1 h7 h8
    have hlt : i < ls.length := by omega
    obtain ⟨c, hc⟩ : ∃ c, ls[i]? = some c := ⟨ls[i], by simp [hlt]⟩
    obtain ⟨r, hg, hrow⟩ := hz i c hc
    obtain ⟨b2, o2, cap2, ex2, cs2, ro2, el2, rfl, h22, h23, h24⟩ := hrow
    have hC := c21_c K (H := H) (a := some (b2, o2)) (c := c) (cap := cap2) (ex := ex2) hm
    have hdrop : ls.drop i = c :: ls.drop (i + 1) := by
      rw [List.drop_eq_getElem_cons hlt]
      have : ls[i] = c := by have := List.getElem?_eq_getElem hlt; rw [hc] at this; exact (Option.some.inj this).symm
      rw [this]
    unfold c53_11
    rw [X_loop]
    rw [hdrop]
    cases hs : Int.same (c : Int) cols with
    | true =>
      rw [hs] at hC
      simp [c53_10, r53_3, c53_8, r53_4, r53_5, r53_9, X_seq, X_region, X_cond, X_exit, X_skip, X_block, X_ret, runOps, wantedA, doOp, cls, pureOp, readOp, allocOp, effOp, writeAt, AF.put_p, binInt, isShift, IntKind.same, ltI_cast, leI_cast, cellsOf, addrAdd, oneCells, blt_dec, ble_dec, beq_dec, fillAt, callV_func, evs, same00, lt_irrefl_i, List.append_nil, List.nil_append, List.cons_append, X_regionD, runD, checkR, AV.same_refl, Bool.cond_self, Int.same_self, binStr, bs0, hn, h0, h1, h7, h8, hlt, hb, hg, hC, wrap_succ (show i + 1 ≤ 1099511627776 by omega), allLen, hs]
      exact ih (i + 1) _ (by omega) (by simp [hn]) (by simp [h0]) (by simp [h1]) (by simp [h7]) (by simp)
    | false =>
      rw [hs] at hC
      simp [c53_10, r53_3, c53_8, r53_4, r53_5, c53_7, r53_6, X_seq, X_region, X_cond, X_exit, X_skip, X_block, X_ret, runOps, wantedA, doOp, cls, pureOp, readOp, allocOp, effOp, writeAt, AF.put_p, binInt, isShift, IntKind.same, ltI_cast, leI_cast, cellsOf, addrAdd, oneCells, blt_dec, ble_dec, beq_dec, fillAt, callV_func, evs, same00, lt_irrefl_i, List.append_nil, List.nil_append, List.cons_append, X_regionD, runD, checkR, AV.same_refl, Bool.cond_self, Int.same_self, binStr, bs0, hn, h0, h1, h7, h8, hlt, hb, hg, hC, allLen, hs]
      exact ⟨i, rfl⟩
theorem contains_c {E : Env} (K20 : Knows E 20 F20) (K53 : Knows E 53 F53) (K : Knows E 21 F21) {H : AH} {m : Nat} {cols : Int} {mc : List AV} {mro : Bool} {mel : Option (Nat × Bool)} (hm : H.get m = some (.cells (.int .i64 cols :: mc) mro mel))
    {ls : List Nat} {v : AV} (hv : Mat H ls v) (hl : ls.length ≤ 1000) : C E 20 [v, .func 21 [] [.ptr (some (m, 0))]] H = some (.bool (!allLen cols ls), H) := by
  obtain ⟨b, o, cap, ex, cs, ro, el, rfl, h2, h3, h4⟩ := hv
  have h53 : ∃ r : Int, C E 53 [.slice (some (b, o)) ls.length cap ex, .func 21 [] [.ptr (some (m, 0))]] H = some (.int .i64 r, H) ∧ leI 0 r = !allLen cols ls := by
    rw [K53.C]
    obtain ⟨⟨e, f', H'⟩, hr, hP⟩ := index_loop K hm h3 h4 hl (cap := cap) (ex := ex) ls.length 0 (((((AF.init [.slice (some (b, o)) ls.length cap ex, .func 21 [] [.ptr (some (m, 0))]] 19).p 4 (.int .i64 0)).p 6 (.slice (some (b, o)) ls.length cap ex)).p 7 (.int .i64 (ls.length : Int))).p 8 (.int .i64 0)) (by omega) rfl (by simp [init2_get]) (by simp [init2_get]) (by simp) (by simp)
    simp only at hP
    obtain ⟨rfl, g2, g3, g4⟩ := hP
    cases ha : allLen cols ls with
    | true =>
      have := g3 (by simpa using ha)
      subst this
      refine ⟨-1, ?_, rfl⟩
      simp [F53, c53_0, r53_1, r53_2, r53_12, X_seq, X_region, X_cond, X_exit, X_skip, X_block, X_ret, runOps, wantedA, doOp, cls, pureOp, readOp, allocOp, effOp, writeAt, AF.put_p, binInt, isShift, IntKind.same, ltI_cast, leI_cast, cellsOf, addrAdd, oneCells, blt_dec, ble_dec, beq_dec, fillAt, callV_func, evs, same00, lt_irrefl_i, List.append_nil, List.nil_append, List.cons_append, X_regionD, runD, checkR, AV.same_refl, Bool.cond_self, Int.same_self, binStr, bs0, AF.init_n, init2_get, hr, g2, callEnd, resAll, resOf]
    | false =>
      obtain ⟨rfl, q, hq⟩ := g4 (by simpa using ha)
      refine ⟨q, ?_, by simp [leI]⟩
      simp [F53, c53_0, r53_1, r53_2, r53_12, X_seq, X_region, X_cond, X_exit, X_skip, X_block, X_ret, runOps, wantedA, doOp, cls, pureOp, readOp, allocOp, effOp, writeAt, AF.put_p, binInt, isShift, IntKind.same, ltI_cast, leI_cast, cellsOf, addrAdd, oneCells, blt_dec, ble_dec, beq_dec, fillAt, callV_func, evs, same00, lt_irrefl_i, List.append_nil, List.nil_append, List.cons_append, X_regionD, runD, checkR, AV.same_refl, Bool.cond_self, Int.same_self, binStr, bs0, AF.init_n, init2_get, hr, g2, callEnd, resAll, resOf, hq]
  obtain ⟨r, h1, h2⟩ := h53
  rw [K20.C]
  simp [F20, c20_0, r20_1, r20_2, X_seq, X_region, X_cond, X_exit, X_skip, X_block, X_ret, runOps, wantedA, doOp, cls, pureOp, readOp, allocOp, effOp, writeAt, AF.put_p, binInt, isShift, IntKind.same, ltI_cast, leI_cast, cellsOf, addrAdd, oneCells, blt_dec, ble_dec, beq_dec, fillAt, callV_func, evs, same00, lt_irrefl_i, List.append_nil, List.nil_append, List.cons_append, X_regionD, runD, checkR, AV.same_refl, Bool.cond_self, Int.same_self, binStr, bs0, AF.init_n, init2_get, h1, h2, callEnd, resAll, resOf]
end Go.Proofs.YtpkldpbjjbplmaaGreatDoor.Det

/-! The matrix of zeros: the program's check. -/
namespace Go.Proofs.YtpkldpbjjbplmaaGreatDoor.Det
open Go
set_option linter.unusedVariables false
set_option linter.unusedSimpArgs false
/-- What the check of a matrix of zeros answers. -/
def chk (cols : Int) (ls : List Nat) : Int := cond (ltI cols 0 || ltI 64 cols) 2 (cond (decide (64 < ls.length)) 5 (cond (allLen cols ls) 0 15))
theorem gt64 (n : Nat) : ltI 64 (n : Int) = decide (64 < n) := by
  simp only [ltI]
  congr 1
  exact propext (by omega)
theorem rows_loop {E : Env} (K22 : Knows E 22 F22) (hp : E.prim 23 [.str [48]] = some (.int .i64 0)) {H : AH}
    {ls : List Nat} {b o cap ex : Nat} {cs : List AV} {ro : Bool} {el : Option (Nat × Bool)} (hb : H.get b = some (.cells cs ro el)) (hz : ∀ j c, ls[j]? = some c → ∃ r, cs[o + j]? = some r ∧ Row H c r) (hl : ls.length ≤ 1000) (hs : ∀ c ∈ ls, c ≤ 1000) :
    ∀ (k i : Nat) (f : AF), ls.length = i + k → f.n = 38 → f.get 26 = .slice (some (b, o)) ls.length cap ex → f.get 27 = .int .i64 (ls.length : Int) → f.get 28 = .int .i64 (i : Int) →
    Ok (X E c5_24 f H) fun r => r.1 = .exit 1 ∧ r.2.1.n = 38 ∧ r.2.2 = H := by
  intro k
  induction k with
  | zero =>
    intro i f hi hn h26 h27 h28
    unfold c5_24
    rw [X_loop]
    simp [c5_23, r5_15, X_seq, X_region, X_cond, X_exit, X_skip, X_block, X_ret, runOps, wantedA, doOp, cls, pureOp, readOp, allocOp, effOp, writeAt, AF.put_p, binInt, isShift, IntKind.same, ltI_cast, leI_cast, cellsOf, addrAdd, oneCells, blt_dec, ble_dec, beq_dec, fillAt, callV_func, evs, same00, lt_irrefl_i, List.append_nil, List.nil_append, List.cons_append, X_regionD, runD, checkR, AV.same_refl, Bool.cond_self, Int.same_self, binStr, bs0, hn, h27, h28, hi]
  | succ k ih =>
    intro i f hi hn h26 h27 h28
    have hlt : i < ls.length := by omega
    obtain ⟨c, hc⟩ : ∃ c, ls[i]? = some c := ⟨ls[i], by simp [hlt]⟩
    obtain ⟨r, hg, hrow⟩ := hz i c hc
    have hC := numbers_c K22 hp hrow (hs c (List.mem_of_getElem? hc))
    unfold c5_24
    rw [X_loop]
    simp [c5_23, r5_15, c5_21, r5_16, r5_17, r5_18, r5_22, X_seq, X_region, X_cond, X_exit, X_skip, X_block, X_ret, runOps, wantedA, doOp, cls, pureOp, readOp, allocOp, effOp, writeAt, AF.put_p, binInt, isShift, IntKind.same, ltI_cast, leI_cast, cellsOf, addrAdd, oneCells, blt_dec, ble_dec, beq_dec, fillAt, callV_func, evs, same00, lt_irrefl_i, List.append_nil, List.nil_append, List.cons_append, X_regionD, runD, checkR, AV.same_refl, Bool.cond_self, Int.same_self, binStr, bs0, hn, h26, h27, h28, hlt, hb, hg, hC, wrap_succ (show i + 1 ≤ 1099511627776 by omega)]
    exact ih (i + 1) _ (by omega) (by simp [hn]) (by simp [h26]) (by simp [h27]) (by simp)
theorem check_c {E : Env} (K5 : Knows E 5 F5) (K20 : Knows E 20 F20) (K53 : Knows E 53 F53) (K21 : Knows E 21 F21) (K22 : Knows E 22 F22) (hp : E.prim 23 [.str [48]] = some (.int .i64 0)) {H : AH} {cols : Int} {ls : List Nat} {v : AV}
    (hv : Mat H ls v) (hl : ls.length ≤ 1000) (hs : ∀ c ∈ ls, c ≤ 1000) : C E 5 [.agg [.int .i64 cols, v]] H = some (.int .i64 (chk cols ls), H.new (.cells [.int .i64 cols, v] false none)) := by
  have hk := Keeps.new H (.cells [.int .i64 cols, v] false none)
  have hv' := hv.keeps hk
  have hm : (H.new (.cells [.int .i64 cols, v] false none)).get H.next = some (.cells (.int .i64 cols :: [v]) false none) := by simp
  have hcon := contains_c K20 K53 K21 hm hv' hl
  obtain ⟨b, o, cap, ex, cs, ro, el, rfl, h2, h3, h4⟩ := hv'
  rw [K5.C]
  have step : ∀ f : AF, f.n = 38 → f.get 26 = .slice (some (b, o)) ls.length cap ex → f.get 27 = .int .i64 (ls.length : Int) → f.get 28 = .int .i64 0 → ∃ f', X E c5_24 f (H.new (.cells [.int .i64 cols, .slice (some (b, o)) ls.length cap ex] false none)) = some (.exit 1, f', H.new (.cells [.int .i64 cols, .slice (some (b, o)) ls.length cap ex] false none)) ∧ f'.n = 38 := by
    intro f hn h26 h27 h28
    obtain ⟨⟨e, f', H'⟩, hr, hP⟩ := rows_loop K22 hp h3 h4 hl hs (cap := cap) (ex := ex) ls.length 0 f (by omega) hn h26 h27 h28
    simp only at hP
    obtain ⟨rfl, g2, rfl⟩ := hP
    exact ⟨f', hr, g2⟩
  refine Ok_eq (Ok_bind ?_)
  show Ok (X E c5_0 _ _) _
  unfold c5_0
  refine Ok_seq (fun f' h' => f'.n = 38 ∧ f'.get 1 = .ptr (some (H.next, 0)) ∧ h' = H.new (.cells [.int .i64 cols, .slice (some (b, o)) ls.length cap ex] false none)) (by simp [F5, r5_1, X_seq, X_region, X_cond, X_exit, X_skip, X_block, X_ret, runOps, wantedA, doOp, cls, pureOp, readOp, allocOp, effOp, writeAt, AF.put_p, binInt, isShift, IntKind.same, ltI_cast, leI_cast, cellsOf, addrAdd, oneCells, blt_dec, ble_dec, beq_dec, fillAt, callV_func, evs, same00, lt_irrefl_i, List.append_nil, List.nil_append, List.cons_append, X_regionD, runD, checkR, AV.same_refl, Bool.cond_self, Int.same_self, binStr, bs0, AF.init_n, init1_get]) ?_
  rintro f h ⟨hn, h1, rfl⟩
  refine Ok_seq' (fun f' h' => f'.n = 38 ∧ f'.get 1 = .ptr (some (H.next, 0)) ∧ h' = H.new (.cells [.int .i64 cols, .slice (some (b, o)) ls.length cap ex] false none) ∧ chk cols ls = 0) ?_ ?_
  · refine Ok_block ?_
    unfold c5_13
    refine Ok_seq (fun f' h' => f'.n = 38 ∧ f'.get 1 = .ptr (some (H.next, 0)) ∧ f'.get 6 = .bool (ltI cols 0 || ltI 64 cols) ∧ h' = H.new (.cells [.int .i64 cols, .slice (some (b, o)) ls.length cap ex] false none)) ?_ ?_
    · cases c1 : ltI cols 0 <;> simp [r5_2, X_seq, X_region, X_cond, X_exit, X_skip, X_block, X_ret, runOps, wantedA, doOp, cls, pureOp, readOp, allocOp, effOp, writeAt, AF.put_p, binInt, isShift, IntKind.same, ltI_cast, leI_cast, cellsOf, addrAdd, oneCells, blt_dec, ble_dec, beq_dec, fillAt, callV_func, evs, same00, lt_irrefl_i, List.append_nil, List.nil_append, List.cons_append, X_regionD, runD, checkR, AV.same_refl, Bool.cond_self, Int.same_self, binStr, bs0, hn, h1, c1]
    · rintro f h ⟨hn, h1, h6, rfl⟩
      cases c1 : (ltI cols 0 || ltI 64 cols) with
      | true => simp [c5_4, r5_3, X_seq, X_region, X_cond, X_exit, X_skip, X_block, X_ret, runOps, wantedA, doOp, cls, pureOp, readOp, allocOp, effOp, writeAt, AF.put_p, binInt, isShift, IntKind.same, ltI_cast, leI_cast, cellsOf, addrAdd, oneCells, blt_dec, ble_dec, beq_dec, fillAt, callV_func, evs, same00, lt_irrefl_i, List.append_nil, List.nil_append, List.cons_append, X_regionD, runD, checkR, AV.same_refl, Bool.cond_self, Int.same_self, binStr, bs0, hn, h1, h6, c1, chk, F5, callEnd, resAll, resOf]
      | false =>
        by_cases c3 : 64 < ls.length
        · simp [c5_12, r5_5, c5_7, r5_6, X_seq, X_region, X_cond, X_exit, X_skip, X_block, X_ret, runOps, wantedA, doOp, cls, pureOp, readOp, allocOp, effOp, writeAt, AF.put_p, binInt, isShift, IntKind.same, ltI_cast, leI_cast, cellsOf, addrAdd, oneCells, blt_dec, ble_dec, beq_dec, fillAt, callV_func, evs, same00, lt_irrefl_i, List.append_nil, List.nil_append, List.cons_append, X_regionD, runD, checkR, AV.same_refl, Bool.cond_self, Int.same_self, binStr, bs0, hn, h1, h6, c1, c3, gt64, chk, F5, callEnd, resAll, resOf]
        · cases c4 : allLen cols ls with
          | false =>
            rw [c4] at hcon
            simp [c5_12, r5_5, c5_11, r5_8, c5_10, r5_9, X_seq, X_region, X_cond, X_exit, X_skip, X_block, X_ret, runOps, wantedA, doOp, cls, pureOp, readOp, allocOp, effOp, writeAt, AF.put_p, binInt, isShift, IntKind.same, ltI_cast, leI_cast, cellsOf, addrAdd, oneCells, blt_dec, ble_dec, beq_dec, fillAt, callV_func, evs, same00, lt_irrefl_i, List.append_nil, List.nil_append, List.cons_append, X_regionD, runD, checkR, AV.same_refl, Bool.cond_self, Int.same_self, binStr, bs0, hn, h1, h6, c1, c3, c4, gt64, hcon, chk, F5, callEnd, resAll, resOf]
          | true =>
            rw [c4] at hcon
            simp [c5_12, r5_5, c5_11, r5_8, X_seq, X_region, X_cond, X_exit, X_skip, X_block, X_ret, runOps, wantedA, doOp, cls, pureOp, readOp, allocOp, effOp, writeAt, AF.put_p, binInt, isShift, IntKind.same, ltI_cast, leI_cast, cellsOf, addrAdd, oneCells, blt_dec, ble_dec, beq_dec, fillAt, callV_func, evs, same00, lt_irrefl_i, List.append_nil, List.nil_append, List.cons_append, X_regionD, runD, checkR, AV.same_refl, Bool.cond_self, Int.same_self, binStr, bs0, hn, h1, h6, c1, c3, c4, gt64, hcon, chk]
  · rintro f h ⟨hn, h1, rfl, h0⟩
    rw [h0]
    obtain ⟨f', hs1, hs2⟩ := step ((((f.p 25 (.ptr (some (H.next, 1)))).p 26 (.slice (some (b, o)) ls.length cap ex)).p 27 (.int .i64 (ls.length : Int))).p 28 (.int .i64 0)) (by simp [hn]) (by simp) (by simp) (by simp)
    simp [r5_14, r5_25, X_seq, X_region, X_cond, X_exit, X_skip, X_block, X_ret, runOps, wantedA, doOp, cls, pureOp, readOp, allocOp, effOp, writeAt, AF.put_p, binInt, isShift, IntKind.same, ltI_cast, leI_cast, cellsOf, addrAdd, oneCells, blt_dec, ble_dec, beq_dec, fillAt, callV_func, evs, same00, lt_irrefl_i, List.append_nil, List.nil_append, List.cons_append, X_regionD, runD, checkR, AV.same_refl, Bool.cond_self, Int.same_self, binStr, bs0, hn, h1, hs1, hs2, F5, callEnd, resAll, resOf]
end Go.Proofs.YtpkldpbjjbplmaaGreatDoor.Det

/-! The matrix of zeros: the reference's check. -/
namespace Go.Proofs.YtpkldpbjjbplmaaGreatDoor.Det
open Go
set_option linter.unusedVariables false
set_option linter.unusedSimpArgs false
theorem vector_loop {E : Env} (hp : E.prim 61 [.str [48]] = some (.int .i64 0)) {H : AH} {b o c cap ex : Nat} {cs : List AV} {ro : Bool} {el : Option (Nat × Bool)} (hb : H.get b = some (.cells cs ro el)) (hz : ∀ j, j < c → cs[o + j]? = some (.str [48])) (hc : c ≤ 1000) :
    ∀ (k i : Nat) (f : AF), c = i + k → f.n = 25 → f.get 1 = .slice (some (b, o)) c cap ex → f.get 5 = .int .i64 (i : Int) →
    Ok (X E c26_14 f H) fun r => r.1 = .exit 0 ∧ r.2.1.n = 25 ∧ r.2.2 = H := by
  have hC : ∀ H, C E 61 [.str [48]] H = some (.int .i64 0, H) := fun H => C_prim hp
  intro k
  induction k with
  | zero =>
    intro i f hi hn h1 h5
    unfold c26_14
    rw [X_loop]
    simp [c26_13, r26_6, X_seq, X_region, X_cond, X_exit, X_skip, X_block, X_ret, runOps, wantedA, doOp, cls, pureOp, readOp, allocOp, effOp, writeAt, AF.put_p, binInt, isShift, IntKind.same, ltI_cast, leI_cast, cellsOf, addrAdd, oneCells, blt_dec, ble_dec, beq_dec, fillAt, callV_func, evs, same00, lt_irrefl_i, List.append_nil, List.nil_append, List.cons_append, X_regionD, runD, checkR, AV.same_refl, Bool.cond_self, Int.same_self, binStr, bs0, hn, h1, h5, hi]
  | succ k ih =>
    intro i f hi hn h1 h5
    have hlt : i < c := by omega
    have hg := hz i hlt
    unfold c26_14
    rw [X_loop]
    simp [c26_13, r26_6, c26_11, r26_7, r26_8, r26_12, X_seq, X_region, X_cond, X_exit, X_skip, X_block, X_ret, runOps, wantedA, doOp, cls, pureOp, readOp, allocOp, effOp, writeAt, AF.put_p, binInt, isShift, IntKind.same, ltI_cast, leI_cast, cellsOf, addrAdd, oneCells, blt_dec, ble_dec, beq_dec, fillAt, callV_func, evs, same00, lt_irrefl_i, List.append_nil, List.nil_append, List.cons_append, X_regionD, runD, checkR, AV.same_refl, Bool.cond_self, Int.same_self, binStr, bs0, hn, h1, h5, hlt, hb, hg, hC, wrap_succ (show i + 1 ≤ 1099511627776 by omega)]
    exact ih (i + 1) _ (by omega) (by simp [hn]) (by simp [h1]) (by simp)
theorem vector_c {E : Env} (K : Knows E 26 F26) (hp : E.prim 61 [.str [48]] = some (.int .i64 0)) {H : AH} {c : Nat} {v : AV} (hr : Row H c v) (hc : c ≤ 1000) : C E 26 [.int .i64 (c : Int), v] H = some (.int .i64 0, H) := by
  obtain ⟨b, o, cap, ex, cs, ro, el, rfl, h2, h3, h4⟩ := hr
  rw [K.C]
  obtain ⟨⟨e, f', H'⟩, hr, hP⟩ := vector_loop hp h3 h4.1 hc (cap := cap) (ex := ex) c 0 ((((((AF.init [.int .i64 (c : Int), .slice (some (b, o)) c cap ex] 25).p 4 (.int .i64 0)).p 7 (.slice (some (b, o)) c cap ex)).p 8 (.int .i64 (c : Int))).p 9 (.int .i64 (c : Int))).p 10 (.bool false) |>.p 5 (.int .i64 0)) (by omega) rfl (by simp [init2_get]) (by simp)
  simp only at hP
  obtain ⟨rfl, g2, rfl⟩ := hP
  simp [F26, c26_0, r26_1, r26_2, r26_5, r26_15, X_seq, X_region, X_cond, X_exit, X_skip, X_block, X_ret, runOps, wantedA, doOp, cls, pureOp, readOp, allocOp, effOp, writeAt, AF.put_p, binInt, isShift, IntKind.same, ltI_cast, leI_cast, cellsOf, addrAdd, oneCells, blt_dec, ble_dec, beq_dec, fillAt, callV_func, evs, same00, lt_irrefl_i, List.append_nil, List.nil_append, List.cons_append, X_regionD, runD, checkR, AV.same_refl, Bool.cond_self, Int.same_self, binStr, bs0, AF.init_n, init2_get, hr, g2, callEnd, resAll, resOf]
theorem lens_loop {E : Env} {H : AH} {m : Nat} {cols : Int} {mro : Bool} {mel : Option (Nat × Bool)}
    {ls : List Nat} {b o cap ex : Nat} {cs : List AV} {ro : Bool} {el : Option (Nat × Bool)} (hm : H.get m = some (.cells [.int .i64 cols, .slice (some (b, o)) ls.length cap ex] mro mel)) (hb : H.get b = some (.cells cs ro el)) (hz : ∀ j c, ls[j]? = some c → ∃ r, cs[o + j]? = some r ∧ Row H c r) (hl : ls.length ≤ 1000) :
    ∀ (k i : Nat) (f : AF), ls.length = i + k → f.n = 52 → f.get 1 = .ptr (some (m, 0)) → f.get 3 = .int .i64 (i : Int) →
    Ok (X E c9_17 f H) fun r => r.2.2 = H ∧ r.2.1.n = 52 ∧ r.2.1.get 1 = .ptr (some (m, 0)) ∧ (allLen cols (ls.drop i) = true → r.1 = .exit 0) ∧ (allLen cols (ls.drop i) = false → r.1 = .ret ∧ r.2.1.get 2 = .int .i64 15) := by
  intro k
  induction k with
  | zero =>
    intro i f hi hn h1 h3
    unfold c9_17
    rw [X_loop]
    simp [c9_16, r9_9, X_seq, X_region, X_cond, X_exit, X_skip, X_block, X_ret, runOps, wantedA, doOp, cls, pureOp, readOp, allocOp, effOp, writeAt, AF.put_p, binInt, isShift, IntKind.same, ltI_cast, leI_cast, cellsOf, addrAdd, oneCells, blt_dec, ble_dec, beq_dec, fillAt, callV_func, evs, same00, lt_irrefl_i, List.append_nil, List.nil_append, List.cons_append, X_regionD, runD, checkR, AV.same_refl, Bool.cond_self, Int.same_self, binStr, bs0, hn, h1, h3, hi, hm]
    rw [List.drop_of_length_le (by omega)]
    simp [allLen]
  | succ k ih =>
    intro i f hi hn h1 h3
    have hlt : i < ls.length := by omega
    obtain ⟨c, hc⟩ : ∃ c, ls[i]? = some c := ⟨ls[i], by simp [hlt]⟩
    obtain ⟨r, hg, hrow⟩ := hz i c hc
    obtain ⟨b2, o2, cap2, ex2, cs2, ro2, el2, rfl, h22, h23, h24⟩ := hrow
    have hdrop : ls.drop i = c :: ls.drop (i + 1) := by
      rw [List.drop_eq_getElem_cons hlt]
      have : ls[i] = c := by have := List.getElem?_eq_getElem hlt; rw [hc] at this; exact (Option.some.inj this).symm
      rw [this]
    unfold c9_17
    rw [X_loop, hdrop]
    cases hs : Int.same (c : Int) cols with
    | true =>
      simp [c9_16, r9_9, c9_14, r9_10, p9_11, r9_15, X_seq, X_region, X_cond, X_exit, X_skip, X_block, X_ret, runOps, wantedA, doOp, cls, pureOp, readOp, allocOp, effOp, writeAt, AF.put_p, binInt, isShift, IntKind.same, ltI_cast, leI_cast, cellsOf, addrAdd, oneCells, blt_dec, ble_dec, beq_dec, fillAt, callV_func, evs, same00, lt_irrefl_i, List.append_nil, List.nil_append, List.cons_append, X_regionD, runD, checkR, AV.same_refl, Bool.cond_self, Int.same_self, binStr, bs0, hn, h1, h3, hlt, hm, hb, hg, wrap_succ (show i + 1 ≤ 1099511627776 by omega), allLen, hs]
      exact ih (i + 1) _ (by omega) (by simp [hn]) (by simp [h1]) (by simp)
    | false =>
      simp [c9_16, r9_9, c9_14, r9_10, p9_11, c9_13, r9_12, X_seq, X_region, X_cond, X_exit, X_skip, X_block, X_ret, runOps, wantedA, doOp, cls, pureOp, readOp, allocOp, effOp, writeAt, AF.put_p, binInt, isShift, IntKind.same, ltI_cast, leI_cast, cellsOf, addrAdd, oneCells, blt_dec, ble_dec, beq_dec, fillAt, callV_func, evs, same00, lt_irrefl_i, List.append_nil, List.nil_append, List.cons_append, X_regionD, runD, checkR, AV.same_refl, Bool.cond_self, Int.same_self, binStr, bs0, hn, h1, h3, hlt, hm, hb, hg, allLen, hs]
theorem rrows_loop {E : Env} (K26 : Knows E 26 F26) (hp : E.prim 61 [.str [48]] = some (.int .i64 0)) {H : AH} {m : Nat} {cols : Int} {mro : Bool} {mel : Option (Nat × Bool)}
    {ls : List Nat} {b o cap ex : Nat} {cs : List AV} {ro : Bool} {el : Option (Nat × Bool)} (hm : H.get m = some (.cells [.int .i64 cols, .slice (some (b, o)) ls.length cap ex] mro mel)) (hb : H.get b = some (.cells cs ro el)) (hz : ∀ j c, ls[j]? = some c → ∃ r, cs[o + j]? = some r ∧ Row H c r) (hl : ls.length ≤ 1000) (hs : ∀ c ∈ ls, c ≤ 1000 ∧ (c : Int) = cols) :
    ∀ (k i : Nat) (f : AF), ls.length = i + k → f.n = 52 → f.get 1 = .ptr (some (m, 0)) → f.get 4 = .int .i64 (i : Int) →
    Ok (X E c9_28 f H) fun r => r.1 = .exit 2 ∧ r.2.1.n = 52 ∧ r.2.2 = H := by
  intro k
  induction k with
  | zero =>
    intro i f hi hn h1 h4
    unfold c9_28
    rw [X_loop]
    simp [c9_27, r9_19, X_seq, X_region, X_cond, X_exit, X_skip, X_block, X_ret, runOps, wantedA, doOp, cls, pureOp, readOp, allocOp, effOp, writeAt, AF.put_p, binInt, isShift, IntKind.same, ltI_cast, leI_cast, cellsOf, addrAdd, oneCells, blt_dec, ble_dec, beq_dec, fillAt, callV_func, evs, same00, lt_irrefl_i, List.append_nil, List.nil_append, List.cons_append, X_regionD, runD, checkR, AV.same_refl, Bool.cond_self, Int.same_self, binStr, bs0, hn, h1, h4, hi, hm]
  | succ k ih =>
    intro i f hi hn h1 h4
    have hlt : i < ls.length := by omega
    obtain ⟨c, hc⟩ : ∃ c, ls[i]? = some c := ⟨ls[i], by simp [hlt]⟩
    obtain ⟨r, hg, hrow⟩ := hz i c hc
    obtain ⟨hc1, hc2⟩ := hs c (List.mem_of_getElem? hc)
    have hC := vector_c K26 hp hrow hc1
    subst hc2
    unfold c9_28
    rw [X_loop]
    simp [c9_27, r9_19, c9_25, r9_20, p9_21, r9_22, r9_26, X_seq, X_region, X_cond, X_exit, X_skip, X_block, X_ret, runOps, wantedA, doOp, cls, pureOp, readOp, allocOp, effOp, writeAt, AF.put_p, binInt, isShift, IntKind.same, ltI_cast, leI_cast, cellsOf, addrAdd, oneCells, blt_dec, ble_dec, beq_dec, fillAt, callV_func, evs, same00, lt_irrefl_i, List.append_nil, List.nil_append, List.cons_append, X_regionD, runD, checkR, AV.same_refl, Bool.cond_self, Int.same_self, binStr, bs0, hn, h1, h4, hlt, hm, hb, hg, hC, wrap_succ (show i + 1 ≤ 1099511627776 by omega)]
    exact ih (i + 1) _ (by omega) (by simp [hn]) (by simp [h1]) (by simp)
theorem allLen_all {cols : Int} : ∀ {ls : List Nat}, allLen cols ls = true → ∀ c ∈ ls, (c : Int) = cols
  | c :: ls, h, x, hx => by
    simp only [allLen, Bool.and_eq_true] at h
    rcases List.mem_cons.1 hx with rfl | hx
    · exact Int.same_eq h.1
    · exact allLen_all h.2 x hx
theorem rcheck_c {E : Env} (K9 : Knows E 9 F9) (K26 : Knows E 26 F26) (hp : E.prim 61 [.str [48]] = some (.int .i64 0)) {H : AH} {cols : Int} {ls : List Nat} {v : AV}
    (hv : Mat H ls v) (hl : ls.length ≤ 1000) (hs : ∀ c ∈ ls, c ≤ 1000) : C E 9 [.agg [.int .i64 cols, v]] H = some (.int .i64 (chk cols ls), H.new (.cells [.int .i64 cols, v] false none)) := by
  have hk := Keeps.new H (.cells [.int .i64 cols, v] false none)
  have hv' := hv.keeps hk
  obtain ⟨b, o, cap, ex, cs, ro, el, rfl, h2, h3, h4⟩ := hv'
  have hm : (H.new (.cells [.int .i64 cols, .slice (some (b, o)) ls.length cap ex] false none)).get H.next = some (.cells [.int .i64 cols, .slice (some (b, o)) ls.length cap ex] false none) := by simp
  generalize hH1 : H.new (.cells [.int .i64 cols, .slice (some (b, o)) ls.length cap ex] false none) = H1 at *
  rw [K9.C]
  refine Ok_eq (Ok_bind ?_)
  show Ok (X E c9_0 _ _) _
  unfold c9_0
  refine Ok_seq (fun f' h' => f'.n = 52 ∧ f'.get 1 = .ptr (some (H.next, 0)) ∧ h' = H1) (by simp [F9, r9_1, X_seq, X_region, X_cond, X_exit, X_skip, X_block, X_ret, runOps, wantedA, doOp, cls, pureOp, readOp, allocOp, effOp, writeAt, AF.put_p, binInt, isShift, IntKind.same, ltI_cast, leI_cast, cellsOf, addrAdd, oneCells, blt_dec, ble_dec, beq_dec, fillAt, callV_func, evs, same00, lt_irrefl_i, List.append_nil, List.nil_append, List.cons_append, X_regionD, runD, checkR, AV.same_refl, Bool.cond_self, Int.same_self, binStr, bs0, AF.init_n, init1_get, hH1]) ?_
  rintro f h ⟨hn, h1, rfl⟩
  refine Ok_seq' (fun f' h' => f'.n = 52 ∧ f'.get 1 = .ptr (some (H.next, 0)) ∧ h' = h ∧ (ltI cols 0 || ltI 64 cols) = false) ?_ ?_
  · cases c1 : ltI cols 0 with
    | true => simp [r9_2, c9_4, r9_3, X_seq, X_region, X_cond, X_exit, X_skip, X_block, X_ret, runOps, wantedA, doOp, cls, pureOp, readOp, allocOp, effOp, writeAt, AF.put_p, binInt, isShift, IntKind.same, ltI_cast, leI_cast, cellsOf, addrAdd, oneCells, blt_dec, ble_dec, beq_dec, fillAt, callV_func, evs, same00, lt_irrefl_i, List.append_nil, List.nil_append, List.cons_append, X_regionD, runD, checkR, AV.same_refl, Bool.cond_self, Int.same_self, binStr, bs0, hn, h1, hm, c1, chk, F9, callEnd, resAll, resOf]
    | false => cases c2 : ltI 64 cols <;> simp [r9_2, c9_4, r9_3, X_seq, X_region, X_cond, X_exit, X_skip, X_block, X_ret, runOps, wantedA, doOp, cls, pureOp, readOp, allocOp, effOp, writeAt, AF.put_p, binInt, isShift, IntKind.same, ltI_cast, leI_cast, cellsOf, addrAdd, oneCells, blt_dec, ble_dec, beq_dec, fillAt, callV_func, evs, same00, lt_irrefl_i, List.append_nil, List.nil_append, List.cons_append, X_regionD, runD, checkR, AV.same_refl, Bool.cond_self, Int.same_self, binStr, bs0, hn, h1, hm, c1, c2, chk, F9, callEnd, resAll, resOf]
  rintro f h ⟨hn, h1, rfl, c1⟩
  refine Ok_seq' (fun f' h' => f'.n = 52 ∧ f'.get 1 = .ptr (some (H.next, 0)) ∧ h' = h ∧ ¬ 64 < ls.length) ?_ ?_
  · by_cases c3 : 64 < ls.length <;> simp [r9_5, c9_7, r9_6, X_seq, X_region, X_cond, X_exit, X_skip, X_block, X_ret, runOps, wantedA, doOp, cls, pureOp, readOp, allocOp, effOp, writeAt, AF.put_p, binInt, isShift, IntKind.same, ltI_cast, leI_cast, cellsOf, addrAdd, oneCells, blt_dec, ble_dec, beq_dec, fillAt, callV_func, evs, same00, lt_irrefl_i, List.append_nil, List.nil_append, List.cons_append, X_regionD, runD, checkR, AV.same_refl, Bool.cond_self, Int.same_self, binStr, bs0, hn, h1, hm, c1, c3, gt64, chk, F9, callEnd, resAll, resOf]
  rintro f h ⟨hn, h1, rfl, c3⟩
  refine Ok_seq' (fun f' h' => f'.n = 52 ∧ f'.get 1 = .ptr (some (H.next, 0)) ∧ h' = h ∧ allLen cols ls = true) ?_ ?_
  · refine Ok_seq (fun f' h' => f'.n = 52 ∧ f'.get 1 = .ptr (some (H.next, 0)) ∧ f'.get 3 = .int .i64 0 ∧ h' = h) (by simp [r9_8, X_seq, X_region, X_cond, X_exit, X_skip, X_block, X_ret, runOps, wantedA, doOp, cls, pureOp, readOp, allocOp, effOp, writeAt, AF.put_p, binInt, isShift, IntKind.same, ltI_cast, leI_cast, cellsOf, addrAdd, oneCells, blt_dec, ble_dec, beq_dec, fillAt, callV_func, evs, same00, lt_irrefl_i, List.append_nil, List.nil_append, List.cons_append, X_regionD, runD, checkR, AV.same_refl, Bool.cond_self, Int.same_self, binStr, bs0, hn, h1]) ?_
    rintro f h ⟨hn, h1, h3', rfl⟩
    refine Ok_block ?_
    refine (lens_loop hm h3 h4 hl ls.length 0 f (by omega) hn h1 h3').mono ?_
    rintro ⟨e, f', h'⟩ ⟨rfl, g2, g3, g4, g5⟩
    simp only [List.drop_zero] at g2 g3 g4 g5
    cases ha : allLen cols ls with
    | true => have := g4 ha; subst this; simp [beq_dec, g2, g3]
    | false => obtain ⟨h6, h7⟩ := g5 ha; subst h6; simp [ha, c1, c3, chk, F9, callEnd, resAll, resOf, h7]
  rintro f h ⟨hn, h1, rfl, c4⟩
  refine Ok_seq (fun f' h' => f'.n = 52 ∧ h' = h) ?_ ?_
  · refine Ok_seq (fun f' h' => f'.n = 52 ∧ f'.get 1 = .ptr (some (H.next, 0)) ∧ f'.get 4 = .int .i64 0 ∧ h' = h) (by simp [r9_18, X_seq, X_region, X_cond, X_exit, X_skip, X_block, X_ret, runOps, wantedA, doOp, cls, pureOp, readOp, allocOp, effOp, writeAt, AF.put_p, binInt, isShift, IntKind.same, ltI_cast, leI_cast, cellsOf, addrAdd, oneCells, blt_dec, ble_dec, beq_dec, fillAt, callV_func, evs, same00, lt_irrefl_i, List.append_nil, List.nil_append, List.cons_append, X_regionD, runD, checkR, AV.same_refl, Bool.cond_self, Int.same_self, binStr, bs0, hn, h1]) ?_
    rintro f h ⟨hn, h1, h4', rfl⟩
    refine Ok_block ?_
    refine (rrows_loop K26 hp hm h3 h4 hl (fun c hc => ⟨hs c hc, allLen_all c4 c hc⟩) ls.length 0 f (by omega) hn h1 h4').mono ?_
    rintro ⟨e, f', h'⟩ ⟨g1, g2, rfl⟩
    simp only at g1 g2
    subst g1
    simp [beq_dec, g2]
  rintro f h ⟨hn, rfl⟩
  simp [r9_29, X_seq, X_region, X_cond, X_exit, X_skip, X_block, X_ret, runOps, wantedA, doOp, cls, pureOp, readOp, allocOp, effOp, writeAt, AF.put_p, binInt, isShift, IntKind.same, ltI_cast, leI_cast, cellsOf, addrAdd, oneCells, blt_dec, ble_dec, beq_dec, fillAt, callV_func, evs, same00, lt_irrefl_i, List.append_nil, List.nil_append, List.cons_append, X_regionD, runD, checkR, AV.same_refl, Bool.cond_self, Int.same_self, binStr, bs0, hn, c1, c3, c4, chk, F9, callEnd, resAll, resOf]
end Go.Proofs.YtpkldpbjjbplmaaGreatDoor.Det

/-! The matrix of zeros: copies of its rows. -/
namespace Go.Proofs.YtpkldpbjjbplmaaGreatDoor.Det
open Go
set_option linter.unusedVariables false
set_option linter.unusedSimpArgs false
theorem take_zer {cs : List AV} {o c : Nat} (h : ∀ j, j < c → cs[o + j]? = some (.str [48])) (hl : o + c ≤ cs.length) : (cs.drop o).take c = zer c := by
  apply List.ext_getElem?
  intro i
  by_cases hi : i < c
  · rw [List.getElem?_take, if_pos hi, List.getElem?_drop, h i hi]
    simp [zer, hi]
  · rw [List.getElem?_eq_none (by simp; omega), List.getElem?_eq_none (by simp; omega)]
/-- A row of zeros whose block lies in between. -/
def RowIn (H : AH) (lo hi c : Nat) (v : AV) : Prop := ∃ b o cap ex cs ro el, v = .slice (some (b, o)) c cap ex ∧ (lo ≤ b ∧ b < hi) ∧ H.get b = some (.cells cs ro el) ∧ (∀ j, j < c → cs[o + j]? = some (.str [48])) ∧ o + c ≤ cs.length
theorem RowIn.row {H : AH} {lo hi c : Nat} {v : AV} (h : RowIn H lo hi c v) (hh : hi ≤ H.next) : Row H c v := by
  obtain ⟨b, o, cap, ex, cs, ro, el, h1, h2, h3, h4⟩ := h
  exact ⟨b, o, cap, ex, cs, ro, el, h1, by omega, h3, h4⟩
theorem RowIn.mono {H H' : AH} {lo hi lo' hi' c : Nat} {v : AV} (h : RowIn H lo hi c v) (h1 : lo' ≤ lo) (h2 : hi ≤ hi') (hg : ∀ b, lo ≤ b → b < hi → H'.get b = H.get b) : RowIn H' lo' hi' c v := by
  obtain ⟨b, o, cap, ex, cs, ro, el, h3, h4, h5, h6⟩ := h
  exact ⟨b, o, cap, ex, cs, ro, el, h3, by omega, by rw [hg b h4.1 h4.2]; exact h5, h6⟩
/-- A slice of rows that is being gathered. -/
def Acc (H0 H : AH) (ls : List Nat) (v : AV) : Prop := (ls = [] ∧ v = .slice none 0 0 0) ∨ ∃ (b : Nat) (rs : List AV) (el : Option (Nat × Bool)), v = .slice (some (b, 0)) ls.length ls.length 1 ∧ H0.next ≤ b ∧ b < H.next ∧ H.get b = some (.cells rs false el) ∧ rs.length = ls.length ∧ 0 < ls.length ∧ oneCells rs = true ∧
  ∀ (j c : Nat), ls[j]? = some c → ∃ r, rs[j]? = some r ∧ RowIn H H0.next b c r
theorem Acc.keeps {H0 H H' : AH} {ls : List Nat} {v : AV} (h : Acc H0 H ls v) (hk : Keeps H H') : Acc H0 H' ls v := by
  rcases h with h | ⟨b, rs, el, h1, h2, h3, h4, h5, h6, h7, h8⟩
  · exact .inl h
  · exact .inr ⟨b, rs, el, h1, h2, Nat.lt_of_lt_of_le h3 hk.1, by rw [hk.2 b h3]; exact h4, h5, h6, h7, fun j c hj => let ⟨r, hr1, hr2⟩ := h8 j c hj; ⟨r, hr1, hr2.mono (Nat.le_refl _) (Nat.le_refl _) fun b' _ hb' => hk.2 b' (by omega)⟩⟩
theorem Acc.mat {H0 H : AH} {ls : List Nat} {v : AV} (h : Acc H0 H ls v) (hne : ls ≠ []) : Mat H ls v := by
  rcases h with ⟨h, _⟩ | ⟨b, rs, el, h1, h2, h3, h4, h5, h6, h7, h8⟩
  · exact absurd h hne
  · exact ⟨b, 0, _, _, rs, false, el, h1, h3, h4, fun j c hj => let ⟨r, hr1, hr2⟩ := h8 j c hj; ⟨r, by simpa using hr1, hr2.row (by omega)⟩⟩
theorem oneCells_append : ∀ {a b : List AV}, oneCells a = true → oneCells b = true → oneCells (a ++ b) = true
  | [], b, _, h => h
  | x :: a, b, h, h' => by
    cases x <;> first | (simp [oneCells] at h; done) | exact oneCells_append (a := a) h h'
theorem acc_append {H0 Hs H : AH} {ls : List Nat} {v : AV} (ha : Acc H0 Hs ls v) (h0 : Keeps H0 Hs) (hk : Keeps Hs H) {c : Nat} {r : AV} (hr : RowIn H Hs.next H.next c r) {bx : Nat} {ro : Bool} {elx : Option (Nat × Bool)} (hx : H.get bx = some (.cells [r] ro elx)) (hl : ls.length < 1000) :
    Ok (appendOp H 28 [.slice none 0 0 0] 24 v (.slice (some (bx, 0)) 1 1 0)) fun q => Acc H0 q.2 (ls ++ [c]) q.1 ∧ Keeps H0 q.2 ∧ q.2.next = H.next + 1 := by
  have hone : oneCells [r] = true := by obtain ⟨b, o, cap, ex, cs, ro, el, rfl, _⟩ := hr; rfl
  rcases ha with ⟨rfl, rfl⟩ | ⟨b, rs, el, rfl, h2, h3, h4, h5, h6, h7, h8⟩
  · simp [appendOp, lenOfAV, sourceCells, cellsAt, hx, ble_dec, beq_dec]
    refine ⟨.inr ⟨H.next, [r], some (28, true), rfl, Nat.le_trans h0.1 hk.1, by simp, by simp, rfl, by simp, hone, fun j c' hj => ?_⟩, (h0.trans hk).newK _⟩
    rcases j with _ | j
    · simp at hj; subst hj
      exact ⟨r, rfl, hr.mono h0.1 (Nat.le_refl _) fun b' _ hb' => AH.get_new_ne _ (by omega)⟩
    · simp at hj
  · have h4' : H.get b = some (.cells rs false el) := by rw [hk.2 b h3]; exact h4
    have ht : rs.take ls.length = rs := by rw [← h5]; exact List.take_length
    have hle : ls.length ≤ rs.length := by omega
    have hb1 : (ls.length + 1) * 24 ≤ 1099511627776 := by omega
    have hb2 : ls.length + 1 ≤ 1099511627776 := by omega
    have hnf : decide (ls.length + 1 ≤ ls.length) = false := decide_eq_false (by omega)
    simp [appendOp, lenOfAV, sourceCells, cellsAt, hx, h4', ble_dec, beq_dec, hone, ht, hle, hb1, hb2, hnf]
    refine ⟨.inr ⟨H.next, rs ++ [r], elKeep 28 el, by simp, Nat.le_trans h0.1 hk.1, by simp, ?_, by simp [h5], by simp, oneCells_append h7 hone, fun j c' hj => ?_⟩, ⟨?_, fun i hi => ?_⟩⟩
    · rw [show H.next = (H.set b none).next by simp, AH.get_new_same]
    · by_cases hjl : j < ls.length
      · rw [List.getElem?_append_left hjl] at hj
        obtain ⟨r', hr1, hr2⟩ := h8 j c' hj
        refine ⟨r', by rw [List.getElem?_append_left (by omega)]; exact hr1, hr2.mono (Nat.le_refl _) (by have := hk.1; omega) fun b' _ hb' => ?_⟩
        rw [AH.get_new_ne _ (by simp; have := hk.1; omega), AH.get_set_ne _ (by omega), hk.2 b' (by omega)]
      · rw [List.getElem?_append_right (by omega)] at hj
        obtain ⟨rfl, rfl⟩ : j = ls.length ∧ c = c' := by
          cases hd : j - ls.length with
          | zero => rw [hd] at hj; simp at hj; exact ⟨by omega, hj⟩
          | succ n => rw [hd] at hj; simp at hj
        refine ⟨r, by rw [List.getElem?_append_right (by omega)]; simp [h5], hr.mono h0.1 (Nat.le_refl _) fun b' hb1 hb' => ?_⟩
        rw [AH.get_new_ne _ (by simp; omega), AH.get_set_ne _ (by omega)]
    · have := (h0.trans hk).1; simp; omega
    · have := (h0.trans hk).1
      rw [AH.get_new_ne _ (by simp; omega), AH.get_set_ne _ (by omega)]
      exact (h0.trans hk).2 i hi
theorem Acc.base {H0 H1 H : AH} {ls : List Nat} {v : AV} (h : Acc H0 H ls v) (e : H1.next = H0.next) : Acc H1 H ls v := by
  unfold Acc at h ⊢
  rw [e]; exact h
theorem Acc.set {H0 H : AH} {ls : List Nat} {v : AV} (h : Acc H0 H ls v) {p : Nat} (hp : p < H0.next) (B : Option AB) : Acc H0 (H.set p B) ls v := by
  rcases h with h | ⟨b, rs, el, h1, h2, h3, h4, h5, h6, h7, h8⟩
  · exact .inl h
  · exact .inr ⟨b, rs, el, h1, h2, h3, by rw [AH.get_set_ne _ (by omega)]; exact h4, h5, h6, h7, fun j c hj => let ⟨r, hr1, hr2⟩ := h8 j c hj; ⟨r, hr1, hr2.mono (Nat.le_refl _) (Nat.le_refl _) fun b' hb _ => AH.get_set_ne _ (by omega)⟩⟩
end Go.Proofs.YtpkldpbjjbplmaaGreatDoor.Det

/-! The matrix of zeros: the copies that the program and the reference make of it. -/
namespace Go.Proofs.YtpkldpbjjbplmaaGreatDoor.Det
open Go
set_option linter.unusedVariables false
set_option linter.unusedSimpArgs false
theorem zer_one (n : Nat) : oneCells (zer n) = true := by
  induction n with
  | zero => rfl
  | succ n ih => rw [zer, List.replicate_succ]; exact ih
/-- A row of its own. -/
def Own_ (H : AH) (lo hi c : Nat) (v : AV) : Prop := ∃ b ex el, v = .slice (some (b, 0)) c c ex ∧ lo ≤ b ∧ b < hi ∧ H.get b = some (.cells (zer c) false el)
/-- A copy of a row, appended to nothing. -/
theorem app_row {H : AH} {b0 : Nat} {ro0 : Option (Nat × Bool)} (h0 : H.get b0 = some (.cells [] false ro0)) (hb0 : b0 < H.next) {c : Nat} {v : AV} (hr : Row H c v) (hc : c ≤ 1000) :
    Ok (appendOp H 39 [.str []] 16 (.slice (some (b0, 0)) 0 0 0) v) fun q => Own_ q.2 b0 q.2.next c q.1 ∧ Keeps H q.2 := by
  obtain ⟨b, o, cap, ex, cs, ro, el, rfl, h2, h3, h4, h5⟩ := hr
  have ht := take_zer h4 h5
  by_cases h : c = 0
  · subst h
    have hle : o ≤ cs.length := by omega
    simp [appendOp, lenOfAV, sourceCells, cellsAt, h0, h3, ble_dec, beq_dec, writeAt, addrAdd, oneCells, fillAt, hle]
    refine ⟨⟨b0, 0, ro0, rfl, Nat.le_refl _, hb0, by simp [zer]⟩, ⟨by simp, fun i hi => ?_⟩⟩
    rw [AH.get_set]
    by_cases e : b0 = i
    · subst e; simp [h0]
    · simp [e]
  · have h6 : c * 16 ≤ 1099511627776 := by omega
    have h7 : c ≤ 1099511627776 := by omega
    simp [appendOp, lenOfAV, sourceCells, cellsAt, h0, h3, ble_dec, beq_dec, h, ht, h5, h6, h7]
    exact ⟨⟨H.next, 1, some (39, true), rfl, by omega, by simp, by simp⟩, Keeps.new _ _⟩
theorem clone_c {E : Env} (K : Knows E 39 F39) {H : AH} {c : Nat} {v : AV} (hr : Row H c v) (hc : c ≤ 1000) :
    Ok (C E 39 [v] H) fun q => Own_ q.2 H.next q.2.next c q.1 ∧ Keeps H q.2 := by
  have hk := Keeps.new H (.cells [] false none)
  obtain ⟨⟨v', H'⟩, ha, hP⟩ := app_row (H := H.new (.cells [] false none)) (b0 := H.next) (ro0 := none) (by simp) (by simp) (hr.keeps hk) hc
  obtain ⟨b, o, cap, ex, cs, ro, el, rfl, h2, h3, h4, h5⟩ := hr
  rw [K.C]
  simp [F39, c39_0, r39_1, r39_2, r39_5, X_seq, X_region, X_cond, X_exit, X_skip, X_block, X_ret, runOps, wantedA, doOp, cls, pureOp, readOp, allocOp, effOp, writeAt, AF.put_p, binInt, isShift, IntKind.same, ltI_cast, leI_cast, cellsOf, addrAdd, oneCells, blt_dec, ble_dec, beq_dec, fillAt, callV_func, evs, same00, lt_irrefl_i, List.append_nil, List.nil_append, List.cons_append, X_regionD, runD, checkR, AV.same_refl, Bool.cond_self, Int.same_self, binStr, bs0, AF.init_n, init1_get, eqOp, fill, rep, ha, callEnd, resAll, resOf]
  simp only at hP
  exact ⟨hP.1, hk.trans hP.2⟩
theorem nothing_c {E : Env} (K : Knows E 59 F59) (H : AH) (x : AV) : C E 59 [x] H = some (.slice none 0 0 0, H) := by
  rw [K.C]
  simp [F59, c59_0, r59_1, r59_2, X_seq, X_region, X_cond, X_exit, X_skip, X_block, X_ret, runOps, wantedA, doOp, cls, pureOp, readOp, allocOp, effOp, writeAt, AF.put_p, binInt, isShift, IntKind.same, ltI_cast, leI_cast, cellsOf, addrAdd, oneCells, blt_dec, ble_dec, beq_dec, fillAt, callV_func, evs, same00, lt_irrefl_i, List.append_nil, List.nil_append, List.cons_append, X_regionD, runD, checkR, AV.same_refl, Bool.cond_self, Int.same_self, binStr, bs0, AF.init_n, init1_get, callEnd, resAll, resOf]
theorem copied_loop {E : Env} (K39 : Knows E 39 F39) (K59 : Knows E 59 F59) {H0 : AH} {ls : List Nat} {b o cap ex : Nat} {cs : List AV} {ro : Bool} {el : Option (Nat × Bool)} (hb0 : b < H0.next) (hb : H0.get b = some (.cells cs ro el)) (hz : ∀ j c, ls[j]? = some c → ∃ r, cs[o + j]? = some r ∧ Row H0 c r) (hl : ls.length ≤ 900) (hs : ∀ c ∈ ls, c ≤ 1000) :
    ∀ (k i : Nat) (f : AF) (H : AH) (a : AV), ls.length = i + k → f.n = 26 → f.get 1 = .func 59 [] [] → f.get 5 = a → f.get 8 = .slice (some (b, o)) ls.length cap ex → f.get 9 = .int .i64 (ls.length : Int) → f.get 10 = .int .i64 (i : Int) →
    Keeps H0 H → Acc H0 H (ls.take i) a →
    Ok (X E c34_10 f H) fun r => r.1 = .exit 0 ∧ r.2.1.n = 26 ∧ Keeps H0 r.2.2 ∧ Acc H0 r.2.2 ls (r.2.1.get 5) := by
  intro k
  induction k with
  | zero =>
    intro i f H a hi hn h1 h5 h8 h9 h10 hk ha
    unfold c34_10
    rw [X_loop]
    rw [List.take_of_length_le (by omega)] at ha
    simp [c34_9, r34_4, X_seq, X_region, X_cond, X_exit, X_skip, X_block, X_ret, runOps, wantedA, doOp, cls, pureOp, readOp, allocOp, effOp, writeAt, AF.put_p, binInt, isShift, IntKind.same, ltI_cast, leI_cast, cellsOf, addrAdd, oneCells, blt_dec, ble_dec, beq_dec, fillAt, callV_func, evs, same00, lt_irrefl_i, List.append_nil, List.nil_append, List.cons_append, X_regionD, runD, checkR, AV.same_refl, Bool.cond_self, Int.same_self, binStr, bs0, hn, h9, h10, hi, h5, hk, ha]
  | succ k ih =>
    intro i f H a hi hn h1 h5 h8 h9 h10 hk ha
    have hlt : i < ls.length := by omega
    obtain ⟨c, hc⟩ : ∃ c, ls[i]? = some c := ⟨ls[i], by simp [hlt]⟩
    obtain ⟨r, hg, hrow⟩ := hz i c hc
    have hb' : H.get b = some (.cells cs ro el) := by rw [hk.2 b hb0]; exact hb
    have hc1 := hs c (List.mem_of_getElem? hc)
    have htake : ls.take (i + 1) = ls.take i ++ [c] := by rw [List.take_add_one, hc]; rfl
    obtain ⟨⟨v1, H1⟩, hcl, hP⟩ := clone_c K39 (hrow.keeps hk) hc1
    simp only at hP
    obtain ⟨⟨b1, ex1, el1, rfl, g2, g3, g4⟩, hk1⟩ := hP
    have hnot := nothing_c K59 H1 (.int .i64 (i : Int))
    -- nothing is appended to the copy
    have happ : appendOp H1 39 [.str []] 16 (.slice (some (b1, 0)) c c ex1) (.slice none 0 0 0) = some (.slice (some (b1, 0)) c c ex1, H1.set b1 (some (.cells (zer c) false el1))) := by
      simp [appendOp, lenOfAV, sourceCells, ble_dec, beq_dec, writeAt, addrAdd, g4, oneCells, fillAt]
    let H2 := H1.set b1 (some (AB.cells (zer c) false el1))
    have hk2 : Keeps H1 H2 := ⟨Nat.le_refl _, fun j hj => by
      show (H1.set b1 _).get j = _
      rw [AH.get_set]
      by_cases e : b1 = j
      · subst e; simp [g4]
      · simp [e]⟩
    let H3 := H2.new (AB.cells [AV.slice (some (b1, 0)) c c ex1] false none)
    have hk3 : Keeps H2 H3 := Keeps.new _ _
    have hrow3 : RowIn H3 H.next H3.next c (.slice (some (b1, 0)) c c ex1) := by
      refine ⟨b1, 0, c, ex1, zer c, false, el1, rfl, ⟨g2, by show b1 < (H2.next + 1); have : H2.next = H1.next := rfl; omega⟩, ?_, fun j hj => by simp [zer, hj], by simp⟩
      rw [hk3.2 b1 g3, hk2.2 b1 g3]; exact g4
    obtain ⟨⟨v4, H4⟩, ha4, hP4⟩ := acc_append ha hk ((hk1.trans hk2).trans hk3) hrow3 (bx := H2.next) (ro := false) (elx := none) (by show (H2.new _).get H2.next = _; simp) (by simp; omega)
    simp only at hP4
    obtain ⟨p1, p2, p3⟩ := hP4
    change appendOp ((H1.set b1 (some (AB.cells (zer c) false el1))).new (AB.cells [AV.slice (some (b1, 0)) c c ex1] false none)) 28 [.slice none 0 0 0] 24 a (.slice (some (H1.next, 0)) 1 1 0) = some (v4, H4) at ha4
    unfold c34_10
    rw [X_loop]
    simp [c34_9, r34_4, c34_7, r34_5, r34_6, r34_8, X_seq, X_region, X_cond, X_exit, X_skip, X_block, X_ret, runOps, wantedA, doOp, cls, pureOp, readOp, allocOp, effOp, writeAt, AF.put_p, binInt, isShift, IntKind.same, ltI_cast, leI_cast, cellsOf, addrAdd, oneCells, blt_dec, ble_dec, beq_dec, fillAt, callV_func, evs, same00, lt_irrefl_i, List.append_nil, List.nil_append, List.cons_append, X_regionD, runD, checkR, AV.same_refl, Bool.cond_self, Int.same_self, binStr, bs0, hn, h1, h5, h8, h9, h10, hlt, hb', hg, hcl, hnot, happ, ha4, fill, rep, wrap_succ (show i + 1 ≤ 1099511627776 by omega)]
    exact ih (i + 1) _ H4 v4 (by omega) (by simp [hn]) (by simp [h1]) (by simp) (by simp [h8]) (by simp [h9]) (by simp) p2 (by rw [htake]; exact p1)
theorem copied_c {E : Env} (K34 : Knows E 34 F34) (K39 : Knows E 39 F39) (K59 : Knows E 59 F59) {H : AH} {ls : List Nat} {v : AV} (hv : Mat H ls v) (hl : ls.length ≤ 900) (hs : ∀ c ∈ ls, c ≤ 1000) (hne : ls ≠ []) :
    Ok (C E 34 [v, .func 59 [] []] H) fun q => Mat q.2 ls q.1 ∧ Keeps H q.2 ∧ ∃ a n m, q.1 = .slice a n m 1 := by
  obtain ⟨b, o, cap, ex, cs, ro, el, rfl, h2, h3, h4⟩ := hv
  rw [K34.C]
  refine Ok_bind ?_
  show Ok (X E c34_0 _ _) _
  unfold c34_0
  refine Ok_seq (fun f' h' => f'.n = 26 ∧ f'.get 1 = .func 59 [] [] ∧ f'.get 0 = .slice (some (b, o)) ls.length cap ex ∧ h' = H) (by simp [F34, r34_1, X_seq, X_region, X_cond, X_exit, X_skip, X_block, X_ret, runOps, wantedA, doOp, cls, pureOp, readOp, allocOp, effOp, writeAt, AF.put_p, binInt, isShift, IntKind.same, ltI_cast, leI_cast, cellsOf, addrAdd, oneCells, blt_dec, ble_dec, beq_dec, fillAt, callV_func, evs, same00, lt_irrefl_i, List.append_nil, List.nil_append, List.cons_append, X_regionD, runD, checkR, AV.same_refl, Bool.cond_self, Int.same_self, binStr, bs0, AF.init_n, init2_get]) ?_
  rintro f h ⟨hn, h1, h0, rfl⟩
  refine Ok_seq (fun f' h' => f'.n = 26 ∧ f'.get 1 = .func 59 [] [] ∧ f'.get 0 = .slice (some (b, o)) ls.length cap ex ∧ f'.get 5 = .slice none 0 0 0 ∧ h' = h) (by simp [r34_2, X_seq, X_region, X_cond, X_exit, X_skip, X_block, X_ret, runOps, wantedA, doOp, cls, pureOp, readOp, allocOp, effOp, writeAt, AF.put_p, binInt, isShift, IntKind.same, ltI_cast, leI_cast, cellsOf, addrAdd, oneCells, blt_dec, ble_dec, beq_dec, fillAt, callV_func, evs, same00, lt_irrefl_i, List.append_nil, List.nil_append, List.cons_append, X_regionD, runD, checkR, AV.same_refl, Bool.cond_self, Int.same_self, binStr, bs0, hn, h1, h0]) ?_
  rintro f h ⟨hn, h1, h0, h5, rfl⟩
  refine Ok_seq (fun f' h' => f'.n = 26 ∧ Keeps h h' ∧ Acc h h' ls (f'.get 5)) ?_ ?_
  · refine Ok_seq (fun f' h' => f'.n = 26 ∧ f'.get 1 = .func 59 [] [] ∧ f'.get 5 = .slice none 0 0 0 ∧ f'.get 8 = .slice (some (b, o)) ls.length cap ex ∧ f'.get 9 = .int .i64 (ls.length : Int) ∧ f'.get 10 = .int .i64 0 ∧ h' = h) (by simp [r34_3, X_seq, X_region, X_cond, X_exit, X_skip, X_block, X_ret, runOps, wantedA, doOp, cls, pureOp, readOp, allocOp, effOp, writeAt, AF.put_p, binInt, isShift, IntKind.same, ltI_cast, leI_cast, cellsOf, addrAdd, oneCells, blt_dec, ble_dec, beq_dec, fillAt, callV_func, evs, same00, lt_irrefl_i, List.append_nil, List.nil_append, List.cons_append, X_regionD, runD, checkR, AV.same_refl, Bool.cond_self, Int.same_self, binStr, bs0, hn, h1, h0, h5]) ?_
    rintro f h ⟨hn, h1, h5, h8, h9, h10, rfl⟩
    refine Ok_block ?_
    refine (copied_loop K39 K59 h2 h3 h4 hl hs ls.length 0 f h _ (by omega) hn h1 h5 h8 h9 h10 (.refl _) (.inl ⟨by simp, rfl⟩)).mono ?_
    rintro ⟨e, f', h'⟩ ⟨rfl, g2, g3, g4⟩
    simp only at g2 g3 g4
    simp [beq_dec, g2, g3, g4]
  rintro f h ⟨hn, hk, ha⟩
  simp [r34_11, X_seq, X_region, X_cond, X_exit, X_skip, X_block, X_ret, runOps, wantedA, doOp, cls, pureOp, readOp, allocOp, effOp, writeAt, AF.put_p, binInt, isShift, IntKind.same, ltI_cast, leI_cast, cellsOf, addrAdd, oneCells, blt_dec, ble_dec, beq_dec, fillAt, callV_func, evs, same00, lt_irrefl_i, List.append_nil, List.nil_append, List.cons_append, X_regionD, runD, checkR, AV.same_refl, Bool.cond_self, Int.same_self, binStr, bs0, hn, F34, callEnd, resAll, resOf]
  refine ⟨ha.mat hne, hk, ?_⟩
  rcases ha with ⟨h, _⟩ | ⟨b, rs, el, h1, _⟩
  · exact absurd h hne
  · exact ⟨_, _, _, h1⟩
end Go.Proofs.YtpkldpbjjbplmaaGreatDoor.Det

/-! The matrix of zeros: the reference's form and rank. -/
namespace Go.Proofs.YtpkldpbjjbplmaaGreatDoor.Det
open Go
set_option linter.unusedVariables false
set_option linter.unusedSimpArgs false
theorem rcopied_loop {E : Env} {H0 : AH} {ls : List Nat} {b o cap ex : Nat} {cs : List AV} {ro : Bool} {el : Option (Nat × Bool)} (hb0 : b < H0.next) (hb : H0.get b = some (.cells cs ro el)) (hz : ∀ j c, ls[j]? = some c → ∃ r, cs[o + j]? = some r ∧ Row H0 c r) (hl : ls.length ≤ 900) (hs : ∀ c ∈ ls, c ≤ 1000) :
    ∀ (k i : Nat) (f : AF) (H : AH) (a : AV), ls.length = i + k → f.n = 21 → f.get 0 = .slice (some (b, o)) ls.length cap ex → f.get 3 = a → f.get 4 = .int .i64 (i : Int) →
    Keeps H0 H → Acc H0 H (ls.take i) a →
    Ok (X E c114_9 f H) fun r => r.1 = .exit 0 ∧ r.2.1.n = 21 ∧ Keeps H0 r.2.2 ∧ Acc H0 r.2.2 ls (r.2.1.get 3) := by
  intro k
  induction k with
  | zero =>
    intro i f H a hi hn h0 h3 h4 hk ha
    unfold c114_9
    rw [X_loop]
    rw [List.take_of_length_le (by omega)] at ha
    simp [c114_8, r114_4, X_seq, X_region, X_cond, X_exit, X_skip, X_block, X_ret, runOps, wantedA, doOp, cls, pureOp, readOp, allocOp, effOp, writeAt, AF.put_p, binInt, isShift, IntKind.same, ltI_cast, leI_cast, cellsOf, addrAdd, oneCells, blt_dec, ble_dec, beq_dec, fillAt, callV_func, evs, same00, lt_irrefl_i, List.append_nil, List.nil_append, List.cons_append, X_regionD, runD, checkR, AV.same_refl, Bool.cond_self, Int.same_self, binStr, bs0, hn, h0, h3, h4, hi, hk, ha]
  | succ k ih =>
    intro i f H a hi hn h0 h3 h4 hk ha
    have hlt : i < ls.length := by omega
    obtain ⟨c, hc⟩ : ∃ c, ls[i]? = some c := ⟨ls[i], by simp [hlt]⟩
    obtain ⟨r, hg, hrow⟩ := hz i c hc
    have hb' : H.get b = some (.cells cs ro el) := by rw [hk.2 b hb0]; exact hb
    have hbn : (H.new (.cells [] false none)).get b = some (.cells cs ro el) := by rw [AH.get_new_ne _ (by have := hk.1; omega)]; exact hb'
    have hc1 := hs c (List.mem_of_getElem? hc)
    have htake : ls.take (i + 1) = ls.take i ++ [c] := by rw [List.take_add_one, hc]; rfl
    have hk1 := Keeps.new H (.cells [] false none)
    obtain ⟨⟨v1, H2⟩, hcl, hP⟩ := app_row (H := H.new (.cells [] false none)) (b0 := H.next) (ro0 := none) (by simp) (by simp) ((hrow.keeps hk).keeps hk1) hc1
    simp only at hP
    obtain ⟨⟨b1, ex1, el1, rfl, g2, g3, g4⟩, hk2⟩ := hP
    have hk3 : Keeps H2 (H2.new (AB.cells [AV.slice (some (b1, 0)) c c ex1] false none)) := Keeps.new _ _
    have hrow3 : RowIn (H2.new (AB.cells [AV.slice (some (b1, 0)) c c ex1] false none)) H.next (H2.new (AB.cells [AV.slice (some (b1, 0)) c c ex1] false none)).next c (.slice (some (b1, 0)) c c ex1) := by
      refine ⟨b1, 0, c, ex1, zer c, false, el1, rfl, ⟨g2, by simp; omega⟩, ?_, fun j hj => by simp [zer, hj], by simp⟩
      rw [hk3.2 b1 g3]; exact g4
    obtain ⟨⟨v4, H4⟩, ha4, hP4⟩ := acc_append ha hk ((hk1.trans hk2).trans hk3) hrow3 (bx := H2.next) (ro := false) (elx := none) (by simp) (by simp; omega)
    simp only at hP4
    obtain ⟨p1, p2, p3⟩ := hP4
    unfold c114_9
    rw [X_loop]
    simp [c114_8, r114_4, c114_6, r114_5, r114_7, X_seq, X_region, X_cond, X_exit, X_skip, X_block, X_ret, runOps, wantedA, doOp, cls, pureOp, readOp, allocOp, effOp, writeAt, AF.put_p, binInt, isShift, IntKind.same, ltI_cast, leI_cast, cellsOf, addrAdd, oneCells, blt_dec, ble_dec, beq_dec, fillAt, callV_func, evs, same00, lt_irrefl_i, List.append_nil, List.nil_append, List.cons_append, X_regionD, runD, checkR, AV.same_refl, Bool.cond_self, Int.same_self, binStr, bs0, hn, h0, h3, h4, hlt, hbn, hg, hcl, ha4, fill, rep, wrap_succ (show i + 1 ≤ 1099511627776 by omega)]
    exact ih (i + 1) _ H4 v4 (by omega) (by simp [hn]) (by simp [h0]) (by simp) (by simp) p2 (by rw [htake]; exact p1)
theorem rcopied_c {E : Env} (K : Knows E 114 F114) {H : AH} {ls : List Nat} {v : AV} (hv : Mat H ls v) (hl : ls.length ≤ 900) (hs : ∀ c ∈ ls, c ≤ 1000) (hne : ls ≠ []) :
    Ok (C E 114 [v] H) fun q => Mat q.2 ls q.1 ∧ Keeps H q.2 := by
  obtain ⟨b, o, cap, ex, cs, ro, el, rfl, h2, h3, h4⟩ := hv
  rw [K.C]
  refine Ok_bind ?_
  show Ok (X E c114_0 _ _) _
  unfold c114_0
  refine Ok_seq (fun f' h' => f'.n = 21 ∧ f'.get 0 = .slice (some (b, o)) ls.length cap ex ∧ h' = H) (by simp [F114, r114_1, X_seq, X_region, X_cond, X_exit, X_skip, X_block, X_ret, runOps, wantedA, doOp, cls, pureOp, readOp, allocOp, effOp, writeAt, AF.put_p, binInt, isShift, IntKind.same, ltI_cast, leI_cast, cellsOf, addrAdd, oneCells, blt_dec, ble_dec, beq_dec, fillAt, callV_func, evs, same00, lt_irrefl_i, List.append_nil, List.nil_append, List.cons_append, X_regionD, runD, checkR, AV.same_refl, Bool.cond_self, Int.same_self, binStr, bs0, AF.init_n, init1_get]) ?_
  rintro f h ⟨hn, h0, rfl⟩
  refine Ok_seq (fun f' h' => f'.n = 21 ∧ f'.get 0 = .slice (some (b, o)) ls.length cap ex ∧ f'.get 3 = .slice none 0 0 0 ∧ h' = h) (by simp [r114_2, X_seq, X_region, X_cond, X_exit, X_skip, X_block, X_ret, runOps, wantedA, doOp, cls, pureOp, readOp, allocOp, effOp, writeAt, AF.put_p, binInt, isShift, IntKind.same, ltI_cast, leI_cast, cellsOf, addrAdd, oneCells, blt_dec, ble_dec, beq_dec, fillAt, callV_func, evs, same00, lt_irrefl_i, List.append_nil, List.nil_append, List.cons_append, X_regionD, runD, checkR, AV.same_refl, Bool.cond_self, Int.same_self, binStr, bs0, hn, h0]) ?_
  rintro f h ⟨hn, h0, h3', rfl⟩
  refine Ok_seq (fun f' h' => f'.n = 21 ∧ Keeps h h' ∧ Acc h h' ls (f'.get 3)) ?_ ?_
  · refine Ok_seq (fun f' h' => f'.n = 21 ∧ f'.get 0 = .slice (some (b, o)) ls.length cap ex ∧ f'.get 3 = .slice none 0 0 0 ∧ f'.get 4 = .int .i64 0 ∧ h' = h) (by simp [r114_3, X_seq, X_region, X_cond, X_exit, X_skip, X_block, X_ret, runOps, wantedA, doOp, cls, pureOp, readOp, allocOp, effOp, writeAt, AF.put_p, binInt, isShift, IntKind.same, ltI_cast, leI_cast, cellsOf, addrAdd, oneCells, blt_dec, ble_dec, beq_dec, fillAt, callV_func, evs, same00, lt_irrefl_i, List.append_nil, List.nil_append, List.cons_append, X_regionD, runD, checkR, AV.same_refl, Bool.cond_self, Int.same_self, binStr, bs0, hn, h0, h3']) ?_
    rintro f h ⟨hn, h0, h3', h4', rfl⟩
    refine Ok_block ?_
    refine (rcopied_loop h2 h3 h4 hl hs ls.length 0 f h _ (by omega) hn h0 h3' h4' (.refl _) (.inl ⟨by simp, rfl⟩)).mono ?_
    rintro ⟨e, f', h'⟩ ⟨rfl, g2, g3, g4⟩
    simp only at g2 g3 g4
    simp [beq_dec, g2, g3, g4]
  rintro f h ⟨hn, hk, ha⟩
  simp [r114_10, X_seq, X_region, X_cond, X_exit, X_skip, X_block, X_ret, runOps, wantedA, doOp, cls, pureOp, readOp, allocOp, effOp, writeAt, AF.put_p, binInt, isShift, IntKind.same, ltI_cast, leI_cast, cellsOf, addrAdd, oneCells, blt_dec, ble_dec, beq_dec, fillAt, callV_func, evs, same00, lt_irrefl_i, List.append_nil, List.nil_append, List.cons_append, X_regionD, runD, checkR, AV.same_refl, Bool.cond_self, Int.same_self, binStr, bs0, hn, F114, callEnd, resAll, resOf]
  exact ⟨ha.mat hne, hk⟩
theorem lead_loop {E : Env} {H : AH} {b o c cap ex : Nat} {cs : List AV} {ro : Bool} {el : Option (Nat × Bool)} (hb : H.get b = some (.cells cs ro el)) (hz : ∀ j, j < c → cs[o + j]? = some (.str [48])) (hc : c ≤ 1000) :
    ∀ (k i : Nat) (f : AF), c = i + k → f.n = 17 → f.get 0 = .slice (some (b, o)) c cap ex → f.get 1 = .int .i64 (c : Int) → f.get 5 = .int .i64 (i : Int) →
    Ok (X E c91_10 f H) fun r => r.1 = .exit 0 ∧ r.2.1.n = 17 ∧ r.2.2 = H := by
  intro k
  induction k with
  | zero =>
    intro i f hi hn h0 h1 h5
    unfold c91_10
    rw [X_loop]
    simp [c91_9, r91_3, X_seq, X_region, X_cond, X_exit, X_skip, X_block, X_ret, runOps, wantedA, doOp, cls, pureOp, readOp, allocOp, effOp, writeAt, AF.put_p, binInt, isShift, IntKind.same, ltI_cast, leI_cast, cellsOf, addrAdd, oneCells, blt_dec, ble_dec, beq_dec, fillAt, callV_func, evs, same00, lt_irrefl_i, List.append_nil, List.nil_append, List.cons_append, X_regionD, runD, checkR, AV.same_refl, Bool.cond_self, Int.same_self, binStr, bs0, hn, h0, h1, h5, hi]
  | succ k ih =>
    intro i f hi hn h0 h1 h5
    have hlt : i < c := by omega
    have hg := hz i hlt
    unfold c91_10
    rw [X_loop]
    simp [c91_9, r91_3, c91_7, r91_4, r91_8, X_seq, X_region, X_cond, X_exit, X_skip, X_block, X_ret, runOps, wantedA, doOp, cls, pureOp, readOp, allocOp, effOp, writeAt, AF.put_p, binInt, isShift, IntKind.same, ltI_cast, leI_cast, cellsOf, addrAdd, oneCells, blt_dec, ble_dec, beq_dec, fillAt, callV_func, evs, same00, lt_irrefl_i, List.append_nil, List.nil_append, List.cons_append, X_regionD, runD, checkR, AV.same_refl, Bool.cond_self, Int.same_self, binStr, bs0, hn, h0, h1, h5, hlt, hb, hg, wrap_succ (show i + 1 ≤ 1099511627776 by omega)]
    exact ih (i + 1) _ (by omega) (by simp [hn]) (by simp [h0]) (by simp [h1]) (by simp)
theorem lead_c {E : Env} (K : Knows E 91 F91) {H : AH} {c : Nat} {v : AV} (hr : Row H c v) (hc : c ≤ 1000) : C E 91 [v, .int .i64 (c : Int)] H = some (.int .i64 (-1), H) := by
  obtain ⟨b, o, cap, ex, cs, ro, el, rfl, h2, h3, h4⟩ := hr
  rw [K.C]
  obtain ⟨⟨e, f', H'⟩, hr, hP⟩ := lead_loop (E := E) h3 h4.1 hc (cap := cap) (ex := ex) c 0 (((AF.init [.slice (some (b, o)) c cap ex, .int .i64 (c : Int)] 17).p 4 (.int .i64 0)).p 5 (.int .i64 0)) (by omega) rfl (by simp [init2_get]) (by simp [init2_get]) (by simp)
  simp only at hP
  obtain ⟨rfl, g2, rfl⟩ := hP
  simp [F91, c91_0, r91_1, r91_2, r91_11, X_seq, X_region, X_cond, X_exit, X_skip, X_block, X_ret, runOps, wantedA, doOp, cls, pureOp, readOp, allocOp, effOp, writeAt, AF.put_p, binInt, isShift, IntKind.same, ltI_cast, leI_cast, cellsOf, addrAdd, oneCells, blt_dec, ble_dec, beq_dec, fillAt, callV_func, evs, same00, lt_irrefl_i, List.append_nil, List.nil_append, List.cons_append, X_regionD, runD, checkR, AV.same_refl, Bool.cond_self, Int.same_self, binStr, bs0, AF.init_n, init2_get, hr, g2, callEnd, resAll, resOf]
/-! ### Columns of zeros -/
theorem at_loop {E : Env} {H : AH} {c : Nat} {ls : List Nat} {b o cap ex : Nat} {cs : List AV} {ro : Bool} {el : Option (Nat × Bool)} (hb : H.get b = some (.cells cs ro el)) (hz : ∀ j c, ls[j]? = some c → ∃ r, cs[o + j]? = some r ∧ Row H c r) (hl : ls.length ≤ 900) (hs : ∀ x ∈ ls, x = c) {col : Nat} (hcol : col < c) (hc : c ≤ 1000) :
    ∀ (k i : Nat) (f : AF), ls.length = i + k → f.n = 116 → f.get 5 = .slice (some (b, o)) ls.length cap ex → f.get 7 = .int .i64 (col : Int) → f.get 8 = .int .i64 (i : Int) →
    Ok (X E c90_11 f H) fun r => r.1 = .exit 2 ∧ r.2.1.n = 116 ∧ r.2.1.get 5 = .slice (some (b, o)) ls.length cap ex ∧ r.2.1.get 7 = .int .i64 (col : Int) ∧ r.2.1.get 8 = .int .i64 (ls.length : Int) ∧ r.2.1.get 1 = f.get 1 ∧ r.2.1.get 6 = f.get 6 ∧ r.2.2 = H := by
  intro k
  induction k with
  | zero =>
    intro i f hi hn h5 h7 h8
    unfold c90_11
    rw [X_loop]
    simp [c90_10, r90_7, X_seq, X_region, X_cond, X_exit, X_skip, X_block, X_ret, runOps, wantedA, doOp, cls, pureOp, readOp, allocOp, effOp, writeAt, AF.put_p, binInt, isShift, IntKind.same, ltI_cast, leI_cast, cellsOf, addrAdd, oneCells, blt_dec, ble_dec, beq_dec, fillAt, callV_func, evs, same00, lt_irrefl_i, List.append_nil, List.nil_append, List.cons_append, X_regionD, runD, checkR, AV.same_refl, Bool.cond_self, Int.same_self, binStr, bs0, hn, h5, h7, h8, hi]
  | succ k ih =>
    intro i f hi hn h5 h7 h8
    have hlt : i < ls.length := by omega
    obtain ⟨x, hx⟩ : ∃ x, ls[i]? = some x := ⟨ls[i], by simp [hlt]⟩
    have := hs x (List.mem_of_getElem? hx)
    subst this
    obtain ⟨r, hg, hrow⟩ := hz i x hx
    obtain ⟨b2, o2, cap2, ex2, cs2, ro2, el2, rfl, h22, h23, h24, h25⟩ := hrow
    have hg2 := h24 col hcol
    unfold c90_11
    rw [X_loop]
    simp [c90_10, r90_7, c90_9, r90_8, X_seq, X_region, X_cond, X_exit, X_skip, X_block, X_ret, runOps, wantedA, doOp, cls, pureOp, readOp, allocOp, effOp, writeAt, AF.put_p, binInt, isShift, IntKind.same, ltI_cast, leI_cast, cellsOf, addrAdd, oneCells, blt_dec, ble_dec, beq_dec, fillAt, callV_func, evs, same00, lt_irrefl_i, List.append_nil, List.nil_append, List.cons_append, X_regionD, runD, checkR, AV.same_refl, Bool.cond_self, Int.same_self, binStr, bs0, hn, h5, h7, h8, hlt, hb, hg, h23, hcol, hg2, wrap_succ (show i + 1 ≤ 1099511627776 by omega)]
    refine (ih (i + 1) _ (by omega) (by simp [hn]) (by simp [h5]) (by simp [h7]) (by simp)).mono ?_
    rintro ⟨e, f', H'⟩ ⟨g1, g2, g3, g4, g5, g6, g7, g8⟩
    exact ⟨g1, g2, g3, g4, g5, by simpa using g6, by simpa using g7, g8⟩
theorem cols_loop {E : Env} {H : AH} {c : Nat} {ls : List Nat} {b o cap ex : Nat} {cs : List AV} {ro : Bool} {el : Option (Nat × Bool)} (hb : H.get b = some (.cells cs ro el)) (hz : ∀ j c, ls[j]? = some c → ∃ r, cs[o + j]? = some r ∧ Row H c r) (hl : ls.length ≤ 900) (hpos : 0 < ls.length) (hs : ∀ x ∈ ls, x = c) (hc : c ≤ 1000) :
    ∀ (k i : Nat) (f : AF), c = i + k → f.n = 116 → f.get 1 = .int .i64 (c : Int) → f.get 5 = .slice (some (b, o)) ls.length cap ex → f.get 6 = .int .i64 0 → f.get 7 = .int .i64 (i : Int) →
    Ok (X E c90_31 f H) fun r => r.1 = .exit 0 ∧ r.2.1.n = 116 ∧ r.2.1.get 5 = .slice (some (b, o)) ls.length cap ex ∧ r.2.2 = H := by
  have h0 : ltI 0 (ls.length : Int) = true := by simp [ltI]; omega
  intro k
  induction k with
  | zero =>
    intro i f hi hn h1 h5 h6 h7
    unfold c90_31
    rw [X_loop]
    simp [c90_30, r90_5, X_seq, X_region, X_cond, X_exit, X_skip, X_block, X_ret, runOps, wantedA, doOp, cls, pureOp, readOp, allocOp, effOp, writeAt, AF.put_p, binInt, isShift, IntKind.same, ltI_cast, leI_cast, cellsOf, addrAdd, oneCells, blt_dec, ble_dec, beq_dec, fillAt, callV_func, evs, same00, lt_irrefl_i, List.append_nil, List.nil_append, List.cons_append, X_regionD, runD, checkR, AV.same_refl, Bool.cond_self, Int.same_self, binStr, bs0, hn, h1, h5, h6, h7, hi]
  | succ k ih =>
    intro i f hi hn h1 h5 h6 h7
    have hlt : i < c := by omega
    unfold c90_31
    rw [X_loop]
    obtain ⟨⟨e, f', H'⟩, hr, hP⟩ := at_loop (E := E) hb hz hl hs hlt hc (cap := cap) (ex := ex) ls.length 0 ((((((((((((f.p 12 (.int .i64 (i : Int))).p 13 (.int .i64 (c : Int))).p 14 (.bool true)).p 15 (.bool true)).p 16 (.int .i64 0)).p 17 (.slice (some (b, o)) ls.length cap ex)).p 18 (.int .i64 (ls.length : Int))).p 19 (.bool true)).p 20 (.bool true)).p 23 (.int .i64 0)).p 8 (.int .i64 0))) (by omega) (by simp [hn]) (by simp [h5]) (by simp [h7]) (by simp)
    simp only at hP
    obtain ⟨rfl, g2, g3, g4, g5, g6, g7, rfl⟩ := hP
    simp [h1] at g6
    simp [h6] at g7
    simp [c90_30, r90_5, c90_28, r90_6, r90_12, r90_29, X_seq, X_region, X_cond, X_exit, X_skip, X_block, X_ret, runOps, wantedA, doOp, cls, pureOp, readOp, allocOp, effOp, writeAt, AF.put_p, binInt, isShift, IntKind.same, ltI_cast, leI_cast, cellsOf, addrAdd, oneCells, blt_dec, ble_dec, beq_dec, fillAt, callV_func, evs, same00, lt_irrefl_i, List.append_nil, List.nil_append, List.cons_append, X_regionD, runD, checkR, AV.same_refl, Bool.cond_self, Int.same_self, binStr, bs0, hn, h1, h5, h6, h7, hlt, h0, hr, g2, g3, g4, g5, Int.same_cast, wrap_succ (show i + 1 ≤ 1099511627776 by omega)]
    exact ih (i + 1) _ (by omega) (by simp [g2]) (by simp [g6]) (by simp [g3]) (by simp [g7]) (by simp)
theorem reduced_c {E : Env} (K : Knows E 90 F90) (K114 : Knows E 114 F114) {H : AH} {c : Nat} {ls : List Nat} {v : AV} (hv : Mat H ls v) (hl : ls.length ≤ 900) (hs : ∀ x ∈ ls, x = c) (hc : c ≤ 1000) (hne : ls ≠ []) :
    Ok (C E 90 [v, .int .i64 (c : Int)] H) fun q => Mat q.2 ls q.1 ∧ Keeps H q.2 := by
  obtain ⟨⟨v1, H1⟩, hcp, hm1, hk1⟩ := rcopied_c K114 hv hl (fun x hx => by rw [hs x hx]; exact hc) hne
  simp only at hm1 hk1
  obtain ⟨b, o, cap, ex, cs, ro, el, rfl, h2, h3, h4⟩ := hm1
  have hpos : 0 < ls.length := by cases ls with | nil => exact absurd rfl hne | cons => simp
  rw [K.C]
  refine Ok_bind ?_
  show Ok (X E c90_0 _ _) _
  unfold c90_0
  refine Ok_seq (fun f' h' => f'.n = 116 ∧ f'.get 0 = v ∧ f'.get 1 = .int .i64 (c : Int) ∧ h' = H) (by simp [F90, r90_1, X_seq, X_region, X_cond, X_exit, X_skip, X_block, X_ret, runOps, wantedA, doOp, cls, pureOp, readOp, allocOp, effOp, writeAt, AF.put_p, binInt, isShift, IntKind.same, ltI_cast, leI_cast, cellsOf, addrAdd, oneCells, blt_dec, ble_dec, beq_dec, fillAt, callV_func, evs, same00, lt_irrefl_i, List.append_nil, List.nil_append, List.cons_append, X_regionD, runD, checkR, AV.same_refl, Bool.cond_self, Int.same_self, binStr, bs0, AF.init_n, init2_get]) ?_
  rintro f h ⟨hn, h0, h1, rfl⟩
  refine Ok_seq (fun f' h' => f'.n = 116 ∧ f'.get 1 = .int .i64 (c : Int) ∧ f'.get 5 = .slice (some (b, o)) ls.length cap ex ∧ h' = H1) (by simp [r90_2, X_seq, X_region, X_cond, X_exit, X_skip, X_block, X_ret, runOps, wantedA, doOp, cls, pureOp, readOp, allocOp, effOp, writeAt, AF.put_p, binInt, isShift, IntKind.same, ltI_cast, leI_cast, cellsOf, addrAdd, oneCells, blt_dec, ble_dec, beq_dec, fillAt, callV_func, evs, same00, lt_irrefl_i, List.append_nil, List.nil_append, List.cons_append, X_regionD, runD, checkR, AV.same_refl, Bool.cond_self, Int.same_self, binStr, bs0, hn, h0, h1, hcp]) ?_
  rintro f h' ⟨hn, h1, h5, rfl⟩
  refine Ok_seq (fun f' h'' => f'.n = 116 ∧ f'.get 1 = .int .i64 (c : Int) ∧ f'.get 5 = .slice (some (b, o)) ls.length cap ex ∧ f'.get 6 = .int .i64 0 ∧ h'' = h') (by simp [r90_3, X_seq, X_region, X_cond, X_exit, X_skip, X_block, X_ret, runOps, wantedA, doOp, cls, pureOp, readOp, allocOp, effOp, writeAt, AF.put_p, binInt, isShift, IntKind.same, ltI_cast, leI_cast, cellsOf, addrAdd, oneCells, blt_dec, ble_dec, beq_dec, fillAt, callV_func, evs, same00, lt_irrefl_i, List.append_nil, List.nil_append, List.cons_append, X_regionD, runD, checkR, AV.same_refl, Bool.cond_self, Int.same_self, binStr, bs0, hn, h1, h5]) ?_
  rintro f h' ⟨hn, h1, h5, h6, rfl⟩
  refine Ok_seq (fun f' h'' => f'.n = 116 ∧ f'.get 5 = .slice (some (b, o)) ls.length cap ex ∧ h'' = h') ?_ ?_
  · refine Ok_seq (fun f' h'' => f'.n = 116 ∧ f'.get 1 = .int .i64 (c : Int) ∧ f'.get 5 = .slice (some (b, o)) ls.length cap ex ∧ f'.get 6 = .int .i64 0 ∧ f'.get 7 = .int .i64 0 ∧ h'' = h') (by simp [r90_4, X_seq, X_region, X_cond, X_exit, X_skip, X_block, X_ret, runOps, wantedA, doOp, cls, pureOp, readOp, allocOp, effOp, writeAt, AF.put_p, binInt, isShift, IntKind.same, ltI_cast, leI_cast, cellsOf, addrAdd, oneCells, blt_dec, ble_dec, beq_dec, fillAt, callV_func, evs, same00, lt_irrefl_i, List.append_nil, List.nil_append, List.cons_append, X_regionD, runD, checkR, AV.same_refl, Bool.cond_self, Int.same_self, binStr, bs0, hn, h1, h5, h6]) ?_
    rintro f h' ⟨hn, h1, h5, h6, h7, rfl⟩
    refine Ok_block ?_
    refine (cols_loop h3 h4 hl hpos hs hc c 0 f (by omega) hn h1 h5 h6 h7).mono ?_
    rintro ⟨e, f', h''⟩ ⟨rfl, g2, g3, rfl⟩
    simp only at g2 g3
    simp [beq_dec, g2, g3]
  rintro f h' ⟨hn, h5, rfl⟩
  simp [r90_32, X_seq, X_region, X_cond, X_exit, X_skip, X_block, X_ret, runOps, wantedA, doOp, cls, pureOp, readOp, allocOp, effOp, writeAt, AF.put_p, binInt, isShift, IntKind.same, ltI_cast, leI_cast, cellsOf, addrAdd, oneCells, blt_dec, ble_dec, beq_dec, fillAt, callV_func, evs, same00, lt_irrefl_i, List.append_nil, List.nil_append, List.cons_append, X_regionD, runD, checkR, AV.same_refl, Bool.cond_self, Int.same_self, binStr, bs0, hn, h5, F90, callEnd, resAll, resOf]
  exact ⟨⟨b, o, cap, ex, cs, ro, el, rfl, h2, h3, h4⟩, hk1⟩
end Go.Proofs.YtpkldpbjjbplmaaGreatDoor.Det

/-! The matrix of zeros: the reference's rank. -/
namespace Go.Proofs.YtpkldpbjjbplmaaGreatDoor.Det
open Go
set_option linter.unusedVariables false
set_option linter.unusedSimpArgs false
theorem form_loop {E : Env} (K91 : Knows E 91 F91) {H : AH} {m c : Nat} {mc : List AV} {mro : Bool} {mel : Option (Nat × Bool)} {ls : List Nat} {b o cap ex : Nat} {cs : List AV} {ro : Bool} {el : Option (Nat × Bool)} (hm : H.get m = some (.cells (.int .i64 (c : Int) :: mc) mro mel)) (hb : H.get b = some (.cells cs ro el)) (hz : ∀ j c, ls[j]? = some c → ∃ r, cs[o + j]? = some r ∧ Row H c r) (hl : ls.length ≤ 900) (hs : ∀ x ∈ ls, x = c) (hc : c ≤ 1000) :
    ∀ (k i : Nat) (f : AF), ls.length = i + k → f.n = 38 → f.get 1 = .ptr (some (m, 0)) → f.get 4 = .slice (some (b, o)) ls.length cap ex → f.get 5 = .int .i64 (i : Int) →
    Ok (X E c60_14 f H) fun r => r.1 = .exit 0 ∧ r.2.1.n = 38 ∧ r.2.1.get 2 = f.get 2 ∧ r.2.1.get 3 = f.get 3 ∧ r.2.2 = H := by
  have hm1 : leI 0 (-1) = false := rfl
  intro k
  induction k with
  | zero =>
    intro i f hi hn h1 h4 h5
    unfold c60_14
    rw [X_loop]
    simp [c60_13, r60_5, X_seq, X_region, X_cond, X_exit, X_skip, X_block, X_ret, runOps, wantedA, doOp, cls, pureOp, readOp, allocOp, effOp, writeAt, AF.put_p, binInt, isShift, IntKind.same, ltI_cast, leI_cast, cellsOf, addrAdd, oneCells, blt_dec, ble_dec, beq_dec, fillAt, callV_func, evs, same00, lt_irrefl_i, List.append_nil, List.nil_append, List.cons_append, X_regionD, runD, checkR, AV.same_refl, Bool.cond_self, Int.same_self, binStr, bs0, hn, h1, h4, h5, hi]
  | succ k ih =>
    intro i f hi hn h1 h4 h5
    have hlt : i < ls.length := by omega
    obtain ⟨x, hx⟩ : ∃ x, ls[i]? = some x := ⟨ls[i], by simp [hlt]⟩
    have := hs x (List.mem_of_getElem? hx)
    subst this
    obtain ⟨r, hg, hrow⟩ := hz i x hx
    have hC := lead_c K91 hrow hc
    unfold c60_14
    rw [X_loop]
    simp [c60_13, r60_5, c60_11, r60_6, p60_7, r60_12, X_seq, X_region, X_cond, X_exit, X_skip, X_block, X_ret, runOps, wantedA, doOp, cls, pureOp, readOp, allocOp, effOp, writeAt, AF.put_p, binInt, isShift, IntKind.same, ltI_cast, leI_cast, cellsOf, addrAdd, oneCells, blt_dec, ble_dec, beq_dec, fillAt, callV_func, evs, same00, lt_irrefl_i, List.append_nil, List.nil_append, List.cons_append, X_regionD, runD, checkR, AV.same_refl, Bool.cond_self, Int.same_self, binStr, bs0, hn, h1, h4, h5, hlt, hm, hb, hg, hC, hm1, wrap_succ (show i + 1 ≤ 1099511627776 by omega)]
    refine (ih (i + 1) _ (by omega) (by simp [hn]) (by simp [h1]) (by simp [h4]) (by simp)).mono ?_
    rintro ⟨e, f', H'⟩ ⟨g1, g2, g3, g4, g5⟩
    exact ⟨g1, g2, by simpa using g3, by simpa using g4, g5⟩
theorem form_c {E : Env} (K60 : Knows E 60 F60) (K90 : Knows E 90 F90) (K114 : Knows E 114 F114) (K91 : Knows E 91 F91) {H : AH} {c : Nat} {ls : List Nat} {v : AV} (hv : Mat H ls v) (hl : ls.length ≤ 900) (hs : ∀ x ∈ ls, x = c) (hc : c ≤ 1000) (hne : ls ≠ []) :
    Ok (C E 60 [.agg [.int .i64 (c : Int), v]] H) fun q => q.1 = .agg [.int .i64 (c : Int), .slice none 0 0 0] ∧ Keeps H q.2 := by
  rw [K60.C]
  refine Ok_bind ?_
  show Ok (X E c60_0 _ _) _
  unfold c60_0
  refine Ok_seq (fun f' h' => f'.n = 38 ∧ f'.get 1 = .ptr (some (H.next, 0)) ∧ f'.get 2 = .ptr (some (H.next + 1, 0)) ∧ h'.next = H.next + 2 ∧ Keeps H h' ∧ h'.get H.next = some (.cells [.int .i64 (c : Int), v] false none) ∧ h'.get (H.next + 1) = some (.cells [.int .i64 0, .slice none 0 0 0] false (some (27, true)))) ?_ ?_
  · simp [F60, r60_1, X_seq, X_region, X_cond, X_exit, X_skip, X_block, X_ret, runOps, wantedA, doOp, cls, pureOp, readOp, allocOp, effOp, writeAt, AF.put_p, binInt, isShift, IntKind.same, ltI_cast, leI_cast, cellsOf, addrAdd, oneCells, blt_dec, ble_dec, beq_dec, fillAt, callV_func, evs, same00, lt_irrefl_i, List.append_nil, List.nil_append, List.cons_append, X_regionD, runD, checkR, AV.same_refl, Bool.cond_self, Int.same_self, binStr, bs0, AF.init_n, init1_get, AH.get_new]
    exact (Keeps.new _ _).newK _
  rintro f h ⟨hn, h1, h2, hx, hk, hm1, hm2⟩
  refine Ok_seq (fun f' h' => f'.n = 38 ∧ f'.get 1 = .ptr (some (H.next, 0)) ∧ f'.get 2 = .ptr (some (H.next + 1, 0)) ∧ f'.get 3 = .ptr (some (H.next + 2, 0)) ∧ h'.next = H.next + 3 ∧ Keeps h h' ∧ h'.get (H.next + 2) = some (.cells [.int .i64 (c : Int), .slice none 0 0 0] false (some (27, true)))) ?_ ?_
  · simp [r60_2, X_seq, X_region, X_cond, X_exit, X_skip, X_block, X_ret, runOps, wantedA, doOp, cls, pureOp, readOp, allocOp, effOp, writeAt, AF.put_p, binInt, isShift, IntKind.same, ltI_cast, leI_cast, cellsOf, addrAdd, oneCells, blt_dec, ble_dec, beq_dec, fillAt, callV_func, evs, same00, lt_irrefl_i, List.append_nil, List.nil_append, List.cons_append, X_regionD, runD, checkR, AV.same_refl, Bool.cond_self, Int.same_self, binStr, bs0, hn, h1, h2, hm1, hx, fill, AH.get_new, AH.get_set]
    exact (Keeps.new _ _).set (by omega) _
  rintro f h' ⟨hn, h1, h2, h3, hx', hk', hm3⟩
  have g1 : h'.get H.next = some (.cells [.int .i64 (c : Int), v] false none) := by rw [hk'.2 _ (by omega)]; exact hm1
  have g2 : h'.get (H.next + 1) = some (.cells [.int .i64 0, .slice none 0 0 0] false (some (27, true))) := by rw [hk'.2 _ (by omega)]; exact hm2
  obtain ⟨⟨v1, H1⟩, hrd, hmat, hk1⟩ := reduced_c K90 K114 ((hv.keeps hk).keeps hk') hl hs hc hne
  simp only at hmat hk1
  obtain ⟨b, o, cap, ex, cs, ro, el, rfl, q2, q3, q4⟩ := hmat
  have e1 : H1.get H.next = some (.cells [.int .i64 (c : Int), v] false none) := by rw [hk1.2 _ (by omega)]; exact g1
  have e2 : H1.get (H.next + 1) = some (.cells [.int .i64 0, .slice none 0 0 0] false (some (27, true))) := by rw [hk1.2 _ (by omega)]; exact g2
  have e3 : H1.get (H.next + 2) = some (.cells [.int .i64 (c : Int), .slice none 0 0 0] false (some (27, true))) := by rw [hk1.2 _ (by omega)]; exact hm3
  refine Ok_seq (fun f' h'' => f'.n = 38 ∧ f'.get 1 = .ptr (some (H.next, 0)) ∧ f'.get 2 = .ptr (some (H.next + 1, 0)) ∧ f'.get 3 = .ptr (some (H.next + 2, 0)) ∧ f'.get 4 = .slice (some (b, o)) ls.length cap ex ∧ h'' = H1) (by simp [r60_3, X_seq, X_region, X_cond, X_exit, X_skip, X_block, X_ret, runOps, wantedA, doOp, cls, pureOp, readOp, allocOp, effOp, writeAt, AF.put_p, binInt, isShift, IntKind.same, ltI_cast, leI_cast, cellsOf, addrAdd, oneCells, blt_dec, ble_dec, beq_dec, fillAt, callV_func, evs, same00, lt_irrefl_i, List.append_nil, List.nil_append, List.cons_append, X_regionD, runD, checkR, AV.same_refl, Bool.cond_self, Int.same_self, binStr, bs0, hn, h1, h2, h3, g1, hrd]) ?_
  rintro f h'' ⟨hn, h1, h2, h3, h4, rfl⟩
  refine Ok_seq (fun f' h3 => f'.n = 38 ∧ f'.get 2 = .ptr (some (H.next + 1, 0)) ∧ f'.get 3 = .ptr (some (H.next + 2, 0)) ∧ h3 = h'') ?_ ?_
  · refine Ok_seq (fun f' h3 => f'.n = 38 ∧ f'.get 1 = .ptr (some (H.next, 0)) ∧ f'.get 2 = .ptr (some (H.next + 1, 0)) ∧ f'.get 3 = .ptr (some (H.next + 2, 0)) ∧ f'.get 4 = .slice (some (b, o)) ls.length cap ex ∧ f'.get 5 = .int .i64 0 ∧ h3 = h'') (by simp [r60_4, X_seq, X_region, X_cond, X_exit, X_skip, X_block, X_ret, runOps, wantedA, doOp, cls, pureOp, readOp, allocOp, effOp, writeAt, AF.put_p, binInt, isShift, IntKind.same, ltI_cast, leI_cast, cellsOf, addrAdd, oneCells, blt_dec, ble_dec, beq_dec, fillAt, callV_func, evs, same00, lt_irrefl_i, List.append_nil, List.nil_append, List.cons_append, X_regionD, runD, checkR, AV.same_refl, Bool.cond_self, Int.same_self, binStr, bs0, hn, h1, h2, h3, h4]) ?_
    rintro f h'' ⟨hn, h1, h2, h3, h4, h5, rfl⟩
    refine Ok_block ?_
    refine (form_loop K91 e1 q3 q4 hl hs hc ls.length 0 f (by omega) hn h1 h4 h5).mono ?_
    rintro ⟨e, f', h3'⟩ ⟨rfl, p2, p3, p4, rfl⟩
    simp only at p2 p3 p4
    simp [beq_dec, p2, p3, p4, h2, h3]
  rintro f h'' ⟨hn, h2, h3, rfl⟩
  simp [r60_15, X_seq, X_region, X_cond, X_exit, X_skip, X_block, X_ret, runOps, wantedA, doOp, cls, pureOp, readOp, allocOp, effOp, writeAt, AF.put_p, binInt, isShift, IntKind.same, ltI_cast, leI_cast, cellsOf, addrAdd, oneCells, blt_dec, ble_dec, beq_dec, fillAt, callV_func, evs, same00, lt_irrefl_i, List.append_nil, List.nil_append, List.cons_append, X_regionD, runD, checkR, AV.same_refl, Bool.cond_self, Int.same_self, binStr, bs0, hn, h2, h3, e2, e3, cellsAt, F60, callEnd, resAll, resOf]
  exact (((hk.trans hk').trans hk1)).set (by omega) _
theorem rechelon_c {E : Env} (K25 : Knows E 25 F25) (K9 : Knows E 9 F9) (K26 : Knows E 26 F26) (hp : E.prim 61 [.str [48]] = some (.int .i64 0)) (K60 : Knows E 60 F60) (K90 : Knows E 90 F90) (K114 : Knows E 114 F114) (K91 : Knows E 91 F91) {H : AH} {cols : Int} {ls : List Nat} {v : AV} (hv : Mat H ls v) (hl : ls.length ≤ 900) (hs : ∀ x ∈ ls, x ≤ 1000) (hne : ls ≠ []) :
    Ok (C E 25 [.agg [.int .i64 cols, v]] H) fun q => (∃ z, q.1 = .tuple [.agg [z, .slice none 0 0 0], .int .i64 (chk cols ls)] ∧ (∃ w, z = .int .i64 w)) ∧ Keeps H q.2 := by
  rw [K25.C]
  refine Ok_bind ?_
  show Ok (X E c25_0 _ _) _
  unfold c25_0
  refine Ok_seq (fun f' h' => f'.n = 13 ∧ f'.get 1 = .ptr (some (H.next, 0)) ∧ f'.get 2 = .ptr (some (H.next + 1, 0)) ∧ h'.next = H.next + 2 ∧ Keeps H h' ∧ h'.get H.next = some (.cells [.int .i64 cols, v] false none) ∧ h'.get (H.next + 1) = some (.cells [.int .i64 0, .slice none 0 0 0] false (some (27, true)))) ?_ ?_
  · simp [F25, r25_1, X_seq, X_region, X_cond, X_exit, X_skip, X_block, X_ret, runOps, wantedA, doOp, cls, pureOp, readOp, allocOp, effOp, writeAt, AF.put_p, binInt, isShift, IntKind.same, ltI_cast, leI_cast, cellsOf, addrAdd, oneCells, blt_dec, ble_dec, beq_dec, fillAt, callV_func, evs, same00, lt_irrefl_i, List.append_nil, List.nil_append, List.cons_append, X_regionD, runD, checkR, AV.same_refl, Bool.cond_self, Int.same_self, binStr, bs0, AF.init_n, init1_get, AH.get_new]
    exact (Keeps.new _ _).newK _
  rintro f h ⟨hn, h1, h2, hx, hk, hm1, hm2⟩
  have hch := rcheck_c K9 K26 hp (cols := cols) (hv.keeps hk) (by omega) hs
  have hk1 := Keeps.new h (.cells [.int .i64 cols, v] false none)
  have g1 : (h.new (.cells [.int .i64 cols, v] false none)).get H.next = some (.cells [.int .i64 cols, v] false none) := by rw [hk1.2 _ (by omega)]; exact hm1
  have g2 : (h.new (.cells [.int .i64 cols, v] false none)).get (H.next + 1) = some (.cells [.int .i64 0, .slice none 0 0 0] false (some (27, true))) := by rw [hk1.2 _ (by omega)]; exact hm2
  refine Ok_seq' (fun f' h' => f'.n = 13 ∧ f'.get 1 = .ptr (some (H.next, 0)) ∧ f'.get 2 = .ptr (some (H.next + 1, 0)) ∧ chk cols ls = 0 ∧ h' = h.new (.cells [.int .i64 cols, v] false none)) ?_ ?_
  · cases hz : Int.same (chk cols ls) 0 with
    | true =>
      have hz' := Int.same_eq hz
      simp [r25_2, r25_3, X_seq, X_region, X_cond, X_exit, X_skip, X_block, X_ret, runOps, wantedA, doOp, cls, pureOp, readOp, allocOp, effOp, writeAt, AF.put_p, binInt, isShift, IntKind.same, ltI_cast, leI_cast, cellsOf, addrAdd, oneCells, blt_dec, ble_dec, beq_dec, fillAt, callV_func, evs, same00, lt_irrefl_i, List.append_nil, List.nil_append, List.cons_append, X_regionD, runD, checkR, AV.same_refl, Bool.cond_self, Int.same_self, binStr, bs0, hn, h1, h2, hm1, hch, cellsAt, hz, hz']
    | false =>
      simp [r25_2, r25_3, c25_5, r25_4, X_seq, X_region, X_cond, X_exit, X_skip, X_block, X_ret, runOps, wantedA, doOp, cls, pureOp, readOp, allocOp, effOp, writeAt, AF.put_p, binInt, isShift, IntKind.same, ltI_cast, leI_cast, cellsOf, addrAdd, oneCells, blt_dec, ble_dec, beq_dec, fillAt, callV_func, evs, same00, lt_irrefl_i, List.append_nil, List.nil_append, List.cons_append, X_regionD, runD, checkR, AV.same_refl, Bool.cond_self, Int.same_self, binStr, bs0, hn, h1, h2, hm1, hch, cellsAt, hz, g2, fill, F25, callEnd, resAll, resOf]
      exact (hk.trans hk1).set (by omega) _
  rintro f h' ⟨hn, h1, h2, hz, rfl⟩
  have hall : allLen cols ls = true ∧ (ltI cols 0 || ltI 64 cols) = false := by
    cases c1 : (ltI cols 0 || ltI 64 cols) with
    | true => simp [chk, c1] at hz
    | false =>
      by_cases c3 : 64 < ls.length
      · simp [chk, c1, c3] at hz
      · cases c4 : allLen cols ls with
        | true => exact ⟨rfl, rfl⟩
        | false => simp [chk, c1, c3, c4] at hz
  have hlen := allLen_all hall.1
  obtain ⟨c0, hc0⟩ := List.exists_mem_of_ne_nil ls hne
  have hcols := hlen c0 hc0
  subst hcols
  have hs' : ∀ x ∈ ls, x = c0 := fun x hx => by have := hlen x hx; omega
  obtain ⟨⟨v1, H1⟩, hfm, rfl, hk2⟩ := form_c K60 K90 K114 K91 ((hv.keeps hk).keeps hk1) hl hs' (hs c0 hc0) hne
  simp only at hk2
  have e2 : H1.get (H.next + 1) = some (.cells [.int .i64 0, .slice none 0 0 0] false (some (27, true))) := by rw [hk2.2 _ (by simp; omega)]; exact g2
  simp [r25_6, X_seq, X_region, X_cond, X_exit, X_skip, X_block, X_ret, runOps, wantedA, doOp, cls, pureOp, readOp, allocOp, effOp, writeAt, AF.put_p, binInt, isShift, IntKind.same, ltI_cast, leI_cast, cellsOf, addrAdd, oneCells, blt_dec, ble_dec, beq_dec, fillAt, callV_func, evs, same00, lt_irrefl_i, List.append_nil, List.nil_append, List.cons_append, X_regionD, runD, checkR, AV.same_refl, Bool.cond_self, Int.same_self, binStr, bs0, hn, h1, h2, g1, hfm, e2, cellsAt, F25, callEnd, resAll, resOf, hz]
  exact ((hk.trans hk1).trans hk2).set (by omega) _
theorem rrank_c {E : Env} (K8 : Knows E 8 F8) (K25 : Knows E 25 F25) (K9 : Knows E 9 F9) (K26 : Knows E 26 F26) (hp : E.prim 61 [.str [48]] = some (.int .i64 0)) (K60 : Knows E 60 F60) (K90 : Knows E 90 F90) (K114 : Knows E 114 F114) (K91 : Knows E 91 F91) {H : AH} {cols : Int} {ls : List Nat} {v : AV} (hv : Mat H ls v) (hl : ls.length ≤ 900) (hs : ∀ x ∈ ls, x ≤ 1000) (hne : ls ≠ []) :
    Ok (C E 8 [.agg [.int .i64 cols, v]] H) fun q => q.1 = .tuple [.int .i64 0, .int .i64 (chk cols ls)] ∧ Keeps H q.2 := by
  have hk := Keeps.new H (.cells [.int .i64 cols, v] false none)
  obtain ⟨⟨v1, H1⟩, he, ⟨z, rfl, w, rfl⟩, hk1⟩ := rechelon_c K25 K9 K26 hp K60 K90 K114 K91 (cols := cols) (hv.keeps hk) hl hs hne
  simp only at hk1
  rw [K8.C]
  refine Ok_bind ?_
  show Ok (X E c8_0 _ _) _
  simp [F8, c8_0, r8_1, r8_2, r8_3, X_seq, X_region, X_cond, X_exit, X_skip, X_block, X_ret, runOps, wantedA, doOp, cls, pureOp, readOp, allocOp, effOp, writeAt, AF.put_p, binInt, isShift, IntKind.same, ltI_cast, leI_cast, cellsOf, addrAdd, oneCells, blt_dec, ble_dec, beq_dec, fillAt, callV_func, evs, same00, lt_irrefl_i, List.append_nil, List.nil_append, List.cons_append, X_regionD, runD, checkR, AV.same_refl, Bool.cond_self, Int.same_self, binStr, bs0, AF.init_n, init1_get, cellsAt, he, AH.get_new, AH.get_set, callEnd, resAll, resOf]
  exact (hk.trans hk1).newK _ |>.set (by have := hk1.1; simp at this; omega) _
end Go.Proofs.YtpkldpbjjbplmaaGreatDoor.Det

/-! The matrix of zeros: the program's reduction, where no pivot is found. -/
namespace Go.Proofs.YtpkldpbjjbplmaaGreatDoor.Det
open Go
set_option linter.unusedVariables false
set_option linter.unusedSimpArgs false
def nn (H : AH) : AH := (H.new (.cells [.int .i64 0, .int .i64 0] false (some (69, true)))).set H.next (some (.cells [.int .i64 (-1), .int .i64 (-1)] false (some (69, true))))
theorem nn_next (H : AH) : (nn H).next = H.next + 1 := by simp [nn]
theorem nn_keeps (H : AH) : Keeps H (nn H) := (Keeps.new _ _).set (Nat.le_refl _) _
theorem nn_get {H : AH} {i : Nat} (h : i < H.next) : (nn H).get i = H.get i := (nn_keeps H).2 i h
theorem none_c {E : Env} (K : Knows E 66 F66) (H : AH) : C E 66 [] H = some (.agg [.int .i64 (-1), .int .i64 (-1)], nn H) := by
  rw [K.C]
  simp [F66, c66_0, r66_1, r66_2, X_seq, X_region, X_cond, X_exit, X_skip, X_block, X_ret, runOps, wantedA, doOp, cls, pureOp, readOp, allocOp, effOp, writeAt, AF.put_p, binInt, isShift, IntKind.same, ltI_cast, leI_cast, cellsOf, addrAdd, oneCells, blt_dec, ble_dec, beq_dec, fillAt, callV_func, evs, same00, lt_irrefl_i, List.append_nil, List.nil_append, List.cons_append, X_regionD, runD, checkR, AV.same_refl, Bool.cond_self, Int.same_self, binStr, bs0, AF.init_n, fill, AH.get_new, AH.get_set, cellsAt, callEnd, resAll, resOf, nn]
theorem eqn1 : eqOp (.leaves [.int, .int]) (.agg [.int .i64 (-1), .int .i64 (-1)]) (.agg [.int .i64 (-1), .int .i64 (-1)]) = some true := rfl
theorem find_loop {E : Env} (K66 : Knows E 66 F66) {H0 : AH} {c : Nat} {ls : List Nat} {b o cap ex : Nat} {cs : List AV} {ro : Bool} {el : Option (Nat × Bool)} (hb0 : b < H0.next) (hb : H0.get b = some (.cells cs ro el)) (hz : ∀ j c, ls[j]? = some c → ∃ r, cs[o + j]? = some r ∧ Row H0 c r) (hl : ls.length ≤ 900) (hs : ∀ x ∈ ls, x = c) {col : Nat} (hcol : col < c) (hc : c ≤ 1000) {p : Nat} (hp0 : H0.next ≤ p) {pel : Option (Nat × Bool)} :
    ∀ (k i : Nat) (f : AF) (H : AH), ls.length = i + k → f.n = 156 → f.get 1 = .slice (some (b, o)) ls.length cap ex → f.get 8 = .int .i64 (col : Int) → f.get 10 = .ptr (some (p, 0)) → f.get 11 = .int .i64 (i : Int) →
    Keeps H0 H → p < H.next → H.get p = some (.cells [.int .i64 (-1), .int .i64 (-1)] false pel) →
    Ok (X E c36_17 f H) fun r => r.1 = .exit 2 ∧ r.2.1.n = 156 ∧ r.2.1.get 1 = f.get 1 ∧ r.2.1.get 3 = f.get 3 ∧ r.2.1.get 7 = f.get 7 ∧ r.2.1.get 10 = f.get 10 ∧ r.2.1.get 17 = f.get 17 ∧ r.2.1.get 18 = f.get 18 ∧ Keeps H0 r.2.2 ∧ p < r.2.2.next ∧ r.2.2.get p = some (.cells [.int .i64 (-1), .int .i64 (-1)] false pel) := by
  intro k
  induction k with
  | zero =>
    intro i f H hi hn h1 h8 h10 h11 hk hp hpp
    unfold c36_17
    rw [X_loop]
    simp [c36_16, r36_9, p36_10, X_seq, X_region, X_cond, X_exit, X_skip, X_block, X_ret, runOps, wantedA, doOp, cls, pureOp, readOp, allocOp, effOp, writeAt, AF.put_p, binInt, isShift, IntKind.same, ltI_cast, leI_cast, cellsOf, addrAdd, oneCells, blt_dec, ble_dec, beq_dec, fillAt, callV_func, evs, same00, lt_irrefl_i, List.append_nil, List.nil_append, List.cons_append, X_regionD, runD, checkR, AV.same_refl, Bool.cond_self, Int.same_self, binStr, bs0, hn, h1, h8, h10, h11, hi, hk, hp, hpp]
  | succ k ih =>
    intro i f H hi hn h1 h8 h10 h11 hk hp hpp
    have hlt : i < ls.length := by omega
    obtain ⟨x, hx⟩ : ∃ x, ls[i]? = some x := ⟨ls[i], by simp [hlt]⟩
    have := hs x (List.mem_of_getElem? hx)
    subst this
    obtain ⟨r, hg, hrow⟩ := hz i x hx
    obtain ⟨b2, o2, cap2, ex2, cs2, ro2, el2, rfl, h22, h23, h24, h25⟩ := hrow
    have hg2 := h24 col hcol
    have hk2 : Keeps H0 (nn H) := hk.trans (nn_keeps H)
    have hb' : (nn H).get b = some (.cells cs ro el) := by rw [hk2.2 b hb0]; exact hb
    have hb2' : (nn H).get b2 = some (.cells cs2 ro2 el2) := by rw [hk2.2 b2 h22]; exact h23
    have hp' : (nn H).get p = some (.cells [.int .i64 (-1), .int .i64 (-1)] false pel) := by rw [nn_get hp]; exact hpp
    have hnone := none_c K66 H
    unfold c36_17
    rw [X_loop]
    simp [c36_16, r36_9, p36_10, c36_14, r36_11, r36_15, X_seq, X_region, X_cond, X_exit, X_skip, X_block, X_ret, runOps, wantedA, doOp, cls, pureOp, readOp, allocOp, effOp, writeAt, AF.put_p, binInt, isShift, IntKind.same, ltI_cast, leI_cast, cellsOf, addrAdd, oneCells, blt_dec, ble_dec, beq_dec, fillAt, callV_func, evs, same00, lt_irrefl_i, List.append_nil, List.nil_append, List.cons_append, X_regionD, runD, checkR, AV.same_refl, Bool.cond_self, Int.same_self, binStr, bs0, hn, h1, h8, h10, h11, hlt, hpp, hp', hnone, eqn1, hb', hb2', hg, hg2, hcol, cellsAt, wrap_succ (show i + 1 ≤ 1099511627776 by omega)]
    refine (ih (i + 1) _ (nn H) (by omega) (by simp [hn]) (by simp [h1]) (by simp [h8]) (by simp [h10]) (by simp) hk2 (by rw [nn_next]; omega) hp').mono ?_
    rintro ⟨e, f', H'⟩ ⟨g1, g2, g3, g4, g5, g6, g7, g8, g9, g10, g11⟩
    exact ⟨g1, g2, by simpa [h1] using g3, by simpa using g4, by simpa using g5, by simpa [h10] using g6, by simpa using g7, by simpa using g8, g9, g10, g11⟩
theorem rcols_loop {E : Env} (K66 : Knows E 66 F66) {H0 : AH} {c : Nat} {ls : List Nat} {b o cap ex : Nat} {cs : List AV} {ro : Bool} {el : Option (Nat × Bool)} (hb0 : b < H0.next) (hb : H0.get b = some (.cells cs ro el)) (hz : ∀ j c, ls[j]? = some c → ∃ r, cs[o + j]? = some r ∧ Row H0 c r) (hl : ls.length ≤ 900) (hs : ∀ x ∈ ls, x = c) (hc : c ≤ 1000) :
    ∀ (k i : Nat) (f : AF) (H : AH), c = i + k → f.n = 156 → f.get 1 = .slice (some (b, o)) ls.length cap ex → f.get 7 = .slice none 0 0 0 → f.get 17 = .int .i64 (c : Int) → f.get 18 = .int .i64 (i : Int) →
    Keeps H0 H →
    Ok (X E c36_49 f H) fun r => r.1 = .exit 0 ∧ r.2.1.n = 156 ∧ r.2.1.get 7 = .slice none 0 0 0 ∧ Keeps H0 r.2.2 := by
  intro k
  induction k with
  | zero =>
    intro i f H hi hn h1 h7 h17 h18 hk
    unfold c36_49
    rw [X_loop]
    simp [c36_48, r36_4, X_seq, X_region, X_cond, X_exit, X_skip, X_block, X_ret, runOps, wantedA, doOp, cls, pureOp, readOp, allocOp, effOp, writeAt, AF.put_p, binInt, isShift, IntKind.same, ltI_cast, leI_cast, cellsOf, addrAdd, oneCells, blt_dec, ble_dec, beq_dec, fillAt, callV_func, evs, same00, lt_irrefl_i, List.append_nil, List.nil_append, List.cons_append, X_regionD, runD, checkR, AV.same_refl, Bool.cond_self, Int.same_self, binStr, bs0, hn, h1, h7, h17, h18, hi, hk]
  | succ k ih =>
    intro i f H hi hn h1 h7 h17 h18 hk
    have hlt : i < c := by omega
    unfold c36_49
    rw [X_loop]
    have body : Ok (X E c36_48 f H) fun r => r.1 = .normal ∧ r.2.1.n = 156 ∧ r.2.1.get 1 = .slice (some (b, o)) ls.length cap ex ∧ r.2.1.get 7 = .slice none 0 0 0 ∧ r.2.1.get 17 = .int .i64 (c : Int) ∧ r.2.1.get 18 = .int .i64 ((i + 1 : Nat) : Int) ∧ Keeps H0 r.2.2 := by
      unfold c36_48
      refine Ok_seq (fun f' h' => f'.n = 156 ∧ f'.get 1 = .slice (some (b, o)) ls.length cap ex ∧ f'.get 7 = .slice none 0 0 0 ∧ f'.get 17 = .int .i64 (c : Int) ∧ f'.get 18 = .int .i64 (i : Int) ∧ f'.get 19 = .bool true ∧ h' = H) (by simp [r36_4, X_seq, X_region, X_cond, X_exit, X_skip, X_block, X_ret, runOps, wantedA, doOp, cls, pureOp, readOp, allocOp, effOp, writeAt, AF.put_p, binInt, isShift, IntKind.same, ltI_cast, leI_cast, cellsOf, addrAdd, oneCells, blt_dec, ble_dec, beq_dec, fillAt, callV_func, evs, same00, lt_irrefl_i, List.append_nil, List.nil_append, List.cons_append, X_regionD, runD, checkR, AV.same_refl, Bool.cond_self, Int.same_self, binStr, bs0, hn, h1, h7, h17, h18, hlt]) ?_
      rintro f h ⟨hn, h1, h7, h17, h18, h19, rfl⟩
      refine Ok_seq (fun f' h' => f'.n = 156 ∧ f'.get 1 = .slice (some (b, o)) ls.length cap ex ∧ f'.get 7 = .slice none 0 0 0 ∧ f'.get 17 = .int .i64 (c : Int) ∧ f'.get 18 = .int .i64 (i : Int) ∧ h' = h) (by simp [X_seq, X_region, X_cond, X_exit, X_skip, X_block, X_ret, runOps, wantedA, doOp, cls, pureOp, readOp, allocOp, effOp, writeAt, AF.put_p, binInt, isShift, IntKind.same, ltI_cast, leI_cast, cellsOf, addrAdd, oneCells, blt_dec, ble_dec, beq_dec, fillAt, callV_func, evs, same00, lt_irrefl_i, List.append_nil, List.nil_append, List.cons_append, X_regionD, runD, checkR, AV.same_refl, Bool.cond_self, Int.same_self, binStr, bs0, hn, h1, h7, h17, h18, h19]) ?_
      rintro f h ⟨hn, h1, h7, h17, h18, rfl⟩
      refine Ok_seq (fun f' h' => f'.n = 156 ∧ f'.get 1 = .slice (some (b, o)) ls.length cap ex ∧ f'.get 7 = .slice none 0 0 0 ∧ f'.get 17 = .int .i64 (c : Int) ∧ f'.get 18 = .int .i64 (i : Int) ∧ Keeps H0 h') ?_ ?_
      · refine Ok_block ?_
        unfold c36_46
        refine Ok_seq (fun f' h' => f'.n = 156 ∧ f'.get 1 = .slice (some (b, o)) ls.length cap ex ∧ f'.get 7 = .slice none 0 0 0 ∧ f'.get 8 = .int .i64 (i : Int) ∧ f'.get 17 = .int .i64 (c : Int) ∧ f'.get 18 = .int .i64 (i : Int) ∧ h' = h) (by simp [r36_5, X_seq, X_region, X_cond, X_exit, X_skip, X_block, X_ret, runOps, wantedA, doOp, cls, pureOp, readOp, allocOp, effOp, writeAt, AF.put_p, binInt, isShift, IntKind.same, ltI_cast, leI_cast, cellsOf, addrAdd, oneCells, blt_dec, ble_dec, beq_dec, fillAt, callV_func, evs, same00, lt_irrefl_i, List.append_nil, List.nil_append, List.cons_append, X_regionD, runD, checkR, AV.same_refl, Bool.cond_self, Int.same_self, binStr, bs0, hn, h1, h7, h17, h18]) ?_
        rintro f h ⟨hn, h1, h7, h8, h17, h18, rfl⟩
        refine Ok_seq (fun f' h' => f'.n = 156 ∧ f'.get 1 = .slice (some (b, o)) ls.length cap ex ∧ f'.get 7 = .slice none 0 0 0 ∧ f'.get 8 = .int .i64 (i : Int) ∧ f'.get 9 = .int .i64 0 ∧ f'.get 17 = .int .i64 (c : Int) ∧ f'.get 18 = .int .i64 (i : Int) ∧ h' = h) (by simp [r36_6, X_seq, X_region, X_cond, X_exit, X_skip, X_block, X_ret, runOps, wantedA, doOp, cls, pureOp, readOp, allocOp, effOp, writeAt, AF.put_p, binInt, isShift, IntKind.same, ltI_cast, leI_cast, cellsOf, addrAdd, oneCells, blt_dec, ble_dec, beq_dec, fillAt, callV_func, evs, same00, lt_irrefl_i, List.append_nil, List.nil_append, List.cons_append, X_regionD, runD, checkR, AV.same_refl, Bool.cond_self, Int.same_self, binStr, bs0, hn, h1, h7, h8, h17, h18]) ?_
        rintro f h ⟨hn, h1, h7, h8, h9, h17, h18, rfl⟩
        refine Ok_seq (fun f' h' => f'.n = 156 ∧ f'.get 1 = .slice (some (b, o)) ls.length cap ex ∧ f'.get 7 = .slice none 0 0 0 ∧ f'.get 8 = .int .i64 (i : Int) ∧ f'.get 9 = .int .i64 0 ∧ f'.get 17 = .int .i64 (c : Int) ∧ f'.get 18 = .int .i64 (i : Int) ∧ f'.get 10 = .ptr (some ((nn h).next, 0)) ∧ (nn h).next < h'.next ∧ h'.get (nn h).next = some (.cells [.int .i64 (-1), .int .i64 (-1)] false (some (69, true))) ∧ Keeps H0 h') ?_ ?_
        · simp [r36_7, X_seq, X_region, X_cond, X_exit, X_skip, X_block, X_ret, runOps, wantedA, doOp, cls, pureOp, readOp, allocOp, effOp, writeAt, AF.put_p, binInt, isShift, IntKind.same, ltI_cast, leI_cast, cellsOf, addrAdd, oneCells, blt_dec, ble_dec, beq_dec, fillAt, callV_func, evs, same00, lt_irrefl_i, List.append_nil, List.nil_append, List.cons_append, X_regionD, runD, checkR, AV.same_refl, Bool.cond_self, Int.same_self, binStr, bs0, hn, h1, h7, h8, h9, h17, h18, none_c K66 h, fill, AH.get_new, AH.get_set]
          exact ((hk.trans (nn_keeps h)).newK _).set (by have := hk.1; rw [nn_next]; omega) _
        rintro f h' ⟨hn, h1, h7, h8, h9, h17, h18, h10, hpn, hpp, hk'⟩
        have hp0 : H0.next ≤ (nn h).next := by have := hk.1; rw [nn_next]; omega
        generalize (nn h).next = p at *
        refine Ok_seq (fun f' h'' => f'.n = 156 ∧ f'.get 1 = .slice (some (b, o)) ls.length cap ex ∧ f'.get 7 = .slice none 0 0 0 ∧ f'.get 17 = .int .i64 (c : Int) ∧ f'.get 18 = .int .i64 (i : Int) ∧ f'.get 10 = .ptr (some (p, 0)) ∧ p < h''.next ∧ h''.get p = some (.cells [.int .i64 (-1), .int .i64 (-1)] false (some (69, true))) ∧ Keeps H0 h'') ?_ ?_
        · refine Ok_seq (fun f' h'' => f'.n = 156 ∧ f'.get 1 = .slice (some (b, o)) ls.length cap ex ∧ f'.get 7 = .slice none 0 0 0 ∧ f'.get 8 = .int .i64 (i : Int) ∧ f'.get 17 = .int .i64 (c : Int) ∧ f'.get 18 = .int .i64 (i : Int) ∧ f'.get 10 = .ptr (some (p, 0)) ∧ f'.get 11 = .int .i64 0 ∧ h'' = h') ?_ ?_
          · simp [r36_8, X_seq, X_region, X_cond, X_exit, X_skip, X_block, X_ret, runOps, wantedA, doOp, cls, pureOp, readOp, allocOp, effOp, writeAt, AF.put_p, binInt, isShift, IntKind.same, ltI_cast, leI_cast, cellsOf, addrAdd, oneCells, blt_dec, ble_dec, beq_dec, fillAt, callV_func, evs, same00, lt_irrefl_i, List.append_nil, List.nil_append, List.cons_append, X_regionD, runD, checkR, AV.same_refl, Bool.cond_self, Int.same_self, binStr, bs0, hn, h1, h7, h8, h9, h17, h18, h10]
          rintro f h'' ⟨hn, h1, h7, h8, h17, h18, h10, h11, rfl⟩
          refine Ok_block ?_
          refine (find_loop K66 hb0 hb hz hl hs hlt hc hp0 ls.length 0 f h'' (by omega) hn h1 h8 h10 h11 hk' hpn hpp).mono ?_
          rintro ⟨e, f', h3⟩ ⟨rfl, g2, g3, g4, g5, g6, g7, g8, g9, g10, g11⟩
          simp only at g2 g3 g4 g5 g6 g7 g8 g9 g10 g11
          simp [beq_dec, g2, g3, g5, g6, g7, g8, g9, g10, g11, h1, h7, h10, h17, h18]
        rintro f h'' ⟨hn, h1, h7, h17, h18, h10, hpn, hpp, hk''⟩
        have hp' : (nn h'').get p = some (.cells [.int .i64 (-1), .int .i64 (-1)] false (some (69, true))) := by rw [nn_get hpn]; exact hpp
        have hk3 : Keeps H0 (nn h'') := hk''.trans (nn_keeps _)
        simp [r36_18, p36_19, X_seq, X_region, X_cond, X_exit, X_skip, X_block, X_ret, runOps, wantedA, doOp, cls, pureOp, readOp, allocOp, effOp, writeAt, AF.put_p, binInt, isShift, IntKind.same, ltI_cast, leI_cast, cellsOf, addrAdd, oneCells, blt_dec, ble_dec, beq_dec, fillAt, callV_func, evs, same00, lt_irrefl_i, List.append_nil, List.nil_append, List.cons_append, X_regionD, runD, checkR, AV.same_refl, Bool.cond_self, Int.same_self, binStr, bs0, hn, h1, h7, h17, h18, h10, hpp, hp', none_c K66 h'', eqn1, cellsAt, hk3]
      rintro f h ⟨hn, h1, h7, h17, h18, hk⟩
      simp [r36_47, X_seq, X_region, X_cond, X_exit, X_skip, X_block, X_ret, runOps, wantedA, doOp, cls, pureOp, readOp, allocOp, effOp, writeAt, AF.put_p, binInt, isShift, IntKind.same, ltI_cast, leI_cast, cellsOf, addrAdd, oneCells, blt_dec, ble_dec, beq_dec, fillAt, callV_func, evs, same00, lt_irrefl_i, List.append_nil, List.nil_append, List.cons_append, X_regionD, runD, checkR, AV.same_refl, Bool.cond_self, Int.same_self, binStr, bs0, hn, h1, h7, h17, h18, hk, wrap_succ (show i + 1 ≤ 1099511627776 by omega)]
    obtain ⟨⟨e, f', H'⟩, hr, rfl, g2, g3, g4, g5, g6, g7⟩ := body
    simp only at g2 g3 g4 g5 g6 g7
    rw [hr]
    exact ih (i + 1) f' H' (by omega) g2 g3 g4 g5 g6 g7
end Go.Proofs.YtpkldpbjjbplmaaGreatDoor.Det

/-! The matrix of zeros: the program's echelon form and rank. -/
namespace Go.Proofs.YtpkldpbjjbplmaaGreatDoor.Det
open Go
set_option linter.unusedVariables false
set_option linter.unusedSimpArgs false
theorem reduce_c {E : Env} (K36 : Knows E 36 F36) (K66 : Knows E 66 F66) {H : AH} {c : Nat} {ls : List Nat} {w : Nat} {v : AV} (hv : Mat H ls v) (hl : ls.length ≤ 900) (hs : ∀ x ∈ ls, x = c) (hc : c ≤ 1000) :
    Ok (C E 36 [.ptr (some (w, 0)), v, .int .i64 (c : Int)] H) fun q => q.1 = .slice none 0 0 0 ∧ Keeps H q.2 := by
  obtain ⟨b, o, cap, ex, cs, ro, el, rfl, h2, h3, h4⟩ := hv
  rw [K36.C]
  refine Ok_bind ?_
  show Ok (X E c36_0 _ _) _
  unfold c36_0
  refine Ok_seq (fun f' h' => f'.n = 156 ∧ f'.get 1 = .slice (some (b, o)) ls.length cap ex ∧ f'.get 2 = .int .i64 (c : Int) ∧ Keeps H h') ?_ ?_
  · simp [F36, r36_1, X_seq, X_region, X_cond, X_exit, X_skip, X_block, X_ret, runOps, wantedA, doOp, cls, pureOp, readOp, allocOp, effOp, writeAt, AF.put_p, binInt, isShift, IntKind.same, ltI_cast, leI_cast, cellsOf, addrAdd, oneCells, blt_dec, ble_dec, beq_dec, fillAt, callV_func, evs, same00, lt_irrefl_i, List.append_nil, List.nil_append, List.cons_append, X_regionD, runD, checkR, AV.same_refl, Bool.cond_self, Int.same_self, binStr, bs0, AF.init_n, init3_get]
    exact Keeps.new _ _
  rintro f h ⟨hn, h1, h2', hk⟩
  refine Ok_seq (fun f' h' => f'.n = 156 ∧ f'.get 1 = .slice (some (b, o)) ls.length cap ex ∧ f'.get 2 = .int .i64 (c : Int) ∧ f'.get 7 = .slice none 0 0 0 ∧ h' = h) (by simp [r36_2, X_seq, X_region, X_cond, X_exit, X_skip, X_block, X_ret, runOps, wantedA, doOp, cls, pureOp, readOp, allocOp, effOp, writeAt, AF.put_p, binInt, isShift, IntKind.same, ltI_cast, leI_cast, cellsOf, addrAdd, oneCells, blt_dec, ble_dec, beq_dec, fillAt, callV_func, evs, same00, lt_irrefl_i, List.append_nil, List.nil_append, List.cons_append, X_regionD, runD, checkR, AV.same_refl, Bool.cond_self, Int.same_self, binStr, bs0, hn, h1, h2']) ?_
  rintro f h' ⟨hn, h1, h2', h7, rfl⟩
  refine Ok_seq (fun f' h' => f'.n = 156 ∧ f'.get 7 = .slice none 0 0 0 ∧ Keeps H h') ?_ ?_
  · refine Ok_seq (fun f' h'' => f'.n = 156 ∧ f'.get 1 = .slice (some (b, o)) ls.length cap ex ∧ f'.get 7 = .slice none 0 0 0 ∧ f'.get 17 = .int .i64 (c : Int) ∧ f'.get 18 = .int .i64 0 ∧ h'' = h') (by simp [r36_3, X_seq, X_region, X_cond, X_exit, X_skip, X_block, X_ret, runOps, wantedA, doOp, cls, pureOp, readOp, allocOp, effOp, writeAt, AF.put_p, binInt, isShift, IntKind.same, ltI_cast, leI_cast, cellsOf, addrAdd, oneCells, blt_dec, ble_dec, beq_dec, fillAt, callV_func, evs, same00, lt_irrefl_i, List.append_nil, List.nil_append, List.cons_append, X_regionD, runD, checkR, AV.same_refl, Bool.cond_self, Int.same_self, binStr, bs0, hn, h1, h2', h7]) ?_
    rintro f h'' ⟨hn, h1, h7, h17, h18, rfl⟩
    refine Ok_block ?_
    refine (rcols_loop K66 h2 h3 h4 hl hs hc c 0 f h'' (by omega) hn h1 h7 h17 h18 hk).mono ?_
    rintro ⟨e, f', h3⟩ ⟨rfl, g2, g3, g4⟩
    simp only at g2 g3 g4
    simp [beq_dec, g2, g3, g4]
  rintro f h' ⟨hn, h7, hk⟩
  simp [r36_50, X_seq, X_region, X_cond, X_exit, X_skip, X_block, X_ret, runOps, wantedA, doOp, cls, pureOp, readOp, allocOp, effOp, writeAt, AF.put_p, binInt, isShift, IntKind.same, ltI_cast, leI_cast, cellsOf, addrAdd, oneCells, blt_dec, ble_dec, beq_dec, fillAt, callV_func, evs, same00, lt_irrefl_i, List.append_nil, List.nil_append, List.cons_append, X_regionD, runD, checkR, AV.same_refl, Bool.cond_self, Int.same_self, binStr, bs0, hn, h7, F36, callEnd, resAll, resOf, hk]
theorem ended_c {E : Env} (K : Knows E 31 F31) {H : AH} {w : Nat} {ro : Bool} {el : Option (Nat × Bool)} (hw : H.get w = some (.cells [.int .i64 0] ro el)) : C E 31 [.ptr (some (w, 0))] H = some (.int .i64 0, H) := by
  rw [K.C]
  simp [F31, c31_0, r31_1, r31_2, r31_5, X_seq, X_region, X_cond, X_exit, X_skip, X_block, X_ret, runOps, wantedA, doOp, cls, pureOp, readOp, allocOp, effOp, writeAt, AF.put_p, binInt, isShift, IntKind.same, ltI_cast, leI_cast, cellsOf, addrAdd, oneCells, blt_dec, ble_dec, beq_dec, fillAt, callV_func, evs, same00, lt_irrefl_i, List.append_nil, List.nil_append, List.cons_append, X_regionD, runD, checkR, AV.same_refl, Bool.cond_self, Int.same_self, binStr, bs0, AF.init_n, init1_get, hw, callEnd, resAll, resOf]
/-- All that the program's side needs. -/
structure Side (E : Env) : Prop where
  k5 : Knows E 5 F5
  k20 : Knows E 20 F20
  k53 : Knows E 53 F53
  k21 : Knows E 21 F21
  k22 : Knows E 22 F22
  p23 : E.prim 23 [.str [48]] = some (.int .i64 0)
  k24 : Knows E 24 F24
  k34 : Knows E 34 F34
  k39 : Knows E 39 F39
  k59 : Knows E 59 F59
  k36 : Knows E 36 F36
  k66 : Knows E 66 F66
  k31 : Knows E 31 F31
  k7 : Knows E 7 F7
theorem echelon_c {E : Env} (K : Side E) {H : AH} {cols : Int} {ls : List Nat} {v : AV} (hv : Mat H ls v) (hl : ls.length ≤ 900) (hs : ∀ x ∈ ls, x ≤ 1000) (hne : ls ≠ []) :
    Ok (C E 24 [.agg [.int .i64 cols, v]] H) fun q => (∃ z a l c e, q.1 = .tuple [.agg [.int .i64 z, .slice a l c e], .slice none 0 0 0, .int .i64 (chk cols ls)]) ∧ Keeps H q.2 := by
  rw [K.k24.C]
  refine Ok_bind ?_
  show Ok (X E c24_0 _ _) _
  unfold c24_0
  refine Ok_seq (fun f' h' => f'.n = 40 ∧ f'.get 1 = .ptr (some (H.next, 0)) ∧ f'.get 2 = .ptr (some (H.next + 1, 0)) ∧ h'.next = H.next + 2 ∧ Keeps H h' ∧ h'.get H.next = some (.cells [.int .i64 cols, v] false none) ∧ h'.get (H.next + 1) = some (.cells [.int .i64 0, .slice none 0 0 0] false (some (27, true)))) ?_ ?_
  · simp [F24, r24_1, X_seq, X_region, X_cond, X_exit, X_skip, X_block, X_ret, runOps, wantedA, doOp, cls, pureOp, readOp, allocOp, effOp, writeAt, AF.put_p, binInt, isShift, IntKind.same, ltI_cast, leI_cast, cellsOf, addrAdd, oneCells, blt_dec, ble_dec, beq_dec, fillAt, callV_func, evs, same00, lt_irrefl_i, List.append_nil, List.nil_append, List.cons_append, X_regionD, runD, checkR, AV.same_refl, Bool.cond_self, Int.same_self, binStr, bs0, AF.init_n, init1_get, AH.get_new]
    exact (Keeps.new _ _).newK _
  rintro f h ⟨hn, h1, h2, hx, hk, hm1, hm2⟩
  have hch := check_c K.k5 K.k20 K.k53 K.k21 K.k22 K.p23 (cols := cols) (hv.keeps hk) (by omega) hs
  have hk1 := Keeps.new h (.cells [.int .i64 cols, v] false none)
  have g1 : (h.new (.cells [.int .i64 cols, v] false none)).get H.next = some (.cells [.int .i64 cols, v] false none) := by rw [hk1.2 _ (by omega)]; exact hm1
  have g2 : (h.new (.cells [.int .i64 cols, v] false none)).get (H.next + 1) = some (.cells [.int .i64 0, .slice none 0 0 0] false (some (27, true))) := by rw [hk1.2 _ (by omega)]; exact hm2
  refine Ok_seq' (fun f' h' => f'.n = 40 ∧ f'.get 1 = .ptr (some (H.next, 0)) ∧ f'.get 2 = .ptr (some (H.next + 1, 0)) ∧ chk cols ls = 0 ∧ h' = h.new (.cells [.int .i64 cols, v] false none)) ?_ ?_
  · cases hz : Int.same (chk cols ls) 0 with
    | true =>
      have hz' := Int.same_eq hz
      simp [r24_2, r24_3, X_seq, X_region, X_cond, X_exit, X_skip, X_block, X_ret, runOps, wantedA, doOp, cls, pureOp, readOp, allocOp, effOp, writeAt, AF.put_p, binInt, isShift, IntKind.same, ltI_cast, leI_cast, cellsOf, addrAdd, oneCells, blt_dec, ble_dec, beq_dec, fillAt, callV_func, evs, same00, lt_irrefl_i, List.append_nil, List.nil_append, List.cons_append, X_regionD, runD, checkR, AV.same_refl, Bool.cond_self, Int.same_self, binStr, bs0, hn, h1, h2, hm1, hch, cellsAt, hz, hz']
    | false =>
      simp [r24_2, r24_3, c24_5, r24_4, X_seq, X_region, X_cond, X_exit, X_skip, X_block, X_ret, runOps, wantedA, doOp, cls, pureOp, readOp, allocOp, effOp, writeAt, AF.put_p, binInt, isShift, IntKind.same, ltI_cast, leI_cast, cellsOf, addrAdd, oneCells, blt_dec, ble_dec, beq_dec, fillAt, callV_func, evs, same00, lt_irrefl_i, List.append_nil, List.nil_append, List.cons_append, X_regionD, runD, checkR, AV.same_refl, Bool.cond_self, Int.same_self, binStr, bs0, hn, h1, h2, hm1, hch, cellsAt, hz, g2, fill, F24, callEnd, resAll, resOf]
      exact (hk.trans hk1).set (by omega) _
  rintro f h' ⟨hn, h1, h2, hz, rfl⟩
  generalize hq : h.new (.cells [.int .i64 cols, v] false none) = h1' at *
  have hkk : Keeps H h1' := hk.trans hk1
  have hnx : H.next + 2 ≤ h1'.next := by have := hk1.1; omega
  have hall : allLen cols ls = true ∧ (ltI cols 0 || ltI 64 cols) = false := by
    cases c1 : (ltI cols 0 || ltI 64 cols) with
    | true => simp [chk, c1] at hz
    | false =>
      by_cases c3 : 64 < ls.length
      · simp [chk, c1, c3] at hz
      · cases c4 : allLen cols ls with
        | true => exact ⟨rfl, rfl⟩
        | false => simp [chk, c1, c3, c4] at hz
  have hlen := allLen_all hall.1
  obtain ⟨c0, hc0⟩ := List.exists_mem_of_ne_nil ls hne
  have hcols := hlen c0 hc0
  subst hcols
  have hs' : ∀ x ∈ ls, x = c0 := fun x hx => by have := hlen x hx; omega
  refine Ok_seq (fun f' h' => f'.n = 40 ∧ f'.get 1 = .ptr (some (H.next, 0)) ∧ f'.get 2 = .ptr (some (H.next + 1, 0)) ∧ f'.get 6 = .ptr (some (h1'.next, 0)) ∧ h1'.next < h'.next ∧ Keeps h1' h' ∧ h'.get h1'.next = some (.cells [.int .i64 0] false none)) ?_ ?_
  · simp [r24_6, X_seq, X_region, X_cond, X_exit, X_skip, X_block, X_ret, runOps, wantedA, doOp, cls, pureOp, readOp, allocOp, effOp, writeAt, AF.put_p, binInt, isShift, IntKind.same, ltI_cast, leI_cast, cellsOf, addrAdd, oneCells, blt_dec, ble_dec, beq_dec, fillAt, callV_func, evs, same00, lt_irrefl_i, List.append_nil, List.nil_append, List.cons_append, X_regionD, runD, checkR, AV.same_refl, Bool.cond_self, Int.same_self, binStr, bs0, hn, h1, h2, fill, AH.get_new]
    exact Keeps.new _ _
  rintro f h2' ⟨hn, h1, h2, h6, hpn, hk2, hpp⟩
  obtain ⟨⟨v1, H1⟩, hcp, hm, hk3, a1, n1, m1, he1⟩ := copied_c K.k34 K.k39 K.k59 ((hv.keeps hkk).keeps hk2) hl hs hne
  simp only at hm hk3 he1
  have q1 : h2'.get H.next = some (.cells [.int .i64 (c0 : Int), v] false none) := by rw [hk2.2 _ (by omega)]; exact g1
  refine Ok_seq (fun f' h' => f'.n = 40 ∧ f'.get 1 = .ptr (some (H.next, 0)) ∧ f'.get 2 = .ptr (some (H.next + 1, 0)) ∧ f'.get 6 = .ptr (some (h1'.next, 0)) ∧ f'.get 7 = v1 ∧ h' = H1) (by simp [r24_7, X_seq, X_region, X_cond, X_exit, X_skip, X_block, X_ret, runOps, wantedA, doOp, cls, pureOp, readOp, allocOp, effOp, writeAt, AF.put_p, binInt, isShift, IntKind.same, ltI_cast, leI_cast, cellsOf, addrAdd, oneCells, blt_dec, ble_dec, beq_dec, fillAt, callV_func, evs, same00, lt_irrefl_i, List.append_nil, List.nil_append, List.cons_append, X_regionD, runD, checkR, AV.same_refl, Bool.cond_self, Int.same_self, binStr, bs0, hn, h1, h2, h6, q1, hcp]) ?_
  rintro f h3' ⟨hn, h1, h2, h6, h7, rfl⟩
  obtain ⟨⟨v2, H2⟩, hrd, rfl, hk4⟩ := reduce_c K.k36 K.k66 (w := h1'.next) hm hl hs' (hs c0 hc0)
  simp only at hk4
  have q2 : h3'.get H.next = some (.cells [.int .i64 (c0 : Int), v] false none) := by rw [hk3.2 _ (by have := hk2.1; omega)]; exact q1
  refine Ok_seq (fun f' h' => f'.n = 40 ∧ f'.get 1 = .ptr (some (H.next, 0)) ∧ f'.get 2 = .ptr (some (H.next + 1, 0)) ∧ f'.get 6 = .ptr (some (h1'.next, 0)) ∧ f'.get 7 = v1 ∧ f'.get 8 = .slice none 0 0 0 ∧ h' = H2) (by simp [r24_8, X_seq, X_region, X_cond, X_exit, X_skip, X_block, X_ret, runOps, wantedA, doOp, cls, pureOp, readOp, allocOp, effOp, writeAt, AF.put_p, binInt, isShift, IntKind.same, ltI_cast, leI_cast, cellsOf, addrAdd, oneCells, blt_dec, ble_dec, beq_dec, fillAt, callV_func, evs, same00, lt_irrefl_i, List.append_nil, List.nil_append, List.cons_append, X_regionD, runD, checkR, AV.same_refl, Bool.cond_self, Int.same_self, binStr, bs0, hn, h1, h2, h6, h7, q2, hrd]) ?_
  rintro f h4' ⟨hn, h1, h2, h6, h7, h8, rfl⟩
  have q3 : h4'.get h1'.next = some (.cells [.int .i64 0] false none) := by rw [hk4.2 _ (by have := hk3.1; omega), hk3.2 _ hpn]; exact hpp
  have hend := ended_c K.k31 q3
  refine Ok_seq (fun f' h' => f'.n = 40 ∧ f'.get 1 = .ptr (some (H.next, 0)) ∧ f'.get 2 = .ptr (some (H.next + 1, 0)) ∧ f'.get 7 = v1 ∧ f'.get 8 = .slice none 0 0 0 ∧ h' = h4') (by simp [r24_9, r24_10, X_seq, X_region, X_cond, X_exit, X_skip, X_block, X_ret, runOps, wantedA, doOp, cls, pureOp, readOp, allocOp, effOp, writeAt, AF.put_p, binInt, isShift, IntKind.same, ltI_cast, leI_cast, cellsOf, addrAdd, oneCells, blt_dec, ble_dec, beq_dec, fillAt, callV_func, evs, same00, lt_irrefl_i, List.append_nil, List.nil_append, List.cons_append, X_regionD, runD, checkR, AV.same_refl, Bool.cond_self, Int.same_self, binStr, bs0, hn, h1, h2, h6, h7, h8, hend]) ?_
  rintro f h5' ⟨hn, h1, h2, h7, h8, rfl⟩
  have q4 : h5'.get H.next = some (.cells [.int .i64 (c0 : Int), v] false none) := by rw [hk4.2 _ (by have := hk3.1; have := hk2.1; omega)]; exact q2
  have q5 : h5'.get (H.next + 1) = some (.cells [.int .i64 0, .slice none 0 0 0] false (some (27, true))) := by rw [hk4.2 _ (by have := hk3.1; have := hk2.1; omega), hk3.2 _ (by have := hk2.1; omega), hk2.2 _ (by omega)]; exact g2
  obtain ⟨b, o, cap, ex, cs, ro, el, rfl, h3, h4⟩ := hm
  cases he1
  simp [r24_13, p24_14, X_seq, X_region, X_cond, X_exit, X_skip, X_block, X_ret, runOps, wantedA, doOp, cls, pureOp, readOp, allocOp, effOp, writeAt, AF.put_p, binInt, isShift, IntKind.same, ltI_cast, leI_cast, cellsOf, addrAdd, oneCells, blt_dec, ble_dec, beq_dec, fillAt, callV_func, evs, same00, lt_irrefl_i, List.append_nil, List.nil_append, List.cons_append, X_regionD, runD, checkR, AV.same_refl, Bool.cond_self, Int.same_self, binStr, bs0, hn, h1, h2, h7, h8, q4, q5, fill, bound, hiBound, exOf, cellsAt, F24, callEnd, resAll, resOf, hz, lenOfAV]
  exact (((hkk.trans hk2).trans hk3).trans hk4).set (by omega) _
theorem rank_c {E : Env} (K : Side E) {H : AH} {cols : Int} {ls : List Nat} {v : AV} (hv : Mat H ls v) (hl : ls.length ≤ 900) (hs : ∀ x ∈ ls, x ≤ 1000) (hne : ls ≠ []) :
    Ok (C E 7 [.agg [.int .i64 cols, v]] H) fun q => q.1 = .tuple [.int .i64 0, .int .i64 (chk cols ls)] ∧ Keeps H q.2 := by
  have hk := Keeps.new H (.cells [.int .i64 cols, v] false none)
  obtain ⟨⟨v1, H1⟩, he, ⟨z, a, l, c, e, rfl⟩, hk1⟩ := echelon_c K (cols := cols) (hv.keeps hk) hl hs hne
  simp only at hk1
  rw [K.k7.C]
  refine Ok_bind ?_
  show Ok (X E c7_0 _ _) _
  simp [F7, c7_0, r7_1, r7_2, r7_3, X_seq, X_region, X_cond, X_exit, X_skip, X_block, X_ret, runOps, wantedA, doOp, cls, pureOp, readOp, allocOp, effOp, writeAt, AF.put_p, binInt, isShift, IntKind.same, ltI_cast, leI_cast, cellsOf, addrAdd, oneCells, blt_dec, ble_dec, beq_dec, fillAt, callV_func, evs, same00, lt_irrefl_i, List.append_nil, List.nil_append, List.cons_append, X_regionD, runD, checkR, AV.same_refl, Bool.cond_self, Int.same_self, binStr, bs0, AF.init_n, init1_get, cellsAt, he, AH.get_new, AH.get_set, callEnd, resAll, resOf]
  exact (hk.trans hk1).newK _ |>.set (by have := hk1.1; simp at this; omega) _
end Go.Proofs.YtpkldpbjjbplmaaGreatDoor.Det

/-! MatrixSizes: the whole law, as a run on an empty heap. -/
namespace Go.Proofs.YtpkldpbjjbplmaaGreatDoor.Det
open Go
set_option linter.unusedVariables false
set_option linter.unusedSimpArgs false
theorem check_nil {E : Env} (K5 : Knows E 5 F5) (H : AH) : C E 5 [.agg [.int .i64 65, .slice none 0 0 0]] H = some (.int .i64 2, H.new (.cells [.int .i64 65, .slice none 0 0 0] false none)) := by
  have h1 : ltI 65 0 = false := rfl
  have h2 : ltI 64 65 = true := rfl
  rw [K5.C]
  simp [F5, c5_0, r5_1, c5_13, r5_2, c5_4, r5_3, X_seq, X_region, X_cond, X_exit, X_skip, X_block, X_ret, runOps, wantedA, doOp, cls, pureOp, readOp, allocOp, effOp, writeAt, AF.put_p, binInt, isShift, IntKind.same, ltI_cast, leI_cast, cellsOf, addrAdd, oneCells, blt_dec, ble_dec, beq_dec, fillAt, callV_func, evs, same00, lt_irrefl_i, List.append_nil, List.nil_append, List.cons_append, X_regionD, runD, checkR, AV.same_refl, Bool.cond_self, Int.same_self, binStr, bs0, AF.init_n, init1_get, h1, h2, callEnd, resAll, resOf]
theorem mx0 (a : Int) : mm true (.int .i64 a) (.int .i64 0) = some (.int .i64 (a.toNat : Int)) := by
  simp only [mm, ltI]
  by_cases h : a < 0
  · simp [h]; omega
  · simp [h]; omega
/-- What the law's matrix lies in. -/
structure At (p : Nat) (a0 : Int) (ls : List Nat) (a : AV) (H : AH) : Prop where
  lt : p < H.next
  at_ : ∃ el, H.get p = some (.cells [.int .i64 a0, a] false el)
  acc : ∀ B : AH, B.next = p + 1 → Acc B H ls a
/-- One more row. -/
theorem At.more {p : Nat} {a0 : Int} {ls : List Nat} {a : AV} {H : AH} (h : At p a0 ls a H) {E : Env} (K6 : Knows E 6 F6) {c : Nat} (hc : c ≤ 1000) (hl : ls.length < 1000) :
    ∃ H1, C E 6 [.int .i64 (c : Int)] H = some (.slice (some (H.next, 0)) c c 0, H1) ∧ (∃ el, H1.get p = some (.cells [.int .i64 a0, a] false el)) ∧ (∃ el, (H1.new (.cells [.slice (some (H.next, 0)) c c 0] false none)).get p = some (.cells [.int .i64 a0, a] false el)) ∧ ∃ sa sn sm sx H2, appendOp (H1.new (.cells [.slice (some (H.next, 0)) c c 0] false none)) 28 [.slice none 0 0 0] 24 a (.slice (some (H1.next, 0)) 1 1 0) = some (.slice sa sn sm sx, H2) ∧
      (∃ el, H2.get p = some (.cells [.int .i64 a0, a] false el)) ∧ ∀ el, At p a0 (ls ++ [c]) (.slice sa sn sm sx) (H2.set p (some (.cells [.int .i64 a0, .slice sa sn sm sx] false el))) := by
  obtain ⟨hlt, ⟨el, hat⟩, hacc⟩ := h
  obtain ⟨⟨r, H1⟩, hz, rfl, hn, hg⟩ := zeros_c K6 hc H
  simp only at hn hg
  have hk1 : Keeps H H1 := ⟨by omega, fun i hi => by rw [hg, if_neg (by omega)]⟩
  have hk2 : Keeps H1 (H1.new (.cells [.slice (some (H.next, 0)) c c 0] false none)) := Keeps.new _ _
  have hrow : RowIn (H1.new (.cells [.slice (some (H.next, 0)) c c 0] false none)) H.next (H1.new (.cells [.slice (some (H.next, 0)) c c 0] false none)).next c (.slice (some (H.next, 0)) c c 0) := by
    refine ⟨H.next, 0, c, 0, zer c, false, none, rfl, ⟨Nat.le_refl _, by simp; omega⟩, ?_, fun j hj => by simp [zer, hj], by simp⟩
    rw [hk2.2 _ (by omega), hg, if_pos rfl]
  let B : AH := ⟨H.m, p + 1⟩
  have hB : Keeps B H := ⟨hlt, fun i _ => rfl⟩
  obtain ⟨⟨a', H2⟩, ha, hA, hK, hN⟩ := acc_append (hacc B rfl) hB (hk1.trans hk2) hrow (bx := H1.next) (ro := false) (elx := none) (by simp) hl
  simp only at hA hK hN
  have e2 : H2.get p = some (.cells [.int .i64 a0, a] false el) := by rw [hK.2 p (Nat.lt_succ_self p)]; exact hat
  obtain ⟨sa, sn, sm, sx, rfl⟩ : ∃ sa sn sm sx, a' = .slice sa sn sm sx := by
    rcases hA with ⟨h, _⟩ | ⟨b, rs, el, h1, _⟩
    · simp at h
    · exact ⟨_, _, _, _, h1⟩
  refine ⟨H1, hz, ⟨el, by rw [hk1.2 _ hlt]; exact hat⟩, ⟨el, by rw [(hk1.trans hk2).2 _ hlt]; exact hat⟩, sa, sn, sm, sx, H2, ha, ⟨el, e2⟩, fun el' => ⟨?_, ⟨el', by simp⟩, fun B' hB' => (hA.base hB').set (by omega) _⟩⟩
  have := (hk1.trans hk2).1
  simp only [AH.set]
  omega
theorem fill_loop {E : Env} (K6 : Knows E 6 F6) {p r : Nat} {a0 : Int} {c : Nat} (hac : a0.toNat = c) (hc : c ≤ 1000) (hr : r ≤ 500) :
    ∀ (k i : Nat) (f : AF) (H : AH) (a : AV), r = i + k → f.n = 89 → f.get 0 = .int .i64 a0 → f.get 7 = .ptr (some (p, 0)) → f.get 42 = .int .i64 (r : Int) → f.get 43 = .int .i64 (i : Int) → At p a0 (List.replicate i c) a H →
    Ok (X E c3_13 f H) fun q => q.1 = .exit 0 ∧ q.2.1.n = 89 ∧ q.2.1.get 2 = f.get 2 ∧ q.2.1.get 7 = .ptr (some (p, 0)) ∧ ∃ a, At p a0 (List.replicate r c) a q.2.2 := by
  intro k
  induction k with
  | zero =>
    intro i f H a hi hn h0 h7 h42 h43 hat
    have : i = r := by omega
    subst this
    unfold c3_13
    rw [X_loop]
    simp [c3_12, r3_7, X_seq, X_region, X_cond, X_exit, X_skip, X_block, X_ret, runOps, wantedA, doOp, cls, pureOp, readOp, allocOp, effOp, writeAt, AF.put_p, binInt, isShift, IntKind.same, ltI_cast, leI_cast, cellsOf, addrAdd, oneCells, blt_dec, ble_dec, beq_dec, fillAt, callV_func, evs, same00, lt_irrefl_i, List.append_nil, List.nil_append, List.cons_append, X_regionD, runD, checkR, AV.same_refl, Bool.cond_self, Int.same_self, binStr, bs0, hn, h0, h7, h42, h43]
    exact ⟨a, hat⟩
  | succ k ih =>
    intro i f H a hi hn h0 h7 h42 h43 hat
    have hlt : i < r := by omega
    obtain ⟨H1, hz, ⟨e1, hg1⟩, ⟨e2, hg2⟩, sa, sn, sm, sx, H2, ha, ⟨e3, hg3⟩, hat'⟩ := hat.more K6 hc (by simp; omega)
    obtain ⟨_, ⟨e0, hg0⟩, _⟩ := hat
    have hrep : List.replicate i c ++ [c] = List.replicate (i + 1) c := by rw [List.replicate_succ']
    rw [hrep] at hat'
    have hmx := mx0 a0
    rw [hac] at hmx
    unfold c3_13
    rw [X_loop]
    simp [c3_12, r3_7, c3_10, r3_8, p3_9, r3_11, X_seq, X_region, X_cond, X_exit, X_skip, X_block, X_ret, runOps, wantedA, doOp, cls, pureOp, readOp, allocOp, effOp, writeAt, AF.put_p, binInt, isShift, IntKind.same, ltI_cast, leI_cast, cellsOf, addrAdd, oneCells, blt_dec, ble_dec, beq_dec, fillAt, callV_func, evs, same00, lt_irrefl_i, List.append_nil, List.nil_append, List.cons_append, X_regionD, runD, checkR, AV.same_refl, Bool.cond_self, Int.same_self, binStr, bs0, hn, h0, h7, h42, h43, hlt, mmAll, hmx, hz, hg0, hg1, hg2, hg3, ha, fill, rep, wrap_succ (show i + 1 ≤ 1099511627776 by omega)]
    refine (ih (i + 1) _ _ _ (by omega) (by simp [hn]) (by simp [h0]) (by simp [h7]) (by simp [h42]) (by simp) (hat' _)).mono ?_
    rintro ⟨e, f', H'⟩ ⟨g1, g2, g3, g4, g5⟩
    exact ⟨g1, g2, by simpa using g3, g4, g5⟩
/-- Whether the sizes are out of range. -/
def far (a0 a1 a2 : Int) : Bool := ltI 70 a0 || (ltI a0 (-1) || (ltI a1 0 || (ltI 70 a1 || (ltI a2 0 || ltI 70 a2))))
theorem far_c {E : Env} {f : AF} {H : AH} {a0 a1 a2 : Int} (hn : f.n = 89) (h0 : f.get 0 = .int .i64 a0) (h1 : f.get 1 = .int .i64 a1) (h2 : f.get 2 = .int .i64 a2) :
    Ok (X E (.region r3_2) f H) fun q => q.1 = .normal ∧ q.2.1.n = 89 ∧ q.2.1.get 0 = .int .i64 a0 ∧ q.2.1.get 1 = .int .i64 a1 ∧ q.2.1.get 2 = .int .i64 a2 ∧ q.2.1.get 33 = .bool (far a0 a1 a2) ∧ q.2.2 = H := by
  unfold far
  cases c1 : ltI 70 a0 with
  | true => simp [r3_2, X_seq, X_region, X_cond, X_exit, X_skip, X_block, X_ret, runOps, wantedA, doOp, cls, pureOp, readOp, allocOp, effOp, writeAt, AF.put_p, binInt, isShift, IntKind.same, ltI_cast, leI_cast, cellsOf, addrAdd, oneCells, blt_dec, ble_dec, beq_dec, fillAt, callV_func, evs, same00, lt_irrefl_i, List.append_nil, List.nil_append, List.cons_append, X_regionD, runD, checkR, AV.same_refl, Bool.cond_self, Int.same_self, binStr, bs0, hn, h0, h1, h2, c1]
  | false =>
    cases c2 : ltI a0 (-1) with
    | true => simp [r3_2, X_seq, X_region, X_cond, X_exit, X_skip, X_block, X_ret, runOps, wantedA, doOp, cls, pureOp, readOp, allocOp, effOp, writeAt, AF.put_p, binInt, isShift, IntKind.same, ltI_cast, leI_cast, cellsOf, addrAdd, oneCells, blt_dec, ble_dec, beq_dec, fillAt, callV_func, evs, same00, lt_irrefl_i, List.append_nil, List.nil_append, List.cons_append, X_regionD, runD, checkR, AV.same_refl, Bool.cond_self, Int.same_self, binStr, bs0, hn, h0, h1, h2, c1, c2]
    | false =>
      cases c3 : ltI a1 0 with
      | true => simp [r3_2, X_seq, X_region, X_cond, X_exit, X_skip, X_block, X_ret, runOps, wantedA, doOp, cls, pureOp, readOp, allocOp, effOp, writeAt, AF.put_p, binInt, isShift, IntKind.same, ltI_cast, leI_cast, cellsOf, addrAdd, oneCells, blt_dec, ble_dec, beq_dec, fillAt, callV_func, evs, same00, lt_irrefl_i, List.append_nil, List.nil_append, List.cons_append, X_regionD, runD, checkR, AV.same_refl, Bool.cond_self, Int.same_self, binStr, bs0, hn, h0, h1, h2, c1, c2, c3]
      | false =>
        cases c4 : ltI 70 a1 with
        | true => simp [r3_2, X_seq, X_region, X_cond, X_exit, X_skip, X_block, X_ret, runOps, wantedA, doOp, cls, pureOp, readOp, allocOp, effOp, writeAt, AF.put_p, binInt, isShift, IntKind.same, ltI_cast, leI_cast, cellsOf, addrAdd, oneCells, blt_dec, ble_dec, beq_dec, fillAt, callV_func, evs, same00, lt_irrefl_i, List.append_nil, List.nil_append, List.cons_append, X_regionD, runD, checkR, AV.same_refl, Bool.cond_self, Int.same_self, binStr, bs0, hn, h0, h1, h2, c1, c2, c3, c4]
        | false =>
          cases c5 : ltI a2 0 with
          | true => simp [r3_2, X_seq, X_region, X_cond, X_exit, X_skip, X_block, X_ret, runOps, wantedA, doOp, cls, pureOp, readOp, allocOp, effOp, writeAt, AF.put_p, binInt, isShift, IntKind.same, ltI_cast, leI_cast, cellsOf, addrAdd, oneCells, blt_dec, ble_dec, beq_dec, fillAt, callV_func, evs, same00, lt_irrefl_i, List.append_nil, List.nil_append, List.cons_append, X_regionD, runD, checkR, AV.same_refl, Bool.cond_self, Int.same_self, binStr, bs0, hn, h0, h1, h2, c1, c2, c3, c4, c5]
          | false => simp [r3_2, X_seq, X_region, X_cond, X_exit, X_skip, X_block, X_ret, runOps, wantedA, doOp, cls, pureOp, readOp, allocOp, effOp, writeAt, AF.put_p, binInt, isShift, IntKind.same, ltI_cast, leI_cast, cellsOf, addrAdd, oneCells, blt_dec, ble_dec, beq_dec, fillAt, callV_func, evs, same00, lt_irrefl_i, List.append_nil, List.nil_append, List.cons_append, X_regionD, runD, checkR, AV.same_refl, Bool.cond_self, Int.same_self, binStr, bs0, hn, h0, h1, h2, c1, c2, c3, c4, c5]
end Go.Proofs.YtpkldpbjjbplmaaGreatDoor.Det

/-! MatrixSizes: the whole law, as a run on a heap, joined. -/
namespace Go.Proofs.YtpkldpbjjbplmaaGreatDoor.Det
open Go
set_option linter.unusedVariables false
set_option linter.unusedSimpArgs false
structure Both (E : Env) : Prop extends Side E where
  k3 : Knows E 3 F3
  k6 : Knows E 6 F6
  k8 : Knows E 8 F8
  k25 : Knows E 25 F25
  k9 : Knows E 9 F9
  k26 : Knows E 26 F26
  p61 : E.prim 61 [.str [48]] = some (.int .i64 0)
  k60 : Knows E 60 F60
  k90 : Knows E 90 F90
  k114 : Knows E 114 F114
  k91 : Knows E 91 F91
  p4 : E.prim 4 [] = some (.bool true)
theorem far_off {a0 a1 a2 : Int} (h : far a0 a1 a2 = false) : a0 ≤ 70 ∧ -1 ≤ a0 ∧ 0 ≤ a1 ∧ a1 ≤ 70 ∧ 0 ≤ a2 ∧ a2 ≤ 70 := by
  simp only [far, ltI, Bool.or_eq_false_iff, decide_eq_false_iff_not] at h
  omega
theorem At.mat {p : Nat} {a0 : Int} {ls : List Nat} {a : AV} {H : AH} (h : At p a0 ls a H) (hne : ls ≠ []) : Mat H ls a := (h.acc ⟨H.m, p + 1⟩ rfl).mat hne
theorem tail_c {E : Env} (K : Both E) {p : Nat} {a0 : Int} {ls : List Nat} {a : AV} {H : AH} {f : AF} (h : At p a0 ls a H) (hne : ls ≠ []) (hl : ls.length ≤ 900) (hs : ∀ x ∈ ls, x ≤ 1000) (hn : f.n = 89) (h7 : f.get 7 = .ptr (some (p, 0))) :
    Ok (X E (.seq (.region r3_16) (.seq (.region r3_17) (.seq (.regionD r3_18 p3_19) .ret))) f H) fun q => q.1 = .ret ∧ q.2.1.n = 89 ∧ q.2.1.get 6 = .bool true := by
  have hm := h.mat hne
  obtain ⟨hlt, ⟨el, hat⟩, _⟩ := h
  obtain ⟨⟨v1, H1⟩, hr1, rfl, hk1⟩ := rank_c K.toSide (cols := a0) hm hl hs hne
  simp only at hk1
  have hat1 : H1.get p = some (.cells [.int .i64 a0, a] false el) := by rw [hk1.2 p hlt]; exact hat
  have hm1 := hm.keeps hk1
  refine Ok_seq (fun f' h' => f'.n = 89 ∧ f'.get 7 = .ptr (some (p, 0)) ∧ f'.get 8 = .int .i64 0 ∧ f'.get 9 = .int .i64 (chk a0 ls) ∧ h' = H1) (by simp [r3_16, X_seq, X_region, X_cond, X_exit, X_skip, X_block, X_ret, runOps, wantedA, doOp, cls, pureOp, readOp, allocOp, effOp, writeAt, AF.put_p, binInt, isShift, IntKind.same, ltI_cast, leI_cast, cellsOf, addrAdd, oneCells, blt_dec, ble_dec, beq_dec, fillAt, callV_func, evs, same00, lt_irrefl_i, List.append_nil, List.nil_append, List.cons_append, X_regionD, runD, checkR, AV.same_refl, Bool.cond_self, Int.same_self, binStr, bs0, hn, h7, hat, hr1, cellsAt]) ?_
  rintro f h' ⟨hn, h7, h8, h9, rfl⟩
  obtain ⟨⟨v2, H2⟩, hr2, rfl, hk2⟩ := rrank_c K.k8 K.k25 K.k9 K.k26 K.p61 K.k60 K.k90 K.k114 K.k91 (cols := a0) hm1 hl hs hne
  simp only at hk2
  have hlt1 : p < h'.next := by have := hk1.1; omega
  have hat2 : H2.get p = some (.cells [.int .i64 a0, a] false el) := by rw [hk2.2 p hlt1]; exact hat1
  have hlt2 : p < H2.next := by have := hk2.1; omega
  have hm2 := hm1.keeps hk2
  refine Ok_seq (fun f' h'' => f'.n = 89 ∧ f'.get 7 = .ptr (some (p, 0)) ∧ f'.get 8 = .int .i64 0 ∧ f'.get 9 = .int .i64 (chk a0 ls) ∧ f'.get 10 = .int .i64 0 ∧ f'.get 11 = .int .i64 (chk a0 ls) ∧ h'' = H2) (by simp [r3_17, X_seq, X_region, X_cond, X_exit, X_skip, X_block, X_ret, runOps, wantedA, doOp, cls, pureOp, readOp, allocOp, effOp, writeAt, AF.put_p, binInt, isShift, IntKind.same, ltI_cast, leI_cast, cellsOf, addrAdd, oneCells, blt_dec, ble_dec, beq_dec, fillAt, callV_func, evs, same00, lt_irrefl_i, List.append_nil, List.nil_append, List.cons_append, X_regionD, runD, checkR, AV.same_refl, Bool.cond_self, Int.same_self, binStr, bs0, hn, h7, h8, h9, hat1, hr2, cellsAt]) ?_
  rintro f h'' ⟨hn, h7, h8, h9, h10, h11, rfl⟩
  have hc5 := check_c K.k5 K.k20 K.k53 K.k21 K.k22 K.p23 (cols := a0) hm2 (by omega) hs
  have hk3 := Keeps.new h'' (.cells [.int .i64 a0, a] false none)
  have hc9 := rcheck_c K.k9 K.k26 K.p61 (cols := a0) (hm2.keeps hk3) (by omega) hs
  have hat3 : (h''.new (.cells [.int .i64 a0, a] false none)).get p = some (.cells [.int .i64 a0, a] false el) := by rw [hk3.2 p hlt2]; exact hat2
  have hat4 : ((h''.new (.cells [.int .i64 a0, a] false none)).new (.cells [.int .i64 a0, a] false none)).get p = some (.cells [.int .i64 a0, a] false el) := by rw [(Keeps.new _ _).2 p (by simp; omega)]; exact hat3
  have hp4 : ∀ H, C E 4 [] H = some (.bool true, H) := fun H => C_prim K.p4
  simp [r3_18, p3_19, X_seq, X_region, X_cond, X_exit, X_skip, X_block, X_ret, runOps, wantedA, doOp, cls, pureOp, readOp, allocOp, effOp, writeAt, AF.put_p, binInt, isShift, IntKind.same, ltI_cast, leI_cast, cellsOf, addrAdd, oneCells, blt_dec, ble_dec, beq_dec, fillAt, callV_func, evs, same00, lt_irrefl_i, List.append_nil, List.nil_append, List.cons_append, X_regionD, runD, checkR, AV.same_refl, Bool.cond_self, Int.same_self, binStr, bs0, hn, h7, h8, h9, h10, h11, hat2, hat3, hat4, hp4, hc5, hc9, cellsAt]
theorem sizes_c {E : Env} (K : Both E) (H : AH) (a0 a1 a2 : Int) : Ok (C E 3 [.int .i64 a0, .int .i64 a1, .int .i64 a2] H) fun q => q.1 = .bool true := by
  rw [K.k3.C]
  refine Ok_bind ?_
  show Ok (X E c3_0 _ _) _
  unfold c3_0
  refine Ok_seq (fun f' h' => f'.n = 89 ∧ f'.get 0 = .int .i64 a0 ∧ f'.get 1 = .int .i64 a1 ∧ f'.get 2 = .int .i64 a2 ∧ h' = H) (by simp [F3, r3_1, X_seq, X_region, X_cond, X_exit, X_skip, X_block, X_ret, runOps, wantedA, doOp, cls, pureOp, readOp, allocOp, effOp, writeAt, AF.put_p, binInt, isShift, IntKind.same, ltI_cast, leI_cast, cellsOf, addrAdd, oneCells, blt_dec, ble_dec, beq_dec, fillAt, callV_func, evs, same00, lt_irrefl_i, List.append_nil, List.nil_append, List.cons_append, X_regionD, runD, checkR, AV.same_refl, Bool.cond_self, Int.same_self, binStr, bs0, AF.init_n, init3_get]) ?_
  rintro f h ⟨hn, h0, h1, h2, rfl⟩
  refine Ok_seq' (fun f' h' => f'.n = 89 ∧ f'.get 0 = .int .i64 a0 ∧ f'.get 1 = .int .i64 a1 ∧ f'.get 2 = .int .i64 a2 ∧ far a0 a1 a2 = false ∧ h' = h) ?_ ?_
  · obtain ⟨⟨e, f', h'⟩, hr, rfl, hn, h0, h1, h2, h33, rfl⟩ := far_c (E := E) (H := h) hn h0 h1 h2
    simp only at hn h0 h1 h2 h33
    cases hf : far a0 a1 a2 with
    | false =>
      rw [hf] at h33
      rw [X_seq, hr]
      simp [X_seq, X_region, X_cond, X_exit, X_skip, X_block, X_ret, runOps, wantedA, doOp, cls, pureOp, readOp, allocOp, effOp, writeAt, AF.put_p, binInt, isShift, IntKind.same, ltI_cast, leI_cast, cellsOf, addrAdd, oneCells, blt_dec, ble_dec, beq_dec, fillAt, callV_func, evs, same00, lt_irrefl_i, List.append_nil, List.nil_append, List.cons_append, X_regionD, runD, checkR, AV.same_refl, Bool.cond_self, Int.same_self, binStr, bs0, hn, h0, h1, h2, h33]
    | true =>
      rw [hf] at h33
      have hp4 : ∀ H, C E 4 [] H = some (.bool true, H) := fun H => C_prim K.p4
      rw [X_seq, hr]
      simp [c3_4, r3_3, X_seq, X_region, X_cond, X_exit, X_skip, X_block, X_ret, runOps, wantedA, doOp, cls, pureOp, readOp, allocOp, effOp, writeAt, AF.put_p, binInt, isShift, IntKind.same, ltI_cast, leI_cast, cellsOf, addrAdd, oneCells, blt_dec, ble_dec, beq_dec, fillAt, callV_func, evs, same00, lt_irrefl_i, List.append_nil, List.nil_append, List.cons_append, X_regionD, runD, checkR, AV.same_refl, Bool.cond_self, Int.same_self, binStr, bs0, hn, h0, h1, h2, h33, hp4, check_nil K.k5, fill, F3, callEnd, resAll, resOf]
  rintro f h' ⟨hn, h0, h1, h2, hfar, rfl⟩
  obtain ⟨b1, b2, b3, b4, b5, b6⟩ := far_off hfar
  obtain ⟨r, rfl⟩ := Int.eq_ofNat_of_zero_le b3
  obtain ⟨d, rfl⟩ := Int.eq_ofNat_of_zero_le b5
  refine Ok_seq (fun f' h'' => f'.n = 89 ∧ f'.get 0 = .int .i64 a0 ∧ f'.get 1 = .int .i64 (r : Int) ∧ f'.get 2 = .int .i64 (d : Int) ∧ f'.get 7 = .ptr (some (h'.next, 0)) ∧ At h'.next a0 [] (.slice none 0 0 0) h'') ?_ ?_
  · simp [r3_5, X_seq, X_region, X_cond, X_exit, X_skip, X_block, X_ret, runOps, wantedA, doOp, cls, pureOp, readOp, allocOp, effOp, writeAt, AF.put_p, binInt, isShift, IntKind.same, ltI_cast, leI_cast, cellsOf, addrAdd, oneCells, blt_dec, ble_dec, beq_dec, fillAt, callV_func, evs, same00, lt_irrefl_i, List.append_nil, List.nil_append, List.cons_append, X_regionD, runD, checkR, AV.same_refl, Bool.cond_self, Int.same_self, binStr, bs0, hn, h0, h1, h2, fill, cellsAt]
    exact ⟨by simp, ⟨some (27, true), by simp⟩, fun B hB => .inl ⟨rfl, rfl⟩⟩
  rintro f h'' ⟨hn, h0, h1, h2, h7, hat⟩
  generalize h'.next = p at *
  refine Ok_seq (fun f' h3 => f'.n = 89 ∧ f'.get 2 = .int .i64 (d : Int) ∧ f'.get 7 = .ptr (some (p, 0)) ∧ ∃ a, At p a0 (List.replicate r a0.toNat) a h3) ?_ ?_
  · refine Ok_seq (fun f' h3 => f'.n = 89 ∧ f'.get 0 = .int .i64 a0 ∧ f'.get 2 = .int .i64 (d : Int) ∧ f'.get 7 = .ptr (some (p, 0)) ∧ f'.get 42 = .int .i64 (r : Int) ∧ f'.get 43 = .int .i64 0 ∧ h3 = h'') (by simp [r3_6, X_seq, X_region, X_cond, X_exit, X_skip, X_block, X_ret, runOps, wantedA, doOp, cls, pureOp, readOp, allocOp, effOp, writeAt, AF.put_p, binInt, isShift, IntKind.same, ltI_cast, leI_cast, cellsOf, addrAdd, oneCells, blt_dec, ble_dec, beq_dec, fillAt, callV_func, evs, same00, lt_irrefl_i, List.append_nil, List.nil_append, List.cons_append, X_regionD, runD, checkR, AV.same_refl, Bool.cond_self, Int.same_self, binStr, bs0, hn, h0, h1, h2, h7]) ?_
    rintro f h3 ⟨hn, h0, h2, h7, h42, h43, rfl⟩
    refine Ok_block ?_
    refine (fill_loop K.k6 (p := p) (r := r) (a0 := a0) rfl (by omega) (by omega) r 0 f h3 _ (by omega) hn h0 h7 h42 h43 hat).mono ?_
    rintro ⟨e, f', h4⟩ ⟨rfl, g2, g3, g4, g5⟩
    simp only at g2 g3 g4 g5
    simp [beq_dec, g2, g3, g4, h2, g5]
  rintro f h3 ⟨hn, h2, h7, a, hat⟩
  refine Ok_seq (fun f' h4 => f'.n = 89 ∧ f'.get 7 = .ptr (some (p, 0)) ∧ ∃ a, At p a0 (List.replicate r a0.toNat ++ [d]) a h4) ?_ ?_
  · obtain ⟨H1, hz, ⟨e1, hg1⟩, ⟨e2, hg2⟩, sa, sn, sm, sx, H2, ha, ⟨e3, hg3⟩, hat'⟩ := hat.more K.k6 (c := d) (by omega) (by simp; omega)
    obtain ⟨_, ⟨e0, hg0⟩, _⟩ := hat
    simp [r3_14, p3_15, X_seq, X_region, X_cond, X_exit, X_skip, X_block, X_ret, runOps, wantedA, doOp, cls, pureOp, readOp, allocOp, effOp, writeAt, AF.put_p, binInt, isShift, IntKind.same, ltI_cast, leI_cast, cellsOf, addrAdd, oneCells, blt_dec, ble_dec, beq_dec, fillAt, callV_func, evs, same00, lt_irrefl_i, List.append_nil, List.nil_append, List.cons_append, X_regionD, runD, checkR, AV.same_refl, Bool.cond_self, Int.same_self, binStr, bs0, hn, h2, h7, hz, hg0, hg1, hg2, hg3, ha, fill, rep]
    exact ⟨_, hat' _⟩
  rintro f h4 ⟨hn, h7, a, hat⟩
  refine (tail_c K hat (by simp) (by simp; omega) ?_ hn h7).mono ?_
  · intro x hx
    rcases List.mem_append.1 hx with hx | hx
    · have := (List.mem_replicate.1 hx).2; omega
    · simp at hx; omega
  rintro ⟨e, f', h5⟩ ⟨rfl, g2, g3⟩
  simp only at g2 g3
  simp [g3, F3, callEnd, resAll, resOf]
end Go.Proofs.YtpkldpbjjbplmaaGreatDoor.Det
