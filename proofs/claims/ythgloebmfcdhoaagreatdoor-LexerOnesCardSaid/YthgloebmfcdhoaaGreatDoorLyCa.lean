import Derived.Test.YthgloebmfcdhoaaGreatDoorVc
set_option maxRecDepth 100000
set_option linter.unusedVariables false
set_option linter.unusedSimpArgs false
namespace Go.AM.Ly
open Go
noncomputable section
def c3r : List RRes := [.tmp 2]
def c3_2 : RCode :=
 .ret
def o3_3_61 : List ROper :=
  ⟨some 125, .pick (.t 119) (.t 124) (.c (.bool false)), none⟩ ::
  ⟨some 2, .mv (.t 125), none⟩ ::
  []
def o3_3_60 : List ROper :=
  ⟨some 124, .bin (some .other) none .eql (.t 123) (.c (.int .i64 (.negSucc 0))), some (119, true)⟩ ::
  o3_3_61
def o3_3_59 : List ROper :=
  ⟨some 123, .load false 1 (.t 122), some (119, true)⟩ ::
  o3_3_60
def o3_3_58 : List ROper :=
  ⟨some 122, .faddr 0 (.t 121), some (119, true)⟩ ::
  o3_3_59
def o3_3_57 : List ROper :=
  ⟨some 121, .iaddrS 4 (.t 120) (.c (.int .i64 1)), some (119, true)⟩ ::
  o3_3_58
def o3_3_54 : List ROper :=
  ⟨some 118, .pick (.t 109) (.t 117) (.c (.bool false)), none⟩ ::
  ⟨some 119, .mv (.t 118), none⟩ ::
  ⟨some 120, .mv (.t 13), some (119, true)⟩ ::
  o3_3_57
def o3_3_53 : List ROper :=
  ⟨some 117, .bin (some .other) (some [.int, .int, .int, .int]) .eql (.t 112) (.t 116), some (109, true)⟩ ::
  o3_3_54
def o3_3_52 : List ROper :=
  ⟨some 116, .build [(.int .i64 0), (.int .i64 0), (.int .i64 0), (.int .i64 0)] [(2, 1, (.t 113)), (3, 1, (.t 115))], some (109, true)⟩ ::
  o3_3_53
def o3_3_51 : List ROper :=
  ⟨some 115, .bin (some .other) none .add (.t 114) (.c (.int .i64 1)), some (109, true)⟩ ::
  o3_3_52
def o3_3_50 : List ROper :=
  ⟨some 114, .mv (.t 3), some (109, true)⟩ ::
  o3_3_51
def o3_3_49 : List ROper :=
  ⟨some 113, .mv (.t 3), some (109, true)⟩ ::
  o3_3_50
def o3_3_48 : List ROper :=
  ⟨some 112, .load true 4 (.t 111), some (109, true)⟩ ::
  o3_3_49
def o3_3_47 : List ROper :=
  ⟨some 111, .iaddrS 4 (.t 110) (.c (.int .i64 0)), some (109, true)⟩ ::
  o3_3_48
def o3_3_44 : List ROper :=
  ⟨some 108, .pick (.t 104) (.t 107) (.c (.bool false)), none⟩ ::
  ⟨some 109, .mv (.t 108), none⟩ ::
  ⟨some 110, .mv (.t 13), some (109, true)⟩ ::
  o3_3_47
def o3_3_43 : List ROper :=
  ⟨some 107, .bin (some .other) none .eql (.t 106) (.c (.int .i64 2)), some (104, true)⟩ ::
  o3_3_44
def o3_3_42 : List ROper :=
  ⟨some 106, .len .sl (.t 105), some (104, true)⟩ ::
  o3_3_43
def o3_3_39 : List ROper :=
  ⟨some 103, .pick (.t 94) (.t 102) (.c (.bool false)), none⟩ ::
  ⟨some 104, .mv (.t 103), none⟩ ::
  ⟨some 105, .mv (.t 13), some (104, true)⟩ ::
  o3_3_42
def o3_3_38 : List ROper :=
  ⟨some 102, .bin (some .other) (some [.int, .int, .int, .int]) .eql (.t 97) (.t 101), some (94, true)⟩ ::
  o3_3_39
def o3_3_37 : List ROper :=
  ⟨some 101, .build [(.int .i64 0), (.int .i64 0), (.int .i64 0), (.int .i64 0)] [(2, 1, (.t 98)), (3, 1, (.t 100))], some (94, true)⟩ ::
  o3_3_38
def o3_3_36 : List ROper :=
  ⟨some 100, .bin (some .other) none .add (.t 99) (.c (.int .i64 1)), some (94, true)⟩ ::
  o3_3_37
def o3_3_35 : List ROper :=
  ⟨some 99, .mv (.t 3), some (94, true)⟩ ::
  o3_3_36
def o3_3_34 : List ROper :=
  ⟨some 98, .mv (.t 3), some (94, true)⟩ ::
  o3_3_35
def o3_3_33 : List ROper :=
  ⟨some 97, .load true 4 (.t 96), some (94, true)⟩ ::
  o3_3_34
def o3_3_32 : List ROper :=
  ⟨some 96, .iaddrS 4 (.t 95) (.c (.int .i64 0)), some (94, true)⟩ ::
  o3_3_33
def o3_3_29 : List ROper :=
  ⟨some 93, .pick (.t 89) (.t 92) (.c (.bool false)), none⟩ ::
  ⟨some 94, .mv (.t 93), none⟩ ::
  ⟨some 95, .mv (.t 12), some (94, true)⟩ ::
  o3_3_32
def o3_3_28 : List ROper :=
  ⟨some 92, .bin (some .other) none .eql (.t 91) (.c (.int .i64 1)), some (89, true)⟩ ::
  o3_3_29
def o3_3_27 : List ROper :=
  ⟨some 91, .len .sl (.t 90), some (89, true)⟩ ::
  o3_3_28
def o3_3_24 : List ROper :=
  ⟨some 88, .pick (.t 78) (.t 87) (.c (.bool false)), none⟩ ::
  ⟨some 89, .mv (.t 88), none⟩ ::
  ⟨some 90, .mv (.t 12), some (89, true)⟩ ::
  o3_3_27
def o3_3_23 : List ROper :=
  ⟨some 87, .bin (some .other) none .eql (.t 84) (.t 86), some (78, true)⟩ ::
  o3_3_24
def o3_3_22 : List ROper :=
  ⟨some 86, .bin (some .other) none .add (.t 85) (.c (.int .i64 1)), some (78, true)⟩ ::
  o3_3_23
def o3_3_21 : List ROper :=
  ⟨some 85, .mv (.t 3), some (78, true)⟩ ::
  o3_3_22
def o3_3_20 : List ROper :=
  ⟨some 84, .load false 1 (.t 83), some (78, true)⟩ ::
  o3_3_21
def o3_3_19 : List ROper :=
  ⟨some 83, .faddr 3 (.t 82), some (78, true)⟩ ::
  o3_3_20
def o3_3_18 : List ROper :=
  ⟨some 82, .iaddrS 4 (.t 79) (.t 81), some (78, true)⟩ ::
  o3_3_19
def o3_3_17 : List ROper :=
  ⟨some 81, .bin (some .other) none .sub (.t 80) (.c (.int .i64 1)), some (78, true)⟩ ::
  o3_3_18
def o3_3_16 : List ROper :=
  ⟨some 80, .mv (.t 3), some (78, true)⟩ ::
  o3_3_17
def o3_3_13 : List ROper :=
  ⟨some 77, .pick (.t 71) (.t 76) (.c (.bool false)), none⟩ ::
  ⟨some 78, .mv (.t 77), none⟩ ::
  ⟨some 79, .mv (.t 11), some (78, true)⟩ ::
  o3_3_16
def o3_3_12 : List ROper :=
  ⟨some 76, .bin (some .other) none .eql (.t 75) (.c (.int .i64 1)), some (71, true)⟩ ::
  o3_3_13
def o3_3_11 : List ROper :=
  ⟨some 75, .load false 1 (.t 74), some (71, true)⟩ ::
  o3_3_12
def o3_3_10 : List ROper :=
  ⟨some 74, .faddr 2 (.t 73), some (71, true)⟩ ::
  o3_3_11
def o3_3_9 : List ROper :=
  ⟨some 73, .iaddrS 4 (.t 72) (.c (.int .i64 0)), some (71, true)⟩ ::
  o3_3_10
def o3_3_6 : List ROper :=
  ⟨some 70, .pick (.t 65) (.t 69) (.c (.bool false)), none⟩ ::
  ⟨some 71, .mv (.t 70), none⟩ ::
  ⟨some 72, .mv (.t 11), some (71, true)⟩ ::
  o3_3_9
def o3_3_5 : List ROper :=
  ⟨some 69, .bin (some .other) none .eql (.t 67) (.t 68), some (65, true)⟩ ::
  o3_3_6
def o3_3_4 : List ROper :=
  ⟨some 68, .mv (.t 3), some (65, true)⟩ ::
  o3_3_5
def o3_3_3 : List ROper :=
  ⟨some 67, .len .sl (.t 66), some (65, true)⟩ ::
  o3_3_4
def c3_1 : RCode :=
 (.seq (.region [⟨some 51, .mv (.t 5), none⟩,
  ⟨some 52, .mv (.t 9), none⟩,
  ⟨some 53, .call (.c (.fn 7 [] [])) [(.t 51), (.t 52)], none⟩,
  ⟨some 54, .mv (.t 7), none⟩,
  ⟨some 55, .mv (.t 9), none⟩,
  ⟨some 56, .call (.c (.fn 7 [] [])) [(.t 54), (.t 55)], none⟩,
  ⟨some 57, .mv (.t 7), none⟩,
  ⟨some 58, .lit false 1 0 [] [], none⟩,
  ⟨some 59, .mv (.t 9), none⟩,
  ⟨some 60, .append 1 1 [(.int .u8 0)] false (.t 58) (.t 59), none⟩,
  ⟨some 61, .lit false 1 1 [(.int .u8 0)] [(0, 1, (.c (.int .u8 98)))], none⟩,
  ⟨some 62, .append 1 1 [(.int .u8 0)] false (.t 60) (.t 61), none⟩,
  ⟨some 63, .call (.c (.fn 7 [] [])) [(.t 57), (.t 62)], none⟩,
  ⟨some 11, .mv (.t 53), none⟩,
  ⟨some 12, .mv (.t 56), none⟩,
  ⟨some 13, .mv (.t 63), none⟩])
 (.seq (.region (⟨some 64, .call (.c (.fn 8 [] [])) [], none⟩ ::
  ⟨some 65, .mv (.t 64), none⟩ ::
  ⟨some 66, .mv (.t 11), some (65, true)⟩ ::
  o3_3_3))
 c3_2))
def c3_51 : RCode :=
 (.region [⟨some 46, .mv (.t 10), none⟩,
  ⟨some 47, .bin (some .other) none .add (.t 46) (.c (.int .i64 1)), none⟩,
  ⟨some 10, .mv (.t 47), none⟩])
def c3_50 : RCode :=
 (.seq (.block 1
 (.region [⟨some 48, .mv (.t 9), none⟩,
  ⟨some 49, .lit false 1 1 [(.int .u8 0)] [(0, 1, (.c (.int .u8 97)))], none⟩,
  ⟨some 50, .append 1 1 [(.int .u8 0)] false (.t 48) (.t 49), none⟩,
  ⟨some 9, .mv (.t 50), none⟩]))
 c3_51)
def c3_49 : RCode :=
 (.seq (.seq (.region [⟨some 43, .mv (.t 10), none⟩,
  ⟨some 44, .mv (.t 3), none⟩,
  ⟨some 45, .bin (some .other) none .lss (.t 43) (.t 44), none⟩])
 (.cond (.t 45)
 .skip
 (.exit 0)))
 c3_50)
def c3_0 : RCode :=
 (.seq (.region [⟨some 9, .mv (.c .nils), none⟩])
 (.seq (.seq (.region [⟨some 10, .mv (.c (.int .i64 0)), none⟩])
 (.block 0
 (.loop c3_49)))
 c3_1))
def c3_54 : RCode :=
 (.cond (.t 42)
 (.seq (.region [⟨some 2, .mv (.c (.bool false)), none⟩])
 .ret)
 .skip)
def o3_55_5 : List ROper :=
  ⟨some 42, .pick (.t 39) (.c (.bool true)) (.t 41), none⟩ ::
  []
def o3_55_4 : List ROper :=
  ⟨some 41, .bin (some .other) none .neq (.t 40) (.c (.int .i64 0)), some (39, false)⟩ ::
  o3_55_5
def c3b : RCode :=
 (.seq (.region [⟨some 2, .mv (.c (.bool false)), none⟩])
 (.seq (.region [⟨some 14, .mv (.t 0), none⟩,
  ⟨some 15, .conv (.int .u64) (.t 14), none⟩,
  ⟨some 16, .bin (some .other) none .rem (.t 15) (.c (.int .u64 40)), none⟩,
  ⟨some 17, .conv (.int .i64) (.t 16), none⟩,
  ⟨some 18, .bin (some .other) none .add (.c (.int .i64 1)) (.t 17), none⟩,
  ⟨some 3, .mv (.t 18), none⟩])
 (.seq (.region [⟨some 19, .call (.c (.fn 5 [] [])) [(.c (.int .i32 97))], none⟩,
  ⟨some 4, .alloc [(.int .i64 0), .nils, .nils], none⟩,
  ⟨none, .store 3 (.t 4) (.t 19), none⟩])
 (.seq (.region [⟨some 21, .load true 3 (.t 4), none⟩,
  ⟨some 22, .lit false 3 1 [(.int .i64 0), .nils, .nils] [(0, 3, (.t 21))], none⟩,
  ⟨some 23, .call (.c (.fn 6 [] [])) [(.t 22), (.c (.int .i64 9))], none⟩,
  ⟨some 20, .mv (.t 23), none⟩,
  ⟨some 24, .extract 0 (.t 20), none⟩,
  ⟨some 25, .extract 1 (.t 20), none⟩,
  ⟨some 5, .mv (.t 24), none⟩,
  ⟨some 6, .mv (.t 25), none⟩])
 (.seq (.region [⟨some 27, .load true 3 (.t 4), none⟩,
  ⟨some 28, .load true 3 (.t 4), none⟩,
  ⟨some 29, .lit false 3 1 [(.int .i64 0), .nils, .nils] [(0, 3, (.t 28))], none⟩,
  ⟨some 30, .build [(.int .i64 0), .nils, .nils] [(0, 1, (.c (.int .i64 5))), (2, 1, (.t 29))], none⟩,
  ⟨some 31, .lit false 3 2 [(.int .i64 0), .nils, .nils, (.int .i64 0), .nils, .nils] [(0, 3, (.t 27)), (3, 3, (.t 30))], none⟩,
  ⟨some 32, .build [(.int .i64 0), .nils, .nils] [(0, 1, (.c (.int .i64 3))), (2, 1, (.t 31))], none⟩,
  ⟨some 33, .lit false 3 1 [(.int .i64 0), .nils, .nils] [(0, 3, (.t 32))], none⟩,
  ⟨some 34, .call (.c (.fn 6 [] [])) [(.t 33), (.c (.int .i64 9))], none⟩,
  ⟨some 26, .mv (.t 34), none⟩,
  ⟨some 35, .extract 0 (.t 26), none⟩,
  ⟨some 36, .extract 1 (.t 26), none⟩,
  ⟨some 7, .mv (.t 35), none⟩,
  ⟨some 8, .mv (.t 36), none⟩])
 (.seq (.seq (.region (⟨some 37, .mv (.t 6), none⟩ ::
  ⟨some 38, .bin (some .other) none .neq (.t 37) (.c (.int .i64 0)), none⟩ ::
  ⟨some 39, .mv (.t 38), none⟩ ::
  ⟨some 40, .mv (.t 8), some (39, false)⟩ ::
  o3_55_4))
 c3_54)
 c3_0))))))
def c3 : RFunc := ⟨c3r, some c3b, none⟩
def c4r : List RRes := [.tmp 4]
def c4_2 : RCode :=
 .ret
def o4_3_24 : List ROper :=
  ⟨some 61, .pick (.t 55) (.t 60) (.c (.bool false)), none⟩ ::
  ⟨some 4, .mv (.t 61), none⟩ ::
  []
def o4_3_23 : List ROper :=
  ⟨some 60, .bin (some .other) none .eql (.t 59) (.c (.int .i64 2)), some (55, true)⟩ ::
  o4_3_24
def o4_3_22 : List ROper :=
  ⟨some 59, .load false 1 (.t 58), some (55, true)⟩ ::
  o4_3_23
def o4_3_21 : List ROper :=
  ⟨some 58, .faddr 2 (.t 57), some (55, true)⟩ ::
  o4_3_22
def o4_3_20 : List ROper :=
  ⟨some 57, .iaddrS 4 (.t 56) (.c (.int .i64 0)), some (55, true)⟩ ::
  o4_3_21
def o4_3_17 : List ROper :=
  ⟨some 54, .pick (.t 47) (.t 53) (.c (.bool false)), none⟩ ::
  ⟨some 55, .mv (.t 54), none⟩ ::
  ⟨some 56, .mv (.t 11), some (55, true)⟩ ::
  o4_3_20
def o4_3_16 : List ROper :=
  ⟨some 53, .bin (some .other) none .eql (.t 51) (.t 52), some (47, true)⟩ ::
  o4_3_17
def o4_3_15 : List ROper :=
  ⟨some 52, .mv (.t 8), some (47, true)⟩ ::
  o4_3_16
def o4_3_14 : List ROper :=
  ⟨some 51, .load false 1 (.t 50), some (47, true)⟩ ::
  o4_3_15
def o4_3_13 : List ROper :=
  ⟨some 50, .faddr 0 (.t 49), some (47, true)⟩ ::
  o4_3_14
def o4_3_12 : List ROper :=
  ⟨some 49, .iaddrS 4 (.t 48) (.c (.int .i64 0)), some (47, true)⟩ ::
  o4_3_13
def o4_3_9 : List ROper :=
  ⟨some 46, .pick (.t 42) (.t 45) (.c (.bool false)), none⟩ ::
  ⟨some 47, .mv (.t 46), none⟩ ::
  ⟨some 48, .mv (.t 11), some (47, true)⟩ ::
  o4_3_12
def o4_3_8 : List ROper :=
  ⟨some 45, .bin (some .other) none .eql (.t 44) (.c (.int .i64 1)), some (42, true)⟩ ::
  o4_3_9
def o4_3_7 : List ROper :=
  ⟨some 44, .len .sl (.t 43), some (42, true)⟩ ::
  o4_3_8
def o4_3_4 : List ROper :=
  ⟨some 41, .pick (.t 38) (.t 40) (.c (.bool false)), none⟩ ::
  ⟨some 42, .mv (.t 41), none⟩ ::
  ⟨some 43, .mv (.t 11), some (42, true)⟩ ::
  o4_3_7
def o4_3_3 : List ROper :=
  ⟨some 40, .bin (some .other) none .eql (.t 39) (.c (.int .i64 0)), some (38, true)⟩ ::
  o4_3_4
def c4_1 : RCode :=
 (.seq (.region [⟨some 29, .mv (.t 7), none⟩,
  ⟨some 30, .call (.c (.fn 6 [] [])) [(.t 29), (.c (.int .i64 20))], none⟩,
  ⟨some 28, .mv (.t 30), none⟩,
  ⟨some 31, .extract 0 (.t 28), none⟩,
  ⟨some 32, .extract 1 (.t 28), none⟩,
  ⟨some 9, .mv (.t 31), none⟩,
  ⟨some 10, .mv (.t 32), none⟩])
 (.seq (.region [⟨some 33, .mv (.t 9), none⟩,
  ⟨some 34, .lit false 1 2 [(.int .u8 0), (.int .u8 0)] [(0, 1, (.c (.int .u8 97))), (1, 1, (.c (.int .u8 97)))], none⟩,
  ⟨some 35, .conv (.bytes true) (.t 34), none⟩,
  ⟨some 36, .call (.c (.fn 7 [] [])) [(.t 33), (.t 35)], none⟩,
  ⟨some 11, .mv (.t 36), none⟩])
 (.seq (.region (⟨some 37, .call (.c (.fn 8 [] [])) [], none⟩ ::
  ⟨some 38, .mv (.t 37), none⟩ ::
  ⟨some 39, .mv (.t 10), some (38, true)⟩ ::
  o4_3_3))
 c4_2)))
def c4_0 : RCode :=
 (.seq (.seq (.region [⟨some 24, .mv (.t 1), none⟩])
 (.cond (.t 24)
 (.region [⟨some 25, .load true 3 (.t 6), none⟩,
  ⟨some 26, .load true 3 (.t 6), none⟩,
  ⟨some 27, .lit false 3 2 [(.int .i64 0), .nils, .nils, (.int .i64 0), .nils, .nils] [(0, 3, (.t 25)), (3, 3, (.t 26))], none⟩,
  ⟨some 7, .mv (.t 27), none⟩,
  ⟨some 8, .mv (.c (.int .i64 0)), none⟩])
 .skip))
 c4_1)
def c4b : RCode :=
 (.seq (.region [⟨some 4, .mv (.c (.bool false)), none⟩])
 (.seq (.region [⟨some 12, .call (.c (.fn 5 [] [])) [(.c (.int .i32 97))], none⟩,
  ⟨some 5, .alloc [(.int .i64 0), .nils, .nils], none⟩,
  ⟨none, .store 3 (.t 5) (.t 12), none⟩])
 (.seq (.region [⟨some 13, .load true 3 (.t 5), none⟩,
  ⟨some 14, .load true 3 (.t 5), none⟩,
  ⟨some 15, .lit false 3 2 [(.int .i64 0), .nils, .nils, (.int .i64 0), .nils, .nils] [(0, 3, (.t 13)), (3, 3, (.t 14))], none⟩,
  ⟨some 16, .build [(.int .i64 0), .nils, .nils] [(0, 1, (.c (.int .i64 3))), (2, 1, (.t 15))], none⟩,
  ⟨some 6, .alloc [(.int .i64 0), .nils, .nils], none⟩,
  ⟨none, .store 3 (.t 6) (.t 16), none⟩])
 (.seq (.region [⟨some 17, .load true 3 (.t 5), none⟩,
  ⟨some 18, .load true 3 (.t 6), none⟩,
  ⟨some 19, .lit false 3 2 [(.int .i64 0), .nils, .nils, (.int .i64 0), .nils, .nils] [(0, 3, (.t 17)), (3, 3, (.t 18))], none⟩,
  ⟨some 7, .mv (.t 19), none⟩])
 (.seq (.region [⟨some 8, .mv (.c (.int .i64 1)), none⟩])
 (.seq (.seq (.region [⟨some 20, .mv (.t 0), none⟩])
 (.cond (.t 20)
 (.region [⟨some 21, .load true 3 (.t 6), none⟩,
  ⟨some 22, .load true 3 (.t 5), none⟩,
  ⟨some 23, .lit false 3 2 [(.int .i64 0), .nils, .nils, (.int .i64 0), .nils, .nils] [(0, 3, (.t 21)), (3, 3, (.t 22))], none⟩,
  ⟨some 7, .mv (.t 23), none⟩,
  ⟨some 8, .mv (.c (.int .i64 0)), none⟩])
 .skip))
 c4_0))))))
def c4 : RFunc := ⟨c4r, some c4b, none⟩
def c5r : List RRes := [.cell 2 true 3]
def c5b : RCode :=
 (.seq (.region [⟨some 2, .alloc [(.int .i64 0), .nils, .nils], none⟩])
 (.seq (.region [⟨some 3, .mv (.t 0), none⟩,
  ⟨some 4, .mv (.t 0), none⟩,
  ⟨some 5, .build [(.int .i32 0), (.int .i32 0)] [(0, 1, (.t 3)), (1, 1, (.t 4))], none⟩,
  ⟨some 6, .lit false 2 1 [(.int .i32 0), (.int .i32 0)] [(0, 2, (.t 5))], none⟩,
  ⟨some 7, .build [(.int .i64 0), .nils, .nils] [(0, 1, (.c (.int .i64 2))), (1, 1, (.t 6))], none⟩,
  ⟨none, .store 3 (.t 2) (.t 7), none⟩])
 .ret))
def c5 : RFunc := ⟨c5r, some c5b, none⟩
def c6r : List RRes := [.tmp 4, .tmp 5]
def c6b : RCode :=
 (.seq (.region [⟨some 2, .box (.t 0), none⟩,
  ⟨some 3, .box (.t 1), none⟩,
  ⟨some 4, .mv (.c .nilp), none⟩,
  ⟨some 5, .mv (.c (.int .i64 0)), none⟩])
 (.seq (.region [⟨some 6, .alloc [.nilp], none⟩])
 (.seq (.region [⟨some 8, .mkfn 10 [] [(.t 2), (.t 3), (.t 6)], none⟩,
  ⟨some 9, .call (.c (.fn 9 [] [])) [(.t 8)], none⟩,
  ⟨some 7, .mv (.t 9), none⟩])
 (.seq (.region [⟨some 10, .load false 1 (.t 6), none⟩,
  ⟨some 11, .mv (.t 7), none⟩,
  ⟨some 4, .mv (.t 10), none⟩,
  ⟨some 5, .mv (.t 11), none⟩])
 .ret))))
def c6 : RFunc := ⟨c6r, some c6b, none⟩
def c7r : List RRes := [.tmp 4]
def c7_0 : RCode :=
 (.seq (.region [⟨some 34, .mv (.t 5), none⟩,
  ⟨some 4, .mv (.t 34), none⟩])
 .ret)
def c7_2 : RCode :=
 (.block 1
 (.seq (.region [⟨some 21, .mv (.t 0), none⟩,
  ⟨some 22, .mv (.t 6), none⟩,
  ⟨some 23, .mv (.t 7), none⟩,
  ⟨some 24, .call (.c (.fn 17 [] [])) [(.t 21), (.t 22), (.t 23)], none⟩,
  ⟨some 20, .mv (.t 24), none⟩,
  ⟨some 25, .extract 0 (.t 20), none⟩,
  ⟨some 26, .extract 1 (.t 20), none⟩,
  ⟨some 8, .alloc [(.int .i64 0), (.int .i64 0), (.int .i64 0), (.int .i64 0)], none⟩,
  ⟨none, .store 4 (.t 8) (.t 25), none⟩,
  ⟨some 9, .mv (.t 26), none⟩])
 (.region [⟨some 27, .mv (.t 5), none⟩,
  ⟨some 28, .load true 4 (.t 8), none⟩,
  ⟨some 29, .lit false 4 1 [(.int .i64 0), (.int .i64 0), (.int .i64 0), (.int .i64 0)] [(0, 4, (.t 28))], none⟩,
  ⟨some 30, .append 4 32 [(.int .i64 0), (.int .i64 0), (.int .i64 0), (.int .i64 0)] false (.t 27) (.t 29), none⟩,
  ⟨some 31, .mv (.t 7), none⟩,
  ⟨some 32, .mv (.t 9), none⟩,
  ⟨some 33, .bin (some .other) none .add (.t 31) (.t 32), none⟩,
  ⟨some 5, .mv (.t 30), none⟩,
  ⟨some 7, .mv (.t 33), none⟩])))
def c7_4 : RCode :=
 (.cond (.t 19)
 .skip
 (.exit 0))
def o7_5_7 : List ROper :=
  ⟨some 19, .pick (.t 14) (.t 18) (.c (.bool false)), none⟩ ::
  []
def o7_5_6 : List ROper :=
  ⟨some 18, .bin (some .other) none .lss (.t 15) (.t 17), some (14, true)⟩ ::
  o7_5_7
def o7_5_5 : List ROper :=
  ⟨some 17, .len .sl (.t 16), some (14, true)⟩ ::
  o7_5_6
def o7_5_4 : List ROper :=
  ⟨some 16, .mv (.t 6), some (14, true)⟩ ::
  o7_5_5
def c7_1 : RCode :=
 (.seq (.seq (.region (⟨some 12, .mv (.t 0), none⟩ ::
  ⟨some 13, .bin (some .ptr) none .neq (.t 12) (.c .nilp), none⟩ ::
  ⟨some 14, .mv (.t 13), none⟩ ::
  ⟨some 15, .mv (.t 7), some (14, true)⟩ ::
  o7_5_4))
 c7_4)
 c7_2)
def c7b : RCode :=
 (.seq (.region [⟨some 4, .mv (.c .nils), none⟩])
 (.seq (.region [⟨some 5, .mv (.c .nils), none⟩])
 (.seq (.region [⟨some 10, .mv (.t 1), none⟩,
  ⟨some 11, .call (.c (.fn 16 [] [])) [(.t 10)], none⟩,
  ⟨some 6, .mv (.t 11), none⟩])
 (.seq (.seq (.region [⟨some 7, .mv (.c (.int .i64 0)), none⟩])
 (.block 0
 (.loop c7_1)))
 c7_0))))
def c7 : RFunc := ⟨c7r, some c7b, none⟩
def c8r : List RRes := [.tmp 0]
def c8_0 : RCode :=
 .ret
def o8_1_63 : List (ROper × List ROper) :=
  (⟨some 115, .pick (.t 109) (.t 114) (.c (.bool false)), none⟩, []) ::
  (⟨some 0, .mv (.t 115), none⟩, []) ::
  []
def o8_1_62 : List (ROper × List ROper) :=
  (⟨some 114, .un .not (.t 113), some (109, true)⟩, []) ::
  o8_1_63
def o8_1_61 : List (ROper × List ROper) :=
  (⟨some 113, .call (.c (.fn 19 [] [])) [(.t 110), (.t 112), (.c (.int .i64 0))], some (109, true)⟩, []) ::
  o8_1_62
def o8_1_60 : List (ROper × List ROper) :=
  (⟨some 112, .slice (.sl 5) (.t 111) none (some (.c (.int .i64 2))) none, some (109, true)⟩, []) ::
  o8_1_61
def o8_1_59 : List (ROper × List ROper) :=
  (⟨some 111, .mv (.t 8), some (109, true)⟩, []) ::
  o8_1_60
def o8_1_56 : List (ROper × List ROper) :=
  (⟨some 108, .pick (.t 104) (.t 107) (.c (.bool false)), none⟩, []) ::
  (⟨some 109, .mv (.t 108), none⟩, []) ::
  (⟨some 110, .mv (.t 3), some (109, true)⟩, []) ::
  o8_1_59
def o8_1_55 : List (ROper × List ROper) :=
  (⟨some 107, .call (.c (.fn 19 [] [])) [(.t 105), (.t 106), (.c (.int .i64 0))], some (104, true)⟩, []) ::
  o8_1_56
def o8_1_54 : List (ROper × List ROper) :=
  (⟨some 106, .mv (.t 8), some (104, true)⟩, []) ::
  o8_1_55
def o8_1_51 : List (ROper × List ROper) :=
  (⟨some 103, .pick (.t 100) (.t 102) (.c (.bool false)), none⟩, []) ::
  (⟨some 104, .mv (.t 103), none⟩, []) ::
  (⟨some 105, .mv (.t 3), some (104, true)⟩, []) ::
  o8_1_54
def o8_1_50 : List (ROper × List ROper) :=
  (⟨some 102, .bin (some .other) none .eql (.t 101) (.c (.int .i64 0)), some (100, true)⟩, []) ::
  o8_1_51
def o8_1_47 : List (ROper × List ROper) :=
  (⟨some 99, .pick (.t 95) (.t 98) (.c (.bool false)), none⟩, []) ::
  (⟨some 100, .mv (.t 99), none⟩, []) ::
  (⟨some 101, .mv (.t 12), some (100, true)⟩, []) ::
  o8_1_50
def o8_1_46 : List (ROper × List ROper) :=
  (⟨some 98, .bin (some .other) (some [.int, .int, .int, .int]) .eql (.t 96) (.t 97), some (95, true)⟩, []) ::
  o8_1_47
def o8_1_45 : List (ROper × List ROper) :=
  (⟨some 97, .build [(.int .i64 0), (.int .i64 0), (.int .i64 0), (.int .i64 0)] [], some (95, true)⟩, []) ::
  o8_1_46
def o8_1_42 : List (ROper × List ROper) :=
  (⟨some 94, .pick (.t 91) (.t 93) (.c (.bool false)), none⟩, []) ::
  (⟨some 95, .mv (.t 94), none⟩, []) ::
  (⟨some 96, .load true 4 (.t 11), some (95, true)⟩, []) ::
  o8_1_45
def o8_1_41 : List (ROper × List ROper) :=
  (⟨some 93, .bin (some .other) none .eql (.t 92) (.c (.int .i64 1)), some (91, true)⟩, []) ::
  o8_1_42
def o8_1_38 : List (ROper × List ROper) :=
  (⟨some 90, .pick (.t 84) (.t 89) (.c (.bool false)), none⟩, []) ::
  (⟨some 91, .mv (.t 90), none⟩, []) ::
  (⟨some 92, .mv (.t 10), some (91, true)⟩, []) ::
  o8_1_41
def o8_1_37 : List (ROper × List ROper) :=
  (⟨some 89, .bin (some .other) (some [.int, .int, .int, .int]) .eql (.t 85) (.t 88), some (84, true)⟩, []) ::
  o8_1_38
def o8_1_36 : List (ROper × List ROper) :=
  (⟨some 88, .load true 4 (.t 87), some (84, true)⟩, []) ::
  o8_1_37
def o8_1_35 : List (ROper × List ROper) :=
  (⟨some 87, .iaddrS 4 (.t 86) (.c (.int .i64 0)), some (84, true)⟩, []) ::
  o8_1_36
def o8_1_34 : List (ROper × List ROper) :=
  (⟨some 86, .mv (.t 7), some (84, true)⟩, []) ::
  o8_1_35
def o8_1_31 : List (ROper × List ROper) :=
  (⟨some 83, .pick (.t 77) (.t 82) (.c (.bool false)), none⟩, []) ::
  (⟨some 84, .mv (.t 83), none⟩, []) ::
  (⟨some 85, .load true 4 (.t 9), some (84, true)⟩, []) ::
  o8_1_34
def o8_1_30 : List (ROper × List ROper) :=
  (⟨some 82, .bin (some .other) (some [.int, .int, .int, .int]) .eql (.t 80) (.t 81), some (77, true)⟩, []) ::
  o8_1_31
def o8_1_29 : List (ROper × List ROper) :=
  (⟨some 81, .build [(.int .i64 0), (.int .i64 0), (.int .i64 0), (.int .i64 0)] [(0, 1, (.c (.int .i64 (.negSucc 0)))), (1, 1, (.c (.int .i64 2))), (2, 1, (.c (.int .i64 3))), (3, 1, (.c (.int .i64 3)))], some (77, true)⟩, []) ::
  o8_1_30
def o8_1_28 : List (ROper × List ROper) :=
  (⟨some 80, .load true 4 (.t 79), some (77, true)⟩, []) ::
  o8_1_29
def o8_1_27 : List (ROper × List ROper) :=
  (⟨some 79, .iaddrS 4 (.t 78) (.c (.int .i64 2)), some (77, true)⟩, []) ::
  o8_1_28
def o8_1_24 : List (ROper × List ROper) :=
  (⟨some 76, .pick (.t 70) (.t 75) (.c (.bool false)), none⟩, []) ::
  (⟨some 77, .mv (.t 76), none⟩, []) ::
  (⟨some 78, .mv (.t 7), some (77, true)⟩, []) ::
  o8_1_27
def o8_1_23 : List (ROper × List ROper) :=
  (⟨some 75, .bin (some .other) (some [.int, .int, .int, .int]) .eql (.t 73) (.t 74), some (70, true)⟩, []) ::
  o8_1_24
def o8_1_22 : List (ROper × List ROper) :=
  (⟨some 74, .build [(.int .i64 0), (.int .i64 0), (.int .i64 0), (.int .i64 0)] [(0, 1, (.c (.int .i64 0))), (1, 1, (.c (.int .i64 1))), (2, 1, (.c (.int .i64 2))), (3, 1, (.c (.int .i64 3)))], some (70, true)⟩, []) ::
  o8_1_23
def o8_1_21 : List (ROper × List ROper) :=
  (⟨some 73, .load true 4 (.t 72), some (70, true)⟩, []) ::
  o8_1_22
def o8_1_20 : List (ROper × List ROper) :=
  (⟨some 72, .iaddrS 4 (.t 71) (.c (.int .i64 1)), some (70, true)⟩, []) ::
  o8_1_21
def o8_1_17 : List (ROper × List ROper) :=
  (⟨some 69, .pick (.t 63) (.t 68) (.c (.bool false)), none⟩, []) ::
  (⟨some 70, .mv (.t 69), none⟩, []) ::
  (⟨some 71, .mv (.t 7), some (70, true)⟩, []) ::
  o8_1_20
def o8_1_16 : List (ROper × List ROper) :=
  (⟨some 68, .bin (some .other) (some [.int, .int, .int, .int]) .eql (.t 66) (.t 67), some (63, true)⟩, []) ::
  o8_1_17
def o8_1_15 : List (ROper × List ROper) :=
  (⟨some 67, .build [(.int .i64 0), (.int .i64 0), (.int .i64 0), (.int .i64 0)] [(0, 1, (.c (.int .i64 0))), (2, 1, (.c (.int .i64 1))), (3, 1, (.c (.int .i64 3)))], some (63, true)⟩, []) ::
  o8_1_16
def o8_1_14 : List (ROper × List ROper) :=
  (⟨some 66, .load true 4 (.t 65), some (63, true)⟩, []) ::
  o8_1_15
def o8_1_13 : List (ROper × List ROper) :=
  (⟨some 65, .iaddrS 4 (.t 64) (.c (.int .i64 0)), some (63, true)⟩, []) ::
  o8_1_14
def o8_1_10 : List (ROper × List ROper) :=
  (⟨some 62, .pick (.t 58) (.t 61) (.c (.bool false)), none⟩, []) ::
  (⟨some 63, .mv (.t 62), none⟩, []) ::
  (⟨some 64, .mv (.t 7), some (63, true)⟩, []) ::
  o8_1_13
def o8_1_9 : List (ROper × List ROper) :=
  (⟨some 61, .bin (some .other) none .eql (.t 60) (.c (.int .i64 3)), some (58, true)⟩, []) ::
  o8_1_10
def o8_1_8 : List (ROper × List ROper) :=
  (⟨some 60, .len .sl (.t 59), some (58, true)⟩, []) ::
  o8_1_9
def o8_1_5 : List (ROper × List ROper) :=
  (⟨some 57, .pick (.t 54) (.t 56) (.c (.bool false)), none⟩, []) ::
  (⟨some 58, .mv (.t 57), none⟩, []) ::
  (⟨some 59, .mv (.t 7), some (58, true)⟩, []) ::
  o8_1_8
def o8_1_4 : List (ROper × List ROper) :=
  (⟨some 56, .bin (some .other) none .eql (.t 55) (.c (.int .i64 11)), some (54, true)⟩, []) ::
  o8_1_5
def c8b : RCode :=
 (.seq (.region [⟨some 0, .mv (.c (.bool false)), none⟩])
 (.seq (.region [⟨some 13, .call (.c (.fn 5 [] [])) [(.c (.int .i32 97))], none⟩,
  ⟨some 1, .alloc [(.int .i64 0), .nils, .nils], none⟩,
  ⟨none, .store 3 (.t 1) (.t 13), none⟩])
 (.seq (.drawn [(⟨some 14, .load true 3 (.t 1), none⟩, []),
  (⟨some 15, .load true 3 (.t 1), none⟩, []),
  (⟨some 16, .load true 3 (.t 1), none⟩, []),
  (⟨some 17, .call (.c (.fn 5 [] [])) [(.c (.int .i32 98))], none⟩, [⟨some 14, .load true 3 (.t 1), none⟩, ⟨some 15, .load true 3 (.t 1), none⟩, ⟨some 16, .load true 3 (.t 1), none⟩]),
  (⟨some 18, .lit true 3 2 [(.int .i64 0), .nils, .nils, (.int .i64 0), .nils, .nils] [(0, 3, (.t 16)), (3, 3, (.t 17))], none⟩, []),
  (⟨some 19, .build [(.int .i64 0), .nils, .nils] [(0, 1, (.c (.int .i64 3))), (2, 1, (.t 18))], none⟩, []),
  (⟨some 20, .lit true 3 2 [(.int .i64 0), .nils, .nils, (.int .i64 0), .nils, .nils] [(0, 3, (.t 15)), (3, 3, (.t 19))], none⟩, []),
  (⟨some 21, .build [(.int .i64 0), .nils, .nils] [(0, 1, (.c (.int .i64 3))), (2, 1, (.t 20))], none⟩, []),
  (⟨some 22, .lit true 3 2 [(.int .i64 0), .nils, .nils, (.int .i64 0), .nils, .nils] [(0, 3, (.t 14)), (3, 3, (.t 21))], none⟩, []),
  (⟨some 2, .mv (.t 22), none⟩, [])])
 (.seq (.region [⟨some 24, .mv (.t 2), none⟩,
  ⟨some 25, .call (.c (.fn 6 [] [])) [(.t 24), (.c (.int .i64 50))], none⟩,
  ⟨some 23, .mv (.t 25), none⟩,
  ⟨some 26, .extract 0 (.t 23), none⟩,
  ⟨some 27, .extract 1 (.t 23), none⟩,
  ⟨some 3, .mv (.t 26), none⟩,
  ⟨some 4, .mv (.t 27), none⟩])
 (.seq (.region [⟨some 29, .build [(.int .i64 0), .nils, .nils] [(0, 1, (.c (.int .i64 1)))], none⟩,
  ⟨some 30, .lit false 3 1 [(.int .i64 0), .nils, .nils] [(0, 3, (.t 29))], none⟩,
  ⟨some 31, .call (.c (.fn 6 [] [])) [(.t 30), (.c (.int .i64 50))], none⟩,
  ⟨some 28, .mv (.t 31), none⟩,
  ⟨some 32, .extract 0 (.t 28), none⟩,
  ⟨some 33, .extract 1 (.t 28), none⟩,
  ⟨some 5, .mv (.t 32), none⟩,
  ⟨some 6, .mv (.t 33), none⟩])
 (.seq (.region [⟨some 34, .mv (.t 3), none⟩,
  ⟨some 35, .lit false 1 3 [(.int .u8 0), (.int .u8 0), (.int .u8 0)] [(0, 1, (.c (.int .u8 97))), (1, 1, (.c (.int .u8 97))), (2, 1, (.c (.int .u8 99)))], none⟩,
  ⟨some 36, .conv (.bytes true) (.t 35), none⟩,
  ⟨some 37, .call (.c (.fn 7 [] [])) [(.t 34), (.t 36)], none⟩,
  ⟨some 7, .mv (.t 37), none⟩])
 (.seq (.region [⟨some 38, .lit false 1 3 [(.int .u8 0), (.int .u8 0), (.int .u8 0)] [(0, 1, (.c (.int .u8 97))), (1, 1, (.c (.int .u8 97))), (2, 1, (.c (.int .u8 99)))], none⟩,
  ⟨some 39, .conv (.bytes true) (.t 38), none⟩,
  ⟨some 40, .call (.c (.fn 16 [] [])) [(.t 39)], none⟩,
  ⟨some 8, .mv (.t 40), none⟩])
 (.seq (.region [⟨some 42, .mv (.t 2), none⟩,
  ⟨some 43, .mv (.t 8), none⟩,
  ⟨some 44, .call (.c (.fn 18 [] [])) [(.t 42), (.t 43), (.c (.int .i64 0))], none⟩,
  ⟨some 41, .mv (.t 44), none⟩,
  ⟨some 45, .extract 0 (.t 41), none⟩,
  ⟨some 46, .extract 1 (.t 41), none⟩,
  ⟨some 9, .alloc [(.int .i64 0), (.int .i64 0), (.int .i64 0), (.int .i64 0)], none⟩,
  ⟨none, .store 4 (.t 9) (.t 45), none⟩,
  ⟨some 10, .mv (.t 46), none⟩])
 (.seq (.region [⟨some 48, .mv (.t 8), none⟩,
  ⟨some 49, .call (.c (.fn 17 [] [])) [(.c .nilp), (.t 48), (.c (.int .i64 0))], none⟩,
  ⟨some 47, .mv (.t 49), none⟩,
  ⟨some 50, .extract 0 (.t 47), none⟩,
  ⟨some 51, .extract 1 (.t 47), none⟩,
  ⟨some 11, .alloc [(.int .i64 0), (.int .i64 0), (.int .i64 0), (.int .i64 0)], none⟩,
  ⟨none, .store 4 (.t 11) (.t 50), none⟩,
  ⟨some 12, .mv (.t 51), none⟩])
 (.seq (.drawn ((⟨some 52, .mv (.t 4), none⟩, []) ::
  (⟨some 53, .bin (some .other) none .eql (.t 52) (.c (.int .i64 0)), none⟩, []) ::
  (⟨some 54, .mv (.t 53), none⟩, []) ::
  (⟨some 55, .mv (.t 6), some (54, true)⟩, []) ::
  o8_1_4))
 c8_0))))))))))
def c8 : RFunc := ⟨c8r, some c8b, none⟩
def c9r : List RRes := [.cell 2 false 1]
def c9 : RFunc := ⟨[.cell 2 false 1],
 some
 (.seq
  (.region [⟨some 2, .alloc [(.int .i64 0)], none⟩])
  (.seq
   (.region [⟨some 3, .mkfn 20 [] [(.t 2)], none⟩,
    ⟨none, .defer (.t 3) [], none⟩])
   (.seq
    (.region [⟨some 4, .mv (.t 0), none⟩,
     ⟨some 5, .call (.t 4) [], none⟩])
    (.seq
     (.region [⟨none, .store 1 (.t 2) (.c (.int .i64 0)), none⟩])
     .ret)))),
 none⟩
def c10r : List RRes := []
def c10b : RCode :=
 (.seq (.region [⟨some 7, .load false 1 (.t 0), none⟩,
  ⟨some 8, .call (.c (.fn 11 [] [])) [(.t 7)], none⟩,
  ⟨some 6, .mv (.t 8), none⟩,
  ⟨some 9, .extract 0 (.t 6), none⟩,
  ⟨some 10, .extract 1 (.t 6), none⟩,
  ⟨some 3, .mv (.t 9), none⟩,
  ⟨some 4, .mv (.t 10), none⟩])
 (.seq (.region [⟨some 11, .mv (.t 4), none⟩,
  ⟨some 12, .bin (some .other) none .eql (.t 11) (.c (.int .i64 0)), none⟩,
  ⟨some 13, .mv (.t 4), none⟩,
  ⟨some 14, .call (.c (.fn 12 [] [])) [(.t 12), (.t 13)], none⟩])
 (.seq (.region [⟨some 16, .mv (.t 3), none⟩,
  ⟨some 17, .load false 1 (.t 1), none⟩,
  ⟨some 18, .call (.c (.fn 13 [] [])) [(.t 16), (.t 17)], none⟩,
  ⟨some 15, .mv (.t 18), none⟩,
  ⟨some 19, .extract 0 (.t 15), none⟩,
  ⟨some 20, .extract 1 (.t 15), none⟩,
  ⟨some 5, .mv (.t 19), none⟩,
  ⟨some 4, .mv (.t 20), none⟩])
 (.seq (.region [⟨some 21, .mv (.t 4), none⟩,
  ⟨some 22, .bin (some .other) none .eql (.t 21) (.c (.int .i64 0)), none⟩,
  ⟨some 23, .mv (.t 4), none⟩,
  ⟨some 24, .call (.c (.fn 12 [] [])) [(.t 22), (.t 23)], none⟩])
 (.seq (.region [⟨some 25, .load false 1 (.t 0), none⟩,
  ⟨some 26, .call (.c (.fn 14 [] [])) [(.t 25)], none⟩,
  ⟨some 27, .un .not (.t 26), none⟩,
  ⟨some 28, .call (.c (.fn 12 [] [])) [(.t 27), (.c (.int .i64 11))], none⟩])
 (.region [⟨some 29, .mv (.t 5), none⟩,
  ⟨some 30, .call (.c (.fn 15 [] [])) [(.t 29)], none⟩,
  ⟨none, .store 1 (.t 2) (.t 30), none⟩]))))))
def c10 : RFunc := ⟨c10r, some c10b, none⟩
def c11r : List RRes := [.tmp 2, .tmp 3]
def c11_1 : RCode :=
 (.seq (.region [⟨some 92, .load false 1 (.t 4), none⟩,
  ⟨some 2, .mv (.t 92), none⟩,
  ⟨some 3, .mv (.c (.int .i64 0)), none⟩])
 .ret)
def c11_4 : RCode :=
 (.region [⟨some 91, .bin (some .other) none .add (.t 33) (.c (.int .i64 1)), none⟩,
  ⟨some 33, .mv (.t 91), none⟩])
def c11_6 : RCode :=
 (.seq (.region [⟨some 79, .faddr 2 (.t 9), none⟩,
  ⟨some 80, .load false 1 (.t 79), none⟩])
 (.cond (.t 80)
 (.drawn [(⟨some 81, .load false 1 (.t 4), none⟩, []),
  (⟨some 82, .load false 1 (.t 4), none⟩, []),
  (⟨some 83, .nilc (.t 82), none⟩, []),
  (⟨some 84, .faddr 3 (.t 83), none⟩, []),
  (⟨some 85, .load false 1 (.t 84), none⟩, []),
  (⟨some 86, .mv (.t 7), none⟩, []),
  (⟨some 87, .lit true 1 1 [(.int .i64 0)] [(0, 1, (.t 86))], none⟩, []),
  (⟨some 88, .append 1 8 [(.int .i64 0)] false (.t 85) (.t 87), none⟩, [⟨some 81, .load false 1 (.t 4), none⟩]),
  (⟨some 89, .nilc (.t 81), none⟩, []),
  (⟨some 90, .faddr 3 (.t 89), none⟩, []),
  (⟨none, .store 1 (.t 90) (.t 88), none⟩, [])])
 .skip))
def c11_10 : RCode :=
 (.region [⟨some 78, .bin (some .other) none .add (.t 58) (.c (.int .i64 1)), none⟩,
  ⟨some 58, .mv (.t 78), none⟩])
def c11_9 : RCode :=
 (.seq (.block 3
 (.seq (.region [⟨some 60, .iaddrS 1 (.t 56) (.t 58), none⟩,
  ⟨some 61, .load false 1 (.t 60), none⟩,
  ⟨some 11, .mv (.t 61), none⟩])
 (.drawn [(⟨some 62, .load false 1 (.t 4), none⟩, []),
  (⟨some 63, .nilc (.t 62), none⟩, []),
  (⟨some 64, .faddr 2 (.t 63), none⟩, []),
  (⟨some 65, .load false 1 (.t 64), none⟩, []),
  (⟨some 66, .mv (.t 11), none⟩, []),
  (⟨some 67, .load false 1 (.t 4), none⟩, []),
  (⟨some 68, .nilc (.t 67), none⟩, []),
  (⟨some 69, .faddr 2 (.t 68), none⟩, []),
  (⟨some 70, .load false 1 (.t 69), none⟩, []),
  (⟨some 71, .mv (.t 11), none⟩, []),
  (⟨some 72, .iaddrS 1 (.t 70) (.t 71), none⟩, []),
  (⟨some 73, .load false 1 (.t 72), none⟩, []),
  (⟨some 74, .mv (.t 7), none⟩, []),
  (⟨some 75, .lit true 1 1 [(.int .i64 0)] [(0, 1, (.t 74))], none⟩, []),
  (⟨some 76, .append 1 8 [(.int .i64 0)] false (.t 73) (.t 75), none⟩, [⟨some 62, .load false 1 (.t 4), none⟩, ⟨some 65, .load false 1 (.t 64), none⟩]),
  (⟨some 77, .iaddrS 1 (.t 65) (.t 66), none⟩, []),
  (⟨none, .store 1 (.t 77) (.t 76), none⟩, [])])))
 c11_10)
def c11_8 : RCode :=
 (.seq (.region [⟨some 59, .bin (some .other) none .lss (.t 58) (.t 57), none⟩])
 (.seq (.cond (.t 59)
 .skip
 (.exit 2))
 c11_9))
def c11_3 : RCode :=
 (.seq (.block 1
 (.seq (.region [⟨some 35, .mv (.t 33), none⟩,
  ⟨some 36, .iaddrS 3 (.t 31) (.t 33), none⟩,
  ⟨some 37, .load true 3 (.t 36), none⟩,
  ⟨some 8, .alloc [(.int .i64 0), .nils, .nils], none⟩,
  ⟨some 7, .mv (.t 35), none⟩,
  ⟨none, .store 3 (.t 8) (.t 37), none⟩])
 (.seq (.region [⟨some 38, .load false 1 (.t 6), none⟩,
  ⟨some 39, .load true 3 (.t 8), none⟩,
  ⟨some 40, .call (.t 38) [(.t 39)], none⟩,
  ⟨some 9, .alloc [.nils, .nils, (.bool false)], none⟩,
  ⟨none, .store 3 (.t 9) (.t 40), none⟩])
 (.seq (.drawn [(⟨some 41, .load false 1 (.t 4), none⟩, []),
  (⟨some 42, .nilc (.t 41), none⟩, []),
  (⟨some 43, .faddr 1 (.t 42), none⟩, []),
  (⟨some 44, .load false 1 (.t 43), none⟩, []),
  (⟨some 45, .load false 1 (.t 4), none⟩, []),
  (⟨some 46, .nilc (.t 45), none⟩, []),
  (⟨some 47, .faddr 1 (.t 46), none⟩, []),
  (⟨some 48, .load false 1 (.t 47), none⟩, []),
  (⟨some 49, .iaddrS 1 (.t 48) (.c (.int .i64 0)), none⟩, []),
  (⟨some 50, .load false 1 (.t 49), none⟩, []),
  (⟨some 51, .faddr 0 (.t 9), none⟩, []),
  (⟨some 52, .load false 1 (.t 51), none⟩, []),
  (⟨some 53, .call (.c (.fn 25 [] [])) [(.t 50), (.t 52)], none⟩, [⟨some 41, .load false 1 (.t 4), none⟩, ⟨some 44, .load false 1 (.t 43), none⟩]),
  (⟨some 54, .iaddrS 1 (.t 44) (.c (.int .i64 0)), none⟩, []),
  (⟨none, .store 1 (.t 54) (.t 53), none⟩, [])])
 (.seq (.seq (.region [⟨some 55, .faddr 1 (.t 9), none⟩,
  ⟨some 56, .load false 1 (.t 55), none⟩,
  ⟨some 57, .len .sl (.t 56), none⟩,
  ⟨some 58, .mv (.c (.int .i64 0)), none⟩])
 (.block 2
 (.loop c11_8)))
 c11_6)))))
 c11_4)
def c11_2 : RCode :=
 (.seq (.region [⟨some 34, .bin (some .other) none .lss (.t 33) (.t 32), none⟩])
 (.seq (.cond (.t 34)
 .skip
 (.exit 0))
 c11_3))
def c11_0 : RCode :=
 (.seq (.region [⟨some 24, .lit false 1 1 [.nils] [(0, 1, (.c .nils))], none⟩,
  ⟨some 25, .lit false 1 1 [.nils] [(0, 1, (.c .nils))], none⟩,
  ⟨some 26, .lit false 1 1 [.nils] [(0, 1, (.c .nils))], none⟩,
  ⟨some 27, .build [.nils, .nils, .nils, .nils] [(0, 1, (.t 24)), (1, 1, (.t 25)), (2, 1, (.t 26))], none⟩,
  ⟨some 28, .box (.t 27), none⟩,
  ⟨some 4, .alloc [.nilp], none⟩,
  ⟨none, .store 1 (.t 4) (.t 28), none⟩])
 (.seq (.region [⟨some 29, .mkfn 24 [] [(.t 4)], none⟩,
  ⟨some 5, .alloc [.nilf], none⟩,
  ⟨none, .store 1 (.t 5) (.t 29), none⟩])
 (.seq (.region [⟨some 6, .alloc [.nilf], none⟩])
 (.seq (.region [⟨some 30, .mkfn 26 [] [(.t 6), (.t 4), (.t 5)], none⟩,
  ⟨none, .store 1 (.t 6) (.t 30), none⟩])
 (.seq (.seq (.region [⟨some 31, .mv (.t 0), none⟩,
  ⟨some 32, .len .sl (.t 31), none⟩,
  ⟨some 33, .mv (.c (.int .i64 0)), none⟩])
 (.block 0
 (.loop c11_2)))
 c11_1)))))
def c11_13 : RCode :=
 (.cond (.t 23)
 (.seq (.region [⟨some 2, .mv (.c .nilp), none⟩,
  ⟨some 3, .mv (.c (.int .i64 1)), none⟩])
 .ret)
 .skip)
def o11_14_11 : List ROper :=
  ⟨some 23, .pick (.t 20) (.c (.bool true)) (.t 22), none⟩ ::
  []
def o11_14_10 : List ROper :=
  ⟨some 22, .call (.c (.fn 21 [] [])) [(.t 21), (.c (.fn 22 [] []))], some (20, false)⟩ ::
  o11_14_11
def o11_14_7 : List ROper :=
  ⟨some 19, .pick (.t 15) (.c (.bool true)) (.t 18), none⟩ ::
  ⟨some 20, .mv (.t 19), none⟩ ::
  ⟨some 21, .mv (.t 0), some (20, false)⟩ ::
  o11_14_10
def o11_14_6 : List ROper :=
  ⟨some 18, .bin (some .other) none .gtr (.t 17) (.c (.int .i64 16)), some (15, false)⟩ ::
  o11_14_7
def o11_14_5 : List ROper :=
  ⟨some 17, .len .sl (.t 16), some (15, false)⟩ ::
  o11_14_6
def c11b : RCode :=
 (.seq (.region [⟨some 2, .mv (.c .nilp), none⟩,
  ⟨some 3, .mv (.c (.int .i64 0)), none⟩])
 (.seq (.seq (.region (⟨some 12, .mv (.t 0), none⟩ ::
  ⟨some 13, .len .sl (.t 12), none⟩ ::
  ⟨some 14, .bin (some .other) none .lss (.t 13) (.c (.int .i64 1)), none⟩ ::
  ⟨some 15, .mv (.t 14), none⟩ ::
  ⟨some 16, .mv (.t 0), some (15, false)⟩ ::
  o11_14_5))
 c11_13)
 c11_0))
def c11 : RFunc := ⟨c11r, some c11b, none⟩
def c12r : List RRes := []
def c12b : RCode :=
 (.seq (.region [⟨some 4, .mv (.t 0), none⟩,
  ⟨some 5, .un .not (.t 4), none⟩])
 (.cond (.t 5)
 (.region [⟨some 6, .mv (.t 1), none⟩,
  ⟨some 7, .build [(.int .i64 0)] [(0, 1, (.t 6))], none⟩,
  ⟨some 8, .iface 58 (.t 7), none⟩,
  ⟨none, .panic (.t 8), none⟩])
 .skip))
def c12 : RFunc := ⟨c12r, some c12b, none⟩
def c13r : List RRes := [.tmp 4, .tmp 5]
def c13_1 : RCode :=
 (.seq (.region [⟨some 136, .mv (.t 6), none⟩,
  ⟨some 4, .mv (.t 136), none⟩,
  ⟨some 5, .mv (.c (.int .i64 0)), none⟩])
 .ret)
def c13_4 : RCode :=
 (.region [⟨some 44, .mv (.t 9), none⟩,
  ⟨some 45, .bin (some .other) none .add (.t 44) (.c (.int .i64 1)), none⟩,
  ⟨some 9, .mv (.t 45), none⟩])
def c13_7 : RCode :=
 (.drawn [(⟨some 116, .mv (.t 6), none⟩, []),
  (⟨some 117, .mv (.t 6), none⟩, []),
  (⟨some 118, .mv (.t 6), none⟩, []),
  (⟨some 119, .nilc (.t 118), none⟩, []),
  (⟨some 120, .faddr 1 (.t 119), none⟩, []),
  (⟨some 121, .load false 1 (.t 120), none⟩, []),
  (⟨some 122, .mv (.t 10), none⟩, []),
  (⟨some 123, .lit true 1 1 [.nils] [(0, 1, (.t 122))], none⟩, []),
  (⟨some 125, .mv (.t 6), none⟩, []),
  (⟨some 126, .nilc (.t 125), none⟩, []),
  (⟨some 127, .faddr 2 (.t 126), none⟩, []),
  (⟨some 128, .load false 1 (.t 127), none⟩, []),
  (⟨some 129, .mv (.t 16), none⟩, []),
  (⟨some 130, .lit true 1 1 [(.int .i64 0)] [(0, 1, (.t 129))], none⟩, []),
  (⟨some 124, .append 1 24 [.nils] false (.t 121) (.t 123), none⟩, [⟨some 128, .load false 1 (.t 127), none⟩]),
  (⟨some 131, .append 1 8 [(.int .i64 0)] false (.t 128) (.t 130), none⟩, []),
  (⟨some 132, .nilc (.t 116), none⟩, []),
  (⟨some 133, .faddr 1 (.t 132), none⟩, []),
  (⟨none, .store 1 (.t 133) (.t 124), none⟩, []),
  (⟨some 134, .nilc (.t 117), none⟩, []),
  (⟨some 135, .faddr 2 (.t 134), none⟩, []),
  (⟨none, .store 1 (.t 135) (.t 131), none⟩, [])])
def c13_6 : RCode :=
 (.seq (.region [⟨some 16, .mv (.c (.int .i64 (.negSucc 0))), none⟩])
 (.seq (.seq (.region [⟨some 104, .mv (.t 0), none⟩,
  ⟨some 105, .mv (.t 7), none⟩,
  ⟨some 106, .mv (.t 9), none⟩,
  ⟨some 107, .iaddrS 1 (.t 105) (.t 106), none⟩,
  ⟨some 108, .load false 1 (.t 107), none⟩,
  ⟨some 109, .call (.c (.fn 30 [] [])) [(.t 104), (.t 108)], none⟩,
  ⟨some 17, .mv (.t 109), none⟩])
 (.seq (.region [⟨some 110, .mv (.t 17), none⟩,
  ⟨some 111, .len .sl (.t 110), none⟩,
  ⟨some 112, .bin (some .other) none .gtr (.t 111) (.c (.int .i64 0)), none⟩])
 (.cond (.t 112)
 (.region [⟨some 113, .mv (.t 17), none⟩,
  ⟨some 114, .iaddrS 1 (.t 113) (.c (.int .i64 0)), none⟩,
  ⟨some 115, .load false 1 (.t 114), none⟩,
  ⟨some 16, .mv (.t 115), none⟩])
 .skip)))
 c13_7))
def c13_12 : RCode :=
 (.region [⟨some 103, .bin (some .other) none .add (.t 57) (.c (.int .i64 1)), none⟩,
  ⟨some 57, .mv (.t 103), none⟩])
def c13_15 : RCode :=
 (.region [⟨some 99, .mv (.t 10), none⟩,
  ⟨some 100, .mv (.t 11), none⟩,
  ⟨some 101, .mv (.t 14), none⟩,
  ⟨some 102, .iaddrS 1 (.t 99) (.t 100), none⟩,
  ⟨none, .store 1 (.t 102) (.t 101), none⟩])
def c13_14 : RCode :=
 (.seq (.region [⟨some 77, .mv (.t 8), none⟩,
  ⟨some 78, .mv (.t 13), none⟩,
  ⟨some 79, .call (.c (.fn 28 [] [])) [(.t 78)], none⟩,
  ⟨some 80, .lookup .str (.int .i64 0) (.t 77) (.t 79) true, none⟩,
  ⟨some 76, .mv (.t 80), none⟩,
  ⟨some 81, .extract 0 (.t 76), none⟩,
  ⟨some 82, .extract 1 (.t 76), none⟩,
  ⟨some 14, .mv (.t 81), none⟩,
  ⟨some 15, .mv (.t 82), none⟩])
 (.seq (.seq (.region [⟨some 83, .mv (.t 15), none⟩,
  ⟨some 84, .un .not (.t 83), none⟩])
 (.cond (.t 84)
 (.seq (.region [⟨some 85, .mv (.t 7), none⟩,
  ⟨some 86, .len .sl (.t 85), none⟩,
  ⟨some 14, .mv (.t 86), none⟩])
 (.seq (.region [⟨some 87, .mv (.t 8), none⟩,
  ⟨some 88, .mv (.t 13), none⟩,
  ⟨some 89, .call (.c (.fn 28 [] [])) [(.t 88)], none⟩,
  ⟨some 90, .mv (.t 14), none⟩,
  ⟨none, .mapupd .str (.t 87) (.t 89) (.t 90), none⟩])
 (.seq (.region [⟨some 91, .mv (.t 7), none⟩,
  ⟨some 92, .mv (.t 13), none⟩,
  ⟨some 93, .lit false 1 1 [.nils] [(0, 1, (.t 92))], none⟩,
  ⟨some 94, .append 1 24 [.nils] false (.t 91) (.t 93), none⟩,
  ⟨some 7, .mv (.t 94), none⟩])
 (.seq (.region [⟨some 95, .mv (.t 7), none⟩,
  ⟨some 96, .len .sl (.t 95), none⟩,
  ⟨some 97, .mv (.t 1), none⟩,
  ⟨some 98, .bin (some .other) none .gtr (.t 96) (.t 97), none⟩])
 (.cond (.t 98)
 (.seq (.region [⟨some 4, .mv (.c .nilp), none⟩,
  ⟨some 5, .mv (.c (.int .i64 8)), none⟩])
 .ret)
 .skip)))))
 .skip))
 c13_15))
def c13_11 : RCode :=
 (.seq (.block 3
 (.seq (.region [⟨some 59, .mv (.t 57), none⟩,
  ⟨some 60, .iaddrS 2 (.t 55) (.t 57), none⟩,
  ⟨some 61, .load true 2 (.t 60), none⟩,
  ⟨some 12, .alloc [(.int .i32 0), (.int .i32 0)], none⟩,
  ⟨some 11, .mv (.t 59), none⟩,
  ⟨none, .store 2 (.t 12) (.t 61), none⟩])
 (.seq (.drawn [(⟨some 62, .mv (.t 0), none⟩, []),
  (⟨some 63, .mv (.t 7), none⟩, []),
  (⟨some 64, .mv (.t 9), none⟩, []),
  (⟨some 65, .iaddrS 1 (.t 63) (.t 64), none⟩, []),
  (⟨some 66, .load false 1 (.t 65), none⟩, []),
  (⟨some 67, .faddr 0 (.t 12), none⟩, []),
  (⟨some 68, .load false 1 (.t 67), none⟩, []),
  (⟨some 69, .call (.c (.fn 29 [] [])) [(.t 62), (.t 66), (.t 68)], none⟩, []),
  (⟨some 13, .mv (.t 69), none⟩, [])])
 (.seq (.seq (.region [⟨some 70, .mv (.t 10), none⟩,
  ⟨some 71, .mv (.t 11), none⟩,
  ⟨some 72, .iaddrS 1 (.t 70) (.t 71), none⟩,
  ⟨none, .store 1 (.t 72) (.c (.int .i64 (.negSucc 0))), none⟩])
 (.seq (.region [⟨some 73, .mv (.t 13), none⟩,
  ⟨some 74, .len .sl (.t 73), none⟩,
  ⟨some 75, .bin (some .other) none .eql (.t 74) (.c (.int .i64 0)), none⟩])
 (.cond (.t 75)
 (.exit 3)
 .skip)))
 c13_14))))
 c13_12)
def c13_10 : RCode :=
 (.seq (.region [⟨some 58, .bin (some .other) none .lss (.t 57) (.t 56), none⟩])
 (.seq (.cond (.t 58)
 .skip
 (.exit 2))
 c13_11))
def c13_3 : RCode :=
 (.seq (.block 1
 (.seq (.region [⟨some 46, .mv (.t 6), none⟩,
  ⟨some 47, .nilc (.t 46), none⟩,
  ⟨some 48, .faddr 0 (.t 47), none⟩,
  ⟨some 49, .load false 1 (.t 48), none⟩,
  ⟨some 50, .len .sl (.t 49), none⟩,
  ⟨some 51, .mkslice 1 [(.int .i64 0)] 8 (.t 50) (.t 50), none⟩,
  ⟨some 10, .mv (.t 51), none⟩])
 (.seq (.seq (.region [⟨some 52, .mv (.t 6), none⟩,
  ⟨some 53, .nilc (.t 52), none⟩,
  ⟨some 54, .faddr 0 (.t 53), none⟩,
  ⟨some 55, .load false 1 (.t 54), none⟩,
  ⟨some 56, .len .sl (.t 55), none⟩,
  ⟨some 57, .mv (.c (.int .i64 0)), none⟩])
 (.block 2
 (.loop c13_10)))
 c13_6)))
 c13_4)
def c13_2 : RCode :=
 (.seq (.seq (.region [⟨some 40, .mv (.t 9), none⟩,
  ⟨some 41, .mv (.t 7), none⟩,
  ⟨some 42, .len .sl (.t 41), none⟩,
  ⟨some 43, .bin (some .other) none .lss (.t 40) (.t 42), none⟩])
 (.cond (.t 43)
 .skip
 (.exit 0)))
 c13_3)
def c13_0 : RCode :=
 (.seq (.region [⟨some 28, .mv (.t 0), none⟩,
  ⟨some 29, .call (.c (.fn 27 [] [])) [(.t 28)], none⟩,
  ⟨some 30, .build [.nils, .nils, .nils] [(0, 1, (.t 29))], none⟩,
  ⟨some 31, .box (.t 30), none⟩,
  ⟨some 6, .mv (.t 31), none⟩])
 (.seq (.region [⟨some 32, .lit false 1 1 [(.int .i64 0)] [(0, 1, (.c (.int .i64 0)))], none⟩,
  ⟨some 33, .lit false 1 1 [.nils] [(0, 1, (.t 32))], none⟩,
  ⟨some 7, .mv (.t 33), none⟩])
 (.seq (.region [⟨some 34, .mkmap none, none⟩,
  ⟨some 35, .mv (.t 7), none⟩,
  ⟨some 36, .iaddrS 1 (.t 35) (.c (.int .i64 0)), none⟩,
  ⟨some 37, .load false 1 (.t 36), none⟩,
  ⟨some 38, .call (.c (.fn 28 [] [])) [(.t 37)], none⟩,
  ⟨none, .mapupd .str (.t 34) (.t 38) (.c (.int .i64 0)), none⟩,
  ⟨some 39, .mv (.t 34), none⟩,
  ⟨some 8, .mv (.t 39), none⟩])
 (.seq (.seq (.region [⟨some 9, .mv (.c (.int .i64 0)), none⟩])
 (.block 0
 (.loop c13_2)))
 c13_1))))
def c13_17 : RCode :=
 (.cond (.t 27)
 (.seq (.region [⟨some 4, .mv (.c .nilp), none⟩,
  ⟨some 5, .mv (.c (.int .i64 1)), none⟩])
 .ret)
 .skip)
def o13_18_9 : List ROper :=
  ⟨some 27, .pick (.t 24) (.c (.bool true)) (.t 26), none⟩ ::
  []
def o13_18_8 : List ROper :=
  ⟨some 26, .bin (some .other) none .gtr (.t 25) (.c (.int .i64 400)), some (24, false)⟩ ::
  o13_18_9
def o13_18_5 : List ROper :=
  ⟨some 23, .pick (.t 20) (.c (.bool true)) (.t 22), none⟩ ::
  ⟨some 24, .mv (.t 23), none⟩ ::
  ⟨some 25, .mv (.t 1), some (24, false)⟩ ::
  o13_18_8
def o13_18_4 : List ROper :=
  ⟨some 22, .bin (some .other) none .lss (.t 21) (.c (.int .i64 1)), some (20, false)⟩ ::
  o13_18_5
def c13b : RCode :=
 (.seq (.region [⟨some 4, .mv (.c .nilp), none⟩,
  ⟨some 5, .mv (.c (.int .i64 0)), none⟩])
 (.seq (.seq (.region (⟨some 18, .mv (.t 0), none⟩ ::
  ⟨some 19, .bin (some .ptr) none .eql (.t 18) (.c .nilp), none⟩ ::
  ⟨some 20, .mv (.t 19), none⟩ ::
  ⟨some 21, .mv (.t 1), some (20, false)⟩ ::
  o13_18_4))
 c13_17)
 c13_0))
def c13 : RFunc := ⟨c13r, some c13b, none⟩
def c14r : List RRes := [.tmp 2]
def c14b : RCode :=
 (.seq (.region [⟨some 2, .mv (.c (.bool false)), none⟩])
 (.seq (.region [⟨some 3, .mv (.t 0), none⟩,
  ⟨some 4, .call (.c (.fn 21 [] [])) [(.t 3), (.c (.fn 31 [] []))], none⟩,
  ⟨some 2, .mv (.t 4), none⟩])
 .ret))
def c14 : RFunc := ⟨c14r, some c14b, none⟩
def c15r : List RRes := [.tmp 2]
def c15_1 : RCode :=
 (.seq (.region [⟨some 123, .mv (.t 3), none⟩,
  ⟨some 2, .mv (.t 123), none⟩])
 .ret)
def c15_4 : RCode :=
 (.region [⟨some 35, .mv (.t 8), none⟩,
  ⟨some 36, .bin (some .other) none .add (.t 35) (.c (.int .i64 1)), none⟩,
  ⟨some 8, .mv (.t 36), none⟩])
def c15_6 : RCode :=
 (.drawn [(⟨some 98, .mv (.t 3), none⟩, []),
  (⟨some 99, .mv (.t 3), none⟩, []),
  (⟨some 100, .mv (.t 3), none⟩, []),
  (⟨some 101, .nilc (.t 100), none⟩, []),
  (⟨some 102, .faddr 1 (.t 101), none⟩, []),
  (⟨some 103, .load false 1 (.t 102), none⟩, []),
  (⟨some 104, .mv (.t 9), none⟩, []),
  (⟨some 105, .lit true 1 1 [.nils] [(0, 1, (.t 104))], none⟩, []),
  (⟨some 107, .mv (.t 3), none⟩, []),
  (⟨some 108, .nilc (.t 107), none⟩, []),
  (⟨some 109, .faddr 2 (.t 108), none⟩, []),
  (⟨some 110, .load false 1 (.t 109), none⟩, []),
  (⟨some 111, .mv (.t 0), none⟩, []),
  (⟨some 112, .mv (.t 7), none⟩, []),
  (⟨some 113, .mv (.t 8), none⟩, []),
  (⟨some 114, .iaddrS 1 (.t 112) (.t 113), none⟩, []),
  (⟨some 115, .load false 1 (.t 114), none⟩, []),
  (⟨some 106, .append 1 24 [.nils] false (.t 103) (.t 105), none⟩, [⟨some 110, .load false 1 (.t 109), none⟩, ⟨some 115, .load false 1 (.t 114), none⟩]),
  (⟨some 116, .call (.c (.fn 36 [] [])) [(.t 111), (.t 115)], none⟩, [⟨some 110, .load false 1 (.t 109), none⟩]),
  (⟨some 117, .lit true 1 1 [(.int .i64 0)] [(0, 1, (.t 116))], none⟩, []),
  (⟨some 118, .append 1 8 [(.int .i64 0)] false (.t 110) (.t 117), none⟩, []),
  (⟨some 119, .nilc (.t 98), none⟩, []),
  (⟨some 120, .faddr 1 (.t 119), none⟩, []),
  (⟨none, .store 1 (.t 120) (.t 106), none⟩, []),
  (⟨some 121, .nilc (.t 99), none⟩, []),
  (⟨some 122, .faddr 2 (.t 121), none⟩, []),
  (⟨none, .store 1 (.t 122) (.t 118), none⟩, [])])
def c15_10 : RCode :=
 (.region [⟨some 97, .bin (some .other) none .add (.t 48) (.c (.int .i64 1)), none⟩,
  ⟨some 48, .mv (.t 97), none⟩])
def c15_13 : RCode :=
 (.region [⟨some 93, .mv (.t 9), none⟩,
  ⟨some 94, .mv (.t 10), none⟩,
  ⟨some 95, .mv (.t 12), none⟩,
  ⟨some 96, .iaddrS 1 (.t 93) (.t 94), none⟩,
  ⟨none, .store 1 (.t 96) (.t 95), none⟩])
def c15_12 : RCode :=
 (.seq (.region [⟨some 71, .mv (.t 6), none⟩,
  ⟨some 72, .mv (.t 5), none⟩,
  ⟨some 73, .mv (.t 11), none⟩,
  ⟨some 74, .iaddrS 1 (.t 72) (.t 73), none⟩,
  ⟨some 75, .load false 1 (.t 74), none⟩,
  ⟨some 76, .lookup .int (.int .i64 0) (.t 71) (.t 75) true, none⟩,
  ⟨some 70, .mv (.t 76), none⟩,
  ⟨some 77, .extract 0 (.t 70), none⟩,
  ⟨some 78, .extract 1 (.t 70), none⟩,
  ⟨some 12, .mv (.t 77), none⟩,
  ⟨some 13, .mv (.t 78), none⟩])
 (.seq (.seq (.region [⟨some 79, .mv (.t 13), none⟩,
  ⟨some 80, .un .not (.t 79), none⟩])
 (.cond (.t 80)
 (.seq (.region [⟨some 81, .mv (.t 7), none⟩,
  ⟨some 82, .len .sl (.t 81), none⟩,
  ⟨some 12, .mv (.t 82), none⟩])
 (.seq (.region [⟨some 83, .mv (.t 6), none⟩,
  ⟨some 84, .mv (.t 5), none⟩,
  ⟨some 85, .mv (.t 11), none⟩,
  ⟨some 86, .iaddrS 1 (.t 84) (.t 85), none⟩,
  ⟨some 87, .load false 1 (.t 86), none⟩,
  ⟨some 88, .mv (.t 12), none⟩,
  ⟨none, .mapupd .int (.t 83) (.t 87) (.t 88), none⟩])
 (.region [⟨some 89, .mv (.t 7), none⟩,
  ⟨some 90, .mv (.t 11), none⟩,
  ⟨some 91, .lit false 1 1 [(.int .i64 0)] [(0, 1, (.t 90))], none⟩,
  ⟨some 92, .append 1 8 [(.int .i64 0)] false (.t 89) (.t 91), none⟩,
  ⟨some 7, .mv (.t 92), none⟩])))
 .skip))
 c15_13))
def c15_16 : RCode :=
 (.cond (.t 69)
 (.exit 3)
 .skip)
def o15_17_8 : List ROper :=
  ⟨some 69, .pick (.t 63) (.c (.bool true)) (.t 68), none⟩ ::
  []
def o15_17_7 : List ROper :=
  ⟨some 68, .un .not (.t 67), some (63, false)⟩ ::
  o15_17_8
def o15_17_6 : List ROper :=
  ⟨some 67, .load false 1 (.t 66), some (63, false)⟩ ::
  o15_17_7
def o15_17_5 : List ROper :=
  ⟨some 66, .iaddrS 1 (.t 64) (.t 65), some (63, false)⟩ ::
  o15_17_6
def o15_17_4 : List ROper :=
  ⟨some 65, .mv (.t 11), some (63, false)⟩ ::
  o15_17_5
def c15_9 : RCode :=
 (.seq (.block 3
 (.seq (.region [⟨some 50, .mv (.t 48), none⟩,
  ⟨some 10, .mv (.t 50), none⟩])
 (.seq (.region [⟨some 51, .mv (.t 0), none⟩,
  ⟨some 52, .mv (.t 7), none⟩,
  ⟨some 53, .mv (.t 8), none⟩,
  ⟨some 54, .iaddrS 1 (.t 52) (.t 53), none⟩,
  ⟨some 55, .load false 1 (.t 54), none⟩,
  ⟨some 56, .mv (.t 10), none⟩,
  ⟨some 57, .call (.c (.fn 35 [] [])) [(.t 51), (.t 55), (.t 56)], none⟩,
  ⟨some 11, .mv (.t 57), none⟩])
 (.seq (.seq (.region [⟨some 58, .mv (.t 9), none⟩,
  ⟨some 59, .mv (.t 10), none⟩,
  ⟨some 60, .iaddrS 1 (.t 58) (.t 59), none⟩,
  ⟨none, .store 1 (.t 60) (.c (.int .i64 (.negSucc 0))), none⟩])
 (.seq (.region (⟨some 61, .mv (.t 11), none⟩ ::
  ⟨some 62, .bin (some .other) none .lss (.t 61) (.c (.int .i64 0)), none⟩ ::
  ⟨some 63, .mv (.t 62), none⟩ ::
  ⟨some 64, .mv (.t 4), some (63, false)⟩ ::
  o15_17_4))
 c15_16))
 c15_12))))
 c15_10)
def c15_8 : RCode :=
 (.seq (.region [⟨some 49, .bin (some .other) none .lss (.t 48) (.t 47), none⟩])
 (.seq (.cond (.t 49)
 .skip
 (.exit 2))
 c15_9))
def c15_3 : RCode :=
 (.seq (.block 1
 (.seq (.region [⟨some 37, .mv (.t 3), none⟩,
  ⟨some 38, .nilc (.t 37), none⟩,
  ⟨some 39, .faddr 0 (.t 38), none⟩,
  ⟨some 40, .load false 1 (.t 39), none⟩,
  ⟨some 41, .len .sl (.t 40), none⟩,
  ⟨some 42, .mkslice 1 [(.int .i64 0)] 8 (.t 41) (.t 41), none⟩,
  ⟨some 9, .mv (.t 42), none⟩])
 (.seq (.seq (.region [⟨some 43, .mv (.t 3), none⟩,
  ⟨some 44, .nilc (.t 43), none⟩,
  ⟨some 45, .faddr 0 (.t 44), none⟩,
  ⟨some 46, .load false 1 (.t 45), none⟩,
  ⟨some 47, .len .sl (.t 46), none⟩,
  ⟨some 48, .mv (.c (.int .i64 0)), none⟩])
 (.block 2
 (.loop c15_8)))
 c15_6)))
 c15_4)
def c15_2 : RCode :=
 (.seq (.seq (.region [⟨some 31, .mv (.t 8), none⟩,
  ⟨some 32, .mv (.t 7), none⟩,
  ⟨some 33, .len .sl (.t 32), none⟩,
  ⟨some 34, .bin (some .other) none .lss (.t 31) (.t 33), none⟩])
 (.cond (.t 34)
 .skip
 (.exit 0)))
 c15_3)
def c15_0 : RCode :=
 (.seq (.region [⟨some 16, .mv (.t 0), none⟩,
  ⟨some 17, .call (.c (.fn 32 [] [])) [(.t 16)], none⟩,
  ⟨some 18, .build [.nils, .nils, .nils] [(0, 1, (.t 17))], none⟩,
  ⟨some 19, .box (.t 18), none⟩,
  ⟨some 3, .mv (.t 19), none⟩])
 (.seq (.region [⟨some 20, .mv (.t 0), none⟩,
  ⟨some 21, .call (.c (.fn 33 [] [])) [(.t 20)], none⟩,
  ⟨some 4, .mv (.t 21), none⟩])
 (.seq (.region [⟨some 22, .mv (.t 0), none⟩,
  ⟨some 23, .mv (.t 4), none⟩,
  ⟨some 24, .call (.c (.fn 34 [] [])) [(.t 22), (.t 23)], none⟩,
  ⟨some 5, .mv (.t 24), none⟩])
 (.seq (.region [⟨some 25, .mkmap none, none⟩,
  ⟨some 26, .mv (.t 5), none⟩,
  ⟨some 27, .iaddrS 1 (.t 26) (.c (.int .i64 0)), none⟩,
  ⟨some 28, .load false 1 (.t 27), none⟩,
  ⟨none, .mapupd .int (.t 25) (.t 28) (.c (.int .i64 0)), none⟩,
  ⟨some 29, .mv (.t 25), none⟩,
  ⟨some 6, .mv (.t 29), none⟩])
 (.seq (.region [⟨some 30, .lit false 1 1 [(.int .i64 0)] [(0, 1, (.c (.int .i64 0)))], none⟩,
  ⟨some 7, .mv (.t 30), none⟩])
 (.seq (.seq (.region [⟨some 8, .mv (.c (.int .i64 0)), none⟩])
 (.block 0
 (.loop c15_2)))
 c15_1))))))
def c15b : RCode :=
 (.seq (.region [⟨some 2, .mv (.c .nilp), none⟩])
 (.seq (.seq (.region [⟨some 14, .mv (.t 0), none⟩,
  ⟨some 15, .bin (some .ptr) none .eql (.t 14) (.c .nilp), none⟩])
 (.cond (.t 15)
 (.seq (.region [⟨some 2, .mv (.c .nilp), none⟩])
 .ret)
 .skip))
 c15_0))
def c15 : RFunc := ⟨c15r, some c15b, none⟩
def c16r : List RRes := [.tmp 2]
def c16b : RCode :=
 (.seq (.region [⟨some 2, .mv (.c .nils), none⟩])
 (.seq (.region [⟨some 4, .call (.c (.fn 37 [] [])) [], none⟩,
  ⟨some 3, .mv (.t 4), none⟩])
 (.seq (.region [⟨some 5, .mv (.t 3), none⟩,
  ⟨some 6, .mv (.t 0), none⟩,
  ⟨some 7, .call (.c (.fn 38 [] [])) [(.t 5), (.t 6)], none⟩,
  ⟨some 8, .mv (.t 3), none⟩,
  ⟨some 9, .call (.c (.fn 39 [] [])) [(.t 8)], none⟩,
  ⟨some 10, .append 5 32 [(.int .i32 0), (.int .i64 0), (.int .i64 0), (.bool false), (.bool false)] false (.t 7) (.t 9), none⟩,
  ⟨some 2, .mv (.t 10), none⟩])
 .ret)))
def c16 : RFunc := ⟨c16r, some c16b, none⟩
def c17r : List RRes := [.cell 6 true 4, .tmp 7]
def c17b : RCode :=
 (.seq (.region [⟨some 6, .alloc [(.int .i64 0), (.int .i64 0), (.int .i64 0), (.int .i64 0)], none⟩,
  ⟨some 7, .mv (.c (.int .i64 0)), none⟩])
 (.seq (.region [⟨some 12, .mv (.t 0), none⟩,
  ⟨some 13, .mv (.t 1), none⟩,
  ⟨some 14, .mv (.t 2), none⟩,
  ⟨some 15, .call (.c (.fn 40 [] [])) [(.t 12), (.t 13), (.t 14)], none⟩,
  ⟨some 11, .mv (.t 15), none⟩,
  ⟨some 16, .extract 0 (.t 11), none⟩,
  ⟨some 17, .extract 1 (.t 11), none⟩,
  ⟨some 18, .extract 2 (.t 11), none⟩,
  ⟨some 8, .alloc [(.int .i64 0), (.int .i64 0), (.int .i64 0), (.int .i64 0)], none⟩,
  ⟨none, .store 4 (.t 8) (.t 16), none⟩,
  ⟨some 9, .mv (.t 17), none⟩,
  ⟨some 10, .mv (.t 18), none⟩])
 (.seq (.region [⟨some 19, .load true 4 (.t 8), none⟩,
  ⟨some 20, .mv (.t 9), none⟩,
  ⟨none, .store 4 (.t 6) (.t 19), none⟩,
  ⟨some 7, .mv (.t 20), none⟩])
 .ret)))
def c17 : RFunc := ⟨c17r, some c17b, none⟩
def c18r : List RRes := [.cell 6 true 4, .tmp 7]
def c18_0 : RCode :=
 (.seq (.region [⟨some 27, .load false 1 (.t 8), none⟩,
  ⟨some 28, .call (.c (.fn 41 [] [])) [(.t 27)], none⟩,
  ⟨some 10, .alloc [.nils], none⟩,
  ⟨none, .store 1 (.t 10) (.t 28), none⟩])
 (.seq (.region [⟨some 29, .lit false 1 1 [(.int .i64 0)] [(0, 1, (.c (.int .i64 0)))], none⟩,
  ⟨some 11, .alloc [.nils], none⟩,
  ⟨none, .store 1 (.t 11) (.t 29), none⟩])
 (.seq (.region [⟨some 31, .mv (.t 1), none⟩,
  ⟨some 32, .mv (.t 2), none⟩,
  ⟨some 33, .mkfn 43 [] [(.t 8), (.t 11), (.t 10)], none⟩,
  ⟨some 34, .call (.c (.fn 42 [] [])) [(.t 31), (.t 32), (.t 33)], none⟩,
  ⟨some 30, .mv (.t 34), none⟩,
  ⟨some 35, .extract 0 (.t 30), none⟩,
  ⟨some 36, .extract 1 (.t 30), none⟩,
  ⟨some 37, .extract 2 (.t 30), none⟩,
  ⟨some 12, .alloc [(.int .i64 0), (.int .i64 0), (.int .i64 0), (.int .i64 0)], none⟩,
  ⟨none, .store 4 (.t 12) (.t 35), none⟩,
  ⟨some 13, .mv (.t 36), none⟩,
  ⟨some 14, .mv (.t 37), none⟩])
 (.seq (.region [⟨some 38, .load true 4 (.t 12), none⟩,
  ⟨some 39, .mv (.t 13), none⟩,
  ⟨none, .store 4 (.t 6) (.t 38), none⟩,
  ⟨some 7, .mv (.t 39), none⟩])
 .ret))))
def c18_1 : RCode :=
 (.cond (.t 25)
 (.seq (.region [⟨some 26, .build [(.int .i64 0), (.int .i64 0), (.int .i64 0), (.int .i64 0)] [], none⟩,
  ⟨none, .store 4 (.t 6) (.t 26), none⟩,
  ⟨some 7, .mv (.c (.int .i64 0)), none⟩])
 .ret)
 .skip)
def o18_2_5 : List ROper :=
  ⟨some 25, .pick (.t 22) (.c (.bool true)) (.t 24), none⟩ ::
  []
def o18_2_4 : List ROper :=
  ⟨some 24, .call (.c (.fn 14 [] [])) [(.t 23)], some (22, false)⟩ ::
  o18_2_5
def c18b : RCode :=
 (.seq (.region [⟨some 6, .alloc [(.int .i64 0), (.int .i64 0), (.int .i64 0), (.int .i64 0)], none⟩,
  ⟨some 7, .mv (.c (.int .i64 0)), none⟩])
 (.seq (.region [⟨some 16, .mv (.t 0), none⟩,
  ⟨some 17, .call (.c (.fn 11 [] [])) [(.t 16)], none⟩,
  ⟨some 15, .mv (.t 17), none⟩,
  ⟨some 18, .extract 0 (.t 15), none⟩,
  ⟨some 19, .extract 1 (.t 15), none⟩,
  ⟨some 8, .alloc [.nilp], none⟩,
  ⟨none, .store 1 (.t 8) (.t 18), none⟩,
  ⟨some 9, .mv (.t 19), none⟩])
 (.seq (.seq (.region (⟨some 20, .mv (.t 9), none⟩ ::
  ⟨some 21, .bin (some .other) none .neq (.t 20) (.c (.int .i64 0)), none⟩ ::
  ⟨some 22, .mv (.t 21), none⟩ ::
  ⟨some 23, .mv (.t 0), some (22, false)⟩ ::
  o18_2_4))
 c18_1)
 c18_0)))
def c18 : RFunc := ⟨c18r, some c18b, none⟩
def c19r : List RRes := [.tmp 6]
def c19b : RCode :=
 (.seq (.region [⟨some 6, .mv (.c (.bool false)), none⟩])
 (.seq (.region [⟨some 11, .mv (.t 0), none⟩,
  ⟨some 12, .mv (.t 1), none⟩,
  ⟨some 13, .mv (.t 2), none⟩,
  ⟨some 14, .call (.c (.fn 40 [] [])) [(.t 11), (.t 12), (.t 13)], none⟩,
  ⟨some 10, .mv (.t 14), none⟩,
  ⟨some 15, .extract 0 (.t 10), none⟩,
  ⟨some 16, .extract 1 (.t 10), none⟩,
  ⟨some 17, .extract 2 (.t 10), none⟩,
  ⟨some 7, .alloc [(.int .i64 0), (.int .i64 0), (.int .i64 0), (.int .i64 0)], none⟩,
  ⟨none, .store 4 (.t 7) (.t 15), none⟩,
  ⟨some 8, .mv (.t 16), none⟩,
  ⟨some 9, .mv (.t 17), none⟩])
 (.seq (.region [⟨some 18, .mv (.t 9), none⟩,
  ⟨some 6, .mv (.t 18), none⟩])
 .ret)))
def c19 : RFunc := ⟨c19r, some c19b, none⟩
def c20r : List RRes := []
def c20 : RFunc := ⟨[],
 none,
 some ((some 4), [⟨some 1, .mv (.t 4), none⟩],
  (.seq
   (.region [⟨some 5, .mv (.t 1), none⟩,
    ⟨some 6, .bin (some .iface0) none .neq (.t 5) (.c .nili), none⟩])
   (.cond (.t 6)
    (.seq
     (.region [⟨some 8, .mv (.t 1), none⟩,
      ⟨some 9, .assert 58 true (some (.agg [(.int .i64 0)])) (.t 8), none⟩,
      ⟨some 7, .mv (.t 9), none⟩,
      ⟨some 10, .extract 0 (.t 7), none⟩,
      ⟨some 11, .extract 1 (.t 7), none⟩,
      ⟨some 2, .alloc [(.int .i64 0)], none⟩,
      ⟨none, .store 1 (.t 2) (.t 10), none⟩,
      ⟨some 3, .mv (.t 11), none⟩])
     (.seq
      (.seq
       (.region [⟨some 12, .mv (.t 3), none⟩,
        ⟨some 13, .un .not (.t 12), none⟩])
       (.cond (.t 13)
        (.region [⟨some 14, .mv (.t 1), none⟩,
         ⟨none, .panic (.t 14), none⟩])
        .skip))
      (.region [⟨some 15, .faddr 0 (.t 2), none⟩,
       ⟨some 16, .load false 1 (.t 15), none⟩,
       ⟨none, .store 1 (.t 0) (.t 16), none⟩])))
    .skip)))⟩
def c21r : List RRes := [.tmp 4]
def c21b : RCode :=
 (.seq (.region [⟨some 4, .mv (.c (.bool false)), none⟩])
 (.seq (.region [⟨some 5, .mv (.t 0), none⟩,
  ⟨some 6, .mv (.t 1), none⟩,
  ⟨some 7, .call (.c (.fn 46 [] [])) [(.t 5), (.t 6)], none⟩,
  ⟨some 8, .bin (some .other) none .geq (.t 7) (.c (.int .i64 0)), none⟩,
  ⟨some 4, .mv (.t 8), none⟩])
 .ret))
def c21 : RFunc := ⟨c21r, some c21b, none⟩
def c22r : List RRes := [.tmp 2]
def c22b : RCode :=
 (.seq (.region [⟨some 1, .box (.t 0), none⟩,
  ⟨some 2, .mv (.c (.bool false)), none⟩])
 (.seq (.region [⟨some 3, .load true 3 (.t 1), none⟩,
  ⟨some 4, .call (.c (.fn 23 [] [])) [(.t 3)], none⟩,
  ⟨some 5, .un .not (.t 4), none⟩,
  ⟨some 2, .mv (.t 5), none⟩])
 .ret))
def c22 : RFunc := ⟨c22r, some c22b, none⟩
def c23r : List RRes := [.tmp 2]
def c23_0 : RCode :=
 .ret
def o23_1_5 : List ROper :=
  ⟨some 8, .pick (.t 5) (.t 7) (.c (.bool false)), none⟩ ::
  ⟨some 2, .mv (.t 8), none⟩ ::
  []
def o23_1_4 : List ROper :=
  ⟨some 7, .call (.c (.fn 48 [] [])) [(.t 6)], some (5, true)⟩ ::
  o23_1_5
def c23b : RCode :=
 (.seq (.region [⟨some 1, .box (.t 0), none⟩,
  ⟨some 2, .mv (.c (.bool false)), none⟩])
 (.seq (.region (⟨some 3, .load true 3 (.t 1), none⟩ ::
  ⟨some 4, .call (.c (.fn 47 [] [])) [(.t 3)], none⟩ ::
  ⟨some 5, .mv (.t 4), none⟩ ::
  ⟨some 6, .load true 3 (.t 1), some (5, true)⟩ ::
  o23_1_4))
 c23_0))
def c23 : RFunc := ⟨c23r, some c23b, none⟩
def c24r : List RRes := []
def c24_2 : RCode :=
 (.region [⟨some 28, .bin (some .other) none .add (.t 9) (.c (.int .i64 1)), none⟩,
  ⟨some 9, .mv (.t 28), none⟩])
def c24_1 : RCode :=
 (.seq (.block 1
 (.seq (.region [⟨some 11, .iaddrS 1 (.t 7) (.t 9), none⟩,
  ⟨some 12, .load false 1 (.t 11), none⟩,
  ⟨some 6, .mv (.t 12), none⟩])
 (.drawn [(⟨some 13, .load false 1 (.t 2), none⟩, []),
  (⟨some 14, .nilc (.t 13), none⟩, []),
  (⟨some 15, .faddr 1 (.t 14), none⟩, []),
  (⟨some 16, .load false 1 (.t 15), none⟩, []),
  (⟨some 17, .mv (.t 6), none⟩, []),
  (⟨some 18, .load false 1 (.t 2), none⟩, []),
  (⟨some 19, .nilc (.t 18), none⟩, []),
  (⟨some 20, .faddr 1 (.t 19), none⟩, []),
  (⟨some 21, .load false 1 (.t 20), none⟩, []),
  (⟨some 22, .mv (.t 6), none⟩, []),
  (⟨some 23, .iaddrS 1 (.t 21) (.t 22), none⟩, []),
  (⟨some 24, .load false 1 (.t 23), none⟩, []),
  (⟨some 25, .mv (.t 1), none⟩, []),
  (⟨some 26, .call (.c (.fn 25 [] [])) [(.t 24), (.t 25)], none⟩, [⟨some 13, .load false 1 (.t 2), none⟩, ⟨some 16, .load false 1 (.t 15), none⟩]),
  (⟨some 27, .iaddrS 1 (.t 16) (.t 17), none⟩, []),
  (⟨none, .store 1 (.t 27) (.t 26), none⟩, [])])))
 c24_2)
def c24_0 : RCode :=
 (.seq (.region [⟨some 10, .bin (some .other) none .lss (.t 9) (.t 8), none⟩])
 (.seq (.cond (.t 10)
 .skip
 (.exit 0))
 c24_1))
def c24b : RCode :=
 (.seq (.region [⟨some 7, .mv (.t 0), none⟩,
  ⟨some 8, .len .sl (.t 7), none⟩,
  ⟨some 9, .mv (.c (.int .i64 0)), none⟩])
 (.block 0
 (.loop c24_0)))
def c24 : RFunc := ⟨c24r, some c24b, none⟩
def c25r : List RRes := [.tmp 4]
def c25b : RCode :=
 (.seq (.region [⟨some 4, .mv (.c .nils), none⟩])
 (.seq (.region [⟨some 6, .mv (.t 0), none⟩,
  ⟨some 7, .mv (.t 1), none⟩,
  ⟨some 8, .lit false 1 2 [.nils, .nils] [(0, 1, (.t 6)), (1, 1, (.t 7))], none⟩,
  ⟨some 9, .call (.c (.fn 49 [] [])) [(.t 8)], none⟩,
  ⟨some 5, .mv (.t 9), none⟩])
 (.seq (.region [⟨some 10, .mv (.t 5), none⟩,
  ⟨some 11, .call (.c (.fn 50 [] [])) [(.t 10)], none⟩])
 (.seq (.region [⟨some 12, .mv (.t 5), none⟩,
  ⟨some 13, .call (.c (.fn 51 [] [])) [(.t 12)], none⟩,
  ⟨some 4, .mv (.t 13), none⟩])
 .ret))))
def c25 : RFunc := ⟨c25r, some c25b, none⟩
end
end Go.AM.Ly
set_option maxRecDepth 100000
namespace Go.AM.Ly
open Go
noncomputable section
def c26r : List RRes := [.cell 5 true 3]
def c26_1 : RCode :=
 (.seq (.region [⟨some 164, .faddr 0 (.t 4), none⟩,
  ⟨some 165, .load false 1 (.t 164), none⟩,
  ⟨some 166, .bin (some .other) none .eql (.t 165) (.c (.int .i64 1)), none⟩,
  ⟨some 167, .build [.nils, .nils, (.bool false)] [(2, 1, (.t 166))], none⟩,
  ⟨none, .store 3 (.t 5) (.t 167), none⟩])
 .ret)
def c26_4 : RCode :=
 (.seq (.region [⟨some 111, .load true 3 (.t 12), none⟩,
  ⟨none, .store 3 (.t 5) (.t 111), none⟩])
 .ret)
def c26_3 : RCode :=
 (.seq (.seq (.region [⟨some 103, .faddr 2 (.t 11), none⟩,
  ⟨some 104, .load false 1 (.t 103), none⟩])
 (.cond (.t 104)
 (.region [⟨some 105, .faddr 1 (.t 10), none⟩,
  ⟨some 106, .load false 1 (.t 105), none⟩,
  ⟨some 107, .faddr 1 (.t 11), none⟩,
  ⟨some 108, .load false 1 (.t 107), none⟩,
  ⟨some 109, .call (.c (.fn 25 [] [])) [(.t 106), (.t 108)], none⟩,
  ⟨some 110, .faddr 1 (.t 12), none⟩,
  ⟨none, .store 1 (.t 110) (.t 109), none⟩])
 .skip))
 c26_4)
def c26_2 : RCode :=
 (.seq (.seq (.region [⟨some 95, .faddr 2 (.t 10), none⟩,
  ⟨some 96, .load false 1 (.t 95), none⟩])
 (.cond (.t 96)
 (.region [⟨some 97, .faddr 0 (.t 10), none⟩,
  ⟨some 98, .load false 1 (.t 97), none⟩,
  ⟨some 99, .faddr 0 (.t 11), none⟩,
  ⟨some 100, .load false 1 (.t 99), none⟩,
  ⟨some 101, .call (.c (.fn 25 [] [])) [(.t 98), (.t 100)], none⟩,
  ⟨some 102, .faddr 0 (.t 12), none⟩,
  ⟨none, .store 1 (.t 102) (.t 101), none⟩])
 .skip))
 c26_3)
def o26_7_9 : List ROper :=
  ⟨some 93, .pick (.t 90) (.t 92) (.c (.bool false)), none⟩ ::
  ⟨some 94, .build [.nils, .nils, (.bool false)] [(0, 1, (.t 85)), (1, 1, (.t 87)), (2, 1, (.t 93))], none⟩ ::
  ⟨some 12, .alloc [.nils, .nils, (.bool false)], none⟩ ::
  ⟨none, .store 3 (.t 12) (.t 94), none⟩ ::
  []
def o26_7_8 : List ROper :=
  ⟨some 92, .load false 1 (.t 91), some (90, true)⟩ ::
  o26_7_9
def c26_10 : RCode :=
 .ret
def o26_11_27 : List (ROper × List ROper) :=
  (⟨some 141, .pick (.t 136) (.c (.bool true)) (.t 140), none⟩, []) ::
  (⟨some 142, .build [.nils, .nils, (.bool false)] [(0, 1, (.t 122)), (1, 1, (.t 131)), (2, 1, (.t 141))], none⟩, []) ::
  (⟨none, .store 3 (.t 5) (.t 142), none⟩, []) ::
  []
def o26_11_26 : List (ROper × List ROper) :=
  (⟨some 140, .load false 1 (.t 139), some (136, false)⟩, []) ::
  o26_11_27
def o26_11_25 : List (ROper × List ROper) :=
  (⟨some 139, .faddr 2 (.t 138), some (136, false)⟩, []) ::
  o26_11_26
def o26_11_24 : List (ROper × List ROper) :=
  (⟨some 138, .iaddrS 3 (.t 137) (.c (.int .i64 1)), some (136, false)⟩, []) ::
  o26_11_25
def c26_16 : RCode :=
 (.seq (.drawn [(⟨some 155, .mv (.t 6), none⟩, []),
  (⟨some 156, .iaddrS 3 (.t 155) (.c (.int .i64 0)), none⟩, []),
  (⟨some 157, .faddr 0 (.t 156), none⟩, []),
  (⟨some 158, .load false 1 (.t 157), none⟩, []),
  (⟨some 159, .mv (.t 6), none⟩, []),
  (⟨some 160, .iaddrS 3 (.t 159) (.c (.int .i64 0)), none⟩, []),
  (⟨some 161, .faddr 1 (.t 160), none⟩, []),
  (⟨some 162, .load false 1 (.t 161), none⟩, []),
  (⟨some 163, .build [.nils, .nils, (.bool false)] [(0, 1, (.t 158)), (1, 1, (.t 162)), (2, 1, (.c (.bool true)))], none⟩, []),
  (⟨none, .store 3 (.t 5) (.t 163), none⟩, [])])
 .ret)
def c26_0 : RCode :=
 (.seq (.seq (.region [⟨some 27, .faddr 0 (.t 4), none⟩,
  ⟨some 28, .load false 1 (.t 27), none⟩])
 (.block 2
 (.seq (.region [⟨some 30, .bin (some .other) none .eql (.t 28) (.c (.int .i64 2)), none⟩,
  ⟨some 29, .mv (.t 30), none⟩])
 (.cond (.t 29)
 (.seq (.region [⟨some 31, .load false 1 (.t 2), none⟩,
  ⟨some 32, .nilc (.t 31), none⟩,
  ⟨some 33, .faddr 0 (.t 32), none⟩,
  ⟨some 34, .load false 1 (.t 33), none⟩,
  ⟨some 35, .len .sl (.t 34), none⟩,
  ⟨some 9, .mv (.t 35), none⟩])
 (.seq (.drawn [(⟨some 36, .load false 1 (.t 2), none⟩, []),
  (⟨some 37, .load false 1 (.t 2), none⟩, []),
  (⟨some 38, .load false 1 (.t 2), none⟩, []),
  (⟨some 39, .load false 1 (.t 2), none⟩, []),
  (⟨some 40, .nilc (.t 39), none⟩, []),
  (⟨some 41, .faddr 0 (.t 40), none⟩, []),
  (⟨some 42, .load false 1 (.t 41), none⟩, []),
  (⟨some 43, .faddr 1 (.t 4), none⟩, []),
  (⟨some 44, .load false 1 (.t 43), none⟩, []),
  (⟨some 45, .lit true 1 1 [.nils] [(0, 1, (.t 44))], none⟩, []),
  (⟨some 47, .load false 1 (.t 2), none⟩, []),
  (⟨some 48, .nilc (.t 47), none⟩, []),
  (⟨some 49, .faddr 1 (.t 48), none⟩, []),
  (⟨some 50, .load false 1 (.t 49), none⟩, []),
  (⟨some 51, .lit true 1 1 [.nils] [(0, 1, (.c .nils))], none⟩, []),
  (⟨some 53, .load false 1 (.t 2), none⟩, []),
  (⟨some 54, .nilc (.t 53), none⟩, []),
  (⟨some 55, .faddr 2 (.t 54), none⟩, []),
  (⟨some 56, .load false 1 (.t 55), none⟩, []),
  (⟨some 57, .lit true 1 1 [.nils] [(0, 1, (.c .nils))], none⟩, []),
  (⟨some 46, .append 1 24 [.nils] false (.t 42) (.t 45), none⟩, [⟨some 36, .load false 1 (.t 2), none⟩, ⟨some 37, .load false 1 (.t 2), none⟩, ⟨some 38, .load false 1 (.t 2), none⟩, ⟨some 47, .load false 1 (.t 2), none⟩, ⟨some 50, .load false 1 (.t 49), none⟩, ⟨some 53, .load false 1 (.t 2), none⟩, ⟨some 56, .load false 1 (.t 55), none⟩]),
  (⟨some 52, .append 1 24 [.nils] false (.t 50) (.t 51), none⟩, [⟨some 36, .load false 1 (.t 2), none⟩, ⟨some 37, .load false 1 (.t 2), none⟩, ⟨some 38, .load false 1 (.t 2), none⟩, ⟨some 53, .load false 1 (.t 2), none⟩, ⟨some 56, .load false 1 (.t 55), none⟩]),
  (⟨some 58, .append 1 24 [.nils] false (.t 56) (.t 57), none⟩, [⟨some 36, .load false 1 (.t 2), none⟩, ⟨some 37, .load false 1 (.t 2), none⟩, ⟨some 38, .load false 1 (.t 2), none⟩]),
  (⟨some 59, .nilc (.t 36), none⟩, []),
  (⟨some 60, .faddr 0 (.t 59), none⟩, []),
  (⟨none, .store 1 (.t 60) (.t 46), none⟩, [⟨some 37, .load false 1 (.t 2), none⟩, ⟨some 38, .load false 1 (.t 2), none⟩]),
  (⟨some 61, .nilc (.t 37), none⟩, []),
  (⟨some 62, .faddr 1 (.t 61), none⟩, []),
  (⟨none, .store 1 (.t 62) (.t 52), none⟩, [⟨some 38, .load false 1 (.t 2), none⟩]),
  (⟨some 63, .nilc (.t 38), none⟩, []),
  (⟨some 64, .faddr 2 (.t 63), none⟩, []),
  (⟨none, .store 1 (.t 64) (.t 58), none⟩, [])])
 (.seq (.region [⟨some 65, .mv (.t 9), none⟩,
  ⟨some 66, .lit false 1 1 [(.int .i64 0)] [(0, 1, (.t 65))], none⟩,
  ⟨some 67, .mv (.t 9), none⟩,
  ⟨some 68, .lit false 1 1 [(.int .i64 0)] [(0, 1, (.t 67))], none⟩,
  ⟨some 69, .build [.nils, .nils, (.bool false)] [(0, 1, (.t 66)), (1, 1, (.t 68)), (2, 1, (.c (.bool false)))], none⟩,
  ⟨none, .store 3 (.t 5) (.t 69), none⟩])
 .ret)))
 (.seq (.region [⟨some 71, .bin (some .other) none .eql (.t 28) (.c (.int .i64 3)), none⟩,
  ⟨some 70, .mv (.t 71), none⟩])
 (.cond (.t 70)
 (.seq (.drawn [(⟨some 72, .mv (.t 6), none⟩, []),
  (⟨some 73, .iaddrS 3 (.t 72) (.c (.int .i64 0)), none⟩, []),
  (⟨some 74, .load true 3 (.t 73), none⟩, []),
  (⟨some 75, .mv (.t 6), none⟩, []),
  (⟨some 76, .iaddrS 3 (.t 75) (.c (.int .i64 1)), none⟩, []),
  (⟨some 77, .load true 3 (.t 76), none⟩, []),
  (⟨some 10, .alloc [.nils, .nils, (.bool false)], none⟩, [⟨some 74, .load true 3 (.t 73), none⟩, ⟨some 77, .load true 3 (.t 76), none⟩]),
  (⟨some 11, .alloc [.nils, .nils, (.bool false)], none⟩, [⟨some 74, .load true 3 (.t 73), none⟩, ⟨some 77, .load true 3 (.t 76), none⟩]),
  (⟨none, .store 3 (.t 10) (.t 74), none⟩, [⟨some 77, .load true 3 (.t 76), none⟩]),
  (⟨none, .store 3 (.t 11) (.t 77), none⟩, [])])
 (.seq (.region [⟨some 78, .load false 1 (.t 3), none⟩,
  ⟨some 79, .faddr 1 (.t 10), none⟩,
  ⟨some 80, .load false 1 (.t 79), none⟩,
  ⟨some 81, .faddr 0 (.t 11), none⟩,
  ⟨some 82, .load false 1 (.t 81), none⟩,
  ⟨some 83, .call (.t 78) [(.t 80), (.t 82)], none⟩])
 (.seq (.region (⟨some 84, .faddr 0 (.t 10), none⟩ ::
  ⟨some 85, .load false 1 (.t 84), none⟩ ::
  ⟨some 86, .faddr 1 (.t 11), none⟩ ::
  ⟨some 87, .load false 1 (.t 86), none⟩ ::
  ⟨some 88, .faddr 2 (.t 10), none⟩ ::
  ⟨some 89, .load false 1 (.t 88), none⟩ ::
  ⟨some 90, .mv (.t 89), none⟩ ::
  ⟨some 91, .faddr 2 (.t 11), some (90, true)⟩ ::
  o26_7_8))
 c26_2)))
 (.seq (.region [⟨some 113, .bin (some .other) none .eql (.t 28) (.c (.int .i64 4)), none⟩,
  ⟨some 112, .mv (.t 113), none⟩])
 (.cond (.t 112)
 (.seq (.drawn ((⟨some 114, .mv (.t 6), none⟩, []) ::
  (⟨some 115, .iaddrS 3 (.t 114) (.c (.int .i64 0)), none⟩, []) ::
  (⟨some 116, .faddr 0 (.t 115), none⟩, []) ::
  (⟨some 117, .load false 1 (.t 116), none⟩, []) ::
  (⟨some 118, .mv (.t 6), none⟩, []) ::
  (⟨some 119, .iaddrS 3 (.t 118) (.c (.int .i64 1)), none⟩, []) ::
  (⟨some 120, .faddr 0 (.t 119), none⟩, []) ::
  (⟨some 121, .load false 1 (.t 120), none⟩, []) ::
  (⟨some 123, .mv (.t 6), none⟩, []) ::
  (⟨some 124, .iaddrS 3 (.t 123) (.c (.int .i64 0)), none⟩, []) ::
  (⟨some 125, .faddr 1 (.t 124), none⟩, []) ::
  (⟨some 126, .load false 1 (.t 125), none⟩, []) ::
  (⟨some 127, .mv (.t 6), none⟩, []) ::
  (⟨some 128, .iaddrS 3 (.t 127) (.c (.int .i64 1)), none⟩, []) ::
  (⟨some 129, .faddr 1 (.t 128), none⟩, []) ::
  (⟨some 130, .load false 1 (.t 129), none⟩, []) ::
  (⟨some 132, .mv (.t 6), none⟩, []) ::
  (⟨some 133, .iaddrS 3 (.t 132) (.c (.int .i64 0)), none⟩, []) ::
  (⟨some 134, .faddr 2 (.t 133), none⟩, []) ::
  (⟨some 135, .load false 1 (.t 134), none⟩, []) ::
  (⟨some 122, .call (.c (.fn 25 [] [])) [(.t 117), (.t 121)], none⟩, [⟨some 126, .load false 1 (.t 125), none⟩, ⟨some 130, .load false 1 (.t 129), none⟩, ⟨some 135, .load false 1 (.t 134), none⟩]) ::
  (⟨some 131, .call (.c (.fn 25 [] [])) [(.t 126), (.t 130)], none⟩, [⟨some 135, .load false 1 (.t 134), none⟩]) ::
  (⟨some 136, .mv (.t 135), none⟩, []) ::
  (⟨some 137, .mv (.t 6), some (136, false)⟩, []) ::
  o26_11_24))
 c26_10)
 (.seq (.region [⟨some 144, .bin (some .other) none .eql (.t 28) (.c (.int .i64 5)), none⟩,
  ⟨some 143, .mv (.t 144), none⟩])
 (.cond (.t 143)
 (.seq (.seq (.drawn [(⟨some 145, .load false 1 (.t 3), none⟩, []),
  (⟨some 146, .mv (.t 6), none⟩, []),
  (⟨some 147, .iaddrS 3 (.t 146) (.c (.int .i64 0)), none⟩, []),
  (⟨some 148, .faddr 1 (.t 147), none⟩, []),
  (⟨some 149, .load false 1 (.t 148), none⟩, []),
  (⟨some 150, .mv (.t 6), none⟩, []),
  (⟨some 151, .iaddrS 3 (.t 150) (.c (.int .i64 0)), none⟩, []),
  (⟨some 152, .faddr 0 (.t 151), none⟩, []),
  (⟨some 153, .load false 1 (.t 152), none⟩, [])])
 (.region [⟨some 154, .call (.t 145) [(.t 149), (.t 153)], none⟩]))
 c26_16)
 .skip))))))))))
 c26_1)
def c26_20 : RCode :=
 (.region [⟨some 26, .bin (some .other) none .add (.t 16) (.c (.int .i64 1)), none⟩,
  ⟨some 16, .mv (.t 26), none⟩])
def c26_19 : RCode :=
 (.seq (.block 1
 (.seq (.region [⟨some 18, .iaddrS 3 (.t 14) (.t 16), none⟩,
  ⟨some 19, .load true 3 (.t 18), none⟩,
  ⟨some 8, .alloc [(.int .i64 0), .nils, .nils], none⟩,
  ⟨none, .store 3 (.t 8) (.t 19), none⟩])
 (.region [⟨some 20, .mv (.t 6), none⟩,
  ⟨some 21, .load false 1 (.t 1), none⟩,
  ⟨some 22, .load true 3 (.t 8), none⟩,
  ⟨some 23, .call (.t 21) [(.t 22)], none⟩,
  ⟨some 24, .lit false 3 1 [.nils, .nils, (.bool false)] [(0, 3, (.t 23))], none⟩,
  ⟨some 25, .append 3 56 [.nils, .nils, (.bool false)] false (.t 20) (.t 24), none⟩,
  ⟨some 6, .mv (.t 25), none⟩])))
 c26_20)
def c26_18 : RCode :=
 (.seq (.region [⟨some 17, .bin (some .other) none .lss (.t 16) (.t 15), none⟩])
 (.seq (.cond (.t 17)
 .skip
 (.exit 0))
 c26_19))
def c26b : RCode :=
 (.seq (.region [⟨some 4, .box (.t 0), none⟩,
  ⟨some 5, .alloc [.nils, .nils, (.bool false)], none⟩])
 (.seq (.region [⟨some 6, .mv (.c .nils), none⟩])
 (.seq (.seq (.region [⟨some 13, .faddr 2 (.t 4), none⟩,
  ⟨some 14, .load false 1 (.t 13), none⟩,
  ⟨some 15, .len .sl (.t 14), none⟩,
  ⟨some 16, .mv (.c (.int .i64 0)), none⟩])
 (.block 0
 (.loop c26_18)))
 c26_0)))
def c26 : RFunc := ⟨c26r, some c26b, none⟩
def c27r : List RRes := [.tmp 2]
def c27_0 : RCode :=
 (.seq (.region [⟨some 5, .mv (.t 0), none⟩,
  ⟨some 6, .nilc (.t 5), none⟩,
  ⟨some 7, .faddr 0 (.t 6), none⟩,
  ⟨some 8, .load false 1 (.t 7), none⟩,
  ⟨some 9, .call (.c (.fn 52 [] [])) [(.t 8)], none⟩,
  ⟨some 2, .mv (.t 9), none⟩])
 .ret)
def c27b : RCode :=
 (.seq (.region [⟨some 2, .mv (.c .nils), none⟩])
 (.seq (.seq (.region [⟨some 3, .mv (.t 0), none⟩,
  ⟨some 4, .bin (some .ptr) none .eql (.t 3) (.c .nilp), none⟩])
 (.cond (.t 4)
 (.seq (.region [⟨some 2, .mv (.c .nils), none⟩])
 .ret)
 .skip))
 c27_0))
def c27 : RFunc := ⟨c27r, some c27b, none⟩
def c28r : List RRes := [.tmp 2]
def c28_0 : RCode :=
 (.seq (.region [⟨some 18, .mv (.t 3), none⟩,
  ⟨some 19, .conv .strBytes (.t 18), none⟩,
  ⟨some 2, .mv (.t 19), none⟩])
 .ret)
def c28_3 : RCode :=
 (.region [⟨some 17, .bin (some .other) none .add (.t 8) (.c (.int .i64 1)), none⟩,
  ⟨some 8, .mv (.t 17), none⟩])
def c28_2 : RCode :=
 (.seq (.block 1
 (.seq (.region [⟨some 10, .iaddrS 1 (.t 6) (.t 8), none⟩,
  ⟨some 11, .load false 1 (.t 10), none⟩,
  ⟨some 5, .mv (.t 11), none⟩])
 (.region [⟨some 12, .mv (.t 3), none⟩,
  ⟨some 13, .mv (.t 5), none⟩,
  ⟨some 14, .call (.c (.fn 53 [] [])) [(.t 12), (.t 13), (.c (.int .i64 10))], none⟩,
  ⟨some 15, .lit false 1 1 [(.int .u8 0)] [(0, 1, (.c (.int .u8 32)))], none⟩,
  ⟨some 16, .append 1 1 [(.int .u8 0)] false (.t 14) (.t 15), none⟩,
  ⟨some 3, .mv (.t 16), none⟩])))
 c28_3)
def c28_1 : RCode :=
 (.seq (.region [⟨some 9, .bin (some .other) none .lss (.t 8) (.t 7), none⟩])
 (.seq (.cond (.t 9)
 .skip
 (.exit 0))
 c28_2))
def c28b : RCode :=
 (.seq (.region [⟨some 2, .mv (.c (.str ⟨#[]⟩)), none⟩])
 (.seq (.region [⟨some 3, .mv (.c .nils), none⟩])
 (.seq (.seq (.region [⟨some 6, .mv (.t 0), none⟩,
  ⟨some 7, .len .sl (.t 6), none⟩,
  ⟨some 8, .mv (.c (.int .i64 0)), none⟩])
 (.block 0
 (.loop c28_1)))
 c28_0)))
def c28 : RFunc := ⟨c28r, some c28b, none⟩
def c29r : List RRes := [.tmp 6]
def c29_1 : RCode :=
 (.seq (.region [⟨some 51, .mv (.t 7), none⟩,
  ⟨some 52, .call (.c (.fn 25 [] [])) [(.t 51), (.c .nils)], none⟩,
  ⟨some 6, .mv (.t 52), none⟩])
 .ret)
def c29_4 : RCode :=
 (.region [⟨some 50, .bin (some .other) none .add (.t 16) (.c (.int .i64 1)), none⟩,
  ⟨some 16, .mv (.t 50), none⟩])
def c29_9 : RCode :=
 (.region [⟨some 49, .bin (some .other) none .add (.t 32) (.c (.int .i64 1)), none⟩,
  ⟨some 32, .mv (.t 49), none⟩])
def c29_8 : RCode :=
 (.seq (.block 3
 (.seq (.region [⟨some 34, .iaddrS 1 (.t 30) (.t 32), none⟩,
  ⟨some 35, .load false 1 (.t 34), none⟩,
  ⟨some 11, .mv (.t 35), none⟩])
 (.seq (.region [⟨some 36, .mv (.t 0), none⟩,
  ⟨some 37, .nilc (.t 36), none⟩,
  ⟨some 38, .faddr 0 (.t 37), none⟩,
  ⟨some 39, .load false 1 (.t 38), none⟩,
  ⟨some 40, .mv (.t 11), none⟩,
  ⟨some 41, .iaddrS 1 (.t 39) (.t 40), none⟩,
  ⟨some 42, .load false 1 (.t 41), none⟩,
  ⟨some 43, .mv (.t 2), none⟩,
  ⟨some 44, .call (.c (.fn 55 [] [])) [(.t 42), (.t 43)], none⟩])
 (.cond (.t 44)
 (.region [⟨some 45, .mv (.t 7), none⟩,
  ⟨some 46, .mv (.t 11), none⟩,
  ⟨some 47, .lit false 1 1 [(.int .i64 0)] [(0, 1, (.t 46))], none⟩,
  ⟨some 48, .append 1 8 [(.int .i64 0)] false (.t 45) (.t 47), none⟩,
  ⟨some 7, .mv (.t 48), none⟩])
 .skip))))
 c29_9)
def c29_7 : RCode :=
 (.seq (.region [⟨some 33, .bin (some .other) none .lss (.t 32) (.t 31), none⟩])
 (.seq (.cond (.t 33)
 .skip
 (.exit 2))
 c29_8))
def c29_6 : RCode :=
 (.seq (.region [⟨some 24, .mv (.t 0), none⟩,
  ⟨some 25, .nilc (.t 24), none⟩,
  ⟨some 26, .faddr 1 (.t 25), none⟩,
  ⟨some 27, .load false 1 (.t 26), none⟩,
  ⟨some 28, .mv (.t 9), none⟩,
  ⟨some 29, .iaddrS 1 (.t 27) (.t 28), none⟩,
  ⟨some 30, .load false 1 (.t 29), none⟩,
  ⟨some 31, .len .sl (.t 30), none⟩,
  ⟨some 32, .mv (.c (.int .i64 0)), none⟩])
 (.block 2
 (.loop c29_7)))
def c29_3 : RCode :=
 (.seq (.block 1
 (.seq (.region [⟨some 18, .iaddrS 1 (.t 14) (.t 16), none⟩,
  ⟨some 19, .load false 1 (.t 18), none⟩,
  ⟨some 9, .mv (.t 19), none⟩])
 (.seq (.seq (.region [⟨some 20, .mv (.t 0), none⟩,
  ⟨some 21, .mv (.t 9), none⟩,
  ⟨some 22, .call (.c (.fn 54 [] [])) [(.t 20), (.t 21)], none⟩,
  ⟨some 23, .un .not (.t 22), none⟩])
 (.cond (.t 23)
 (.exit 1)
 .skip))
 c29_6)))
 c29_4)
def c29_2 : RCode :=
 (.seq (.region [⟨some 17, .bin (some .other) none .lss (.t 16) (.t 15), none⟩])
 (.seq (.cond (.t 17)
 .skip
 (.exit 0))
 c29_3))
def c29_0 : RCode :=
 (.seq (.region [⟨some 7, .mv (.c .nils), none⟩])
 (.seq (.seq (.region [⟨some 14, .mv (.t 1), none⟩,
  ⟨some 15, .len .sl (.t 14), none⟩,
  ⟨some 16, .mv (.c (.int .i64 0)), none⟩])
 (.block 0
 (.loop c29_2)))
 c29_1))
def c29b : RCode :=
 (.seq (.region [⟨some 6, .mv (.c .nils), none⟩])
 (.seq (.seq (.region [⟨some 12, .mv (.t 0), none⟩,
  ⟨some 13, .bin (some .ptr) none .eql (.t 12) (.c .nilp), none⟩])
 (.cond (.t 13)
 (.seq (.region [⟨some 6, .mv (.c .nils), none⟩])
 .ret)
 .skip))
 c29_0))
def c29 : RFunc := ⟨c29r, some c29b, none⟩
def c30r : List RRes := [.tmp 4]
def c30_1 : RCode :=
 (.seq (.region [⟨some 39, .mv (.t 5), none⟩,
  ⟨some 40, .call (.c (.fn 25 [] [])) [(.t 39), (.c .nils)], none⟩,
  ⟨some 4, .mv (.t 40), none⟩])
 .ret)
def c30_4 : RCode :=
 (.region [⟨some 38, .bin (some .other) none .add (.t 12) (.c (.int .i64 1)), none⟩,
  ⟨some 12, .mv (.t 38), none⟩])
def c30_3 : RCode :=
 (.seq (.block 1
 (.seq (.region [⟨some 14, .iaddrS 1 (.t 10) (.t 12), none⟩,
  ⟨some 15, .load false 1 (.t 14), none⟩,
  ⟨some 7, .mv (.t 15), none⟩])
 (.block 2
 (.seq (.region [⟨some 17, .mv (.t 7), none⟩,
  ⟨some 18, .bin (some .other) none .eql (.t 17) (.c (.int .i64 0)), none⟩,
  ⟨some 16, .mv (.t 18), none⟩])
 (.cond (.t 16)
 (.region [⟨some 19, .mv (.t 5), none⟩,
  ⟨some 20, .mv (.t 0), none⟩,
  ⟨some 21, .nilc (.t 20), none⟩,
  ⟨some 22, .faddr 3 (.t 21), none⟩,
  ⟨some 23, .load false 1 (.t 22), none⟩,
  ⟨some 24, .append 1 8 [(.int .i64 0)] false (.t 19) (.t 23), none⟩,
  ⟨some 5, .mv (.t 24), none⟩])
 (.seq (.region [⟨some 26, .mv (.t 0), none⟩,
  ⟨some 27, .mv (.t 7), none⟩,
  ⟨some 28, .call (.c (.fn 54 [] [])) [(.t 26), (.t 27)], none⟩,
  ⟨some 25, .mv (.t 28), none⟩])
 (.cond (.t 25)
 (.region [⟨some 29, .mv (.t 5), none⟩,
  ⟨some 30, .mv (.t 0), none⟩,
  ⟨some 31, .nilc (.t 30), none⟩,
  ⟨some 32, .faddr 2 (.t 31), none⟩,
  ⟨some 33, .load false 1 (.t 32), none⟩,
  ⟨some 34, .mv (.t 7), none⟩,
  ⟨some 35, .iaddrS 1 (.t 33) (.t 34), none⟩,
  ⟨some 36, .load false 1 (.t 35), none⟩,
  ⟨some 37, .append 1 8 [(.int .i64 0)] false (.t 29) (.t 36), none⟩,
  ⟨some 5, .mv (.t 37), none⟩])
 .skip)))))))
 c30_4)
def c30_2 : RCode :=
 (.seq (.region [⟨some 13, .bin (some .other) none .lss (.t 12) (.t 11), none⟩])
 (.seq (.cond (.t 13)
 .skip
 (.exit 0))
 c30_3))
def c30_0 : RCode :=
 (.seq (.region [⟨some 5, .mv (.c .nils), none⟩])
 (.seq (.seq (.region [⟨some 10, .mv (.t 1), none⟩,
  ⟨some 11, .len .sl (.t 10), none⟩,
  ⟨some 12, .mv (.c (.int .i64 0)), none⟩])
 (.block 0
 (.loop c30_2)))
 c30_1))
def c30b : RCode :=
 (.seq (.region [⟨some 4, .mv (.c .nils), none⟩])
 (.seq (.seq (.region [⟨some 8, .mv (.t 0), none⟩,
  ⟨some 9, .bin (some .ptr) none .eql (.t 8) (.c .nilp), none⟩])
 (.cond (.t 9)
 (.seq (.region [⟨some 4, .mv (.c .nils), none⟩])
 .ret)
 .skip))
 c30_0))
def c30 : RFunc := ⟨c30r, some c30b, none⟩
def c31r : List RRes := [.tmp 2]
def c31_0 : RCode :=
 .ret
def o31_1_5 : List ROper :=
  ⟨some 8, .pick (.t 5) (.t 7) (.c (.bool false)), none⟩ ::
  ⟨some 2, .mv (.t 8), none⟩ ::
  []
def o31_1_4 : List ROper :=
  ⟨some 7, .call (.c (.fn 56 [] [])) [(.t 6)], some (5, true)⟩ ::
  o31_1_5
def c31b : RCode :=
 (.seq (.region [⟨some 1, .box (.t 0), none⟩,
  ⟨some 2, .mv (.c (.bool false)), none⟩])
 (.seq (.region (⟨some 3, .load true 3 (.t 1), none⟩ ::
  ⟨some 4, .call (.c (.fn 23 [] [])) [(.t 3)], none⟩ ::
  ⟨some 5, .mv (.t 4), none⟩ ::
  ⟨some 6, .load true 3 (.t 1), some (5, true)⟩ ::
  o31_1_4))
 c31_0))
def c31 : RFunc := ⟨c31r, some c31b, none⟩
def c32r : List RRes := [.tmp 2]
def c32_0 : RCode :=
 (.seq (.region [⟨some 5, .mv (.t 0), none⟩,
  ⟨some 6, .nilc (.t 5), none⟩,
  ⟨some 7, .faddr 0 (.t 6), none⟩,
  ⟨some 8, .load false 1 (.t 7), none⟩,
  ⟨some 9, .call (.c (.fn 57 [] [])) [(.t 8)], none⟩,
  ⟨some 2, .mv (.t 9), none⟩])
 .ret)
def c32b : RCode :=
 (.seq (.region [⟨some 2, .mv (.c .nils), none⟩])
 (.seq (.seq (.region [⟨some 3, .mv (.t 0), none⟩,
  ⟨some 4, .bin (some .ptr) none .eql (.t 3) (.c .nilp), none⟩])
 (.cond (.t 4)
 (.seq (.region [⟨some 2, .mv (.c .nils), none⟩])
 .ret)
 .skip))
 c32_0))
def c32 : RFunc := ⟨c32r, some c32b, none⟩
def c33r : List RRes := [.tmp 2]
def c33_0 : RCode :=
 (.seq (.region [⟨some 60, .mv (.t 3), none⟩,
  ⟨some 2, .mv (.t 60), none⟩])
 .ret)
def c33_5 : RCode :=
 (.region [⟨some 59, .bin (some .other) none .add (.t 15) (.c (.int .i64 1)), none⟩,
  ⟨some 15, .mv (.t 59), none⟩])
def c33_8 : RCode :=
 (.region [⟨some 55, .mv (.t 3), none⟩,
  ⟨some 56, .mv (.t 5), none⟩,
  ⟨some 57, .mv (.t 6), none⟩,
  ⟨some 58, .iaddrS 1 (.t 55) (.t 56), none⟩,
  ⟨none, .store 1 (.t 58) (.t 57), none⟩])
def o33_10_10 : List ROper :=
  ⟨some 54, .pick (.t 45) (.c (.bool true)) (.t 53), none⟩ ::
  ⟨some 4, .mv (.t 54), none⟩ ::
  []
def o33_10_9 : List ROper :=
  ⟨some 53, .pick (.t 47) (.t 52) (.c (.bool false)), some (45, false)⟩ ::
  o33_10_10
def o33_10_8 : List ROper :=
  ⟨some 52, .un .not (.t 51), some (47, true)⟩ ::
  o33_10_9
def o33_10_7 : List ROper :=
  ⟨some 51, .load false 1 (.t 50), some (47, true)⟩ ::
  o33_10_8
def o33_10_6 : List ROper :=
  ⟨some 50, .iaddrS 1 (.t 48) (.t 49), some (47, true)⟩ ::
  o33_10_7
def o33_10_5 : List ROper :=
  ⟨some 49, .mv (.t 5), some (47, true)⟩ ::
  o33_10_6
def o33_10_4 : List ROper :=
  ⟨some 48, .mv (.t 3), some (47, true)⟩ ::
  o33_10_5
def o33_10_3 : List ROper :=
  ⟨some 47, .mv (.t 46), some (45, false)⟩ ::
  o33_10_4
def c33_7 : RCode :=
 (.seq (.region (⟨some 44, .mv (.t 4), none⟩ ::
  ⟨some 45, .mv (.t 44), none⟩ ::
  ⟨some 46, .mv (.t 6), some (45, false)⟩ ::
  o33_10_3))
 c33_8)
def c33_21 : RCode :=
 (.region [⟨some 43, .bin (some .other) none .add (.t 25) (.c (.int .i64 1)), none⟩,
  ⟨some 25, .mv (.t 43), none⟩])
def o33_23_10 : List ROper :=
  ⟨some 42, .pick (.t 33) (.c (.bool true)) (.t 41), none⟩ ::
  ⟨some 6, .mv (.t 42), none⟩ ::
  []
def o33_23_9 : List ROper :=
  ⟨some 41, .pick (.t 36) (.t 40) (.c (.bool false)), some (33, false)⟩ ::
  o33_23_10
def o33_23_8 : List ROper :=
  ⟨some 40, .load false 1 (.t 39), some (36, true)⟩ ::
  o33_23_9
def o33_23_7 : List ROper :=
  ⟨some 39, .iaddrS 1 (.t 37) (.t 38), some (36, true)⟩ ::
  o33_23_8
def o33_23_6 : List ROper :=
  ⟨some 38, .mv (.t 8), some (36, true)⟩ ::
  o33_23_7
def o33_23_5 : List ROper :=
  ⟨some 37, .mv (.t 3), some (36, true)⟩ ::
  o33_23_6
def o33_23_4 : List ROper :=
  ⟨some 36, .mv (.t 35), some (33, false)⟩ ::
  o33_23_5
def o33_23_3 : List ROper :=
  ⟨some 35, .bin (some .other) none .geq (.t 34) (.c (.int .i64 0)), some (33, false)⟩ ::
  o33_23_4
def c33_20 : RCode :=
 (.seq (.block 5
 (.seq (.region [⟨some 27, .mv (.t 25), none⟩,
  ⟨some 7, .mv (.t 27), none⟩])
 (.seq (.region [⟨some 28, .mv (.t 0), none⟩,
  ⟨some 29, .mv (.t 5), none⟩,
  ⟨some 30, .mv (.t 7), none⟩,
  ⟨some 31, .call (.c (.fn 35 [] [])) [(.t 28), (.t 29), (.t 30)], none⟩,
  ⟨some 8, .mv (.t 31), none⟩])
 (.region (⟨some 32, .mv (.t 6), none⟩ ::
  ⟨some 33, .mv (.t 32), none⟩ ::
  ⟨some 34, .mv (.t 8), some (33, false)⟩ ::
  o33_23_3)))))
 c33_21)
def c33_19 : RCode :=
 (.seq (.region [⟨some 26, .bin (some .other) none .lss (.t 25) (.t 24), none⟩])
 (.seq (.cond (.t 26)
 .skip
 (.exit 4))
 c33_20))
def c33_4 : RCode :=
 (.seq (.block 3
 (.seq (.region [⟨some 17, .mv (.t 15), none⟩,
  ⟨some 5, .mv (.t 17), none⟩])
 (.seq (.region [⟨some 18, .mv (.t 0), none⟩,
  ⟨some 19, .mv (.t 5), none⟩,
  ⟨some 20, .call (.c (.fn 36 [] [])) [(.t 18), (.t 19)], none⟩,
  ⟨some 21, .bin (some .other) none .geq (.t 20) (.c (.int .i64 0)), none⟩,
  ⟨some 6, .mv (.t 21), none⟩])
 (.seq (.seq (.region [⟨some 22, .mv (.t 0), none⟩,
  ⟨some 23, .call (.c (.fn 32 [] [])) [(.t 22)], none⟩,
  ⟨some 24, .len .sl (.t 23), none⟩,
  ⟨some 25, .mv (.c (.int .i64 0)), none⟩])
 (.block 4
 (.loop c33_19)))
 c33_7))))
 c33_5)
def c33_3 : RCode :=
 (.seq (.region [⟨some 16, .bin (some .other) none .lss (.t 15) (.t 14), none⟩])
 (.seq (.cond (.t 16)
 .skip
 (.exit 2))
 c33_4))
def c33_2 : RCode :=
 (.block 1
 (.seq (.region [⟨some 4, .mv (.c (.bool false)), none⟩])
 (.seq (.region [⟨some 13, .mv (.t 3), none⟩,
  ⟨some 14, .len .sl (.t 13), none⟩,
  ⟨some 15, .mv (.c (.int .i64 0)), none⟩])
 (.block 2
 (.loop c33_3)))))
def c33_1 : RCode :=
 (.seq (.seq (.region [⟨some 12, .mv (.t 4), none⟩])
 (.cond (.t 12)
 .skip
 (.exit 0)))
 c33_2)
def c33b : RCode :=
 (.seq (.region [⟨some 2, .mv (.c .nils), none⟩])
 (.seq (.region [⟨some 9, .mv (.t 0), none⟩,
  ⟨some 10, .call (.c (.fn 58 [] [])) [(.t 9)], none⟩,
  ⟨some 11, .mkslice 1 [(.bool false)] 1 (.t 10) (.t 10), none⟩,
  ⟨some 3, .mv (.t 11), none⟩])
 (.seq (.seq (.region [⟨some 4, .mv (.c (.bool true)), none⟩])
 (.block 0
 (.loop c33_1)))
 c33_0)))
def c33 : RFunc := ⟨c33r, some c33b, none⟩
def c34r : List RRes := [.tmp 4]
def c34_2 : RCode :=
 (.region [⟨some 95, .mv (.t 7), none⟩,
  ⟨some 96, .len .map (.t 95), none⟩,
  ⟨some 6, .mv (.t 96), none⟩])
def c34_1 : RCode :=
 (.seq (.region [⟨some 89, .mv (.t 8), none⟩,
  ⟨some 5, .mv (.t 89), none⟩])
 (.seq (.seq (.region [⟨some 90, .mv (.t 7), none⟩,
  ⟨some 91, .len .map (.t 90), none⟩,
  ⟨some 92, .mv (.t 6), none⟩,
  ⟨some 93, .bin (some .other) none .eql (.t 91) (.t 92), none⟩])
 (.cond (.t 93)
 (.seq (.region [⟨some 94, .mv (.t 5), none⟩,
  ⟨some 4, .mv (.t 94), none⟩])
 .ret)
 .skip))
 c34_2))
def c34_6 : RCode :=
 (.region [⟨some 88, .bin (some .other) none .add (.t 24) (.c (.int .i64 1)), none⟩,
  ⟨some 24, .mv (.t 88), none⟩])
def c34_9 : RCode :=
 (.region [⟨some 81, .mv (.t 8), none⟩,
  ⟨some 82, .mv (.t 9), none⟩,
  ⟨some 83, .mv (.t 7), none⟩,
  ⟨some 84, .mv (.t 10), none⟩,
  ⟨some 85, .conv .strBytes (.t 84), none⟩,
  ⟨some 86, .lookup .str (.int .i64 0) (.t 83) (.t 85) false, none⟩,
  ⟨some 87, .iaddrS 1 (.t 81) (.t 82), none⟩,
  ⟨none, .store 1 (.t 87) (.t 86), none⟩])
def c34_8 : RCode :=
 (.seq (.seq (.region [⟨some 68, .mv (.t 7), none⟩,
  ⟨some 69, .mv (.t 10), none⟩,
  ⟨some 70, .conv .strBytes (.t 69), none⟩,
  ⟨some 71, .lookup .str (.int .i64 0) (.t 68) (.t 70) true, none⟩,
  ⟨some 67, .mv (.t 71), none⟩,
  ⟨some 72, .extract 0 (.t 67), none⟩,
  ⟨some 73, .extract 1 (.t 67), none⟩,
  ⟨some 13, .mv (.t 72), none⟩,
  ⟨some 14, .mv (.t 73), none⟩])
 (.seq (.region [⟨some 74, .mv (.t 14), none⟩,
  ⟨some 75, .un .not (.t 74), none⟩])
 (.cond (.t 75)
 (.region [⟨some 76, .mv (.t 7), none⟩,
  ⟨some 77, .mv (.t 10), none⟩,
  ⟨some 78, .conv .strBytes (.t 77), none⟩,
  ⟨some 79, .mv (.t 7), none⟩,
  ⟨some 80, .len .map (.t 79), none⟩,
  ⟨none, .mapupd .str (.t 76) (.t 78) (.t 80), none⟩])
 .skip)))
 c34_9)
def c34_14 : RCode :=
 (.region [⟨some 66, .bin (some .other) none .add (.t 42) (.c (.int .i64 1)), none⟩,
  ⟨some 42, .mv (.t 66), none⟩])
def c34_16 : RCode :=
 (.region [⟨some 61, .mv (.t 10), none⟩,
  ⟨some 62, .lit false 1 1 [(.int .u8 0)] [(0, 1, (.c (.int .u8 32)))], none⟩,
  ⟨some 63, .append 1 1 [(.int .u8 0)] false (.t 61) (.t 62), none⟩,
  ⟨some 64, .mv (.t 12), none⟩,
  ⟨some 65, .call (.c (.fn 53 [] [])) [(.t 63), (.t 64), (.c (.int .i64 10))], none⟩,
  ⟨some 10, .mv (.t 65), none⟩])
def c34_18 : RCode :=
 (.cond (.t 56)
 (.region [⟨some 57, .mv (.t 5), none⟩,
  ⟨some 58, .mv (.t 12), none⟩,
  ⟨some 59, .iaddrS 1 (.t 57) (.t 58), none⟩,
  ⟨some 60, .load false 1 (.t 59), none⟩,
  ⟨some 12, .mv (.t 60), none⟩])
 (.region [⟨some 12, .mv (.c (.int .i64 (.negSucc 0))), none⟩]))
def o34_21_7 : List ROper :=
  ⟨some 56, .pick (.t 51) (.t 55) (.c (.bool false)), none⟩ ::
  []
def o34_21_6 : List ROper :=
  ⟨some 55, .load false 1 (.t 54), some (51, true)⟩ ::
  o34_21_7
def o34_21_5 : List ROper :=
  ⟨some 54, .iaddrS 1 (.t 52) (.t 53), some (51, true)⟩ ::
  o34_21_6
def o34_21_4 : List ROper :=
  ⟨some 53, .mv (.t 12), some (51, true)⟩ ::
  o34_21_5
def c34_13 : RCode :=
 (.seq (.block 5
 (.seq (.region [⟨some 44, .mv (.t 42), none⟩,
  ⟨some 11, .mv (.t 44), none⟩])
 (.seq (.region [⟨some 45, .mv (.t 0), none⟩,
  ⟨some 46, .mv (.t 9), none⟩,
  ⟨some 47, .mv (.t 11), none⟩,
  ⟨some 48, .call (.c (.fn 35 [] [])) [(.t 45), (.t 46), (.t 47)], none⟩,
  ⟨some 12, .mv (.t 48), none⟩])
 (.seq (.seq (.region (⟨some 49, .mv (.t 12), none⟩ ::
  ⟨some 50, .bin (some .other) none .geq (.t 49) (.c (.int .i64 0)), none⟩ ::
  ⟨some 51, .mv (.t 50), none⟩ ::
  ⟨some 52, .mv (.t 1), some (51, true)⟩ ::
  o34_21_4))
 c34_18)
 c34_16))))
 c34_14)
def c34_12 : RCode :=
 (.seq (.region [⟨some 43, .bin (some .other) none .lss (.t 42) (.t 41), none⟩])
 (.seq (.cond (.t 43)
 .skip
 (.exit 4))
 c34_13))
def c34_5 : RCode :=
 (.seq (.block 3
 (.seq (.region [⟨some 26, .mv (.t 24), none⟩,
  ⟨some 9, .mv (.t 26), none⟩])
 (.seq (.region [⟨some 27, .mv (.t 5), none⟩,
  ⟨some 28, .mv (.t 9), none⟩,
  ⟨some 29, .iaddrS 1 (.t 27) (.t 28), none⟩,
  ⟨some 30, .load false 1 (.t 29), none⟩,
  ⟨some 31, .call (.c (.fn 53 [] [])) [(.c .nils), (.t 30), (.c (.int .i64 10))], none⟩,
  ⟨some 10, .mv (.t 31), none⟩])
 (.seq (.region [⟨some 32, .mv (.t 10), none⟩,
  ⟨some 33, .lit false 1 1 [(.int .u8 0)] [(0, 1, (.c (.int .u8 58)))], none⟩,
  ⟨some 34, .append 1 1 [(.int .u8 0)] false (.t 32) (.t 33), none⟩,
  ⟨some 35, .mv (.t 0), none⟩,
  ⟨some 36, .mv (.t 9), none⟩,
  ⟨some 37, .call (.c (.fn 36 [] [])) [(.t 35), (.t 36)], none⟩,
  ⟨some 38, .call (.c (.fn 53 [] [])) [(.t 34), (.t 37), (.c (.int .i64 10))], none⟩,
  ⟨some 10, .mv (.t 38), none⟩])
 (.seq (.seq (.region [⟨some 39, .mv (.t 0), none⟩,
  ⟨some 40, .call (.c (.fn 32 [] [])) [(.t 39)], none⟩,
  ⟨some 41, .len .sl (.t 40), none⟩,
  ⟨some 42, .mv (.c (.int .i64 0)), none⟩])
 (.block 4
 (.loop c34_12)))
 c34_8)))))
 c34_6)
def c34_4 : RCode :=
 (.seq (.region [⟨some 25, .bin (some .other) none .lss (.t 24) (.t 23), none⟩])
 (.seq (.cond (.t 25)
 .skip
 (.exit 2))
 c34_5))
def c34_0 : RCode :=
 (.block 1
 (.seq (.region [⟨some 18, .mkmap none, none⟩,
  ⟨some 7, .mv (.t 18), none⟩])
 (.seq (.region [⟨some 19, .mv (.t 5), none⟩,
  ⟨some 20, .len .sl (.t 19), none⟩,
  ⟨some 21, .mkslice 1 [(.int .i64 0)] 8 (.t 20) (.t 20), none⟩,
  ⟨some 8, .mv (.t 21), none⟩])
 (.seq (.seq (.region [⟨some 22, .mv (.t 5), none⟩,
  ⟨some 23, .len .sl (.t 22), none⟩,
  ⟨some 24, .mv (.c (.int .i64 0)), none⟩])
 (.block 2
 (.loop c34_4)))
 c34_1))))
def c34b : RCode :=
 (.seq (.region [⟨some 4, .mv (.c .nils), none⟩])
 (.seq (.region [⟨some 15, .mv (.t 0), none⟩,
  ⟨some 16, .call (.c (.fn 58 [] [])) [(.t 15)], none⟩,
  ⟨some 17, .mkslice 1 [(.int .i64 0)] 8 (.t 16) (.t 16), none⟩,
  ⟨some 5, .mv (.t 17), none⟩])
 (.seq (.region [⟨some 6, .mv (.c (.int .i64 1)), none⟩])
 (.block 0
 (.loop c34_0)))))
def c34 : RFunc := ⟨c34r, some c34b, none⟩
def c35r : List RRes := [.tmp 6]
def c35_0 : RCode :=
 (.seq (.region [⟨some 35, .mv (.t 0), none⟩,
  ⟨some 36, .nilc (.t 35), none⟩,
  ⟨some 37, .faddr 1 (.t 36), none⟩,
  ⟨some 38, .load false 1 (.t 37), none⟩,
  ⟨some 39, .mv (.t 1), none⟩,
  ⟨some 40, .iaddrS 1 (.t 38) (.t 39), none⟩,
  ⟨some 41, .load false 1 (.t 40), none⟩,
  ⟨some 42, .mv (.t 2), none⟩,
  ⟨some 43, .iaddrS 1 (.t 41) (.t 42), none⟩,
  ⟨some 44, .load false 1 (.t 43), none⟩,
  ⟨some 6, .mv (.t 44), none⟩])
 .ret)
def c35_1 : RCode :=
 (.cond (.t 34)
 (.seq (.region [⟨some 6, .mv (.c (.int .i64 (.negSucc 0))), none⟩])
 .ret)
 .skip)
def o35_2_27 : List ROper :=
  ⟨some 34, .pick (.t 26) (.c (.bool true)) (.t 33), none⟩ ::
  []
def o35_2_26 : List ROper :=
  ⟨some 33, .bin (some .other) none .geq (.t 27) (.t 32), some (26, false)⟩ ::
  o35_2_27
def o35_2_25 : List ROper :=
  ⟨some 32, .len .sl (.t 31), some (26, false)⟩ ::
  o35_2_26
def o35_2_24 : List ROper :=
  ⟨some 31, .load false 1 (.t 30), some (26, false)⟩ ::
  o35_2_25
def o35_2_23 : List ROper :=
  ⟨some 30, .faddr 0 (.t 29), some (26, false)⟩ ::
  o35_2_24
def o35_2_22 : List ROper :=
  ⟨some 29, .nilc (.t 28), some (26, false)⟩ ::
  o35_2_23
def o35_2_21 : List ROper :=
  ⟨some 28, .mv (.t 0), some (26, false)⟩ ::
  o35_2_22
def o35_2_18 : List ROper :=
  ⟨some 25, .pick (.t 22) (.c (.bool true)) (.t 24), none⟩ ::
  ⟨some 26, .mv (.t 25), none⟩ ::
  ⟨some 27, .mv (.t 2), some (26, false)⟩ ::
  o35_2_21
def o35_2_17 : List ROper :=
  ⟨some 24, .bin (some .other) none .lss (.t 23) (.c (.int .i64 0)), some (22, false)⟩ ::
  o35_2_18
def o35_2_14 : List ROper :=
  ⟨some 21, .pick (.t 13) (.c (.bool true)) (.t 20), none⟩ ::
  ⟨some 22, .mv (.t 21), none⟩ ::
  ⟨some 23, .mv (.t 2), some (22, false)⟩ ::
  o35_2_17
def o35_2_13 : List ROper :=
  ⟨some 20, .bin (some .other) none .geq (.t 14) (.t 19), some (13, false)⟩ ::
  o35_2_14
def o35_2_12 : List ROper :=
  ⟨some 19, .len .sl (.t 18), some (13, false)⟩ ::
  o35_2_13
def o35_2_11 : List ROper :=
  ⟨some 18, .load false 1 (.t 17), some (13, false)⟩ ::
  o35_2_12
def o35_2_10 : List ROper :=
  ⟨some 17, .faddr 1 (.t 16), some (13, false)⟩ ::
  o35_2_11
def o35_2_9 : List ROper :=
  ⟨some 16, .nilc (.t 15), some (13, false)⟩ ::
  o35_2_10
def o35_2_8 : List ROper :=
  ⟨some 15, .mv (.t 0), some (13, false)⟩ ::
  o35_2_9
def o35_2_5 : List ROper :=
  ⟨some 12, .pick (.t 9) (.c (.bool true)) (.t 11), none⟩ ::
  ⟨some 13, .mv (.t 12), none⟩ ::
  ⟨some 14, .mv (.t 1), some (13, false)⟩ ::
  o35_2_8
def o35_2_4 : List ROper :=
  ⟨some 11, .bin (some .other) none .lss (.t 10) (.c (.int .i64 0)), some (9, false)⟩ ::
  o35_2_5
def c35b : RCode :=
 (.seq (.region [⟨some 6, .mv (.c (.int .i64 0)), none⟩])
 (.seq (.seq (.region (⟨some 7, .mv (.t 0), none⟩ ::
  ⟨some 8, .bin (some .ptr) none .eql (.t 7) (.c .nilp), none⟩ ::
  ⟨some 9, .mv (.t 8), none⟩ ::
  ⟨some 10, .mv (.t 1), some (9, false)⟩ ::
  o35_2_4))
 c35_1)
 c35_0))
def c35 : RFunc := ⟨c35r, some c35b, none⟩
def c36r : List RRes := [.tmp 4]
def c36_0 : RCode :=
 (.seq (.region [⟨some 20, .mv (.t 0), none⟩,
  ⟨some 21, .nilc (.t 20), none⟩,
  ⟨some 22, .faddr 2 (.t 21), none⟩,
  ⟨some 23, .load false 1 (.t 22), none⟩,
  ⟨some 24, .mv (.t 1), none⟩,
  ⟨some 25, .iaddrS 1 (.t 23) (.t 24), none⟩,
  ⟨some 26, .load false 1 (.t 25), none⟩,
  ⟨some 4, .mv (.t 26), none⟩])
 .ret)
def c36_1 : RCode :=
 (.cond (.t 19)
 (.seq (.region [⟨some 4, .mv (.c (.int .i64 (.negSucc 0))), none⟩])
 .ret)
 .skip)
def o36_2_14 : List ROper :=
  ⟨some 19, .pick (.t 11) (.c (.bool true)) (.t 18), none⟩ ::
  []
def o36_2_13 : List ROper :=
  ⟨some 18, .bin (some .other) none .geq (.t 12) (.t 17), some (11, false)⟩ ::
  o36_2_14
def o36_2_12 : List ROper :=
  ⟨some 17, .len .sl (.t 16), some (11, false)⟩ ::
  o36_2_13
def o36_2_11 : List ROper :=
  ⟨some 16, .load false 1 (.t 15), some (11, false)⟩ ::
  o36_2_12
def o36_2_10 : List ROper :=
  ⟨some 15, .faddr 2 (.t 14), some (11, false)⟩ ::
  o36_2_11
def o36_2_9 : List ROper :=
  ⟨some 14, .nilc (.t 13), some (11, false)⟩ ::
  o36_2_10
def o36_2_8 : List ROper :=
  ⟨some 13, .mv (.t 0), some (11, false)⟩ ::
  o36_2_9
def o36_2_5 : List ROper :=
  ⟨some 10, .pick (.t 7) (.c (.bool true)) (.t 9), none⟩ ::
  ⟨some 11, .mv (.t 10), none⟩ ::
  ⟨some 12, .mv (.t 1), some (11, false)⟩ ::
  o36_2_8
def o36_2_4 : List ROper :=
  ⟨some 9, .bin (some .other) none .lss (.t 8) (.c (.int .i64 0)), some (7, false)⟩ ::
  o36_2_5
def c36b : RCode :=
 (.seq (.region [⟨some 4, .mv (.c (.int .i64 0)), none⟩])
 (.seq (.seq (.region (⟨some 5, .mv (.t 0), none⟩ ::
  ⟨some 6, .bin (some .ptr) none .eql (.t 5) (.c .nilp), none⟩ ::
  ⟨some 7, .mv (.t 6), none⟩ ::
  ⟨some 8, .mv (.t 1), some (7, false)⟩ ::
  o36_2_4))
 c36_1)
 c36_0))
def c36 : RFunc := ⟨c36r, some c36b, none⟩
def c37r : List RRes := [.tmp 0]
def c37b : RCode :=
 (.seq (.region [⟨some 0, .mv (.c .nilp), none⟩])
 (.seq (.region [⟨some 1, .build [.nils, (.int .i64 0), (.bool false), .nils] [], none⟩,
  ⟨some 2, .box (.t 1), none⟩,
  ⟨some 0, .mv (.t 2), none⟩])
 .ret))
def c37 : RFunc := ⟨c37r, some c37b, none⟩
def c38r : List RRes := [.tmp 4]
def c38_1 : RCode :=
 (.seq (.region [⟨some 25, .mv (.t 0), none⟩,
  ⟨some 26, .call (.c (.fn 60 [] [])) [(.t 25)], none⟩,
  ⟨some 4, .mv (.t 26), none⟩])
 .ret)
def c38_4 : RCode :=
 (.region [⟨some 24, .bin (some .other) none .add (.t 17) (.c (.int .i64 1)), none⟩,
  ⟨some 17, .mv (.t 24), none⟩])
def c38_3 : RCode :=
 (.seq (.block 1
 (.seq (.region [⟨some 19, .iaddrS 1 (.t 15) (.t 17), none⟩,
  ⟨some 20, .load false 1 (.t 19), none⟩,
  ⟨some 6, .mv (.t 20), none⟩])
 (.region [⟨some 21, .mv (.t 0), none⟩,
  ⟨some 22, .mv (.t 6), none⟩,
  ⟨some 23, .call (.c (.fn 59 [] [])) [(.t 21), (.t 22)], none⟩])))
 c38_4)
def c38_2 : RCode :=
 (.seq (.region [⟨some 18, .bin (some .other) none .lss (.t 17) (.t 16), none⟩])
 (.seq (.cond (.t 18)
 .skip
 (.exit 0))
 c38_3))
def c38_0 : RCode :=
 (.seq (.seq (.region [⟨some 15, .mv (.t 1), none⟩,
  ⟨some 16, .len .sl (.t 15), none⟩,
  ⟨some 17, .mv (.c (.int .i64 0)), none⟩])
 (.block 0
 (.loop c38_2)))
 c38_1)
def c38_7 : RCode :=
 (.cond (.t 14)
 (.seq (.region [⟨some 4, .mv (.c .nils), none⟩])
 .ret)
 .skip)
def o38_8_7 : List ROper :=
  ⟨some 14, .pick (.t 9) (.c (.bool true)) (.t 13), none⟩ ::
  []
def o38_8_6 : List ROper :=
  ⟨some 13, .load false 1 (.t 12), some (9, false)⟩ ::
  o38_8_7
def o38_8_5 : List ROper :=
  ⟨some 12, .faddr 2 (.t 11), some (9, false)⟩ ::
  o38_8_6
def o38_8_4 : List ROper :=
  ⟨some 11, .nilc (.t 10), some (9, false)⟩ ::
  o38_8_5
def c38b : RCode :=
 (.seq (.region [⟨some 4, .mv (.c .nils), none⟩])
 (.seq (.seq (.region (⟨some 7, .mv (.t 0), none⟩ ::
  ⟨some 8, .bin (some .ptr) none .eql (.t 7) (.c .nilp), none⟩ ::
  ⟨some 9, .mv (.t 8), none⟩ ::
  ⟨some 10, .mv (.t 0), some (9, false)⟩ ::
  o38_8_4))
 c38_7)
 c38_0))
def c38 : RFunc := ⟨c38r, some c38b, none⟩
def c39r : List RRes := [.tmp 2]
def c39_1 : RCode :=
 (.seq (.region [⟨some 22, .mv (.t 0), none⟩,
  ⟨some 23, .call (.c (.fn 60 [] [])) [(.t 22)], none⟩,
  ⟨some 2, .mv (.t 23), none⟩])
 .ret)
def c39_0 : RCode :=
 (.seq (.seq (.region [⟨some 11, .mv (.t 0), none⟩,
  ⟨some 12, .nilc (.t 11), none⟩,
  ⟨some 13, .faddr 2 (.t 12), none⟩,
  ⟨none, .store 1 (.t 13) (.c (.bool true)), none⟩])
 (.seq (.region [⟨some 14, .mv (.t 0), none⟩,
  ⟨some 15, .nilc (.t 14), none⟩,
  ⟨some 16, .faddr 0 (.t 15), none⟩,
  ⟨some 17, .load false 1 (.t 16), none⟩,
  ⟨some 18, .len .sl (.t 17), none⟩,
  ⟨some 19, .bin (some .other) none .gtr (.t 18) (.c (.int .i64 0)), none⟩])
 (.cond (.t 19)
 (.region [⟨some 20, .mv (.t 0), none⟩,
  ⟨some 21, .call (.c (.fn 61 [] [])) [(.t 20), (.c (.bool true)), (.c (.bool true))], none⟩])
 .skip)))
 c39_1)
def c39_3 : RCode :=
 (.cond (.t 10)
 (.seq (.region [⟨some 2, .mv (.c .nils), none⟩])
 .ret)
 .skip)
def o39_4_7 : List ROper :=
  ⟨some 10, .pick (.t 5) (.c (.bool true)) (.t 9), none⟩ ::
  []
def o39_4_6 : List ROper :=
  ⟨some 9, .load false 1 (.t 8), some (5, false)⟩ ::
  o39_4_7
def o39_4_5 : List ROper :=
  ⟨some 8, .faddr 2 (.t 7), some (5, false)⟩ ::
  o39_4_6
def o39_4_4 : List ROper :=
  ⟨some 7, .nilc (.t 6), some (5, false)⟩ ::
  o39_4_5
def c39b : RCode :=
 (.seq (.region [⟨some 2, .mv (.c .nils), none⟩])
 (.seq (.seq (.region (⟨some 3, .mv (.t 0), none⟩ ::
  ⟨some 4, .bin (some .ptr) none .eql (.t 3) (.c .nilp), none⟩ ::
  ⟨some 5, .mv (.t 4), none⟩ ::
  ⟨some 6, .mv (.t 0), some (5, false)⟩ ::
  o39_4_4))
 c39_3)
 c39_0))
def c39 : RFunc := ⟨c39r, some c39b, none⟩
def c40r : List RRes := [.cell 6 true 4, .tmp 7, .tmp 8]
def c40_0 : RCode :=
 (.seq (.region [⟨some 9, .alloc [(.int .i64 0)], none⟩,
  ⟨none, .store 1 (.t 9) (.c (.int .i64 0)), none⟩])
 (.seq (.region [⟨some 13, .mv (.t 1), none⟩,
  ⟨some 14, .mv (.t 2), none⟩,
  ⟨some 15, .mkfn 62 [] [(.t 3), (.t 9)], none⟩,
  ⟨some 16, .call (.c (.fn 42 [] [])) [(.t 13), (.t 14), (.t 15)], none⟩,
  ⟨some 17, .extract 0 (.t 16), none⟩,
  ⟨some 18, .extract 1 (.t 16), none⟩,
  ⟨some 19, .extract 2 (.t 16), none⟩,
  ⟨none, .store 4 (.t 6) (.t 17), none⟩,
  ⟨some 7, .mv (.t 18), none⟩,
  ⟨some 8, .mv (.t 19), none⟩])
 .ret))
def c40b : RCode :=
 (.seq (.region [⟨some 3, .box (.t 0), none⟩,
  ⟨some 6, .alloc [(.int .i64 0), (.int .i64 0), (.int .i64 0), (.int .i64 0)], none⟩,
  ⟨some 7, .mv (.c (.int .i64 0)), none⟩,
  ⟨some 8, .mv (.c (.bool false)), none⟩])
 (.seq (.seq (.region [⟨some 10, .load false 1 (.t 3), none⟩,
  ⟨some 11, .bin (some .ptr) none .eql (.t 10) (.c .nilp), none⟩])
 (.cond (.t 11)
 (.seq (.region [⟨some 12, .build [(.int .i64 0), (.int .i64 0), (.int .i64 0), (.int .i64 0)] [], none⟩,
  ⟨none, .store 4 (.t 6) (.t 12), none⟩,
  ⟨some 7, .mv (.c (.int .i64 0)), none⟩,
  ⟨some 8, .mv (.c (.bool false)), none⟩])
 .ret)
 .skip))
 c40_0))
def c40 : RFunc := ⟨c40r, some c40b, none⟩
def c41r : List RRes := [.tmp 2]
def c41_0 : RCode :=
 (.seq (.region [⟨some 61, .load false 1 (.t 3), none⟩,
  ⟨some 2, .mv (.t 61), none⟩])
 .ret)
def c41_5 : RCode :=
 (.region [⟨some 60, .bin (some .other) none .add (.t 18) (.c (.int .i64 1)), none⟩,
  ⟨some 18, .mv (.t 60), none⟩])
def c41_8 : RCode :=
 (.region [⟨some 56, .load false 1 (.t 3), none⟩,
  ⟨some 57, .mv (.t 6), none⟩,
  ⟨some 58, .mv (.t 7), none⟩,
  ⟨some 59, .iaddrS 1 (.t 56) (.t 57), none⟩,
  ⟨none, .store 1 (.t 59) (.t 58), none⟩])
def o41_10_10 : List ROper :=
  ⟨some 55, .pick (.t 46) (.c (.bool true)) (.t 54), none⟩ ::
  ⟨some 5, .mv (.t 55), none⟩ ::
  []
def o41_10_9 : List ROper :=
  ⟨some 54, .pick (.t 48) (.t 53) (.c (.bool false)), some (46, false)⟩ ::
  o41_10_10
def o41_10_8 : List ROper :=
  ⟨some 53, .un .not (.t 52), some (48, true)⟩ ::
  o41_10_9
def o41_10_7 : List ROper :=
  ⟨some 52, .load false 1 (.t 51), some (48, true)⟩ ::
  o41_10_8
def o41_10_6 : List ROper :=
  ⟨some 51, .iaddrS 1 (.t 49) (.t 50), some (48, true)⟩ ::
  o41_10_7
def o41_10_5 : List ROper :=
  ⟨some 50, .mv (.t 6), some (48, true)⟩ ::
  o41_10_6
def o41_10_4 : List ROper :=
  ⟨some 49, .load false 1 (.t 3), some (48, true)⟩ ::
  o41_10_5
def o41_10_3 : List ROper :=
  ⟨some 48, .mv (.t 47), some (46, false)⟩ ::
  o41_10_4
def c41_7 : RCode :=
 (.seq (.region (⟨some 45, .mv (.t 5), none⟩ ::
  ⟨some 46, .mv (.t 45), none⟩ ::
  ⟨some 47, .mv (.t 7), some (46, false)⟩ ::
  o41_10_3))
 c41_8)
def c41_21 : RCode :=
 (.region [⟨some 44, .bin (some .other) none .add (.t 29) (.c (.int .i64 1)), none⟩,
  ⟨some 29, .mv (.t 44), none⟩])
def o41_23_10 : List ROper :=
  ⟨some 43, .pick (.t 34) (.c (.bool true)) (.t 42), none⟩ ::
  ⟨some 7, .mv (.t 43), none⟩ ::
  []
def o41_23_9 : List ROper :=
  ⟨some 42, .call (.c (.fn 66 [] [])) [(.t 40), (.t 41)], some (34, false)⟩ ::
  o41_23_10
def o41_23_8 : List ROper :=
  ⟨some 41, .mkfn 67 [] [(.t 3)], some (34, false)⟩ ::
  o41_23_9
def o41_23_7 : List ROper :=
  ⟨some 40, .call (.c (.fn 29 [] [])) [(.t 35), (.t 37), (.t 39)], some (34, false)⟩ ::
  o41_23_8
def o41_23_6 : List ROper :=
  ⟨some 39, .load false 1 (.t 38), some (34, false)⟩ ::
  o41_23_7
def o41_23_5 : List ROper :=
  ⟨some 38, .faddr 0 (.t 9), some (34, false)⟩ ::
  o41_23_6
def o41_23_4 : List ROper :=
  ⟨some 37, .lit false 1 1 [(.int .i64 0)] [(0, 1, (.t 36))], some (34, false)⟩ ::
  o41_23_5
def o41_23_3 : List ROper :=
  ⟨some 36, .mv (.t 6), some (34, false)⟩ ::
  o41_23_4
def c41_20 : RCode :=
 (.seq (.block 5
 (.seq (.region [⟨some 31, .iaddrS 2 (.t 27) (.t 29), none⟩,
  ⟨some 32, .load true 2 (.t 31), none⟩,
  ⟨some 9, .alloc [(.int .i32 0), (.int .i32 0)], none⟩,
  ⟨none, .store 2 (.t 9) (.t 32), none⟩])
 (.region (⟨some 33, .mv (.t 7), none⟩ ::
  ⟨some 34, .mv (.t 33), none⟩ ::
  ⟨some 35, .mv (.t 0), some (34, false)⟩ ::
  o41_23_3))))
 c41_21)
def c41_19 : RCode :=
 (.seq (.region [⟨some 30, .bin (some .other) none .lss (.t 29) (.t 28), none⟩])
 (.seq (.cond (.t 30)
 .skip
 (.exit 4))
 c41_20))
def c41_4 : RCode :=
 (.seq (.block 3
 (.seq (.region [⟨some 20, .mv (.t 18), none⟩,
  ⟨some 6, .mv (.t 20), none⟩])
 (.seq (.region [⟨some 21, .mv (.t 0), none⟩,
  ⟨some 22, .mv (.t 6), none⟩,
  ⟨some 23, .lit false 1 1 [(.int .i64 0)] [(0, 1, (.t 22))], none⟩,
  ⟨some 24, .call (.c (.fn 30 [] [])) [(.t 21), (.t 23)], none⟩,
  ⟨some 25, .len .sl (.t 24), none⟩,
  ⟨some 26, .bin (some .other) none .gtr (.t 25) (.c (.int .i64 0)), none⟩,
  ⟨some 7, .mv (.t 26), none⟩])
 (.seq (.seq (.region [⟨some 27, .mv (.t 4), none⟩,
  ⟨some 28, .len .sl (.t 27), none⟩,
  ⟨some 29, .mv (.c (.int .i64 0)), none⟩])
 (.block 4
 (.loop c41_19)))
 c41_7))))
 c41_5)
def c41_3 : RCode :=
 (.seq (.region [⟨some 19, .bin (some .other) none .lss (.t 18) (.t 17), none⟩])
 (.seq (.cond (.t 19)
 .skip
 (.exit 2))
 c41_4))
def c41_2 : RCode :=
 (.block 1
 (.seq (.region [⟨some 5, .mv (.c (.bool false)), none⟩])
 (.seq (.region [⟨some 16, .load false 1 (.t 3), none⟩,
  ⟨some 17, .len .sl (.t 16), none⟩,
  ⟨some 18, .mv (.c (.int .i64 0)), none⟩])
 (.block 2
 (.loop c41_3)))))
def c41_1 : RCode :=
 (.seq (.seq (.region [⟨some 15, .mv (.t 5), none⟩])
 (.cond (.t 15)
 .skip
 (.exit 0)))
 c41_2)
def c41b : RCode :=
 (.seq (.region [⟨some 2, .mv (.c .nils), none⟩])
 (.seq (.region [⟨some 10, .mv (.t 0), none⟩,
  ⟨some 11, .call (.c (.fn 65 [] [])) [(.t 10)], none⟩,
  ⟨some 12, .mkslice 1 [(.bool false)] 1 (.t 11) (.t 11), none⟩,
  ⟨some 3, .alloc [.nils], none⟩,
  ⟨none, .store 1 (.t 3) (.t 12), none⟩])
 (.seq (.region [⟨some 13, .mv (.t 0), none⟩,
  ⟨some 14, .call (.c (.fn 27 [] [])) [(.t 13)], none⟩,
  ⟨some 4, .mv (.t 14), none⟩])
 (.seq (.seq (.region [⟨some 5, .mv (.c (.bool true)), none⟩])
 (.block 0
 (.loop c41_1)))
 c41_0))))
def c41 : RFunc := ⟨c41r, some c41b, none⟩
def c42r : List RRes := [.cell 6 true 4, .tmp 7, .tmp 8]
def c42_2 : RCode :=
 (.seq (.region [⟨some 93, .load true 4 (.t 9), none⟩,
  ⟨some 94, .mv (.t 10), none⟩,
  ⟨some 95, .mv (.t 11), none⟩,
  ⟨none, .store 4 (.t 6) (.t 93), none⟩,
  ⟨some 7, .mv (.t 94), none⟩,
  ⟨some 8, .mv (.t 95), none⟩])
 .ret)
def c42_1 : RCode :=
 (.seq (.seq (.region [⟨some 82, .mv (.t 11), none⟩,
  ⟨some 83, .un .not (.t 82), none⟩])
 (.cond (.t 83)
 (.region [⟨some 84, .mv (.t 0), none⟩,
  ⟨some 85, .mv (.t 0), none⟩,
  ⟨some 86, .len .sl (.t 85), none⟩,
  ⟨some 87, .bin (some .other) none .sub (.t 86) (.c (.int .i64 1)), none⟩,
  ⟨some 88, .iaddrS 5 (.t 84) (.t 87), none⟩,
  ⟨some 89, .faddr 2 (.t 88), none⟩,
  ⟨some 90, .load false 1 (.t 89), none⟩,
  ⟨some 91, .bin (some .other) none .add (.t 90) (.c (.int .i64 1)), none⟩,
  ⟨some 92, .faddr 3 (.t 9), none⟩,
  ⟨none, .store 1 (.t 92) (.t 91), none⟩])
 .skip))
 c42_2)
def c42_6 : RCode :=
 (.region [⟨some 45, .mv (.t 12), none⟩,
  ⟨some 46, .bin (some .other) none .add (.t 45) (.c (.int .i64 1)), none⟩,
  ⟨some 12, .mv (.t 46), none⟩])
def c42_9 : RCode :=
 (.seq (.region [⟨some 69, .mv (.t 14), none⟩,
  ⟨some 70, .un .not (.t 69), none⟩,
  ⟨some 11, .mv (.t 70), none⟩])
 (.seq (.region [⟨some 71, .mv (.t 15), none⟩,
  ⟨some 72, .bin (some .other) none .geq (.t 71) (.c (.int .i64 0)), none⟩])
 (.cond (.t 72)
 (.drawn [(⟨some 73, .mv (.t 15), none⟩, []),
  (⟨some 74, .faddr 2 (.t 13), none⟩, []),
  (⟨some 75, .load false 1 (.t 74), none⟩, []),
  (⟨some 76, .mv (.t 12), none⟩, []),
  (⟨some 77, .mv (.t 1), none⟩, []),
  (⟨some 78, .bin (some .other) none .sub (.t 76) (.t 77), none⟩, []),
  (⟨some 79, .bin (some .other) none .add (.t 78) (.c (.int .i64 1)), none⟩, []),
  (⟨some 80, .faddr 0 (.t 9), none⟩, []),
  (⟨none, .store 1 (.t 80) (.t 73), none⟩, [⟨some 75, .load false 1 (.t 74), none⟩]),
  (⟨some 81, .faddr 2 (.t 9), none⟩, []),
  (⟨none, .store 1 (.t 81) (.t 75), none⟩, []),
  (⟨some 10, .mv (.t 79), none⟩, [])])
 .skip)))
def c42_8 : RCode :=
 (.seq (.region [⟨some 14, .mv (.c (.bool false)), none⟩,
  ⟨some 15, .mv (.c (.int .i64 (.negSucc 0))), none⟩])
 (.seq (.seq (.region [⟨some 60, .faddr 3 (.t 13), none⟩,
  ⟨some 61, .load false 1 (.t 60), none⟩,
  ⟨some 62, .un .not (.t 61), none⟩])
 (.cond (.t 62)
 (.region [⟨some 64, .mv (.t 2), none⟩,
  ⟨some 65, .load true 5 (.t 13), none⟩,
  ⟨some 66, .call (.t 64) [(.t 65)], none⟩,
  ⟨some 63, .mv (.t 66), none⟩,
  ⟨some 67, .extract 0 (.t 63), none⟩,
  ⟨some 68, .extract 1 (.t 63), none⟩,
  ⟨some 14, .mv (.t 67), none⟩,
  ⟨some 15, .mv (.t 68), none⟩])
 .skip))
 c42_9))
def c42_5 : RCode :=
 (.seq (.block 1
 (.seq (.region [⟨some 47, .mv (.t 0), none⟩,
  ⟨some 48, .mv (.t 12), none⟩,
  ⟨some 49, .iaddrS 5 (.t 47) (.t 48), none⟩,
  ⟨some 50, .load true 5 (.t 49), none⟩,
  ⟨some 13, .alloc [(.int .i32 0), (.int .i64 0), (.int .i64 0), (.bool false), (.bool false)], none⟩,
  ⟨none, .store 5 (.t 13) (.t 50), none⟩])
 (.seq (.seq (.region [⟨some 51, .faddr 2 (.t 13), none⟩,
  ⟨some 52, .load false 1 (.t 51), none⟩,
  ⟨some 53, .faddr 3 (.t 9), none⟩,
  ⟨none, .store 1 (.t 53) (.t 52), none⟩])
 (.seq (.region [⟨some 54, .faddr 4 (.t 13), none⟩,
  ⟨some 55, .load false 1 (.t 54), none⟩])
 (.cond (.t 55)
 (.region [⟨some 56, .faddr 3 (.t 9), none⟩,
  ⟨some 57, .load false 1 (.t 56), none⟩,
  ⟨some 58, .bin (some .other) none .add (.t 57) (.c (.int .i64 1)), none⟩,
  ⟨some 59, .faddr 3 (.t 9), none⟩,
  ⟨none, .store 1 (.t 59) (.t 58), none⟩])
 .skip)))
 c42_8)))
 c42_6)
def c42_13 : RCode :=
 (.cond (.t 44)
 .skip
 (.exit 0))
def o42_14_7 : List ROper :=
  ⟨some 44, .pick (.t 41) (.t 43) (.c (.bool false)), none⟩ ::
  []
def o42_14_6 : List ROper :=
  ⟨some 43, .un .not (.t 42), some (41, true)⟩ ::
  o42_14_7
def c42_4 : RCode :=
 (.seq (.seq (.region (⟨some 37, .mv (.t 12), none⟩ ::
  ⟨some 38, .mv (.t 0), none⟩ ::
  ⟨some 39, .len .sl (.t 38), none⟩ ::
  ⟨some 40, .bin (some .other) none .lss (.t 37) (.t 39), none⟩ ::
  ⟨some 41, .mv (.t 40), none⟩ ::
  ⟨some 42, .mv (.t 11), some (41, true)⟩ ::
  o42_14_6))
 c42_13)
 c42_5)
def c42_0 : RCode :=
 (.seq (.drawn [(⟨some 25, .mv (.t 0), none⟩, []),
  (⟨some 26, .mv (.t 1), none⟩, []),
  (⟨some 27, .iaddrS 5 (.t 25) (.t 26), none⟩, []),
  (⟨some 28, .faddr 1 (.t 27), none⟩, []),
  (⟨some 29, .load false 1 (.t 28), none⟩, []),
  (⟨some 30, .mv (.t 0), none⟩, []),
  (⟨some 31, .mv (.t 1), none⟩, []),
  (⟨some 32, .iaddrS 5 (.t 30) (.t 31), none⟩, []),
  (⟨some 33, .faddr 2 (.t 32), none⟩, []),
  (⟨some 34, .load false 1 (.t 33), none⟩, []),
  (⟨some 35, .build [(.int .i64 0), (.int .i64 0), (.int .i64 0), (.int .i64 0)] [(0, 1, (.c (.int .i64 (.negSucc 0)))), (1, 1, (.t 29)), (2, 1, (.t 34))], none⟩, []),
  (⟨some 9, .alloc [(.int .i64 0), (.int .i64 0), (.int .i64 0), (.int .i64 0)], none⟩, [⟨some 29, .load false 1 (.t 28), none⟩, ⟨some 34, .load false 1 (.t 33), none⟩]),
  (⟨none, .store 4 (.t 9) (.t 35), none⟩, [])])
 (.seq (.region [⟨some 10, .mv (.c (.int .i64 1)), none⟩,
  ⟨some 11, .mv (.c (.bool false)), none⟩])
 (.seq (.seq (.region [⟨some 36, .mv (.t 1), none⟩,
  ⟨some 12, .mv (.t 36), none⟩])
 (.block 0
 (.loop c42_4)))
 c42_1)))
def c42_17 : RCode :=
 (.cond (.t 23)
 (.seq (.region [⟨some 24, .build [(.int .i64 0), (.int .i64 0), (.int .i64 0), (.int .i64 0)] [], none⟩,
  ⟨none, .store 4 (.t 6) (.t 24), none⟩,
  ⟨some 7, .mv (.c (.int .i64 0)), none⟩,
  ⟨some 8, .mv (.c (.bool false)), none⟩])
 .ret)
 .skip)
def o42_18_7 : List ROper :=
  ⟨some 23, .pick (.t 18) (.c (.bool true)) (.t 22), none⟩ ::
  []
def o42_18_6 : List ROper :=
  ⟨some 22, .bin (some .other) none .geq (.t 19) (.t 21), some (18, false)⟩ ::
  o42_18_7
def o42_18_5 : List ROper :=
  ⟨some 21, .len .sl (.t 20), some (18, false)⟩ ::
  o42_18_6
def o42_18_4 : List ROper :=
  ⟨some 20, .mv (.t 0), some (18, false)⟩ ::
  o42_18_5
def c42b : RCode :=
 (.seq (.region [⟨some 6, .alloc [(.int .i64 0), (.int .i64 0), (.int .i64 0), (.int .i64 0)], none⟩,
  ⟨some 7, .mv (.c (.int .i64 0)), none⟩,
  ⟨some 8, .mv (.c (.bool false)), none⟩])
 (.seq (.seq (.region (⟨some 16, .mv (.t 1), none⟩ ::
  ⟨some 17, .bin (some .other) none .lss (.t 16) (.c (.int .i64 0)), none⟩ ::
  ⟨some 18, .mv (.t 17), none⟩ ::
  ⟨some 19, .mv (.t 1), some (18, false)⟩ ::
  o42_18_4))
 c42_17)
 c42_0))
def c42 : RFunc := ⟨c42r, some c42b, none⟩
def c43r : List RRes := [.tmp 5, .tmp 6]
def c43_0 : RCode :=
 (.seq (.region [⟨some 24, .load false 1 (.t 2), none⟩,
  ⟨some 25, .len .sl (.t 24), none⟩,
  ⟨some 26, .bin (some .other) none .gtr (.t 25) (.c (.int .i64 0)), none⟩,
  ⟨some 5, .mv (.t 26), none⟩,
  ⟨some 6, .mv (.c (.int .i64 (.negSucc 0))), none⟩])
 .ret)
def c43b : RCode :=
 (.seq (.region [⟨some 4, .box (.t 0), none⟩,
  ⟨some 5, .mv (.c (.bool false)), none⟩,
  ⟨some 6, .mv (.c (.int .i64 0)), none⟩])
 (.seq (.region [⟨some 8, .load false 1 (.t 1), none⟩,
  ⟨some 9, .load false 1 (.t 2), none⟩,
  ⟨some 10, .faddr 0 (.t 4), none⟩,
  ⟨some 11, .load false 1 (.t 10), none⟩,
  ⟨some 12, .call (.c (.fn 29 [] [])) [(.t 8), (.t 9), (.t 11)], none⟩,
  ⟨some 13, .mkfn 45 [] [(.t 3)], none⟩,
  ⟨some 14, .call (.c (.fn 44 [] [])) [(.t 12), (.t 13)], none⟩,
  ⟨none, .store 1 (.t 2) (.t 14), none⟩])
 (.seq (.seq (.region [⟨some 15, .load false 1 (.t 1), none⟩,
  ⟨some 16, .load false 1 (.t 2), none⟩,
  ⟨some 17, .call (.c (.fn 30 [] [])) [(.t 15), (.t 16)], none⟩,
  ⟨some 7, .mv (.t 17), none⟩])
 (.seq (.region [⟨some 18, .mv (.t 7), none⟩,
  ⟨some 19, .len .sl (.t 18), none⟩,
  ⟨some 20, .bin (some .other) none .gtr (.t 19) (.c (.int .i64 0)), none⟩])
 (.cond (.t 20)
 (.seq (.drawn [(⟨some 21, .mv (.t 7), none⟩, []),
  (⟨some 22, .iaddrS 1 (.t 21) (.c (.int .i64 0)), none⟩, []),
  (⟨some 23, .load false 1 (.t 22), none⟩, []),
  (⟨some 5, .mv (.c (.bool true)), none⟩, []),
  (⟨some 6, .mv (.t 23), none⟩, [])])
 .ret)
 .skip)))
 c43_0)))
def c43 : RFunc := ⟨c43r, some c43b, none⟩
def c44r : List RRes := [.tmp 4]
def c44_1 : RCode :=
 (.seq (.region [⟨some 36, .mv (.t 0), none⟩,
  ⟨some 37, .mv (.t 5), none⟩,
  ⟨some 38, .slice (.sl 1) (.t 36) (some (.t 37)) none none, none⟩,
  ⟨none, .clear 1 [(.int .i64 0)] (.t 38), none⟩])
 (.seq (.region [⟨some 39, .mv (.t 0), none⟩,
  ⟨some 40, .mv (.t 5), none⟩,
  ⟨some 41, .slice (.sl 1) (.t 39) none (some (.t 40)) none, none⟩,
  ⟨some 4, .mv (.t 41), none⟩])
 .ret))
def c44_4 : RCode :=
 (.region [⟨some 20, .mv (.t 6), none⟩,
  ⟨some 21, .bin (some .other) none .add (.t 20) (.c (.int .i64 1)), none⟩,
  ⟨some 6, .mv (.t 21), none⟩])
def c44_3 : RCode :=
 (.seq (.block 1
 (.seq (.region [⟨some 22, .mv (.t 0), none⟩,
  ⟨some 23, .mv (.t 6), none⟩,
  ⟨some 24, .iaddrS 1 (.t 22) (.t 23), none⟩,
  ⟨some 25, .load false 1 (.t 24), none⟩,
  ⟨some 7, .mv (.t 25), none⟩])
 (.seq (.region [⟨some 26, .mv (.t 1), none⟩,
  ⟨some 27, .mv (.t 7), none⟩,
  ⟨some 28, .call (.t 26) [(.t 27)], none⟩,
  ⟨some 29, .un .not (.t 28), none⟩])
 (.cond (.t 29)
 (.seq (.region [⟨some 30, .mv (.t 0), none⟩,
  ⟨some 31, .mv (.t 5), none⟩,
  ⟨some 32, .mv (.t 7), none⟩,
  ⟨some 33, .iaddrS 1 (.t 30) (.t 31), none⟩,
  ⟨none, .store 1 (.t 33) (.t 32), none⟩])
 (.region [⟨some 34, .mv (.t 5), none⟩,
  ⟨some 35, .bin (some .other) none .add (.t 34) (.c (.int .i64 1)), none⟩,
  ⟨some 5, .mv (.t 35), none⟩]))
 .skip))))
 c44_4)
def c44_2 : RCode :=
 (.seq (.seq (.region [⟨some 16, .mv (.t 6), none⟩,
  ⟨some 17, .mv (.t 0), none⟩,
  ⟨some 18, .len .sl (.t 17), none⟩,
  ⟨some 19, .bin (some .other) none .lss (.t 16) (.t 18), none⟩])
 (.cond (.t 19)
 .skip
 (.exit 0)))
 c44_3)
def c44_0 : RCode :=
 (.seq (.seq (.region [⟨some 14, .mv (.t 5), none⟩,
  ⟨some 15, .bin (some .other) none .add (.t 14) (.c (.int .i64 1)), none⟩,
  ⟨some 6, .mv (.t 15), none⟩])
 (.block 0
 (.loop c44_2)))
 c44_1)
def c44b : RCode :=
 (.seq (.region [⟨some 4, .mv (.c .nils), none⟩])
 (.seq (.region [⟨some 8, .mv (.t 0), none⟩,
  ⟨some 9, .mv (.t 1), none⟩,
  ⟨some 10, .call (.c (.fn 68 [] [])) [(.t 8), (.t 9)], none⟩,
  ⟨some 5, .mv (.t 10), none⟩])
 (.seq (.seq (.region [⟨some 11, .mv (.t 5), none⟩,
  ⟨some 12, .bin (some .other) none .eql (.t 11) (.c (.int .i64 (.negSucc 0))), none⟩])
 (.cond (.t 12)
 (.seq (.region [⟨some 13, .mv (.t 0), none⟩,
  ⟨some 4, .mv (.t 13), none⟩])
 .ret)
 .skip))
 c44_0)))
def c44 : RFunc := ⟨c44r, some c44b, none⟩
def c45r : List RRes := [.tmp 3]
def c45b : RCode :=
 (.seq (.region [⟨some 3, .mv (.c (.bool false)), none⟩])
 (.seq (.region [⟨some 4, .load false 1 (.t 1), none⟩,
  ⟨some 5, .mv (.t 0), none⟩,
  ⟨some 6, .iaddrS 1 (.t 4) (.t 5), none⟩,
  ⟨some 7, .load false 1 (.t 6), none⟩,
  ⟨some 8, .un .not (.t 7), none⟩,
  ⟨some 3, .mv (.t 8), none⟩])
 .ret))
def c45 : RFunc := ⟨c45r, some c45b, none⟩
end
end Go.AM.Ly
