import Derived.Test.YthgloebmfcdhoaaGreatDoorVc
set_option maxRecDepth 100000
set_option linter.unusedVariables false
set_option linter.unusedSimpArgs false
namespace Go.AM.Ly
open Go
noncomputable section
def c46r : List RRes := [.tmp 4]
def c46_0 : RCode :=
 (.seq (.region [⟨some 4, .mv (.c (.int .i64 (.negSucc 0))), none⟩])
 .ret)
def c46_3 : RCode :=
 (.region [⟨some 18, .bin (some .other) none .add (.t 8) (.c (.int .i64 1)), none⟩,
  ⟨some 8, .mv (.t 18), none⟩])
def c46_2 : RCode :=
 (.seq (.block 1
 (.seq (.region [⟨some 10, .mv (.t 8), none⟩,
  ⟨some 5, .mv (.t 10), none⟩])
 (.seq (.region [⟨some 11, .mv (.t 1), none⟩,
  ⟨some 12, .mv (.t 0), none⟩,
  ⟨some 13, .mv (.t 5), none⟩,
  ⟨some 14, .iaddrS 3 (.t 12) (.t 13), none⟩,
  ⟨some 15, .load true 3 (.t 14), none⟩,
  ⟨some 16, .call (.t 11) [(.t 15)], none⟩])
 (.cond (.t 16)
 (.seq (.region [⟨some 17, .mv (.t 5), none⟩,
  ⟨some 4, .mv (.t 17), none⟩])
 .ret)
 .skip))))
 c46_3)
def c46_1 : RCode :=
 (.seq (.region [⟨some 9, .bin (some .other) none .lss (.t 8) (.t 7), none⟩])
 (.seq (.cond (.t 9)
 .skip
 (.exit 0))
 c46_2))
def c46b : RCode :=
 (.seq (.region [⟨some 4, .mv (.c (.int .i64 0)), none⟩])
 (.seq (.seq (.region [⟨some 6, .mv (.t 0), none⟩,
  ⟨some 7, .len .sl (.t 6), none⟩,
  ⟨some 8, .mv (.c (.int .i64 0)), none⟩])
 (.block 0
 (.loop c46_1)))
 c46_0))
def c46 : RFunc := ⟨c46r, some c46b, none⟩
def c47r : List RRes := [.tmp 2]
def c47b : RCode :=
 (.seq (.region [⟨some 1, .box (.t 0), none⟩,
  ⟨some 2, .mv (.c (.bool false)), none⟩])
 (.seq (.region [⟨some 3, .alloc [(.int .i64 0)], none⟩,
  ⟨none, .store 1 (.t 3) (.c (.int .i64 60)), none⟩])
 (.seq (.region [⟨some 4, .alloc [.nilf], none⟩])
 (.seq (.region [⟨some 5, .mkfn 69 [] [(.t 3), (.t 4)], none⟩,
  ⟨none, .store 1 (.t 4) (.t 5), none⟩])
 (.seq (.region [⟨some 6, .load false 1 (.t 4), none⟩,
  ⟨some 7, .load true 3 (.t 1), none⟩,
  ⟨some 8, .call (.t 6) [(.t 7), (.c (.int .i64 1))], none⟩,
  ⟨some 2, .mv (.t 8), none⟩])
 .ret)))))
def c47 : RFunc := ⟨c47r, some c47b, none⟩
def c48r : List RRes := [.tmp 2]
def c48_2 : RCode :=
 .ret
def o48_3_14 : List ROper :=
  ⟨some 36, .pick (.t 32) (.t 35) (.c (.bool false)), none⟩ ::
  ⟨some 2, .mv (.t 36), none⟩ ::
  []
def o48_3_13 : List ROper :=
  ⟨some 35, .call (.c (.fn 73 [] [])) [(.t 34)], some (32, true)⟩ ::
  o48_3_14
def o48_3_12 : List ROper :=
  ⟨some 34, .load false 1 (.t 33), some (32, true)⟩ ::
  o48_3_13
def o48_3_9 : List ROper :=
  ⟨some 31, .pick (.t 26) (.t 30) (.c (.bool false)), none⟩ ::
  ⟨some 32, .mv (.t 31), none⟩ ::
  ⟨some 33, .faddr 1 (.t 1), some (32, true)⟩ ::
  o48_3_12
def o48_3_8 : List ROper :=
  ⟨some 30, .bin (some .other) none .leq (.t 29) (.c (.int .i64 20)), some (26, true)⟩ ::
  o48_3_9
def o48_3_7 : List ROper :=
  ⟨some 29, .len .sl (.t 28), some (26, true)⟩ ::
  o48_3_8
def o48_3_6 : List ROper :=
  ⟨some 28, .load false 1 (.t 27), some (26, true)⟩ ::
  o48_3_7
def c48_1 : RCode :=
 (.seq (.region (⟨some 22, .faddr 1 (.t 1), none⟩ ::
  ⟨some 23, .load false 1 (.t 22), none⟩ ::
  ⟨some 24, .len .sl (.t 23), none⟩ ::
  ⟨some 25, .bin (some .other) none .geq (.t 24) (.c (.int .i64 1)), none⟩ ::
  ⟨some 26, .mv (.t 25), none⟩ ::
  ⟨some 27, .faddr 1 (.t 1), some (26, true)⟩ ::
  o48_3_6))
 c48_2)
def c48_0 : RCode :=
 (.seq (.seq (.region [⟨some 15, .faddr 0 (.t 1), none⟩,
  ⟨some 16, .load false 1 (.t 15), none⟩,
  ⟨some 17, .bin (some .other) none .neq (.t 16) (.c (.int .i64 2)), none⟩])
 (.cond (.t 17)
 (.seq (.region [⟨some 18, .faddr 1 (.t 1), none⟩,
  ⟨some 19, .load false 1 (.t 18), none⟩,
  ⟨some 20, .len .sl (.t 19), none⟩,
  ⟨some 21, .bin (some .other) none .eql (.t 20) (.c (.int .i64 0)), none⟩,
  ⟨some 2, .mv (.t 21), none⟩])
 .ret)
 .skip))
 c48_1)
def c48_11 : RCode :=
 (.cond (.t 14)
 (.seq (.region [⟨some 2, .mv (.c (.bool false)), none⟩])
 .ret)
 .skip)
def o48_12_11 : List (ROper × List ROper) :=
  (⟨some 14, .pick (.t 10) (.c (.bool true)) (.t 13), none⟩, []) ::
  []
def o48_12_10 : List (ROper × List ROper) :=
  (⟨some 13, .call (.c (.fn 21 [] [])) [(.t 12), (.c (.fn 72 [] []))], some (10, false)⟩, []) ::
  o48_12_11
def o48_12_9 : List (ROper × List ROper) :=
  (⟨some 12, .load false 1 (.t 11), some (10, false)⟩, []) ::
  o48_12_10
def c48b : RCode :=
 (.seq (.region [⟨some 1, .box (.t 0), none⟩,
  ⟨some 2, .mv (.c (.bool false)), none⟩])
 (.seq (.seq (.drawn ((⟨some 3, .faddr 2 (.t 1), none⟩, []) ::
  (⟨some 4, .load false 1 (.t 3), none⟩, []) ::
  (⟨some 5, .len .sl (.t 4), none⟩, []) ::
  (⟨some 6, .faddr 0 (.t 1), none⟩, []) ::
  (⟨some 7, .load false 1 (.t 6), none⟩, []) ::
  (⟨some 8, .call (.c (.fn 71 [] [])) [(.t 7)], none⟩, [⟨some 4, .load false 1 (.t 3), none⟩, ⟨some 5, .len .sl (.t 4), none⟩]) ::
  (⟨some 9, .bin (some .other) none .neq (.t 5) (.t 8), none⟩, []) ::
  (⟨some 10, .mv (.t 9), none⟩, []) ::
  (⟨some 11, .faddr 2 (.t 1), some (10, false)⟩, []) ::
  o48_12_9))
 c48_11)
 c48_0))
def c48 : RFunc := ⟨c48r, some c48b, none⟩
def c49r : List RRes := [.tmp 2]
def c49_1 : RCode :=
 (.seq (.region [⟨some 35, .mv (.t 6), none⟩,
  ⟨some 2, .mv (.t 35), none⟩])
 .ret)
def c49_4 : RCode :=
 (.region [⟨some 34, .bin (some .other) none .add (.t 27) (.c (.int .i64 1)), none⟩,
  ⟨some 27, .mv (.t 34), none⟩])
def c49_3 : RCode :=
 (.seq (.block 3
 (.seq (.region [⟨some 29, .iaddrS 1 (.t 25) (.t 27), none⟩,
  ⟨some 30, .load false 1 (.t 29), none⟩,
  ⟨some 8, .mv (.t 30), none⟩])
 (.region [⟨some 31, .mv (.t 6), none⟩,
  ⟨some 32, .mv (.t 8), none⟩,
  ⟨some 33, .append 1 8 [(.int .i64 0)] false (.t 31) (.t 32), none⟩,
  ⟨some 6, .mv (.t 33), none⟩])))
 c49_4)
def c49_2 : RCode :=
 (.seq (.region [⟨some 28, .bin (some .other) none .lss (.t 27) (.t 26), none⟩])
 (.seq (.cond (.t 28)
 .skip
 (.exit 2))
 c49_3))
def c49_0 : RCode :=
 (.seq (.region [⟨some 23, .mv (.t 3), none⟩,
  ⟨some 24, .call (.c (.fn 74 [] [])) [(.c .nils), (.t 23)], none⟩,
  ⟨some 6, .mv (.t 24), none⟩])
 (.seq (.seq (.region [⟨some 25, .mv (.t 0), none⟩,
  ⟨some 26, .len .sl (.t 25), none⟩,
  ⟨some 27, .mv (.c (.int .i64 0)), none⟩])
 (.block 2
 (.loop c49_2)))
 c49_1))
def c49_9 : RCode :=
 (.region [⟨some 22, .bin (some .other) none .add (.t 11) (.c (.int .i64 1)), none⟩,
  ⟨some 11, .mv (.t 22), none⟩])
def c49_8 : RCode :=
 (.seq (.block 1
 (.seq (.region [⟨some 13, .iaddrS 1 (.t 9) (.t 11), none⟩,
  ⟨some 14, .load false 1 (.t 13), none⟩,
  ⟨some 5, .mv (.t 14), none⟩])
 (.seq (.region [⟨some 15, .mv (.t 3), none⟩,
  ⟨some 16, .mv (.t 5), none⟩,
  ⟨some 17, .len .sl (.t 16), none⟩,
  ⟨some 18, .bin (some .other) none .add (.t 15) (.t 17), none⟩,
  ⟨some 3, .mv (.t 18), none⟩])
 (.seq (.region [⟨some 19, .mv (.t 3), none⟩,
  ⟨some 20, .bin (some .other) none .lss (.t 19) (.c (.int .i64 0)), none⟩])
 (.cond (.t 20)
 (.region [⟨some 21, .iface 9 (.c (.str ⟨#[108, 101, 110, 32, 111, 117, 116, 32, 111, 102, 32, 114, 97, 110, 103, 101]⟩)), none⟩,
  ⟨none, .panic (.t 21), none⟩])
 .skip)))))
 c49_9)
def c49_7 : RCode :=
 (.seq (.region [⟨some 12, .bin (some .other) none .lss (.t 11) (.t 10), none⟩])
 (.seq (.cond (.t 12)
 .skip
 (.exit 0))
 c49_8))
def c49b : RCode :=
 (.seq (.region [⟨some 2, .mv (.c .nils), none⟩])
 (.seq (.region [⟨some 3, .mv (.c (.int .i64 0)), none⟩])
 (.seq (.seq (.region [⟨some 9, .mv (.t 0), none⟩,
  ⟨some 10, .len .sl (.t 9), none⟩,
  ⟨some 11, .mv (.c (.int .i64 0)), none⟩])
 (.block 0
 (.loop c49_7)))
 c49_0)))
def c49 : RFunc := ⟨c49r, some c49b, none⟩
def c50r : List RRes := []
def c50b : RCode :=
 (.seq (.region [⟨some 3, .mv (.t 0), none⟩,
  ⟨some 4, .len .sl (.t 3), none⟩,
  ⟨some 2, .mv (.t 4), none⟩])
 (.region [⟨some 5, .mv (.t 0), none⟩,
  ⟨some 6, .mv (.t 2), none⟩,
  ⟨some 7, .mv (.t 2), none⟩,
  ⟨some 8, .conv (.int .u64) (.t 7), none⟩,
  ⟨some 9, .call (.c (.fn 76 [] [])) [(.t 8)], none⟩,
  ⟨some 10, .call (.c (.fn 75 [] [])) [(.t 5), (.c (.int .i64 0)), (.t 6), (.t 9)], none⟩]))
def c50 : RFunc := ⟨c50r, some c50b, none⟩
def c51r : List RRes := [.tmp 2]
def c51_1 : RCode :=
 (.seq (.region [⟨some 60, .mv (.t 0), none⟩,
  ⟨some 2, .mv (.t 60), none⟩])
 .ret)
def c51_4 : RCode :=
 (.region [⟨some 14, .mv (.t 3), none⟩,
  ⟨some 15, .bin (some .other) none .add (.t 14) (.c (.int .i64 1)), none⟩,
  ⟨some 3, .mv (.t 15), none⟩])
def c51_6 : RCode :=
 (.seq (.region [⟨some 54, .mv (.t 0), none⟩,
  ⟨some 55, .mv (.t 3), none⟩,
  ⟨some 56, .slice (.sl 1) (.t 54) (some (.t 55)) none none, none⟩,
  ⟨none, .clear 1 [(.int .i64 0)] (.t 56), none⟩])
 (.seq (.region [⟨some 57, .mv (.t 0), none⟩,
  ⟨some 58, .mv (.t 3), none⟩,
  ⟨some 59, .slice (.sl 1) (.t 57) none (some (.t 58)) none, none⟩,
  ⟨some 2, .mv (.t 59), none⟩])
 .ret))
def c51_9 : RCode :=
 (.region [⟨some 33, .mv (.t 5), none⟩,
  ⟨some 34, .bin (some .other) none .add (.t 33) (.c (.int .i64 1)), none⟩,
  ⟨some 5, .mv (.t 34), none⟩])
def c51_8 : RCode :=
 (.seq (.block 3
 (.seq (.drawn [(⟨some 35, .mv (.t 4), none⟩, []),
  (⟨some 36, .mv (.t 5), none⟩, []),
  (⟨some 37, .iaddrS 1 (.t 35) (.t 36), none⟩, []),
  (⟨some 38, .load false 1 (.t 37), none⟩, []),
  (⟨some 39, .mv (.t 4), none⟩, []),
  (⟨some 40, .mv (.t 5), none⟩, []),
  (⟨some 41, .bin (some .other) none .sub (.t 40) (.c (.int .i64 1)), none⟩, []),
  (⟨some 42, .iaddrS 1 (.t 39) (.t 41), none⟩, []),
  (⟨some 43, .load false 1 (.t 42), none⟩, []),
  (⟨some 44, .bin (some .other) none .neq (.t 38) (.t 43), none⟩, [])])
 (.cond (.t 44)
 (.seq (.region [⟨some 45, .mv (.t 0), none⟩,
  ⟨some 46, .mv (.t 3), none⟩,
  ⟨some 47, .mv (.t 4), none⟩,
  ⟨some 48, .mv (.t 5), none⟩,
  ⟨some 49, .iaddrS 1 (.t 47) (.t 48), none⟩,
  ⟨some 50, .load false 1 (.t 49), none⟩,
  ⟨some 51, .iaddrS 1 (.t 45) (.t 46), none⟩,
  ⟨none, .store 1 (.t 51) (.t 50), none⟩])
 (.region [⟨some 52, .mv (.t 3), none⟩,
  ⟨some 53, .bin (some .other) none .add (.t 52) (.c (.int .i64 1)), none⟩,
  ⟨some 3, .mv (.t 53), none⟩]))
 .skip)))
 c51_9)
def c51_7 : RCode :=
 (.seq (.seq (.region [⟨some 29, .mv (.t 5), none⟩,
  ⟨some 30, .mv (.t 4), none⟩,
  ⟨some 31, .len .sl (.t 30), none⟩,
  ⟨some 32, .bin (some .other) none .lss (.t 29) (.t 31), none⟩])
 (.cond (.t 32)
 .skip
 (.exit 2)))
 c51_8)
def c51_3 : RCode :=
 (.seq (.block 1
 (.seq (.drawn [(⟨some 16, .mv (.t 0), none⟩, []),
  (⟨some 17, .mv (.t 3), none⟩, []),
  (⟨some 18, .iaddrS 1 (.t 16) (.t 17), none⟩, []),
  (⟨some 19, .load false 1 (.t 18), none⟩, []),
  (⟨some 20, .mv (.t 0), none⟩, []),
  (⟨some 21, .mv (.t 3), none⟩, []),
  (⟨some 22, .bin (some .other) none .sub (.t 21) (.c (.int .i64 1)), none⟩, []),
  (⟨some 23, .iaddrS 1 (.t 20) (.t 22), none⟩, []),
  (⟨some 24, .load false 1 (.t 23), none⟩, []),
  (⟨some 25, .bin (some .other) none .eql (.t 19) (.t 24), none⟩, [])])
 (.cond (.t 25)
 (.seq (.region [⟨some 26, .mv (.t 0), none⟩,
  ⟨some 27, .mv (.t 3), none⟩,
  ⟨some 28, .slice (.sl 1) (.t 26) (some (.t 27)) none none, none⟩,
  ⟨some 4, .mv (.t 28), none⟩])
 (.seq (.seq (.region [⟨some 5, .mv (.c (.int .i64 1)), none⟩])
 (.block 2
 (.loop c51_7)))
 c51_6))
 .skip)))
 c51_4)
def c51_2 : RCode :=
 (.seq (.seq (.region [⟨some 10, .mv (.t 3), none⟩,
  ⟨some 11, .mv (.t 0), none⟩,
  ⟨some 12, .len .sl (.t 11), none⟩,
  ⟨some 13, .bin (some .other) none .lss (.t 10) (.t 12), none⟩])
 (.cond (.t 13)
 .skip
 (.exit 0)))
 c51_3)
def c51_0 : RCode :=
 (.seq (.seq (.region [⟨some 3, .mv (.c (.int .i64 1)), none⟩])
 (.block 0
 (.loop c51_2)))
 c51_1)
def c51b : RCode :=
 (.seq (.region [⟨some 2, .mv (.c .nils), none⟩])
 (.seq (.seq (.region [⟨some 6, .mv (.t 0), none⟩,
  ⟨some 7, .len .sl (.t 6), none⟩,
  ⟨some 8, .bin (some .other) none .lss (.t 7) (.c (.int .i64 2)), none⟩])
 (.cond (.t 8)
 (.seq (.region [⟨some 9, .mv (.t 0), none⟩,
  ⟨some 2, .mv (.t 9), none⟩])
 .ret)
 .skip))
 c51_0))
def c51 : RFunc := ⟨c51r, some c51b, none⟩
def c52r : List RRes := [.tmp 2]
def c52_1 : RCode :=
 (.seq (.region [⟨some 77, .mv (.t 9), none⟩,
  ⟨some 78, .call (.c (.fn 78 [] [])) [(.t 77)], none⟩,
  ⟨some 2, .mv (.t 78), none⟩])
 .ret)
def c52_4 : RCode :=
 (.region [⟨some 76, .bin (some .other) none .add (.t 46) (.c (.int .i64 1)), none⟩,
  ⟨some 46, .mv (.t 76), none⟩])
def c52_8 : RCode :=
 (.region [⟨some 75, .bin (some .other) none .add (.t 52) (.c (.int .i64 1)), none⟩,
  ⟨some 52, .mv (.t 75), none⟩])
def c52_10 : RCode :=
 (.cond (.t 65)
 (.seq (.region [⟨some 66, .mv (.t 9), none⟩,
  ⟨some 67, .faddr 0 (.t 11), none⟩,
  ⟨some 68, .load false 1 (.t 67), none⟩,
  ⟨some 69, .mv (.t 13), none⟩,
  ⟨some 70, .build [(.int .i64 0), (.int .i64 0)] [(0, 1, (.t 68)), (1, 1, (.t 69))], none⟩,
  ⟨some 71, .lit false 2 1 [(.int .i64 0), (.int .i64 0)] [(0, 2, (.t 70))], none⟩,
  ⟨some 72, .append 2 16 [(.int .i64 0), (.int .i64 0)] false (.t 66) (.t 71), none⟩,
  ⟨some 9, .mv (.t 72), none⟩])
 (.region [⟨some 73, .mv (.t 13), none⟩,
  ⟨some 74, .faddr 0 (.t 11), none⟩,
  ⟨none, .store 1 (.t 74) (.t 73), none⟩]))
 .skip)
def o52_12_9 : List ROper :=
  ⟨some 65, .pick (.t 60) (.t 64) (.c (.bool false)), none⟩ ::
  []
def o52_12_8 : List ROper :=
  ⟨some 64, .bin (some .other) none .leq (.t 61) (.t 63), some (60, true)⟩ ::
  o52_12_9
def o52_12_7 : List ROper :=
  ⟨some 63, .load false 1 (.t 62), some (60, true)⟩ ::
  o52_12_8
def o52_12_6 : List ROper :=
  ⟨some 62, .faddr 1 (.t 11), some (60, true)⟩ ::
  o52_12_7
def c52_7 : RCode :=
 (.seq (.block 7
 (.seq (.region [⟨some 54, .iaddrS 1 (.t 50) (.t 52), none⟩,
  ⟨some 55, .load false 1 (.t 54), none⟩,
  ⟨some 13, .mv (.t 55), none⟩])
 (.seq (.region (⟨some 56, .faddr 0 (.t 11), none⟩ ::
  ⟨some 57, .load false 1 (.t 56), none⟩ ::
  ⟨some 58, .mv (.t 13), none⟩ ::
  ⟨some 59, .bin (some .other) none .lss (.t 57) (.t 58), none⟩ ::
  ⟨some 60, .mv (.t 59), none⟩ ::
  ⟨some 61, .mv (.t 13), some (60, true)⟩ ::
  o52_12_6))
 c52_10)))
 c52_8)
def c52_6 : RCode :=
 (.seq (.region [⟨some 53, .bin (some .other) none .lss (.t 52) (.t 51), none⟩])
 (.seq (.cond (.t 53)
 .skip
 (.exit 6))
 c52_7))
def c52_3 : RCode :=
 (.seq (.block 5
 (.seq (.region [⟨some 48, .iaddrS 2 (.t 44) (.t 46), none⟩,
  ⟨some 49, .load true 2 (.t 48), none⟩,
  ⟨some 11, .alloc [(.int .i64 0), (.int .i64 0)], none⟩,
  ⟨none, .store 2 (.t 11) (.t 49), none⟩])
 (.seq (.region [⟨some 50, .mv (.t 3), none⟩,
  ⟨some 51, .len .sl (.t 50), none⟩,
  ⟨some 52, .mv (.c (.int .i64 0)), none⟩])
 (.block 6
 (.loop c52_6)))))
 c52_4)
def c52_2 : RCode :=
 (.seq (.region [⟨some 47, .bin (some .other) none .lss (.t 46) (.t 45), none⟩])
 (.seq (.cond (.t 47)
 .skip
 (.exit 4))
 c52_3))
def c52_0 : RCode :=
 (.seq (.region [⟨some 39, .mv (.t 3), none⟩,
  ⟨some 40, .call (.c (.fn 50 [] [])) [(.t 39)], none⟩])
 (.seq (.region [⟨some 41, .mv (.t 3), none⟩,
  ⟨some 42, .call (.c (.fn 51 [] [])) [(.t 41)], none⟩,
  ⟨some 3, .mv (.t 42), none⟩])
 (.seq (.region [⟨some 9, .mv (.c .nils), none⟩])
 (.seq (.seq (.region [⟨some 43, .mv (.t 4), none⟩,
  ⟨some 44, .call (.c (.fn 77 [] [])) [(.t 43)], none⟩,
  ⟨some 45, .len .sl (.t 44), none⟩,
  ⟨some 46, .mv (.c (.int .i64 0)), none⟩])
 (.block 4
 (.loop c52_2)))
 c52_1))))
def c52_19 : RCode :=
 (.region [⟨some 38, .bin (some .other) none .add (.t 16) (.c (.int .i64 1)), none⟩,
  ⟨some 16, .mv (.t 38), none⟩])
def c52_21 : RCode :=
 (.region [⟨some 35, .mv (.t 4), none⟩,
  ⟨some 36, .mv (.t 6), none⟩,
  ⟨some 37, .append 2 8 [(.int .i32 0), (.int .i32 0)] false (.t 35) (.t 36), none⟩,
  ⟨some 4, .mv (.t 37), none⟩])
def c52_25 : RCode :=
 (.region [⟨some 34, .bin (some .other) none .add (.t 23) (.c (.int .i64 1)), none⟩,
  ⟨some 23, .mv (.t 34), none⟩])
def c52_24 : RCode :=
 (.seq (.block 3
 (.seq (.region [⟨some 25, .iaddrS 2 (.t 21) (.t 23), none⟩,
  ⟨some 26, .load true 2 (.t 25), none⟩,
  ⟨some 8, .alloc [(.int .i64 0), (.int .i64 0)], none⟩,
  ⟨none, .store 2 (.t 8) (.t 26), none⟩])
 (.region [⟨some 27, .mv (.t 3), none⟩,
  ⟨some 28, .faddr 0 (.t 8), none⟩,
  ⟨some 29, .load false 1 (.t 28), none⟩,
  ⟨some 30, .faddr 1 (.t 8), none⟩,
  ⟨some 31, .load false 1 (.t 30), none⟩,
  ⟨some 32, .lit false 1 2 [(.int .i64 0), (.int .i64 0)] [(0, 1, (.t 29)), (1, 1, (.t 31))], none⟩,
  ⟨some 33, .append 1 8 [(.int .i64 0)] false (.t 27) (.t 32), none⟩,
  ⟨some 3, .mv (.t 33), none⟩])))
 c52_25)
def c52_23 : RCode :=
 (.seq (.region [⟨some 24, .bin (some .other) none .lss (.t 23) (.t 22), none⟩])
 (.seq (.cond (.t 24)
 .skip
 (.exit 2))
 c52_24))
def c52_18 : RCode :=
 (.seq (.block 1
 (.seq (.region [⟨some 18, .iaddrS 1 (.t 14) (.t 16), none⟩,
  ⟨some 19, .load false 1 (.t 18), none⟩,
  ⟨some 6, .mv (.t 19), none⟩])
 (.seq (.seq (.region [⟨some 20, .mv (.t 6), none⟩,
  ⟨some 21, .call (.c (.fn 77 [] [])) [(.t 20)], none⟩,
  ⟨some 22, .len .sl (.t 21), none⟩,
  ⟨some 23, .mv (.c (.int .i64 0)), none⟩])
 (.block 2
 (.loop c52_23)))
 c52_21)))
 c52_19)
def c52_17 : RCode :=
 (.seq (.region [⟨some 17, .bin (some .other) none .lss (.t 16) (.t 15), none⟩])
 (.seq (.cond (.t 17)
 .skip
 (.exit 0))
 c52_18))
def c52b : RCode :=
 (.seq (.region [⟨some 2, .mv (.c .nils), none⟩])
 (.seq (.region [⟨some 3, .mv (.c .nils), none⟩])
 (.seq (.region [⟨some 4, .mv (.c .nils), none⟩])
 (.seq (.seq (.region [⟨some 14, .mv (.t 0), none⟩,
  ⟨some 15, .len .sl (.t 14), none⟩,
  ⟨some 16, .mv (.c (.int .i64 0)), none⟩])
 (.block 0
 (.loop c52_17)))
 c52_0))))
def c52 : RFunc := ⟨c52r, some c52b, none⟩
def c53r : List RRes := [.tmp 6]
def c53b : RCode :=
 (.seq (.region [⟨some 6, .mv (.c .nils), none⟩])
 (.seq (.region [⟨some 7, .mv (.t 0), none⟩,
  ⟨some 8, .mv (.t 1), none⟩,
  ⟨some 9, .mv (.t 2), none⟩,
  ⟨some 10, .call (.c (.fn 79 [] [])) [(.t 7), (.t 8), (.t 9)], none⟩,
  ⟨some 6, .mv (.t 10), none⟩])
 .ret))
def c53 : RFunc := ⟨c53r, some c53b, none⟩
def c54r : List RRes := [.tmp 4]
def c54_0 : RCode :=
 .ret
def o54_1_10 : List ROper :=
  ⟨some 15, .pick (.t 7) (.t 14) (.c (.bool false)), none⟩ ::
  ⟨some 4, .mv (.t 15), none⟩ ::
  []
def o54_1_9 : List ROper :=
  ⟨some 14, .bin (some .other) none .lss (.t 8) (.t 13), some (7, true)⟩ ::
  o54_1_10
def o54_1_8 : List ROper :=
  ⟨some 13, .len .sl (.t 12), some (7, true)⟩ ::
  o54_1_9
def o54_1_7 : List ROper :=
  ⟨some 12, .load false 1 (.t 11), some (7, true)⟩ ::
  o54_1_8
def o54_1_6 : List ROper :=
  ⟨some 11, .faddr 0 (.t 10), some (7, true)⟩ ::
  o54_1_7
def o54_1_5 : List ROper :=
  ⟨some 10, .nilc (.t 9), some (7, true)⟩ ::
  o54_1_6
def o54_1_4 : List ROper :=
  ⟨some 9, .mv (.t 0), some (7, true)⟩ ::
  o54_1_5
def c54b : RCode :=
 (.seq (.region [⟨some 4, .mv (.c (.bool false)), none⟩])
 (.seq (.region (⟨some 5, .mv (.t 1), none⟩ ::
  ⟨some 6, .bin (some .other) none .geq (.t 5) (.c (.int .i64 0)), none⟩ ::
  ⟨some 7, .mv (.t 6), none⟩ ::
  ⟨some 8, .mv (.t 1), some (7, true)⟩ ::
  o54_1_4))
 c54_0))
def c54 : RFunc := ⟨c54r, some c54b, none⟩
def c55r : List RRes := [.tmp 4]
def c55_0 : RCode :=
 .ret
def o55_1_6 : List ROper :=
  ⟨some 11, .pick (.t 7) (.t 10) (.c (.bool false)), none⟩ ::
  ⟨some 4, .mv (.t 11), none⟩ ::
  []
def o55_1_5 : List ROper :=
  ⟨some 10, .call (.c (.fn 81 [] [])) [(.t 8), (.t 9)], some (7, true)⟩ ::
  o55_1_6
def o55_1_4 : List ROper :=
  ⟨some 9, .mkfn 82 [] [(.t 3)], some (7, true)⟩ ::
  o55_1_5
def c55b : RCode :=
 (.seq (.region [⟨some 3, .box (.t 1), none⟩,
  ⟨some 4, .mv (.c (.bool false)), none⟩])
 (.seq (.region (⟨some 5, .load false 1 (.t 3), none⟩ ::
  ⟨some 6, .call (.c (.fn 80 [] [])) [(.t 5)], none⟩ ::
  ⟨some 7, .mv (.t 6), none⟩ ::
  ⟨some 8, .mv (.t 0), some (7, true)⟩ ::
  o55_1_4))
 c55_0))
def c55 : RFunc := ⟨c55r, some c55b, none⟩
def c56r : List RRes := [.tmp 2]
def c56_0 : RCode :=
 (.seq (.region [⟨some 2, .mv (.c (.bool false)), none⟩])
 .ret)
def c56_2 : RCode :=
 .ret
def o56_3_11 : List ROper :=
  ⟨some 21, .pick (.t 15) (.t 20) (.c (.bool false)), none⟩ ::
  ⟨some 2, .mv (.t 21), none⟩ ::
  []
def o56_3_10 : List ROper :=
  ⟨some 20, .call (.c (.fn 56 [] [])) [(.t 19)], some (15, true)⟩ ::
  o56_3_11
def o56_3_9 : List ROper :=
  ⟨some 19, .load true 3 (.t 18), some (15, true)⟩ ::
  o56_3_10
def o56_3_8 : List ROper :=
  ⟨some 18, .iaddrS 3 (.t 17) (.c (.int .i64 1)), some (15, true)⟩ ::
  o56_3_9
def o56_3_7 : List ROper :=
  ⟨some 17, .load false 1 (.t 16), some (15, true)⟩ ::
  o56_3_8
def c56_9 : RCode :=
 .ret
def o56_10_11 : List ROper :=
  ⟨some 35, .pick (.t 29) (.c (.bool true)) (.t 34), none⟩ ::
  ⟨some 2, .mv (.t 35), none⟩ ::
  []
def o56_10_10 : List ROper :=
  ⟨some 34, .call (.c (.fn 56 [] [])) [(.t 33)], some (29, false)⟩ ::
  o56_10_11
def o56_10_9 : List ROper :=
  ⟨some 33, .load true 3 (.t 32), some (29, false)⟩ ::
  o56_10_10
def o56_10_8 : List ROper :=
  ⟨some 32, .iaddrS 3 (.t 31) (.c (.int .i64 1)), some (29, false)⟩ ::
  o56_10_9
def o56_10_7 : List ROper :=
  ⟨some 31, .load false 1 (.t 30), some (29, false)⟩ ::
  o56_10_8
def c56_1 : RCode :=
 (.cond (.t 5)
 (.seq (.region [⟨some 2, .mv (.c (.bool true)), none⟩])
 .ret)
 (.seq (.region [⟨some 9, .bin (some .other) none .eql (.t 4) (.c (.int .i64 3)), none⟩,
  ⟨some 8, .mv (.t 9), none⟩])
 (.cond (.t 8)
 (.seq (.region (⟨some 10, .faddr 2 (.t 1), none⟩ ::
  ⟨some 11, .load false 1 (.t 10), none⟩ ::
  ⟨some 12, .iaddrS 3 (.t 11) (.c (.int .i64 0)), none⟩ ::
  ⟨some 13, .load true 3 (.t 12), none⟩ ::
  ⟨some 14, .call (.c (.fn 56 [] [])) [(.t 13)], none⟩ ::
  ⟨some 15, .mv (.t 14), none⟩ ::
  ⟨some 16, .faddr 2 (.t 1), some (15, true)⟩ ::
  o56_3_7))
 c56_2)
 (.seq (.region [⟨some 23, .bin (some .other) none .eql (.t 4) (.c (.int .i64 4)), none⟩,
  ⟨some 22, .mv (.t 23), none⟩])
 (.cond (.t 22)
 (.seq (.region (⟨some 24, .faddr 2 (.t 1), none⟩ ::
  ⟨some 25, .load false 1 (.t 24), none⟩ ::
  ⟨some 26, .iaddrS 3 (.t 25) (.c (.int .i64 0)), none⟩ ::
  ⟨some 27, .load true 3 (.t 26), none⟩ ::
  ⟨some 28, .call (.c (.fn 56 [] [])) [(.t 27)], none⟩ ::
  ⟨some 29, .mv (.t 28), none⟩ ::
  ⟨some 30, .faddr 2 (.t 1), some (29, false)⟩ ::
  o56_10_7))
 c56_9)
 .skip)))))
def c56b : RCode :=
 (.seq (.region [⟨some 1, .box (.t 0), none⟩,
  ⟨some 2, .mv (.c (.bool false)), none⟩])
 (.seq (.seq (.region [⟨some 3, .faddr 0 (.t 1), none⟩,
  ⟨some 4, .load false 1 (.t 3), none⟩])
 (.block 0
 (.seq (.seq (.region [⟨some 6, .bin (some .other) none .eql (.t 4) (.c (.int .i64 1)), none⟩,
  ⟨some 5, .mv (.t 6), none⟩])
 (.cond (.t 5)
 .skip
 (.region [⟨some 7, .bin (some .other) none .eql (.t 4) (.c (.int .i64 5)), none⟩,
  ⟨some 5, .mv (.t 7), none⟩])))
 c56_1)))
 c56_0))
def c56 : RFunc := ⟨c56r, some c56b, none⟩
def c57r : List RRes := [.tmp 2]
def c57_0 : RCode :=
 (.seq (.region [⟨some 5, .lit false 2 0 [] [], none⟩,
  ⟨some 6, .mv (.t 0), none⟩,
  ⟨some 7, .append 2 8 [(.int .i32 0), (.int .i32 0)] false (.t 5) (.t 6), none⟩,
  ⟨some 2, .mv (.t 7), none⟩])
 .ret)
def c57b : RCode :=
 (.seq (.region [⟨some 2, .mv (.c .nils), none⟩])
 (.seq (.seq (.region [⟨some 3, .mv (.t 0), none⟩,
  ⟨some 4, .bin (some .slice) none .eql (.t 3) (.c .nils), none⟩])
 (.cond (.t 4)
 (.seq (.region [⟨some 2, .mv (.c .nils), none⟩])
 .ret)
 .skip))
 c57_0))
def c57 : RFunc := ⟨c57r, some c57b, none⟩
def c58r : List RRes := [.tmp 2]
def c58_0 : RCode :=
 (.seq (.region [⟨some 5, .mv (.t 0), none⟩,
  ⟨some 6, .nilc (.t 5), none⟩,
  ⟨some 7, .faddr 1 (.t 6), none⟩,
  ⟨some 8, .load false 1 (.t 7), none⟩,
  ⟨some 9, .len .sl (.t 8), none⟩,
  ⟨some 2, .mv (.t 9), none⟩])
 .ret)
def c58b : RCode :=
 (.seq (.region [⟨some 2, .mv (.c (.int .i64 0)), none⟩])
 (.seq (.seq (.region [⟨some 3, .mv (.t 0), none⟩,
  ⟨some 4, .bin (some .ptr) none .eql (.t 3) (.c .nilp), none⟩])
 (.cond (.t 4)
 (.seq (.region [⟨some 2, .mv (.c (.int .i64 0)), none⟩])
 .ret)
 .skip))
 c58_0))
def c58 : RFunc := ⟨c58r, some c58b, none⟩
def c59r : List RRes := []
def c59_1 : RCode :=
 (.seq (.region [⟨some 18, .mv (.t 0), none⟩,
  ⟨some 19, .mv (.t 1), none⟩,
  ⟨some 20, .lit false 1 1 [(.int .u8 0)] [(0, 1, (.t 19))], none⟩,
  ⟨some 21, .nilc (.t 18), none⟩,
  ⟨some 22, .faddr 0 (.t 21), none⟩,
  ⟨none, .store 1 (.t 22) (.t 20), none⟩])
 (.region [⟨some 23, .mv (.t 0), none⟩,
  ⟨some 24, .call (.c (.fn 61 [] [])) [(.t 23), (.c (.bool true)), (.c (.bool false))], none⟩]))
def c59_0 : RCode :=
 (.seq (.seq (.region [⟨some 7, .mv (.t 0), none⟩,
  ⟨some 8, .nilc (.t 7), none⟩,
  ⟨some 9, .faddr 0 (.t 8), none⟩,
  ⟨some 10, .load false 1 (.t 9), none⟩,
  ⟨some 11, .len .sl (.t 10), none⟩,
  ⟨some 12, .bin (some .other) none .gtr (.t 11) (.c (.int .i64 0)), none⟩])
 (.cond (.t 12)
 (.seq (.region [⟨some 13, .mv (.t 0), none⟩,
  ⟨some 14, .call (.c (.fn 61 [] [])) [(.t 13), (.c (.bool true)), (.c (.bool true))], none⟩])
 (.seq (.region [⟨some 15, .mv (.t 0), none⟩,
  ⟨some 16, .mv (.t 1), none⟩,
  ⟨some 17, .call (.c (.fn 59 [] [])) [(.t 15), (.t 16)], none⟩])
 .ret))
 .skip))
 c59_1)
def c59b : RCode :=
 (.seq (.seq (.region [⟨some 4, .mv (.t 0), none⟩,
  ⟨some 5, .mv (.t 1), none⟩,
  ⟨some 6, .call (.c (.fn 83 [] [])) [(.t 4), (.t 5)], none⟩])
 (.cond (.t 6)
 .ret
 .skip))
 c59_0)
def c59 : RFunc := ⟨c59r, some c59b, none⟩
def c60r : List RRes := [.tmp 2]
def c60b : RCode :=
 (.seq (.region [⟨some 2, .mv (.c .nils), none⟩])
 (.seq (.region [⟨some 4, .mv (.t 0), none⟩,
  ⟨some 5, .nilc (.t 4), none⟩,
  ⟨some 6, .faddr 3 (.t 5), none⟩,
  ⟨some 7, .load false 1 (.t 6), none⟩,
  ⟨some 3, .mv (.t 7), none⟩])
 (.seq (.region [⟨some 8, .mv (.t 0), none⟩,
  ⟨some 9, .nilc (.t 8), none⟩,
  ⟨some 10, .faddr 3 (.t 9), none⟩,
  ⟨none, .store 1 (.t 10) (.c .nils), none⟩])
 (.seq (.region [⟨some 11, .mv (.t 3), none⟩,
  ⟨some 2, .mv (.t 11), none⟩])
 .ret))))
def c60 : RFunc := ⟨c60r, some c60b, none⟩
def c61r : List RRes := []
def c61_0 : RCode :=
 (.seq (.drawn [(⟨some 35, .mv (.t 0), none⟩, []),
  (⟨some 36, .mv (.t 0), none⟩, []),
  (⟨some 37, .nilc (.t 36), none⟩, []),
  (⟨some 38, .faddr 3 (.t 37), none⟩, []),
  (⟨some 39, .load false 1 (.t 38), none⟩, []),
  (⟨some 40, .load true 5 (.t 6), none⟩, []),
  (⟨some 41, .lit true 5 1 [(.int .i32 0), (.int .i64 0), (.int .i64 0), (.bool false), (.bool false)] [(0, 5, (.t 40))], none⟩, []),
  (⟨some 42, .append 5 32 [(.int .i32 0), (.int .i64 0), (.int .i64 0), (.bool false), (.bool false)] false (.t 39) (.t 41), none⟩, []),
  (⟨some 43, .nilc (.t 35), none⟩, []),
  (⟨some 44, .faddr 3 (.t 43), none⟩, []),
  (⟨none, .store 1 (.t 44) (.t 42), none⟩, [])])
 (.drawn [(⟨some 45, .mv (.t 0), none⟩, []),
  (⟨some 46, .mv (.t 0), none⟩, []),
  (⟨some 47, .faddr 2 (.t 6), none⟩, []),
  (⟨some 48, .load false 1 (.t 47), none⟩, []),
  (⟨some 49, .nilc (.t 45), none⟩, []),
  (⟨some 50, .faddr 0 (.t 49), none⟩, []),
  (⟨none, .store 1 (.t 50) (.c .nils), none⟩, [⟨some 48, .load false 1 (.t 47), none⟩]),
  (⟨some 51, .nilc (.t 46), none⟩, []),
  (⟨some 52, .faddr 1 (.t 51), none⟩, []),
  (⟨none, .store 1 (.t 52) (.t 48), none⟩, [])]))
def c61b : RCode :=
 (.seq (.drawn [(⟨some 7, .mv (.t 0), none⟩, []),
  (⟨some 8, .nilc (.t 7), none⟩, []),
  (⟨some 9, .faddr 1 (.t 8), none⟩, []),
  (⟨some 10, .load false 1 (.t 9), none⟩, []),
  (⟨some 11, .mv (.t 0), none⟩, []),
  (⟨some 12, .nilc (.t 11), none⟩, []),
  (⟨some 13, .faddr 1 (.t 12), none⟩, []),
  (⟨some 14, .load false 1 (.t 13), none⟩, []),
  (⟨some 15, .mv (.t 0), none⟩, []),
  (⟨some 16, .nilc (.t 15), none⟩, []),
  (⟨some 17, .faddr 0 (.t 16), none⟩, []),
  (⟨some 18, .load false 1 (.t 17), none⟩, []),
  (⟨some 19, .len .sl (.t 18), none⟩, []),
  (⟨some 20, .bin (some .other) none .add (.t 14) (.t 19), none⟩, []),
  (⟨some 21, .mv (.t 1), none⟩, []),
  (⟨some 22, .mv (.t 2), none⟩, []),
  (⟨some 23, .build [(.int .i32 0), (.int .i64 0), (.int .i64 0), (.bool false), (.bool false)] [(0, 1, (.c (.int .i32 65533))), (1, 1, (.t 10)), (2, 1, (.t 20)), (3, 1, (.t 21)), (4, 1, (.t 22))], none⟩, []),
  (⟨some 6, .alloc [(.int .i32 0), (.int .i64 0), (.int .i64 0), (.bool false), (.bool false)], none⟩, [⟨some 10, .load false 1 (.t 9), none⟩, ⟨some 14, .load false 1 (.t 13), none⟩, ⟨some 18, .load false 1 (.t 17), none⟩, ⟨some 19, .len .sl (.t 18), none⟩]),
  (⟨none, .store 5 (.t 6) (.t 23), none⟩, [])])
 (.seq (.seq (.region [⟨some 24, .mv (.t 1), none⟩,
  ⟨some 25, .un .not (.t 24), none⟩])
 (.cond (.t 25)
 (.region [⟨some 27, .mv (.t 0), none⟩,
  ⟨some 28, .nilc (.t 27), none⟩,
  ⟨some 29, .faddr 0 (.t 28), none⟩,
  ⟨some 30, .load false 1 (.t 29), none⟩,
  ⟨some 31, .call (.c (.fn 84 [] [])) [(.t 30)], none⟩,
  ⟨some 26, .mv (.t 31), none⟩,
  ⟨some 32, .extract 0 (.t 26), none⟩,
  ⟨some 33, .extract 1 (.t 26), none⟩,
  ⟨some 34, .faddr 0 (.t 6), none⟩,
  ⟨none, .store 1 (.t 34) (.t 32), none⟩])
 .skip))
 c61_0))
def c61 : RFunc := ⟨c61r, some c61b, none⟩
def c62r : List RRes := [.tmp 4, .tmp 5]
def c62b : RCode :=
 (.seq (.region [⟨some 3, .box (.t 0), none⟩,
  ⟨some 4, .mv (.c (.bool false)), none⟩,
  ⟨some 5, .mv (.c (.int .i64 0)), none⟩])
 (.seq (.region [⟨some 6, .load false 1 (.t 1), none⟩,
  ⟨some 7, .load false 1 (.t 2), none⟩,
  ⟨some 8, .faddr 0 (.t 3), none⟩,
  ⟨some 9, .load false 1 (.t 8), none⟩,
  ⟨some 10, .call (.c (.fn 63 [] [])) [(.t 6), (.t 7), (.t 9)], none⟩,
  ⟨none, .store 1 (.t 2) (.t 10), none⟩])
 (.seq (.drawn [(⟨some 11, .load false 1 (.t 2), none⟩, []),
  (⟨some 12, .bin (some .other) none .geq (.t 11) (.c (.int .i64 0)), none⟩, []),
  (⟨some 13, .load false 1 (.t 1), none⟩, []),
  (⟨some 14, .load false 1 (.t 2), none⟩, []),
  (⟨some 15, .call (.c (.fn 64 [] [])) [(.t 13), (.t 14)], none⟩, [⟨some 11, .load false 1 (.t 2), none⟩]),
  (⟨some 4, .mv (.t 12), none⟩, []),
  (⟨some 5, .mv (.t 15), none⟩, [])])
 .ret)))
def c62 : RFunc := ⟨c62r, some c62b, none⟩
def c63r : List RRes := [.tmp 6]
def c63_0 : RCode :=
 (.seq (.region [⟨some 9, .mv (.t 0), none⟩,
  ⟨some 10, .mv (.t 1), none⟩,
  ⟨some 11, .mv (.t 0), none⟩,
  ⟨some 12, .nilc (.t 11), none⟩,
  ⟨some 13, .faddr 0 (.t 12), none⟩,
  ⟨some 14, .load false 1 (.t 13), none⟩,
  ⟨some 15, .mv (.t 2), none⟩,
  ⟨some 16, .call (.c (.fn 86 [] [])) [(.t 14), (.t 15)], none⟩,
  ⟨some 17, .call (.c (.fn 85 [] [])) [(.t 9), (.t 10), (.t 16)], none⟩,
  ⟨some 6, .mv (.t 17), none⟩])
 .ret)
def c63b : RCode :=
 (.seq (.region [⟨some 6, .mv (.c (.int .i64 0)), none⟩])
 (.seq (.seq (.region [⟨some 7, .mv (.t 0), none⟩,
  ⟨some 8, .bin (some .ptr) none .eql (.t 7) (.c .nilp), none⟩])
 (.cond (.t 8)
 (.seq (.region [⟨some 6, .mv (.c (.int .i64 (.negSucc 0))), none⟩])
 .ret)
 .skip))
 c63_0))
def c63 : RFunc := ⟨c63r, some c63b, none⟩
def c64r : List RRes := [.tmp 4]
def c64_0 : RCode :=
 (.seq (.region [⟨some 20, .mv (.t 0), none⟩,
  ⟨some 21, .nilc (.t 20), none⟩,
  ⟨some 22, .faddr 2 (.t 21), none⟩,
  ⟨some 23, .load false 1 (.t 22), none⟩,
  ⟨some 24, .mv (.t 1), none⟩,
  ⟨some 25, .iaddrS 1 (.t 23) (.t 24), none⟩,
  ⟨some 26, .load false 1 (.t 25), none⟩,
  ⟨some 4, .mv (.t 26), none⟩])
 .ret)
def c64_1 : RCode :=
 (.cond (.t 19)
 (.seq (.region [⟨some 4, .mv (.c (.int .i64 (.negSucc 0))), none⟩])
 .ret)
 .skip)
def o64_2_14 : List ROper :=
  ⟨some 19, .pick (.t 11) (.c (.bool true)) (.t 18), none⟩ ::
  []
def o64_2_13 : List ROper :=
  ⟨some 18, .bin (some .other) none .geq (.t 12) (.t 17), some (11, false)⟩ ::
  o64_2_14
def o64_2_12 : List ROper :=
  ⟨some 17, .len .sl (.t 16), some (11, false)⟩ ::
  o64_2_13
def o64_2_11 : List ROper :=
  ⟨some 16, .load false 1 (.t 15), some (11, false)⟩ ::
  o64_2_12
def o64_2_10 : List ROper :=
  ⟨some 15, .faddr 2 (.t 14), some (11, false)⟩ ::
  o64_2_11
def o64_2_9 : List ROper :=
  ⟨some 14, .nilc (.t 13), some (11, false)⟩ ::
  o64_2_10
def o64_2_8 : List ROper :=
  ⟨some 13, .mv (.t 0), some (11, false)⟩ ::
  o64_2_9
def o64_2_5 : List ROper :=
  ⟨some 10, .pick (.t 7) (.c (.bool true)) (.t 9), none⟩ ::
  ⟨some 11, .mv (.t 10), none⟩ ::
  ⟨some 12, .mv (.t 1), some (11, false)⟩ ::
  o64_2_8
def o64_2_4 : List ROper :=
  ⟨some 9, .bin (some .other) none .lss (.t 8) (.c (.int .i64 0)), some (7, false)⟩ ::
  o64_2_5
def c64b : RCode :=
 (.seq (.region [⟨some 4, .mv (.c (.int .i64 0)), none⟩])
 (.seq (.seq (.region (⟨some 5, .mv (.t 0), none⟩ ::
  ⟨some 6, .bin (some .ptr) none .eql (.t 5) (.c .nilp), none⟩ ::
  ⟨some 7, .mv (.t 6), none⟩ ::
  ⟨some 8, .mv (.t 1), some (7, false)⟩ ::
  o64_2_4))
 c64_1)
 c64_0))
def c64 : RFunc := ⟨c64r, some c64b, none⟩
def c65r : List RRes := [.tmp 2]
def c65_0 : RCode :=
 (.seq (.region [⟨some 5, .mv (.t 0), none⟩,
  ⟨some 6, .nilc (.t 5), none⟩,
  ⟨some 7, .faddr 0 (.t 6), none⟩,
  ⟨some 8, .load false 1 (.t 7), none⟩,
  ⟨some 9, .len .sl (.t 8), none⟩,
  ⟨some 2, .mv (.t 9), none⟩])
 .ret)
def c65b : RCode :=
 (.seq (.region [⟨some 2, .mv (.c (.int .i64 0)), none⟩])
 (.seq (.seq (.region [⟨some 3, .mv (.t 0), none⟩,
  ⟨some 4, .bin (some .ptr) none .eql (.t 3) (.c .nilp), none⟩])
 (.cond (.t 4)
 (.seq (.region [⟨some 2, .mv (.c (.int .i64 0)), none⟩])
 .ret)
 .skip))
 c65_0))
def c65 : RFunc := ⟨c65r, some c65b, none⟩
def c66r : List RRes := [.tmp 4]
def c66b : RCode :=
 (.seq (.region [⟨some 4, .mv (.c (.bool false)), none⟩])
 (.seq (.region [⟨some 5, .mv (.t 0), none⟩,
  ⟨some 6, .mv (.t 1), none⟩,
  ⟨some 7, .call (.c (.fn 68 [] [])) [(.t 5), (.t 6)], none⟩,
  ⟨some 8, .bin (some .other) none .geq (.t 7) (.c (.int .i64 0)), none⟩,
  ⟨some 4, .mv (.t 8), none⟩])
 .ret))
def c66 : RFunc := ⟨c66r, some c66b, none⟩
def c67r : List RRes := [.tmp 3]
def c67b : RCode :=
 (.seq (.region [⟨some 3, .mv (.c (.bool false)), none⟩])
 (.seq (.region [⟨some 4, .load false 1 (.t 1), none⟩,
  ⟨some 5, .mv (.t 0), none⟩,
  ⟨some 6, .iaddrS 1 (.t 4) (.t 5), none⟩,
  ⟨some 7, .load false 1 (.t 6), none⟩,
  ⟨some 3, .mv (.t 7), none⟩])
 .ret))
def c67 : RFunc := ⟨c67r, some c67b, none⟩
def c68r : List RRes := [.tmp 4]
def c68_0 : RCode :=
 (.seq (.region [⟨some 4, .mv (.c (.int .i64 (.negSucc 0))), none⟩])
 .ret)
def c68_3 : RCode :=
 (.region [⟨some 18, .bin (some .other) none .add (.t 8) (.c (.int .i64 1)), none⟩,
  ⟨some 8, .mv (.t 18), none⟩])
def c68_2 : RCode :=
 (.seq (.block 1
 (.seq (.region [⟨some 10, .mv (.t 8), none⟩,
  ⟨some 5, .mv (.t 10), none⟩])
 (.seq (.region [⟨some 11, .mv (.t 1), none⟩,
  ⟨some 12, .mv (.t 0), none⟩,
  ⟨some 13, .mv (.t 5), none⟩,
  ⟨some 14, .iaddrS 1 (.t 12) (.t 13), none⟩,
  ⟨some 15, .load false 1 (.t 14), none⟩,
  ⟨some 16, .call (.t 11) [(.t 15)], none⟩])
 (.cond (.t 16)
 (.seq (.region [⟨some 17, .mv (.t 5), none⟩,
  ⟨some 4, .mv (.t 17), none⟩])
 .ret)
 .skip))))
 c68_3)
def c68_1 : RCode :=
 (.seq (.region [⟨some 9, .bin (some .other) none .lss (.t 8) (.t 7), none⟩])
 (.seq (.cond (.t 9)
 .skip
 (.exit 0))
 c68_2))
def c68b : RCode :=
 (.seq (.region [⟨some 4, .mv (.c (.int .i64 0)), none⟩])
 (.seq (.seq (.region [⟨some 6, .mv (.t 0), none⟩,
  ⟨some 7, .len .sl (.t 6), none⟩,
  ⟨some 8, .mv (.c (.int .i64 0)), none⟩])
 (.block 0
 (.loop c68_1)))
 c68_0))
def c68 : RFunc := ⟨c68r, some c68b, none⟩
def c69r : List RRes := [.tmp 6]
def c69_0 : RCode :=
 .ret
def o69_1_12 : List ROper :=
  ⟨some 21, .pick (.t 15) (.t 20) (.c (.bool false)), none⟩ ::
  ⟨some 6, .mv (.t 21), none⟩ ::
  []
def o69_1_11 : List ROper :=
  ⟨some 20, .un .not (.t 19), some (15, true)⟩ ::
  o69_1_12
def o69_1_10 : List ROper :=
  ⟨some 19, .call (.c (.fn 21 [] [])) [(.t 17), (.t 18)], some (15, true)⟩ ::
  o69_1_11
def o69_1_9 : List ROper :=
  ⟨some 18, .mkfn 70 [] [(.t 3), (.t 5)], some (15, true)⟩ ::
  o69_1_10
def o69_1_8 : List ROper :=
  ⟨some 17, .load false 1 (.t 16), some (15, true)⟩ ::
  o69_1_9
def o69_1_5 : List ROper :=
  ⟨some 14, .pick (.t 11) (.t 13) (.c (.bool false)), none⟩ ::
  ⟨some 15, .mv (.t 14), none⟩ ::
  ⟨some 16, .faddr 2 (.t 4), some (15, true)⟩ ::
  o69_1_8
def o69_1_4 : List ROper :=
  ⟨some 13, .bin (some .other) none .leq (.t 12) (.c (.int .i64 12)), some (11, true)⟩ ::
  o69_1_5
def c69b : RCode :=
 (.seq (.region [⟨some 4, .box (.t 0), none⟩,
  ⟨some 5, .box (.t 1), none⟩,
  ⟨some 6, .mv (.c (.bool false)), none⟩])
 (.seq (.region [⟨some 7, .load false 1 (.t 2), none⟩,
  ⟨some 8, .bin (some .other) none .sub (.t 7) (.c (.int .i64 1)), none⟩,
  ⟨none, .store 1 (.t 2) (.t 8), none⟩])
 (.seq (.region (⟨some 9, .load false 1 (.t 2), none⟩ ::
  ⟨some 10, .bin (some .other) none .geq (.t 9) (.c (.int .i64 0)), none⟩ ::
  ⟨some 11, .mv (.t 10), none⟩ ::
  ⟨some 12, .load false 1 (.t 5), some (11, true)⟩ ::
  o69_1_4))
 c69_0)))
def c69 : RFunc := ⟨c69r, some c69b, none⟩
def c70r : List RRes := [.tmp 4]
def c70b : RCode :=
 (.seq (.region [⟨some 3, .box (.t 0), none⟩,
  ⟨some 4, .mv (.c (.bool false)), none⟩])
 (.seq (.region [⟨some 5, .load false 1 (.t 1), none⟩,
  ⟨some 6, .load true 3 (.t 3), none⟩,
  ⟨some 7, .load false 1 (.t 2), none⟩,
  ⟨some 8, .bin (some .other) none .add (.t 7) (.c (.int .i64 1)), none⟩,
  ⟨some 9, .call (.t 5) [(.t 6), (.t 8)], none⟩,
  ⟨some 10, .un .not (.t 9), none⟩,
  ⟨some 4, .mv (.t 10), none⟩])
 .ret))
def c70 : RFunc := ⟨c70r, some c70b, none⟩
def c71r : List RRes := [.tmp 2]
def c71_0 : RCode :=
 (.seq (.region [⟨some 2, .mv (.c (.int .i64 (.negSucc 0))), none⟩])
 .ret)
def c71_2 : RCode :=
 (.cond (.t 8)
 (.seq (.region [⟨some 2, .mv (.c (.int .i64 2)), none⟩])
 .ret)
 (.seq (.region [⟨some 12, .bin (some .other) none .eql (.t 3) (.c (.int .i64 5)), none⟩,
  ⟨some 11, .mv (.t 12), none⟩])
 (.cond (.t 11)
 (.seq (.region [⟨some 2, .mv (.c (.int .i64 1)), none⟩])
 .ret)
 .skip)))
def c71_1 : RCode :=
 (.cond (.t 4)
 (.seq (.region [⟨some 2, .mv (.c (.int .i64 0)), none⟩])
 .ret)
 (.seq (.seq (.region [⟨some 9, .bin (some .other) none .eql (.t 3) (.c (.int .i64 3)), none⟩,
  ⟨some 8, .mv (.t 9), none⟩])
 (.cond (.t 8)
 .skip
 (.region [⟨some 10, .bin (some .other) none .eql (.t 3) (.c (.int .i64 4)), none⟩,
  ⟨some 8, .mv (.t 10), none⟩])))
 c71_2))
def c71b : RCode :=
 (.seq (.region [⟨some 2, .mv (.c (.int .i64 0)), none⟩])
 (.seq (.seq (.region [⟨some 3, .mv (.t 0), none⟩])
 (.block 0
 (.seq (.seq (.region [⟨some 5, .bin (some .other) none .eql (.t 3) (.c (.int .i64 0)), none⟩,
  ⟨some 4, .mv (.t 5), none⟩])
 (.cond (.t 4)
 .skip
 (.seq (.region [⟨some 6, .bin (some .other) none .eql (.t 3) (.c (.int .i64 1)), none⟩,
  ⟨some 4, .mv (.t 6), none⟩])
 (.cond (.t 4)
 .skip
 (.region [⟨some 7, .bin (some .other) none .eql (.t 3) (.c (.int .i64 2)), none⟩,
  ⟨some 4, .mv (.t 7), none⟩])))))
 c71_1)))
 c71_0))
def c71 : RFunc := ⟨c71r, some c71b, none⟩
def c72r : List RRes := [.tmp 2]
def c72b : RCode :=
 (.seq (.region [⟨some 1, .box (.t 0), none⟩,
  ⟨some 2, .mv (.c (.bool false)), none⟩])
 (.seq (.region [⟨some 3, .load true 3 (.t 1), none⟩,
  ⟨some 4, .call (.c (.fn 48 [] [])) [(.t 3)], none⟩,
  ⟨some 5, .un .not (.t 4), none⟩,
  ⟨some 2, .mv (.t 5), none⟩])
 .ret))
def c72 : RFunc := ⟨c72r, some c72b, none⟩
def c73r : List RRes := [.tmp 2]
def c73b : RCode :=
 (.seq (.region [⟨some 2, .mv (.c (.bool false)), none⟩])
 (.seq (.region [⟨some 3, .mv (.t 0), none⟩,
  ⟨some 4, .mv (.t 0), none⟩,
  ⟨some 5, .call (.c (.fn 88 [] [])) [(.t 4)], none⟩,
  ⟨some 6, .call (.c (.fn 87 [] [])) [(.t 3), (.t 5)], none⟩,
  ⟨some 2, .mv (.t 6), none⟩])
 .ret))
def c73 : RFunc := ⟨c73r, some c73b, none⟩
def c74r : List RRes := [.tmp 4]
def c74_1 : RCode :=
 (.seq (.region [⟨some 26, .mv (.t 0), none⟩,
  ⟨some 4, .mv (.t 26), none⟩])
 .ret)
def c74_0 : RCode :=
 (.seq (.seq (.region [⟨some 8, .mv (.t 1), none⟩,
  ⟨some 9, .mv (.t 0), none⟩,
  ⟨some 10, .cap (.t 9), none⟩,
  ⟨some 11, .mv (.t 0), none⟩,
  ⟨some 12, .len .sl (.t 11), none⟩,
  ⟨some 13, .bin (some .other) none .sub (.t 10) (.t 12), none⟩,
  ⟨some 14, .bin (some .other) none .sub (.t 8) (.t 13), none⟩,
  ⟨some 1, .mv (.t 14), none⟩])
 (.seq (.region [⟨some 15, .mv (.t 1), none⟩,
  ⟨some 16, .bin (some .other) none .gtr (.t 15) (.c (.int .i64 0)), none⟩])
 (.cond (.t 16)
 (.region [⟨some 17, .mv (.t 0), none⟩,
  ⟨some 18, .mv (.t 0), none⟩,
  ⟨some 19, .cap (.t 18), none⟩,
  ⟨some 20, .slice (.sl 1) (.t 17) none (some (.t 19)) none, none⟩,
  ⟨some 21, .mv (.t 1), none⟩,
  ⟨some 22, .append 1 8 [(.int .i64 0)] true (.t 20) (.t 21), none⟩,
  ⟨some 23, .mv (.t 0), none⟩,
  ⟨some 24, .len .sl (.t 23), none⟩,
  ⟨some 25, .slice (.sl 1) (.t 22) none (some (.t 24)) none, none⟩,
  ⟨some 0, .mv (.t 25), none⟩])
 .skip)))
 c74_1)
def c74b : RCode :=
 (.seq (.region [⟨some 4, .mv (.c .nils), none⟩])
 (.seq (.seq (.region [⟨some 5, .mv (.t 1), none⟩,
  ⟨some 6, .bin (some .other) none .lss (.t 5) (.c (.int .i64 0)), none⟩])
 (.cond (.t 6)
 (.region [⟨some 7, .iface 9 (.c (.str ⟨#[99, 97, 110, 110, 111, 116, 32, 98, 101, 32, 110, 101, 103, 97, 116, 105, 118, 101]⟩)), none⟩,
  ⟨none, .panic (.t 7), none⟩])
 .skip))
 c74_0))
def c74 : RFunc := ⟨c74r, some c74b, none⟩
def c75r : List RRes := []
def c75_6 : RCode :=
 (.seq (.region [⟨some 95, .mv (.t 0), none⟩,
  ⟨some 96, .mv (.t 1), none⟩,
  ⟨some 97, .mv (.t 2), none⟩,
  ⟨some 98, .mv (.t 11), none⟩,
  ⟨some 99, .call (.c (.fn 97 [] [])) [(.t 95), (.t 96), (.t 97), (.t 98)], none⟩,
  ⟨some 94, .mv (.t 99), none⟩,
  ⟨some 100, .extract 0 (.t 94), none⟩,
  ⟨some 101, .extract 1 (.t 94), none⟩,
  ⟨some 14, .mv (.t 100), none⟩,
  ⟨some 15, .mv (.t 101), none⟩])
 (.seq (.region [⟨some 102, .mv (.t 15), none⟩,
  ⟨some 9, .mv (.t 102), none⟩])
 (.seq (.region [⟨some 103, .mv (.t 14), none⟩,
  ⟨some 104, .mv (.t 1), none⟩,
  ⟨some 105, .bin (some .other) none .sub (.t 103) (.t 104), none⟩,
  ⟨some 106, .mv (.t 2), none⟩,
  ⟨some 107, .mv (.t 14), none⟩,
  ⟨some 108, .bin (some .other) none .sub (.t 106) (.t 107), none⟩,
  ⟨some 16, .mv (.t 105), none⟩,
  ⟨some 17, .mv (.t 108), none⟩])
 (.seq (.region [⟨some 109, .mv (.t 10), none⟩,
  ⟨some 110, .bin (some .other) none .quo (.t 109) (.c (.int .i64 8)), none⟩,
  ⟨some 18, .mv (.t 110), none⟩])
 (.seq (.region [⟨some 111, .mv (.t 16), none⟩,
  ⟨some 112, .mv (.t 17), none⟩,
  ⟨some 113, .bin (some .other) none .lss (.t 111) (.t 112), none⟩])
 (.cond (.t 113)
 (.seq (.region [⟨some 114, .mv (.t 16), none⟩,
  ⟨some 115, .mv (.t 18), none⟩,
  ⟨some 116, .bin (some .other) none .geq (.t 114) (.t 115), none⟩,
  ⟨some 8, .mv (.t 116), none⟩])
 (.seq (.region [⟨some 117, .mv (.t 0), none⟩,
  ⟨some 118, .mv (.t 1), none⟩,
  ⟨some 119, .mv (.t 14), none⟩,
  ⟨some 120, .mv (.t 3), none⟩,
  ⟨some 121, .call (.c (.fn 75 [] [])) [(.t 117), (.t 118), (.t 119), (.t 120)], none⟩])
 (.region [⟨some 122, .mv (.t 14), none⟩,
  ⟨some 123, .bin (some .other) none .add (.t 122) (.c (.int .i64 1)), none⟩,
  ⟨some 1, .mv (.t 123), none⟩])))
 (.seq (.region [⟨some 124, .mv (.t 17), none⟩,
  ⟨some 125, .mv (.t 18), none⟩,
  ⟨some 126, .bin (some .other) none .geq (.t 124) (.t 125), none⟩,
  ⟨some 8, .mv (.t 126), none⟩])
 (.seq (.region [⟨some 127, .mv (.t 0), none⟩,
  ⟨some 128, .mv (.t 14), none⟩,
  ⟨some 129, .bin (some .other) none .add (.t 128) (.c (.int .i64 1)), none⟩,
  ⟨some 130, .mv (.t 2), none⟩,
  ⟨some 131, .mv (.t 3), none⟩,
  ⟨some 132, .call (.c (.fn 75 [] [])) [(.t 127), (.t 129), (.t 130), (.t 131)], none⟩])
 (.region [⟨some 133, .mv (.t 14), none⟩,
  ⟨some 2, .mv (.t 133), none⟩])))))))))
def c75_9 : RCode :=
 (.cond (.t 87)
 (.seq (.region [⟨some 88, .mv (.t 0), none⟩,
  ⟨some 89, .mv (.t 1), none⟩,
  ⟨some 90, .mv (.t 2), none⟩,
  ⟨some 91, .mv (.t 11), none⟩,
  ⟨some 92, .call (.c (.fn 96 [] [])) [(.t 88), (.t 89), (.t 90), (.t 91)], none⟩,
  ⟨some 13, .mv (.t 92), none⟩])
 (.seq (.region [⟨some 93, .mv (.t 13), none⟩,
  ⟨some 1, .mv (.t 93), none⟩])
 (.exit 1)))
 .skip)
def o75_10_14 : List (ROper × List ROper) :=
  (⟨some 87, .pick (.t 75) (.t 86) (.c (.bool false)), none⟩, []) ::
  []
def o75_10_13 : List (ROper × List ROper) :=
  (⟨some 86, .un .not (.t 85), some (75, true)⟩, []) ::
  o75_10_14
def o75_10_12 : List (ROper × List ROper) :=
  (⟨some 85, .call (.c (.fn 95 [] [])) [(.t 80), (.t 84)], some (75, true)⟩, []) ::
  o75_10_13
def o75_10_11 : List (ROper × List ROper) :=
  (⟨some 84, .load false 1 (.t 83), some (75, true)⟩, []) ::
  o75_10_12
def o75_10_10 : List (ROper × List ROper) :=
  (⟨some 83, .iaddrS 1 (.t 81) (.t 82), some (75, true)⟩, []) ::
  o75_10_11
def o75_10_9 : List (ROper × List ROper) :=
  (⟨some 82, .mv (.t 11), some (75, true)⟩, []) ::
  o75_10_10
def o75_10_8 : List (ROper × List ROper) :=
  (⟨some 81, .mv (.t 0), some (75, true)⟩, []) ::
  o75_10_9
def o75_10_7 : List (ROper × List ROper) :=
  (⟨some 80, .load false 1 (.t 79), some (75, true)⟩, []) ::
  o75_10_8
def o75_10_6 : List (ROper × List ROper) :=
  (⟨some 79, .iaddrS 1 (.t 76) (.t 78), some (75, true)⟩, []) ::
  o75_10_7
def o75_10_5 : List (ROper × List ROper) :=
  (⟨some 78, .bin (some .other) none .sub (.t 77) (.c (.int .i64 1)), some (75, true)⟩, []) ::
  o75_10_6
def o75_10_4 : List (ROper × List ROper) :=
  (⟨some 77, .mv (.t 1), some (75, true)⟩, []) ::
  o75_10_5
def c75_5 : RCode :=
 (.seq (.seq (.drawn ((⟨some 73, .mv (.t 1), none⟩, []) ::
  (⟨some 74, .bin (some .other) none .gtr (.t 73) (.c (.int .i64 0)), none⟩, []) ::
  (⟨some 75, .mv (.t 74), none⟩, []) ::
  (⟨some 76, .mv (.t 0), some (75, true)⟩, []) ::
  o75_10_4))
 c75_9)
 c75_6)
def c75_22 : RCode :=
 (.cond (.t 68)
 (.seq (.region [⟨some 69, .mv (.t 0), none⟩,
  ⟨some 70, .mv (.t 1), none⟩,
  ⟨some 71, .mv (.t 2), none⟩,
  ⟨some 72, .call (.c (.fn 94 [] [])) [(.t 69), (.t 70), (.t 71)], none⟩])
 (.cond (.t 72)
 .ret
 .skip))
 .skip)
def o75_23_7 : List ROper :=
  ⟨some 68, .pick (.t 65) (.t 67) (.c (.bool false)), none⟩ ::
  []
def o75_23_6 : List ROper :=
  ⟨some 67, .bin (some .other) none .eql (.t 66) (.c (.int .i64 1)), some (65, true)⟩ ::
  o75_23_7
def o75_23_3 : List ROper :=
  ⟨some 64, .pick (.t 62) (.t 63) (.c (.bool false)), none⟩ ::
  ⟨some 65, .mv (.t 64), none⟩ ::
  ⟨some 66, .mv (.t 12), some (65, true)⟩ ::
  o75_23_6
def c75_4 : RCode :=
 (.seq (.seq (.region (⟨some 61, .mv (.t 8), none⟩ ::
  ⟨some 62, .mv (.t 61), none⟩ ::
  ⟨some 63, .mv (.t 9), some (62, true)⟩ ::
  o75_23_3))
 c75_22)
 c75_5)
def c75_3 : RCode :=
 (.seq (.region [⟨some 43, .mv (.t 0), none⟩,
  ⟨some 44, .mv (.t 1), none⟩,
  ⟨some 45, .mv (.t 2), none⟩,
  ⟨some 46, .call (.c (.fn 92 [] [])) [(.t 43), (.t 44), (.t 45)], none⟩,
  ⟨some 42, .mv (.t 46), none⟩,
  ⟨some 47, .extract 0 (.t 42), none⟩,
  ⟨some 48, .extract 1 (.t 42), none⟩,
  ⟨some 11, .mv (.t 47), none⟩,
  ⟨some 12, .mv (.t 48), none⟩])
 (.seq (.seq (.region [⟨some 49, .mv (.t 12), none⟩,
  ⟨some 50, .bin (some .other) none .eql (.t 49) (.c (.int .i64 2)), none⟩])
 (.cond (.t 50)
 (.seq (.region [⟨some 51, .mv (.t 0), none⟩,
  ⟨some 52, .mv (.t 1), none⟩,
  ⟨some 53, .mv (.t 2), none⟩,
  ⟨some 54, .call (.c (.fn 93 [] [])) [(.t 51), (.t 52), (.t 53)], none⟩])
 (.seq (.region [⟨some 55, .mv (.t 2), none⟩,
  ⟨some 56, .bin (some .other) none .sub (.t 55) (.c (.int .i64 1)), none⟩,
  ⟨some 57, .mv (.t 11), none⟩,
  ⟨some 58, .mv (.t 1), none⟩,
  ⟨some 59, .bin (some .other) none .sub (.t 57) (.t 58), none⟩,
  ⟨some 60, .bin (some .other) none .sub (.t 56) (.t 59), none⟩,
  ⟨some 11, .mv (.t 60), none⟩])
 (.region [⟨some 12, .mv (.c (.int .i64 1)), none⟩])))
 .skip))
 c75_4))
def c75_2 : RCode :=
 (.seq (.seq (.region [⟨some 34, .mv (.t 8), none⟩,
  ⟨some 35, .un .not (.t 34), none⟩])
 (.cond (.t 35)
 (.seq (.region [⟨some 36, .mv (.t 0), none⟩,
  ⟨some 37, .mv (.t 1), none⟩,
  ⟨some 38, .mv (.t 2), none⟩,
  ⟨some 39, .call (.c (.fn 91 [] [])) [(.t 36), (.t 37), (.t 38)], none⟩])
 (.region [⟨some 40, .mv (.t 3), none⟩,
  ⟨some 41, .bin (some .other) none .sub (.t 40) (.c (.int .i64 1)), none⟩,
  ⟨some 3, .mv (.t 41), none⟩]))
 .skip))
 c75_3)
def c75_1 : RCode :=
 (.seq (.seq (.region [⟨some 28, .mv (.t 3), none⟩,
  ⟨some 29, .bin (some .other) none .eql (.t 28) (.c (.int .i64 0)), none⟩])
 (.cond (.t 29)
 (.seq (.region [⟨some 30, .mv (.t 0), none⟩,
  ⟨some 31, .mv (.t 1), none⟩,
  ⟨some 32, .mv (.t 2), none⟩,
  ⟨some 33, .call (.c (.fn 90 [] [])) [(.t 30), (.t 31), (.t 32)], none⟩])
 .ret)
 .skip))
 c75_2)
def c75_0 : RCode :=
 (.block 1
 (.seq (.region [⟨some 19, .mv (.t 2), none⟩,
  ⟨some 20, .mv (.t 1), none⟩,
  ⟨some 21, .bin (some .other) none .sub (.t 19) (.t 20), none⟩,
  ⟨some 10, .mv (.t 21), none⟩])
 (.seq (.seq (.region [⟨some 22, .mv (.t 10), none⟩,
  ⟨some 23, .bin (some .other) none .leq (.t 22) (.c (.int .i64 12)), none⟩])
 (.cond (.t 23)
 (.seq (.region [⟨some 24, .mv (.t 0), none⟩,
  ⟨some 25, .mv (.t 1), none⟩,
  ⟨some 26, .mv (.t 2), none⟩,
  ⟨some 27, .call (.c (.fn 89 [] [])) [(.t 24), (.t 25), (.t 26)], none⟩])
 .ret)
 .skip))
 c75_1)))
def c75b : RCode :=
 (.seq (.region [⟨some 8, .mv (.c (.bool true)), none⟩])
 (.seq (.region [⟨some 9, .mv (.c (.bool true)), none⟩])
 (.block 0
 (.loop c75_0))))
def c75 : RFunc := ⟨c75r, some c75b, none⟩
def c76r : List RRes := [.tmp 2]
def c76_0 : RCode :=
 (.seq (.region [⟨some 6, .mv (.t 0), none⟩,
  ⟨some 7, .call (.c (.fn 99 [] [])) [(.t 6)], none⟩,
  ⟨some 2, .mv (.t 7), none⟩])
 .ret)
def c76b : RCode :=
 (.seq (.region [⟨some 2, .mv (.c (.int .i64 0)), none⟩])
 (.seq (.cond (.c (.bool false))
 (.seq (.region [⟨some 3, .mv (.t 0), none⟩,
  ⟨some 4, .conv (.int .u32) (.t 3), none⟩,
  ⟨some 5, .call (.c (.fn 98 [] [])) [(.t 4)], none⟩,
  ⟨some 2, .mv (.t 5), none⟩])
 .ret)
 .skip)
 c76_0))
def c76 : RFunc := ⟨c76r, some c76b, none⟩
def c77r : List RRes := [.tmp 2]
def c77_1 : RCode :=
 (.seq (.region [⟨some 83, .mv (.t 7), none⟩,
  ⟨some 2, .mv (.t 83), none⟩])
 .ret)
def c77_4 : RCode :=
 (.region [⟨some 82, .bin (some .other) none .add (.t 45) (.c (.int .i64 1)), none⟩,
  ⟨some 45, .mv (.t 82), none⟩])
def c77_6 : RCode :=
 (.cond (.t 63)
 (.drawn [(⟨some 64, .mv (.t 7), none⟩, []),
  (⟨some 65, .mv (.t 10), none⟩, []),
  (⟨some 66, .bin (some .other) none .sub (.t 65) (.c (.int .i64 1)), none⟩, []),
  (⟨some 67, .mv (.t 7), none⟩, []),
  (⟨some 68, .mv (.t 10), none⟩, []),
  (⟨some 69, .bin (some .other) none .sub (.t 68) (.c (.int .i64 1)), none⟩, []),
  (⟨some 70, .iaddrS 2 (.t 67) (.t 69), none⟩, []),
  (⟨some 71, .faddr 1 (.t 70), none⟩, []),
  (⟨some 72, .load false 1 (.t 71), none⟩, []),
  (⟨some 73, .faddr 1 (.t 9), none⟩, []),
  (⟨some 74, .load false 1 (.t 73), none⟩, []),
  (⟨some 75, .max (.t 72) (.t 74), none⟩, []),
  (⟨some 76, .iaddrS 2 (.t 64) (.t 66), none⟩, []),
  (⟨some 77, .faddr 1 (.t 76), none⟩, []),
  (⟨none, .store 1 (.t 77) (.t 75), none⟩, [])])
 (.region [⟨some 78, .mv (.t 7), none⟩,
  ⟨some 79, .load true 2 (.t 9), none⟩,
  ⟨some 80, .lit false 2 1 [(.int .i64 0), (.int .i64 0)] [(0, 2, (.t 79))], none⟩,
  ⟨some 81, .append 2 16 [(.int .i64 0), (.int .i64 0)] false (.t 78) (.t 80), none⟩,
  ⟨some 7, .mv (.t 81), none⟩]))
def o77_9_12 : List (ROper × List ROper) :=
  (⟨some 63, .pick (.t 53) (.t 62) (.c (.bool false)), none⟩, []) ::
  []
def o77_9_11 : List (ROper × List ROper) :=
  (⟨some 62, .bin (some .other) none .leq (.t 55) (.t 61), some (53, true)⟩, []) ::
  o77_9_12
def o77_9_10 : List (ROper × List ROper) :=
  (⟨some 61, .load false 1 (.t 60), some (53, true)⟩, []) ::
  o77_9_11
def o77_9_9 : List (ROper × List ROper) :=
  (⟨some 60, .faddr 1 (.t 59), some (53, true)⟩, []) ::
  o77_9_10
def o77_9_8 : List (ROper × List ROper) :=
  (⟨some 59, .iaddrS 2 (.t 56) (.t 58), some (53, true)⟩, []) ::
  o77_9_9
def o77_9_7 : List (ROper × List ROper) :=
  (⟨some 58, .bin (some .other) none .sub (.t 57) (.c (.int .i64 1)), some (53, true)⟩, []) ::
  o77_9_8
def o77_9_6 : List (ROper × List ROper) :=
  (⟨some 57, .mv (.t 10), some (53, true)⟩, []) ::
  o77_9_7
def o77_9_5 : List (ROper × List ROper) :=
  (⟨some 56, .mv (.t 7), some (53, true)⟩, []) ::
  o77_9_6
def o77_9_4 : List (ROper × List ROper) :=
  (⟨some 55, .load false 1 (.t 54), some (53, true)⟩, []) ::
  o77_9_5
def c77_3 : RCode :=
 (.seq (.block 3
 (.seq (.region [⟨some 47, .iaddrS 2 (.t 43) (.t 45), none⟩,
  ⟨some 48, .load true 2 (.t 47), none⟩,
  ⟨some 9, .alloc [(.int .i64 0), (.int .i64 0)], none⟩,
  ⟨none, .store 2 (.t 9) (.t 48), none⟩])
 (.seq (.region [⟨some 49, .mv (.t 7), none⟩,
  ⟨some 50, .len .sl (.t 49), none⟩,
  ⟨some 10, .mv (.t 50), none⟩])
 (.seq (.drawn ((⟨some 51, .mv (.t 10), none⟩, []) ::
  (⟨some 52, .bin (some .other) none .gtr (.t 51) (.c (.int .i64 0)), none⟩, []) ::
  (⟨some 53, .mv (.t 52), none⟩, []) ::
  (⟨some 54, .faddr 0 (.t 9), some (53, true)⟩, []) ::
  o77_9_4))
 c77_6))))
 c77_4)
def c77_2 : RCode :=
 (.seq (.region [⟨some 46, .bin (some .other) none .lss (.t 45) (.t 44), none⟩])
 (.seq (.cond (.t 46)
 .skip
 (.exit 2))
 c77_3))
def c77_0 : RCode :=
 (.seq (.region [⟨some 41, .mv (.t 3), none⟩,
  ⟨some 42, .call (.c (.fn 102 [] [])) [(.t 41), (.c (.fn 103 [] []))], none⟩])
 (.seq (.region [⟨some 7, .mv (.c .nils), none⟩])
 (.seq (.seq (.region [⟨some 43, .mv (.t 3), none⟩,
  ⟨some 44, .len .sl (.t 43), none⟩,
  ⟨some 45, .mv (.c (.int .i64 0)), none⟩])
 (.block 2
 (.loop c77_2)))
 c77_1)))
def c77_21 : RCode :=
 (.region [⟨some 40, .bin (some .other) none .add (.t 13) (.c (.int .i64 1)), none⟩,
  ⟨some 13, .mv (.t 40), none⟩])
def c77_23 : RCode :=
 (.cond (.t 35)
 (.region [⟨some 36, .mv (.t 3), none⟩,
  ⟨some 37, .load true 2 (.t 6), none⟩,
  ⟨some 38, .lit false 2 1 [(.int .i64 0), (.int .i64 0)] [(0, 2, (.t 37))], none⟩,
  ⟨some 39, .append 2 16 [(.int .i64 0), (.int .i64 0)] false (.t 36) (.t 38), none⟩,
  ⟨some 3, .mv (.t 39), none⟩])
 .skip)
def o77_25_11 : List ROper :=
  ⟨some 35, .pick (.t 29) (.t 34) (.c (.bool false)), none⟩ ::
  []
def o77_25_10 : List ROper :=
  ⟨some 34, .bin (some .other) none .lss (.t 31) (.t 33), some (29, true)⟩ ::
  o77_25_11
def o77_25_9 : List ROper :=
  ⟨some 33, .load false 1 (.t 32), some (29, true)⟩ ::
  o77_25_10
def o77_25_8 : List ROper :=
  ⟨some 32, .faddr 1 (.t 6), some (29, true)⟩ ::
  o77_25_9
def o77_25_7 : List ROper :=
  ⟨some 31, .load false 1 (.t 30), some (29, true)⟩ ::
  o77_25_8
def c77_20 : RCode :=
 (.seq (.block 1
 (.seq (.region [⟨some 15, .iaddrS 2 (.t 11) (.t 13), none⟩,
  ⟨some 16, .load true 2 (.t 15), none⟩,
  ⟨some 5, .alloc [(.int .i32 0), (.int .i32 0)], none⟩,
  ⟨none, .store 2 (.t 5) (.t 16), none⟩])
 (.seq (.drawn [(⟨some 17, .faddr 0 (.t 5), none⟩, []),
  (⟨some 18, .load false 1 (.t 17), none⟩, []),
  (⟨some 20, .faddr 1 (.t 5), none⟩, []),
  (⟨some 21, .load false 1 (.t 20), none⟩, []),
  (⟨some 19, .call (.c (.fn 100 [] [])) [(.t 18)], none⟩, [⟨some 21, .load false 1 (.t 20), none⟩]),
  (⟨some 22, .call (.c (.fn 101 [] [])) [(.t 21)], none⟩, []),
  (⟨some 23, .build [(.int .i64 0), (.int .i64 0)] [(0, 1, (.t 19)), (1, 1, (.t 22))], none⟩, []),
  (⟨some 6, .alloc [(.int .i64 0), (.int .i64 0)], none⟩, [⟨some 18, .load false 1 (.t 17), none⟩, ⟨some 21, .load false 1 (.t 20), none⟩]),
  (⟨none, .store 2 (.t 6) (.t 23), none⟩, [])])
 (.seq (.region (⟨some 24, .faddr 0 (.t 5), none⟩ ::
  ⟨some 25, .load false 1 (.t 24), none⟩ ::
  ⟨some 26, .faddr 1 (.t 5), none⟩ ::
  ⟨some 27, .load false 1 (.t 26), none⟩ ::
  ⟨some 28, .bin (some .other) none .leq (.t 25) (.t 27), none⟩ ::
  ⟨some 29, .mv (.t 28), none⟩ ::
  ⟨some 30, .faddr 0 (.t 6), some (29, true)⟩ ::
  o77_25_7))
 c77_23))))
 c77_21)
def c77_19 : RCode :=
 (.seq (.region [⟨some 14, .bin (some .other) none .lss (.t 13) (.t 12), none⟩])
 (.seq (.cond (.t 14)
 .skip
 (.exit 0))
 c77_20))
def c77b : RCode :=
 (.seq (.region [⟨some 2, .mv (.c .nils), none⟩])
 (.seq (.region [⟨some 3, .mv (.c .nils), none⟩])
 (.seq (.seq (.region [⟨some 11, .mv (.t 0), none⟩,
  ⟨some 12, .len .sl (.t 11), none⟩,
  ⟨some 13, .mv (.c (.int .i64 0)), none⟩])
 (.block 0
 (.loop c77_19)))
 c77_0)))
def c77 : RFunc := ⟨c77r, some c77b, none⟩
def c78r : List RRes := [.tmp 2]
def c78_0 : RCode :=
 (.seq (.region [⟨some 24, .mv (.t 3), none⟩,
  ⟨some 2, .mv (.t 24), none⟩])
 .ret)
def c78_3 : RCode :=
 (.region [⟨some 23, .bin (some .other) none .add (.t 8) (.c (.int .i64 1)), none⟩,
  ⟨some 8, .mv (.t 23), none⟩])
def c78_2 : RCode :=
 (.seq (.block 1
 (.seq (.region [⟨some 10, .iaddrS 2 (.t 6) (.t 8), none⟩,
  ⟨some 11, .load true 2 (.t 10), none⟩,
  ⟨some 5, .alloc [(.int .i64 0), (.int .i64 0)], none⟩,
  ⟨none, .store 2 (.t 5) (.t 11), none⟩])
 (.drawn [(⟨some 12, .mv (.t 3), none⟩, []),
  (⟨some 13, .faddr 0 (.t 5), none⟩, []),
  (⟨some 14, .load false 1 (.t 13), none⟩, []),
  (⟨some 16, .faddr 1 (.t 5), none⟩, []),
  (⟨some 17, .load false 1 (.t 16), none⟩, []),
  (⟨some 18, .bin (some .other) none .sub (.t 17) (.c (.int .i64 1)), none⟩, []),
  (⟨some 15, .call (.c (.fn 105 [] [])) [(.t 14)], none⟩, [⟨some 17, .load false 1 (.t 16), none⟩]),
  (⟨some 19, .call (.c (.fn 105 [] [])) [(.t 18)], none⟩, []),
  (⟨some 20, .build [(.int .i32 0), (.int .i32 0)] [(0, 1, (.t 15)), (1, 1, (.t 19))], none⟩, []),
  (⟨some 21, .lit true 2 1 [(.int .i32 0), (.int .i32 0)] [(0, 2, (.t 20))], none⟩, []),
  (⟨some 22, .append 2 8 [(.int .i32 0), (.int .i32 0)] false (.t 12) (.t 21), none⟩, []),
  (⟨some 3, .mv (.t 22), none⟩, [])])))
 c78_3)
def c78_1 : RCode :=
 (.seq (.region [⟨some 9, .bin (some .other) none .lss (.t 8) (.t 7), none⟩])
 (.seq (.cond (.t 9)
 .skip
 (.exit 0))
 c78_2))
def c78b : RCode :=
 (.seq (.region [⟨some 2, .mv (.c .nils), none⟩])
 (.seq (.region [⟨some 3, .mv (.c .nils), none⟩])
 (.seq (.seq (.region [⟨some 6, .mv (.t 0), none⟩,
  ⟨some 7, .len .sl (.t 6), none⟩,
  ⟨some 8, .mv (.c (.int .i64 0)), none⟩])
 (.block 0
 (.loop c78_1)))
 c78_0)))
def c78 : RFunc := ⟨c78r, some c78b, none⟩
def c79r : List RRes := [.tmp 6]
def c79_0 : RCode :=
 (.seq (.region [⟨some 17, .mv (.t 0), none⟩,
  ⟨some 18, .mv (.t 7), none⟩,
  ⟨some 19, .mv (.t 2), none⟩,
  ⟨some 20, .call (.c (.fn 106 [] [])) [(.t 17), (.t 18), (.t 19)], none⟩,
  ⟨some 6, .mv (.t 20), none⟩])
 .ret)
def c79b : RCode :=
 (.seq (.region [⟨some 6, .mv (.c .nils), none⟩])
 (.seq (.region [⟨some 8, .mv (.t 1), none⟩,
  ⟨some 9, .conv (.int .u64) (.t 8), none⟩,
  ⟨some 7, .mv (.t 9), none⟩])
 (.seq (.seq (.region [⟨some 10, .mv (.t 1), none⟩,
  ⟨some 11, .bin (some .other) none .lss (.t 10) (.c (.int .i64 0)), none⟩])
 (.cond (.t 11)
 (.seq (.region [⟨some 12, .mv (.t 0), none⟩,
  ⟨some 13, .lit false 1 1 [(.int .u8 0)] [(0, 1, (.c (.int .u8 45)))], none⟩,
  ⟨some 14, .append 1 1 [(.int .u8 0)] false (.t 12) (.t 13), none⟩,
  ⟨some 0, .mv (.t 14), none⟩])
 (.region [⟨some 15, .mv (.t 7), none⟩,
  ⟨some 16, .un .neg (.t 15), none⟩,
  ⟨some 7, .mv (.t 16), none⟩]))
 .skip))
 c79_0)))
def c79 : RFunc := ⟨c79r, some c79b, none⟩
def c80r : List RRes := [.tmp 2]
def c80_0 : RCode :=
 .ret
def o80_1_13 : List ROper :=
  ⟨some 16, .pick (.t 9) (.c (.bool true)) (.t 15), none⟩ ::
  ⟨some 2, .mv (.t 16), none⟩ ::
  []
def o80_1_12 : List ROper :=
  ⟨some 15, .pick (.t 12) (.t 14) (.c (.bool false)), some (9, false)⟩ ::
  o80_1_13
def o80_1_11 : List ROper :=
  ⟨some 14, .bin (some .other) none .leq (.t 13) (.c (.int .i32 1114111)), some (12, true)⟩ ::
  o80_1_12
def o80_1_10 : List ROper :=
  ⟨some 13, .mv (.t 0), some (12, true)⟩ ::
  o80_1_11
def o80_1_9 : List ROper :=
  ⟨some 12, .mv (.t 11), some (9, false)⟩ ::
  o80_1_10
def o80_1_8 : List ROper :=
  ⟨some 11, .bin (some .other) none .gtr (.t 10) (.c (.int .i32 57343)), some (9, false)⟩ ::
  o80_1_9
def o80_1_5 : List ROper :=
  ⟨some 8, .pick (.t 5) (.t 7) (.c (.bool false)), none⟩ ::
  ⟨some 9, .mv (.t 8), none⟩ ::
  ⟨some 10, .mv (.t 0), some (9, false)⟩ ::
  o80_1_8
def o80_1_4 : List ROper :=
  ⟨some 7, .bin (some .other) none .lss (.t 6) (.c (.int .i32 55296)), some (5, true)⟩ ::
  o80_1_5
def c80b : RCode :=
 (.seq (.region [⟨some 2, .mv (.c (.bool false)), none⟩])
 (.seq (.region (⟨some 3, .mv (.t 0), none⟩ ::
  ⟨some 4, .bin (some .other) none .geq (.t 3) (.c (.int .i32 0)), none⟩ ::
  ⟨some 5, .mv (.t 4), none⟩ ::
  ⟨some 6, .mv (.t 0), some (5, true)⟩ ::
  o80_1_4))
 c80_0))
def c80 : RFunc := ⟨c80r, some c80b, none⟩
def c81r : List RRes := [.tmp 4]
def c81b : RCode :=
 (.seq (.region [⟨some 4, .mv (.c (.bool false)), none⟩])
 (.seq (.region [⟨some 5, .mv (.t 0), none⟩,
  ⟨some 6, .mv (.t 1), none⟩,
  ⟨some 7, .call (.c (.fn 107 [] [])) [(.t 5), (.t 6)], none⟩,
  ⟨some 8, .bin (some .other) none .geq (.t 7) (.c (.int .i64 0)), none⟩,
  ⟨some 4, .mv (.t 8), none⟩])
 .ret))
def c81 : RFunc := ⟨c81r, some c81b, none⟩
def c82r : List RRes := [.tmp 3]
def c82_0 : RCode :=
 .ret
def o82_1_9 : List ROper :=
  ⟨some 13, .pick (.t 8) (.t 12) (.c (.bool false)), none⟩ ::
  ⟨some 3, .mv (.t 13), none⟩ ::
  []
def o82_1_8 : List ROper :=
  ⟨some 12, .bin (some .other) none .leq (.t 9) (.t 11), some (8, true)⟩ ::
  o82_1_9
def o82_1_7 : List ROper :=
  ⟨some 11, .load false 1 (.t 10), some (8, true)⟩ ::
  o82_1_8
def o82_1_6 : List ROper :=
  ⟨some 10, .faddr 1 (.t 2), some (8, true)⟩ ::
  o82_1_7
def c82b : RCode :=
 (.seq (.region [⟨some 2, .box (.t 0), none⟩,
  ⟨some 3, .mv (.c (.bool false)), none⟩])
 (.seq (.region (⟨some 4, .faddr 0 (.t 2), none⟩ ::
  ⟨some 5, .load false 1 (.t 4), none⟩ ::
  ⟨some 6, .load false 1 (.t 1), none⟩ ::
  ⟨some 7, .bin (some .other) none .leq (.t 5) (.t 6), none⟩ ::
  ⟨some 8, .mv (.t 7), none⟩ ::
  ⟨some 9, .load false 1 (.t 1), some (8, true)⟩ ::
  o82_1_6))
 c82_0))
def c82 : RFunc := ⟨c82r, some c82b, none⟩
def c83r : List RRes := [.cell 4 false 1]
def c83 : RFunc := ⟨[.cell 4 false 1],
 some
 (.seq
  (.region [⟨some 4, .alloc [(.bool false)], none⟩])
  (.seq
   (.region [⟨some 5, .mkfn 108 [] [(.t 4)], none⟩,
    ⟨none, .defer (.t 5) [], none⟩])
   (.seq
    (.region [⟨some 6, .mv (.t 0), none⟩,
     ⟨some 7, .mv (.t 0), none⟩,
     ⟨some 8, .nilc (.t 7), none⟩,
     ⟨some 9, .faddr 0 (.t 8), none⟩,
     ⟨some 10, .load false 1 (.t 9), none⟩,
     ⟨some 11, .mv (.t 1), none⟩,
     ⟨some 12, .call (.c (.fn 109 [] [])) [(.t 10), (.t 11)], none⟩,
     ⟨some 13, .nilc (.t 6), none⟩,
     ⟨some 14, .faddr 0 (.t 13), none⟩,
     ⟨none, .store 1 (.t 14) (.t 12), none⟩])
    (.seq
     (.seq
      (.drawn [(⟨some 15, .mv (.t 0), none⟩, []),
       (⟨some 16, .nilc (.t 15), none⟩, []),
       (⟨some 17, .faddr 0 (.t 16), none⟩, []),
       (⟨some 18, .load false 1 (.t 17), none⟩, []),
       (⟨some 19, .len .sl (.t 18), none⟩, []),
       (⟨some 20, .mv (.t 0), none⟩, []),
       (⟨some 21, .nilc (.t 20), none⟩, []),
       (⟨some 22, .faddr 0 (.t 21), none⟩, []),
       (⟨some 23, .load false 1 (.t 22), none⟩, []),
       (⟨some 24, .iaddrS 1 (.t 23) (.c (.int .i64 0)), none⟩, []),
       (⟨some 25, .load false 1 (.t 24), none⟩, []),
       (⟨some 26, .call (.c (.fn 110 [] [])) [(.t 25)], none⟩, [⟨some 18, .load false 1 (.t 17), none⟩, ⟨some 19, .len .sl (.t 18), none⟩]),
       (⟨some 27, .bin (some .other) none .eql (.t 19) (.t 26), none⟩, [])])
      (.cond (.t 27)
       (.region [⟨some 28, .mv (.t 0), none⟩,
        ⟨some 29, .call (.c (.fn 61 [] [])) [(.t 28), (.c (.bool false)), (.c (.bool false))], none⟩])
       .skip))
     (.seq
      (.region [⟨none, .store 1 (.t 4) (.c (.bool true)), none⟩])
      .ret))))),
 none⟩
end
end Go.AM.Ly
set_option maxRecDepth 100000
namespace Go.AM.Ly
open Go
noncomputable section
def c84r : List RRes := [.tmp 2, .tmp 3]
def c84_0 : RCode :=
 (.seq (.region [⟨some 18, .mv (.t 0), none⟩,
  ⟨some 19, .call (.c (.fn 111 [] [])) [(.t 18)], none⟩,
  ⟨some 17, .mv (.t 19), none⟩,
  ⟨some 20, .extract 0 (.t 17), none⟩,
  ⟨some 21, .extract 1 (.t 17), none⟩,
  ⟨some 2, .mv (.t 20), none⟩,
  ⟨some 3, .mv (.t 21), none⟩])
 .ret)
def c84_3 : RCode :=
 (.region [⟨some 16, .bin (some .other) none .add (.t 8) (.c (.int .i64 1)), none⟩,
  ⟨some 8, .mv (.t 16), none⟩])
def c84_5 : RCode :=
 (.exit 0)
def c84_2 : RCode :=
 (.seq (.block 1
 (.seq (.region [⟨some 10, .iaddrS 1 (.t 6) (.t 8), none⟩,
  ⟨some 11, .load false 1 (.t 10), none⟩,
  ⟨some 5, .mv (.t 11), none⟩])
 (.seq (.seq (.region [⟨some 12, .mv (.t 5), none⟩,
  ⟨some 13, .bin (some .other) none .lss (.t 12) (.c (.int .u8 128)), none⟩])
 (.cond (.t 13)
 (.seq (.region [⟨some 14, .mv (.t 5), none⟩,
  ⟨some 15, .conv (.int .i32) (.t 14), none⟩,
  ⟨some 2, .mv (.t 15), none⟩,
  ⟨some 3, .mv (.c (.int .i64 1)), none⟩])
 .ret)
 .skip))
 c84_5)))
 c84_3)
def c84_1 : RCode :=
 (.seq (.region [⟨some 9, .bin (some .other) none .lss (.t 8) (.t 7), none⟩])
 (.seq (.cond (.t 9)
 .skip
 (.exit 0))
 c84_2))
def c84b : RCode :=
 (.seq (.region [⟨some 2, .mv (.c (.int .i32 0)), none⟩,
  ⟨some 3, .mv (.c (.int .i64 0)), none⟩])
 (.seq (.seq (.region [⟨some 6, .mv (.t 0), none⟩,
  ⟨some 7, .len .sl (.t 6), none⟩,
  ⟨some 8, .mv (.c (.int .i64 0)), none⟩])
 (.block 0
 (.loop c84_1)))
 c84_0))
def c84 : RFunc := ⟨c84r, some c84b, none⟩
def c85r : List RRes := [.tmp 6]
def c85_0 : RCode :=
 (.seq (.region [⟨some 35, .mv (.t 0), none⟩,
  ⟨some 36, .nilc (.t 35), none⟩,
  ⟨some 37, .faddr 1 (.t 36), none⟩,
  ⟨some 38, .load false 1 (.t 37), none⟩,
  ⟨some 39, .mv (.t 1), none⟩,
  ⟨some 40, .iaddrS 1 (.t 38) (.t 39), none⟩,
  ⟨some 41, .load false 1 (.t 40), none⟩,
  ⟨some 42, .mv (.t 2), none⟩,
  ⟨some 43, .iaddrS 1 (.t 41) (.t 42), none⟩,
  ⟨some 44, .load false 1 (.t 43), none⟩,
  ⟨some 6, .mv (.t 44), none⟩])
 .ret)
def c85_1 : RCode :=
 (.cond (.t 34)
 (.seq (.region [⟨some 6, .mv (.c (.int .i64 (.negSucc 0))), none⟩])
 .ret)
 .skip)
def o85_2_27 : List ROper :=
  ⟨some 34, .pick (.t 26) (.c (.bool true)) (.t 33), none⟩ ::
  []
def o85_2_26 : List ROper :=
  ⟨some 33, .bin (some .other) none .geq (.t 27) (.t 32), some (26, false)⟩ ::
  o85_2_27
def o85_2_25 : List ROper :=
  ⟨some 32, .len .sl (.t 31), some (26, false)⟩ ::
  o85_2_26
def o85_2_24 : List ROper :=
  ⟨some 31, .load false 1 (.t 30), some (26, false)⟩ ::
  o85_2_25
def o85_2_23 : List ROper :=
  ⟨some 30, .faddr 0 (.t 29), some (26, false)⟩ ::
  o85_2_24
def o85_2_22 : List ROper :=
  ⟨some 29, .nilc (.t 28), some (26, false)⟩ ::
  o85_2_23
def o85_2_21 : List ROper :=
  ⟨some 28, .mv (.t 0), some (26, false)⟩ ::
  o85_2_22
def o85_2_18 : List ROper :=
  ⟨some 25, .pick (.t 22) (.c (.bool true)) (.t 24), none⟩ ::
  ⟨some 26, .mv (.t 25), none⟩ ::
  ⟨some 27, .mv (.t 2), some (26, false)⟩ ::
  o85_2_21
def o85_2_17 : List ROper :=
  ⟨some 24, .bin (some .other) none .lss (.t 23) (.c (.int .i64 0)), some (22, false)⟩ ::
  o85_2_18
def o85_2_14 : List ROper :=
  ⟨some 21, .pick (.t 13) (.c (.bool true)) (.t 20), none⟩ ::
  ⟨some 22, .mv (.t 21), none⟩ ::
  ⟨some 23, .mv (.t 2), some (22, false)⟩ ::
  o85_2_17
def o85_2_13 : List ROper :=
  ⟨some 20, .bin (some .other) none .geq (.t 14) (.t 19), some (13, false)⟩ ::
  o85_2_14
def o85_2_12 : List ROper :=
  ⟨some 19, .len .sl (.t 18), some (13, false)⟩ ::
  o85_2_13
def o85_2_11 : List ROper :=
  ⟨some 18, .load false 1 (.t 17), some (13, false)⟩ ::
  o85_2_12
def o85_2_10 : List ROper :=
  ⟨some 17, .faddr 1 (.t 16), some (13, false)⟩ ::
  o85_2_11
def o85_2_9 : List ROper :=
  ⟨some 16, .nilc (.t 15), some (13, false)⟩ ::
  o85_2_10
def o85_2_8 : List ROper :=
  ⟨some 15, .mv (.t 0), some (13, false)⟩ ::
  o85_2_9
def o85_2_5 : List ROper :=
  ⟨some 12, .pick (.t 9) (.c (.bool true)) (.t 11), none⟩ ::
  ⟨some 13, .mv (.t 12), none⟩ ::
  ⟨some 14, .mv (.t 1), some (13, false)⟩ ::
  o85_2_8
def o85_2_4 : List ROper :=
  ⟨some 11, .bin (some .other) none .lss (.t 10) (.c (.int .i64 0)), some (9, false)⟩ ::
  o85_2_5
def c85b : RCode :=
 (.seq (.region [⟨some 6, .mv (.c (.int .i64 0)), none⟩])
 (.seq (.seq (.region (⟨some 7, .mv (.t 0), none⟩ ::
  ⟨some 8, .bin (some .ptr) none .eql (.t 7) (.c .nilp), none⟩ ::
  ⟨some 9, .mv (.t 8), none⟩ ::
  ⟨some 10, .mv (.t 1), some (9, false)⟩ ::
  o85_2_4))
 c85_1)
 c85_0))
def c85 : RFunc := ⟨c85r, some c85b, none⟩
def c86r : List RRes := [.tmp 4]
def c86b : RCode :=
 (.seq (.region [⟨some 3, .box (.t 1), none⟩,
  ⟨some 4, .mv (.c (.int .i64 0)), none⟩])
 (.seq (.region [⟨some 5, .mv (.t 0), none⟩,
  ⟨some 6, .mkfn 112 [] [(.t 3)], none⟩,
  ⟨some 7, .call (.c (.fn 107 [] [])) [(.t 5), (.t 6)], none⟩,
  ⟨some 4, .mv (.t 7), none⟩])
 .ret))
def c86 : RFunc := ⟨c86r, some c86b, none⟩
def c87r : List RRes := [.tmp 4]
def c87_1 : RCode :=
 (.seq (.region [⟨some 4, .mv (.c (.bool true)), none⟩])
 .ret)
def c87_4 : RCode :=
 (.region [⟨some 25, .bin (some .other) none .add (.t 13) (.c (.int .i64 1)), none⟩,
  ⟨some 13, .mv (.t 25), none⟩])
def c87_3 : RCode :=
 (.seq (.block 1
 (.seq (.region [⟨some 15, .mv (.t 13), none⟩,
  ⟨some 5, .mv (.t 15), none⟩])
 (.seq (.drawn [(⟨some 16, .mv (.t 0), none⟩, []),
  (⟨some 17, .mv (.t 5), none⟩, []),
  (⟨some 18, .iaddrS 2 (.t 16) (.t 17), none⟩, []),
  (⟨some 19, .load true 2 (.t 18), none⟩, []),
  (⟨some 20, .mv (.t 1), none⟩, []),
  (⟨some 21, .mv (.t 5), none⟩, []),
  (⟨some 22, .iaddrS 2 (.t 20) (.t 21), none⟩, []),
  (⟨some 23, .load true 2 (.t 22), none⟩, []),
  (⟨some 24, .bin (some .other) (some [.int, .int]) .neq (.t 19) (.t 23), none⟩, [])])
 (.cond (.t 24)
 (.seq (.region [⟨some 4, .mv (.c (.bool false)), none⟩])
 .ret)
 .skip))))
 c87_4)
def c87_2 : RCode :=
 (.seq (.region [⟨some 14, .bin (some .other) none .lss (.t 13) (.t 12), none⟩])
 (.seq (.cond (.t 14)
 .skip
 (.exit 0))
 c87_3))
def c87_0 : RCode :=
 (.seq (.seq (.region [⟨some 11, .mv (.t 0), none⟩,
  ⟨some 12, .len .sl (.t 11), none⟩,
  ⟨some 13, .mv (.c (.int .i64 0)), none⟩])
 (.block 0
 (.loop c87_2)))
 c87_1)
def c87b : RCode :=
 (.seq (.region [⟨some 4, .mv (.c (.bool false)), none⟩])
 (.seq (.seq (.region [⟨some 6, .mv (.t 0), none⟩,
  ⟨some 7, .len .sl (.t 6), none⟩,
  ⟨some 8, .mv (.t 1), none⟩,
  ⟨some 9, .len .sl (.t 8), none⟩,
  ⟨some 10, .bin (some .other) none .neq (.t 7) (.t 9), none⟩])
 (.cond (.t 10)
 (.seq (.region [⟨some 4, .mv (.c (.bool false)), none⟩])
 .ret)
 .skip))
 c87_0))
def c87 : RFunc := ⟨c87r, some c87b, none⟩
def c88r : List RRes := [.tmp 2]
def c88b : RCode :=
 (.seq (.region [⟨some 2, .mv (.c .nils), none⟩])
 (.seq (.region [⟨some 3, .mv (.t 0), none⟩,
  ⟨some 4, .call (.c (.fn 77 [] [])) [(.t 3)], none⟩,
  ⟨some 5, .call (.c (.fn 78 [] [])) [(.t 4)], none⟩,
  ⟨some 2, .mv (.t 5), none⟩])
 .ret))
def c88 : RFunc := ⟨c88r, some c88b, none⟩
def c89r : List RRes := []
def c89_2 : RCode :=
 (.region [⟨some 13, .mv (.t 6), none⟩,
  ⟨some 14, .bin (some .other) none .add (.t 13) (.c (.int .i64 1)), none⟩,
  ⟨some 6, .mv (.t 14), none⟩])
def c89_6 : RCode :=
 (.region [⟨some 31, .mv (.t 7), none⟩,
  ⟨some 32, .bin (some .other) none .sub (.t 31) (.c (.int .i64 1)), none⟩,
  ⟨some 7, .mv (.t 32), none⟩])
def c89_5 : RCode :=
 (.seq (.block 3
 (.drawn [(⟨some 33, .mv (.t 0), none⟩, []),
  (⟨some 34, .mv (.t 7), none⟩, []),
  (⟨some 35, .mv (.t 0), none⟩, []),
  (⟨some 36, .mv (.t 7), none⟩, []),
  (⟨some 37, .bin (some .other) none .sub (.t 36) (.c (.int .i64 1)), none⟩, []),
  (⟨some 38, .mv (.t 0), none⟩, []),
  (⟨some 39, .mv (.t 7), none⟩, []),
  (⟨some 40, .bin (some .other) none .sub (.t 39) (.c (.int .i64 1)), none⟩, []),
  (⟨some 41, .iaddrS 1 (.t 38) (.t 40), none⟩, []),
  (⟨some 42, .load false 1 (.t 41), none⟩, []),
  (⟨some 43, .mv (.t 0), none⟩, []),
  (⟨some 44, .mv (.t 7), none⟩, []),
  (⟨some 45, .iaddrS 1 (.t 43) (.t 44), none⟩, []),
  (⟨some 46, .load false 1 (.t 45), none⟩, []),
  (⟨some 47, .iaddrS 1 (.t 33) (.t 34), none⟩, []),
  (⟨none, .store 1 (.t 47) (.t 42), none⟩, []),
  (⟨some 48, .iaddrS 1 (.t 35) (.t 37), none⟩, []),
  (⟨none, .store 1 (.t 48) (.t 46), none⟩, [])]))
 c89_6)
def c89_9 : RCode :=
 (.cond (.t 30)
 .skip
 (.exit 2))
def o89_10_14 : List (ROper × List ROper) :=
  (⟨some 30, .pick (.t 19) (.t 29) (.c (.bool false)), none⟩, []) ::
  []
def o89_10_13 : List (ROper × List ROper) :=
  (⟨some 29, .call (.c (.fn 95 [] [])) [(.t 23), (.t 28)], some (19, true)⟩, []) ::
  o89_10_14
def o89_10_12 : List (ROper × List ROper) :=
  (⟨some 28, .load false 1 (.t 27), some (19, true)⟩, []) ::
  o89_10_13
def o89_10_11 : List (ROper × List ROper) :=
  (⟨some 27, .iaddrS 1 (.t 24) (.t 26), some (19, true)⟩, []) ::
  o89_10_12
def o89_10_10 : List (ROper × List ROper) :=
  (⟨some 26, .bin (some .other) none .sub (.t 25) (.c (.int .i64 1)), some (19, true)⟩, []) ::
  o89_10_11
def o89_10_9 : List (ROper × List ROper) :=
  (⟨some 25, .mv (.t 7), some (19, true)⟩, []) ::
  o89_10_10
def o89_10_8 : List (ROper × List ROper) :=
  (⟨some 24, .mv (.t 0), some (19, true)⟩, []) ::
  o89_10_9
def o89_10_7 : List (ROper × List ROper) :=
  (⟨some 23, .load false 1 (.t 22), some (19, true)⟩, []) ::
  o89_10_8
def o89_10_6 : List (ROper × List ROper) :=
  (⟨some 22, .iaddrS 1 (.t 20) (.t 21), some (19, true)⟩, []) ::
  o89_10_7
def o89_10_5 : List (ROper × List ROper) :=
  (⟨some 21, .mv (.t 7), some (19, true)⟩, []) ::
  o89_10_6
def c89_4 : RCode :=
 (.seq (.seq (.drawn ((⟨some 16, .mv (.t 7), none⟩, []) ::
  (⟨some 17, .mv (.t 1), none⟩, []) ::
  (⟨some 18, .bin (some .other) none .gtr (.t 16) (.t 17), none⟩, []) ::
  (⟨some 19, .mv (.t 18), none⟩, []) ::
  (⟨some 20, .mv (.t 0), some (19, true)⟩, []) ::
  o89_10_5))
 c89_9)
 c89_5)
def c89_1 : RCode :=
 (.seq (.block 1
 (.seq (.region [⟨some 15, .mv (.t 6), none⟩,
  ⟨some 7, .mv (.t 15), none⟩])
 (.block 2
 (.loop c89_4))))
 c89_2)
def c89_0 : RCode :=
 (.seq (.seq (.region [⟨some 10, .mv (.t 6), none⟩,
  ⟨some 11, .mv (.t 2), none⟩,
  ⟨some 12, .bin (some .other) none .lss (.t 10) (.t 11), none⟩])
 (.cond (.t 12)
 .skip
 (.exit 0)))
 c89_1)
def c89b : RCode :=
 (.seq (.region [⟨some 8, .mv (.t 1), none⟩,
  ⟨some 9, .bin (some .other) none .add (.t 8) (.c (.int .i64 1)), none⟩,
  ⟨some 6, .mv (.t 9), none⟩])
 (.block 0
 (.loop c89_0)))
def c89 : RFunc := ⟨c89r, some c89b, none⟩
def c95r : List RRes := [.tmp 4]
def c95_0 : RCode :=
 .ret
def o95_1_11 : List ROper :=
  ⟨some 16, .pick (.t 12) (.c (.bool true)) (.t 15), none⟩ ::
  ⟨some 4, .mv (.t 16), none⟩ ::
  []
def o95_1_10 : List ROper :=
  ⟨some 15, .bin (some .other) none .lss (.t 13) (.t 14), some (12, false)⟩ ::
  o95_1_11
def o95_1_9 : List ROper :=
  ⟨some 14, .mv (.t 1), some (12, false)⟩ ::
  o95_1_10
def o95_1_6 : List ROper :=
  ⟨some 11, .pick (.t 7) (.t 10) (.c (.bool false)), none⟩ ::
  ⟨some 12, .mv (.t 11), none⟩ ::
  ⟨some 13, .mv (.t 0), some (12, false)⟩ ::
  o95_1_9
def o95_1_5 : List ROper :=
  ⟨some 10, .un .not (.t 9), some (7, true)⟩ ::
  o95_1_6
def o95_1_4 : List ROper :=
  ⟨some 9, .call (.c (.fn 118 [] [])) [(.t 8)], some (7, true)⟩ ::
  o95_1_5
def c95b : RCode :=
 (.seq (.region [⟨some 4, .mv (.c (.bool false)), none⟩])
 (.seq (.region (⟨some 5, .mv (.t 0), none⟩ ::
  ⟨some 6, .call (.c (.fn 118 [] [])) [(.t 5)], none⟩ ::
  ⟨some 7, .mv (.t 6), none⟩ ::
  ⟨some 8, .mv (.t 1), some (7, true)⟩ ::
  o95_1_4))
 c95_0))
def c95 : RFunc := ⟨c95r, some c95b, none⟩
def c99r : List RRes := [.tmp 2]
def c99_2 : RCode :=
 (.seq (.region [⟨some 19, .mv (.t 2), none⟩,
  ⟨some 20, .mv (.t 0), none⟩,
  ⟨some 21, .conv (.int .u8) (.t 20), none⟩,
  ⟨some 22, .idxS (.c (.str ⟨#[0, 1, 2, 2, 3, 3, 3, 3, 4, 4, 4, 4, 4, 4, 4, 4, 5, 5, 5, 5, 5, 5, 5, 5, 5, 5, 5, 5, 5, 5, 5, 5, 6, 6, 6, 6, 6, 6, 6, 6, 6, 6, 6, 6, 6, 6, 6, 6, 6, 6, 6, 6, 6, 6, 6, 6, 6, 6, 6, 6, 6, 6, 6, 6, 7, 7, 7, 7, 7, 7, 7, 7, 7, 7, 7, 7, 7, 7, 7, 7, 7, 7, 7, 7, 7, 7, 7, 7, 7, 7, 7, 7, 7, 7, 7, 7, 7, 7, 7, 7, 7, 7, 7, 7, 7, 7, 7, 7, 7, 7, 7, 7, 7, 7, 7, 7, 7, 7, 7, 7, 7, 7, 7, 7, 7, 7, 7, 7, 8, 8, 8, 8, 8, 8, 8, 8, 8, 8, 8, 8, 8, 8, 8, 8, 8, 8, 8, 8, 8, 8, 8, 8, 8, 8, 8, 8, 8, 8, 8, 8, 8, 8, 8, 8, 8, 8, 8, 8, 8, 8, 8, 8, 8, 8, 8, 8, 8, 8, 8, 8, 8, 8, 8, 8, 8, 8, 8, 8, 8, 8, 8, 8, 8, 8, 8, 8, 8, 8, 8, 8, 8, 8, 8, 8, 8, 8, 8, 8, 8, 8, 8, 8, 8, 8, 8, 8, 8, 8, 8, 8, 8, 8, 8, 8, 8, 8, 8, 8, 8, 8, 8, 8, 8, 8, 8, 8, 8, 8, 8, 8, 8, 8, 8, 8, 8, 8, 8, 8, 8, 8, 8, 8, 8, 8, 8, 8]⟩)) (.t 21), none⟩,
  ⟨some 23, .conv (.int .i64) (.t 22), none⟩,
  ⟨some 24, .bin (some .other) none .add (.t 19) (.t 23), none⟩,
  ⟨some 2, .mv (.t 24), none⟩])
 .ret)
def c99_1 : RCode :=
 (.seq (.seq (.region [⟨some 13, .mv (.t 0), none⟩,
  ⟨some 14, .bin (some .other) none .geq (.t 13) (.c (.int .u64 256)), none⟩])
 (.cond (.t 14)
 (.seq (.region [⟨some 15, .mv (.t 0), none⟩,
  ⟨some 16, .bin (some .other) none .shr (.t 15) (.c (.int .u64 8)), none⟩,
  ⟨some 0, .mv (.t 16), none⟩])
 (.region [⟨some 17, .mv (.t 2), none⟩,
  ⟨some 18, .bin (some .other) none .add (.t 17) (.c (.int .i64 8)), none⟩,
  ⟨some 2, .mv (.t 18), none⟩]))
 .skip))
 c99_2)
def c99_0 : RCode :=
 (.seq (.seq (.region [⟨some 7, .mv (.t 0), none⟩,
  ⟨some 8, .bin (some .other) none .geq (.t 7) (.c (.int .u64 65536)), none⟩])
 (.cond (.t 8)
 (.seq (.region [⟨some 9, .mv (.t 0), none⟩,
  ⟨some 10, .bin (some .other) none .shr (.t 9) (.c (.int .u64 16)), none⟩,
  ⟨some 0, .mv (.t 10), none⟩])
 (.region [⟨some 11, .mv (.t 2), none⟩,
  ⟨some 12, .bin (some .other) none .add (.t 11) (.c (.int .i64 16)), none⟩,
  ⟨some 2, .mv (.t 12), none⟩]))
 .skip))
 c99_1)
def c99b : RCode :=
 (.seq (.region [⟨some 2, .mv (.c (.int .i64 0)), none⟩])
 (.seq (.seq (.region [⟨some 3, .mv (.t 0), none⟩,
  ⟨some 4, .bin (some .other) none .geq (.t 3) (.c (.int .u64 4294967296)), none⟩])
 (.cond (.t 4)
 (.seq (.region [⟨some 5, .mv (.t 0), none⟩,
  ⟨some 6, .bin (some .other) none .shr (.t 5) (.c (.int .u64 32)), none⟩,
  ⟨some 0, .mv (.t 6), none⟩])
 (.region [⟨some 2, .mv (.c (.int .i64 32)), none⟩]))
 .skip))
 c99_0))
def c99 : RFunc := ⟨c99r, some c99b, none⟩
def c100r : List RRes := [.tmp 2]
def c100_0 : RCode :=
 (.seq (.region [⟨some 14, .mv (.t 0), none⟩,
  ⟨some 15, .conv (.int .i64) (.t 14), none⟩,
  ⟨some 16, .min (.t 15) (.c (.int .i64 1114112)), none⟩,
  ⟨some 17, .bin (some .other) none .sub (.t 16) (.c (.int .i64 2048)), none⟩,
  ⟨some 2, .mv (.t 17), none⟩])
 .ret)
def c100b : RCode :=
 (.seq (.region [⟨some 2, .mv (.c (.int .i64 0)), none⟩])
 (.seq (.block 0
 (.seq (.region [⟨some 4, .mv (.t 0), none⟩,
  ⟨some 5, .bin (some .other) none .lss (.t 4) (.c (.int .i32 0)), none⟩,
  ⟨some 3, .mv (.t 5), none⟩])
 (.cond (.t 3)
 (.seq (.region [⟨some 2, .mv (.c (.int .i64 0)), none⟩])
 .ret)
 (.seq (.region [⟨some 7, .mv (.t 0), none⟩,
  ⟨some 8, .bin (some .other) none .lss (.t 7) (.c (.int .i32 55296)), none⟩,
  ⟨some 6, .mv (.t 8), none⟩])
 (.cond (.t 6)
 (.seq (.region [⟨some 9, .mv (.t 0), none⟩,
  ⟨some 10, .conv (.int .i64) (.t 9), none⟩,
  ⟨some 2, .mv (.t 10), none⟩])
 .ret)
 (.seq (.region [⟨some 12, .mv (.t 0), none⟩,
  ⟨some 13, .bin (some .other) none .leq (.t 12) (.c (.int .i32 57343)), none⟩,
  ⟨some 11, .mv (.t 13), none⟩])
 (.cond (.t 11)
 (.seq (.region [⟨some 2, .mv (.c (.int .i64 55296)), none⟩])
 .ret)
 .skip)))))))
 c100_0))
def c100 : RFunc := ⟨c100r, some c100b, none⟩
def c101r : List RRes := [.tmp 2]
def c101_0 : RCode :=
 (.seq (.region [⟨some 10, .mv (.t 3), none⟩,
  ⟨some 2, .mv (.t 10), none⟩])
 .ret)
def c101b : RCode :=
 (.seq (.region [⟨some 2, .mv (.c (.int .i64 0)), none⟩])
 (.seq (.region [⟨some 4, .mv (.t 0), none⟩,
  ⟨some 5, .call (.c (.fn 100 [] [])) [(.t 4)], none⟩,
  ⟨some 3, .mv (.t 5), none⟩])
 (.seq (.seq (.region [⟨some 6, .mv (.t 0), none⟩,
  ⟨some 7, .call (.c (.fn 80 [] [])) [(.t 6)], none⟩])
 (.cond (.t 7)
 (.region [⟨some 8, .mv (.t 3), none⟩,
  ⟨some 9, .bin (some .other) none .add (.t 8) (.c (.int .i64 1)), none⟩,
  ⟨some 3, .mv (.t 9), none⟩])
 .skip))
 c101_0)))
def c101 : RFunc := ⟨c101r, some c101b, none⟩
def c102r : List RRes := []
def c102b : RCode :=
 (.seq (.region [⟨some 5, .mv (.t 0), none⟩,
  ⟨some 6, .len .sl (.t 5), none⟩,
  ⟨some 4, .mv (.t 6), none⟩])
 (.region [⟨some 7, .mv (.t 0), none⟩,
  ⟨some 8, .mv (.t 4), none⟩,
  ⟨some 9, .mv (.t 4), none⟩,
  ⟨some 10, .conv (.int .u64) (.t 9), none⟩,
  ⟨some 11, .call (.c (.fn 76 [] [])) [(.t 10)], none⟩,
  ⟨some 12, .mv (.t 1), none⟩,
  ⟨some 13, .call (.c (.fn 119 [] [])) [(.t 7), (.c (.int .i64 0)), (.t 8), (.t 11), (.t 12)], none⟩]))
def c102 : RFunc := ⟨c102r, some c102b, none⟩
def c103r : List RRes := [.tmp 4]
def c103b : RCode :=
 (.seq (.region [⟨some 2, .box (.t 0), none⟩,
  ⟨some 3, .box (.t 1), none⟩,
  ⟨some 4, .mv (.c (.int .i64 0)), none⟩])
 (.seq (.region [⟨some 5, .faddr 0 (.t 2), none⟩,
  ⟨some 6, .load false 1 (.t 5), none⟩,
  ⟨some 7, .faddr 0 (.t 3), none⟩,
  ⟨some 8, .load false 1 (.t 7), none⟩,
  ⟨some 9, .call (.c (.fn 104 [] [])) [(.t 6), (.t 8)], none⟩,
  ⟨some 4, .mv (.t 9), none⟩])
 .ret))
def c103 : RFunc := ⟨c103r, some c103b, none⟩
def c104r : List RRes := [.tmp 4]
def c104_3 : RCode :=
 (.seq (.region [⟨some 4, .mv (.c (.int .i64 0)), none⟩])
 .ret)
def c104_2 : RCode :=
 (.seq (.seq (.region [⟨some 17, .mv (.t 0), none⟩,
  ⟨some 18, .mv (.t 1), none⟩,
  ⟨some 19, .bin (some .other) none .gtr (.t 17) (.t 18), none⟩])
 (.cond (.t 19)
 (.seq (.region [⟨some 4, .mv (.c (.int .i64 1)), none⟩])
 .ret)
 .skip))
 c104_3)
def c104_1 : RCode :=
 (.seq (.seq (.region [⟨some 14, .mv (.t 0), none⟩,
  ⟨some 15, .mv (.t 1), none⟩,
  ⟨some 16, .bin (some .other) none .lss (.t 14) (.t 15), none⟩])
 (.cond (.t 16)
 (.seq (.region [⟨some 4, .mv (.c (.int .i64 (.negSucc 0))), none⟩])
 .ret)
 .skip))
 c104_2)
def c104_0 : RCode :=
 (.seq (.seq (.region [⟨some 13, .mv (.t 6), none⟩])
 (.cond (.t 13)
 (.seq (.region [⟨some 4, .mv (.c (.int .i64 1)), none⟩])
 .ret)
 .skip))
 c104_1)
def c104_4 : RCode :=
 (.seq (.region [⟨some 4, .mv (.c (.int .i64 (.negSucc 0))), none⟩])
 .ret)
def c104b : RCode :=
 (.seq (.region [⟨some 4, .mv (.c (.int .i64 0)), none⟩])
 (.seq (.region [⟨some 7, .mv (.t 0), none⟩,
  ⟨some 8, .call (.c (.fn 118 [] [])) [(.t 7)], none⟩,
  ⟨some 5, .mv (.t 8), none⟩])
 (.seq (.region [⟨some 9, .mv (.t 1), none⟩,
  ⟨some 10, .call (.c (.fn 118 [] [])) [(.t 9)], none⟩,
  ⟨some 6, .mv (.t 10), none⟩])
 (.seq (.seq (.region [⟨some 11, .mv (.t 5), none⟩])
 (.cond (.t 11)
 (.seq (.seq (.region [⟨some 12, .mv (.t 6), none⟩])
 (.cond (.t 12)
 (.seq (.region [⟨some 4, .mv (.c (.int .i64 0)), none⟩])
 .ret)
 .skip))
 c104_4)
 .skip))
 c104_0))))
def c104 : RFunc := ⟨c104r, some c104b, none⟩
def c105r : List RRes := [.tmp 2]
def c105_0 : RCode :=
 (.seq (.region [⟨some 7, .mv (.t 0), none⟩,
  ⟨some 8, .bin (some .other) none .add (.t 7) (.c (.int .i64 2048)), none⟩,
  ⟨some 9, .conv (.int .i32) (.t 8), none⟩,
  ⟨some 2, .mv (.t 9), none⟩])
 .ret)
def c105b : RCode :=
 (.seq (.region [⟨some 2, .mv (.c (.int .i32 0)), none⟩])
 (.seq (.seq (.region [⟨some 3, .mv (.t 0), none⟩,
  ⟨some 4, .bin (some .other) none .lss (.t 3) (.c (.int .i64 55296)), none⟩])
 (.cond (.t 4)
 (.seq (.region [⟨some 5, .mv (.t 0), none⟩,
  ⟨some 6, .conv (.int .i32) (.t 5), none⟩,
  ⟨some 2, .mv (.t 6), none⟩])
 .ret)
 .skip))
 c105_0))
def c105 : RFunc := ⟨c105r, some c105b, none⟩
def c106r : List RRes := [.tmp 6]
def c106_0 : RCode :=
 (.seq (.region [⟨some 29, .mv (.t 0), none⟩,
  ⟨some 30, .mv (.t 1), none⟩,
  ⟨some 31, .mv (.t 2), none⟩,
  ⟨some 32, .call (.c (.fn 123 [] [])) [(.t 29), (.t 30), (.t 31), (.c (.bool false)), (.c (.bool true))], none⟩,
  ⟨some 28, .mv (.t 32), none⟩,
  ⟨some 33, .extract 0 (.t 28), none⟩,
  ⟨some 34, .extract 1 (.t 28), none⟩,
  ⟨some 0, .mv (.t 33), none⟩])
 (.seq (.region [⟨some 35, .mv (.t 0), none⟩,
  ⟨some 6, .mv (.t 35), none⟩])
 .ret))
def c106_1 : RCode :=
 (.seq (.region [⟨some 7, .alloc [(.int .u8 0), (.int .u8 0), (.int .u8 0), (.int .u8 0), (.int .u8 0), (.int .u8 0), (.int .u8 0), (.int .u8 0), (.int .u8 0), (.int .u8 0), (.int .u8 0), (.int .u8 0), (.int .u8 0), (.int .u8 0), (.int .u8 0), (.int .u8 0), (.int .u8 0), (.int .u8 0), (.int .u8 0), (.int .u8 0), (.int .u8 0), (.int .u8 0), (.int .u8 0), (.int .u8 0)], none⟩])
 (.seq (.region [⟨some 18, .mv (.t 1), none⟩,
  ⟨some 19, .call (.c (.fn 121 [] [])) [(.t 18)], none⟩,
  ⟨some 8, .mv (.t 19), none⟩])
 (.seq (.region [⟨some 20, .mv (.t 8), none⟩,
  ⟨some 21, .slice (.arr 24 1) (.t 7) none (some (.t 20)) none, none⟩,
  ⟨some 22, .mv (.t 1), none⟩,
  ⟨some 23, .call (.c (.fn 122 [] [])) [(.t 21), (.t 22)], none⟩])
 (.seq (.region [⟨some 24, .mv (.t 0), none⟩,
  ⟨some 25, .mv (.t 8), none⟩,
  ⟨some 26, .slice (.arr 24 1) (.t 7) none (some (.t 25)) none, none⟩,
  ⟨some 27, .append 1 1 [(.int .u8 0)] false (.t 24) (.t 26), none⟩,
  ⟨some 6, .mv (.t 27), none⟩])
 .ret))))
def c106b : RCode :=
 (.seq (.region [⟨some 6, .mv (.c .nils), none⟩])
 (.seq (.seq (.region [⟨some 9, .mv (.t 2), none⟩,
  ⟨some 10, .bin (some .other) none .eql (.t 9) (.c (.int .i64 10)), none⟩])
 (.cond (.t 10)
 (.seq (.seq (.region [⟨some 11, .mv (.t 1), none⟩,
  ⟨some 12, .bin (some .other) none .lss (.t 11) (.c (.int .u64 100)), none⟩])
 (.cond (.t 12)
 (.seq (.region [⟨some 13, .mv (.t 0), none⟩,
  ⟨some 14, .mv (.t 1), none⟩,
  ⟨some 15, .conv (.int .i64) (.t 14), none⟩,
  ⟨some 16, .call (.c (.fn 120 [] [])) [(.t 15)], none⟩,
  ⟨some 17, .append 1 1 [(.int .u8 0)] false (.t 13) (.t 16), none⟩,
  ⟨some 6, .mv (.t 17), none⟩])
 .ret)
 .skip))
 c106_1)
 .skip))
 c106_0))
def c106 : RFunc := ⟨c106r, some c106b, none⟩
def c107r : List RRes := [.tmp 4]
def c107_0 : RCode :=
 (.seq (.region [⟨some 4, .mv (.c (.int .i64 (.negSucc 0))), none⟩])
 .ret)
def c107_3 : RCode :=
 (.region [⟨some 18, .bin (some .other) none .add (.t 8) (.c (.int .i64 1)), none⟩,
  ⟨some 8, .mv (.t 18), none⟩])
def c107_2 : RCode :=
 (.seq (.block 1
 (.seq (.region [⟨some 10, .mv (.t 8), none⟩,
  ⟨some 5, .mv (.t 10), none⟩])
 (.seq (.region [⟨some 11, .mv (.t 1), none⟩,
  ⟨some 12, .mv (.t 0), none⟩,
  ⟨some 13, .mv (.t 5), none⟩,
  ⟨some 14, .iaddrS 2 (.t 12) (.t 13), none⟩,
  ⟨some 15, .load true 2 (.t 14), none⟩,
  ⟨some 16, .call (.t 11) [(.t 15)], none⟩])
 (.cond (.t 16)
 (.seq (.region [⟨some 17, .mv (.t 5), none⟩,
  ⟨some 4, .mv (.t 17), none⟩])
 .ret)
 .skip))))
 c107_3)
def c107_1 : RCode :=
 (.seq (.region [⟨some 9, .bin (some .other) none .lss (.t 8) (.t 7), none⟩])
 (.seq (.cond (.t 9)
 .skip
 (.exit 0))
 c107_2))
def c107b : RCode :=
 (.seq (.region [⟨some 4, .mv (.c (.int .i64 0)), none⟩])
 (.seq (.seq (.region [⟨some 6, .mv (.t 0), none⟩,
  ⟨some 7, .len .sl (.t 6), none⟩,
  ⟨some 8, .mv (.c (.int .i64 0)), none⟩])
 (.block 0
 (.loop c107_1)))
 c107_0))
def c107 : RFunc := ⟨c107r, some c107b, none⟩
def c108r : List RRes := []
def c108 : RFunc := ⟨[],
 none,
 some ((some 4), [⟨some 1, .mv (.t 4), none⟩],
  (.seq
   (.region [⟨some 5, .mv (.t 1), none⟩,
    ⟨some 6, .bin (some .iface0) none .neq (.t 5) (.c .nili), none⟩])
   (.cond (.t 6)
    (.seq
     (.seq
      (.region [⟨some 8, .mv (.t 1), none⟩,
       ⟨some 9, .assert 153 true (some (.agg [])) (.t 8), none⟩,
       ⟨some 7, .mv (.t 9), none⟩,
       ⟨some 10, .extract 0 (.t 7), none⟩,
       ⟨some 11, .extract 1 (.t 7), none⟩,
       ⟨some 2, .alloc [], none⟩,
       ⟨none, .store 0 (.t 2) (.t 10), none⟩,
       ⟨some 3, .mv (.t 11), none⟩])
      (.seq
       (.region [⟨some 12, .mv (.t 3), none⟩,
        ⟨some 13, .un .not (.t 12), none⟩])
       (.cond (.t 13)
        (.region [⟨some 14, .mv (.t 1), none⟩,
         ⟨none, .panic (.t 14), none⟩])
        .skip)))
     (.region [⟨none, .store 1 (.t 0) (.c (.bool false)), none⟩]))
    .skip)))⟩
def c109r : List RRes := [.tmp 4]
def c109_1 : RCode :=
 (.seq (.region [⟨some 42, .mv (.t 0), none⟩,
  ⟨some 43, .call (.c (.fn 125 [] [])) [(.t 42)], none⟩,
  ⟨some 44, .mv (.t 1), none⟩,
  ⟨some 45, .lit false 1 1 [(.int .u8 0)] [(0, 1, (.t 44))], none⟩,
  ⟨some 46, .append 1 1 [(.int .u8 0)] false (.t 43) (.t 45), none⟩,
  ⟨some 4, .mv (.t 46), none⟩])
 .ret)
def c109_2 : RCode :=
 (.cond (.t 39)
 (.region [⟨some 40, .build [] [], none⟩,
  ⟨some 41, .iface 153 (.t 40), none⟩,
  ⟨none, .panic (.t 41), none⟩])
 .skip)
def o109_4_22 : List ROper :=
  ⟨some 39, .pick (.t 25) (.c (.bool true)) (.t 38), none⟩ ::
  []
def o109_4_21 : List ROper :=
  ⟨some 38, .pick (.t 29) (.t 37) (.c (.bool false)), some (25, false)⟩ ::
  o109_4_22
def o109_4_20 : List ROper :=
  ⟨some 37, .pick (.t 33) (.c (.bool true)) (.t 36), some (29, true)⟩ ::
  o109_4_21
def o109_4_19 : List ROper :=
  ⟨some 36, .bin (some .other) none .gtr (.t 34) (.t 35), some (33, false)⟩ ::
  o109_4_20
def o109_4_18 : List ROper :=
  ⟨some 35, .mv (.t 6), some (33, false)⟩ ::
  o109_4_19
def o109_4_17 : List ROper :=
  ⟨some 34, .mv (.t 1), some (33, false)⟩ ::
  o109_4_18
def o109_4_16 : List ROper :=
  ⟨some 33, .mv (.t 32), some (29, true)⟩ ::
  o109_4_17
def o109_4_15 : List ROper :=
  ⟨some 32, .bin (some .other) none .lss (.t 30) (.t 31), some (29, true)⟩ ::
  o109_4_16
def o109_4_14 : List ROper :=
  ⟨some 31, .mv (.t 5), some (29, true)⟩ ::
  o109_4_15
def o109_4_13 : List ROper :=
  ⟨some 30, .mv (.t 1), some (29, true)⟩ ::
  o109_4_14
def o109_4_12 : List ROper :=
  ⟨some 29, .mv (.t 28), some (25, false)⟩ ::
  o109_4_13
def o109_4_11 : List ROper :=
  ⟨some 28, .bin (some .other) none .gtr (.t 27) (.c (.int .i64 0)), some (25, false)⟩ ::
  o109_4_12
def o109_4_10 : List ROper :=
  ⟨some 27, .len .sl (.t 26), some (25, false)⟩ ::
  o109_4_11
def o109_4_7 : List ROper :=
  ⟨some 24, .pick (.t 20) (.t 23) (.c (.bool false)), none⟩ ::
  ⟨some 25, .mv (.t 24), none⟩ ::
  ⟨some 26, .mv (.t 0), some (25, false)⟩ ::
  o109_4_10
def o109_4_6 : List ROper :=
  ⟨some 23, .bin (some .other) none .eql (.t 22) (.c (.int .i64 0)), some (20, true)⟩ ::
  o109_4_7
def o109_4_5 : List ROper :=
  ⟨some 22, .call (.c (.fn 110 [] [])) [(.t 21)], some (20, true)⟩ ::
  o109_4_6
def c109_0 : RCode :=
 (.seq (.seq (.region (⟨some 17, .mv (.t 0), none⟩ ::
  ⟨some 18, .len .sl (.t 17), none⟩ ::
  ⟨some 19, .bin (some .other) none .eql (.t 18) (.c (.int .i64 0)), none⟩ ::
  ⟨some 20, .mv (.t 19), none⟩ ::
  ⟨some 21, .mv (.t 1), some (20, true)⟩ ::
  o109_4_5))
 c109_2)
 c109_1)
def c109b : RCode :=
 (.seq (.region [⟨some 4, .mv (.c .nils), none⟩])
 (.seq (.region [⟨some 5, .mv (.c (.int .u8 128)), none⟩,
  ⟨some 6, .mv (.c (.int .u8 191)), none⟩])
 (.seq (.seq (.region [⟨some 7, .mv (.t 0), none⟩,
  ⟨some 8, .len .sl (.t 7), none⟩,
  ⟨some 9, .bin (some .other) none .eql (.t 8) (.c (.int .i64 1)), none⟩])
 (.cond (.t 9)
 (.region [⟨some 11, .mv (.t 0), none⟩,
  ⟨some 12, .iaddrS 1 (.t 11) (.c (.int .i64 0)), none⟩,
  ⟨some 13, .load false 1 (.t 12), none⟩,
  ⟨some 14, .call (.c (.fn 124 [] [])) [(.t 13)], none⟩,
  ⟨some 10, .mv (.t 14), none⟩,
  ⟨some 15, .extract 0 (.t 10), none⟩,
  ⟨some 16, .extract 1 (.t 10), none⟩,
  ⟨some 5, .mv (.t 15), none⟩,
  ⟨some 6, .mv (.t 16), none⟩])
 .skip))
 c109_0)))
def c109 : RFunc := ⟨c109r, some c109b, none⟩
def c110r : List RRes := [.tmp 2]
def c110_0 : RCode :=
 (.seq (.region [⟨some 2, .mv (.c (.int .i64 0)), none⟩])
 .ret)
def c110_3 : RCode :=
 (.cond (.t 20)
 (.seq (.region [⟨some 2, .mv (.c (.int .i64 4)), none⟩])
 .ret)
 .skip)
def o110_4_5 : List ROper :=
  ⟨some 26, .pick (.t 23) (.t 25) (.c (.bool false)), none⟩ ::
  ⟨some 20, .mv (.t 26), none⟩ ::
  []
def o110_4_4 : List ROper :=
  ⟨some 25, .bin (some .other) none .leq (.t 24) (.c (.int .u8 244)), some (23, true)⟩ ::
  o110_4_5
def c110_2 : RCode :=
 (.cond (.t 13)
 (.seq (.region [⟨some 2, .mv (.c (.int .i64 3)), none⟩])
 .ret)
 (.seq (.region (⟨some 21, .mv (.t 0), none⟩ ::
  ⟨some 22, .bin (some .other) none .geq (.t 21) (.c (.int .u8 240)), none⟩ ::
  ⟨some 23, .mv (.t 22), none⟩ ::
  ⟨some 24, .mv (.t 0), some (23, true)⟩ ::
  o110_4_4))
 c110_3))
def o110_7_5 : List ROper :=
  ⟨some 19, .pick (.t 16) (.t 18) (.c (.bool false)), none⟩ ::
  ⟨some 13, .mv (.t 19), none⟩ ::
  []
def o110_7_4 : List ROper :=
  ⟨some 18, .bin (some .other) none .leq (.t 17) (.c (.int .u8 239)), some (16, true)⟩ ::
  o110_7_5
def c110_1 : RCode :=
 (.cond (.t 6)
 (.seq (.region [⟨some 2, .mv (.c (.int .i64 2)), none⟩])
 .ret)
 (.seq (.region (⟨some 14, .mv (.t 0), none⟩ ::
  ⟨some 15, .bin (some .other) none .geq (.t 14) (.c (.int .u8 224)), none⟩ ::
  ⟨some 16, .mv (.t 15), none⟩ ::
  ⟨some 17, .mv (.t 0), some (16, true)⟩ ::
  o110_7_4))
 c110_2))
def o110_10_5 : List ROper :=
  ⟨some 12, .pick (.t 9) (.t 11) (.c (.bool false)), none⟩ ::
  ⟨some 6, .mv (.t 12), none⟩ ::
  []
def o110_10_4 : List ROper :=
  ⟨some 11, .bin (some .other) none .leq (.t 10) (.c (.int .u8 223)), some (9, true)⟩ ::
  o110_10_5
def c110b : RCode :=
 (.seq (.region [⟨some 2, .mv (.c (.int .i64 0)), none⟩])
 (.seq (.block 0
 (.seq (.region [⟨some 4, .mv (.t 0), none⟩,
  ⟨some 5, .bin (some .other) none .lss (.t 4) (.c (.int .u8 128)), none⟩,
  ⟨some 3, .mv (.t 5), none⟩])
 (.cond (.t 3)
 (.seq (.region [⟨some 2, .mv (.c (.int .i64 1)), none⟩])
 .ret)
 (.seq (.region (⟨some 7, .mv (.t 0), none⟩ ::
  ⟨some 8, .bin (some .other) none .geq (.t 7) (.c (.int .u8 194)), none⟩ ::
  ⟨some 9, .mv (.t 8), none⟩ ::
  ⟨some 10, .mv (.t 0), some (9, true)⟩ ::
  o110_10_4))
 c110_1))))
 c110_0))
def c110 : RFunc := ⟨c110r, some c110b, none⟩
def c112r : List RRes := [.tmp 3]
def c112b : RCode :=
 (.seq (.region [⟨some 2, .box (.t 0), none⟩,
  ⟨some 3, .mv (.c (.bool false)), none⟩])
 (.seq (.region [⟨some 4, .load true 2 (.t 2), none⟩,
  ⟨some 5, .lit false 2 1 [(.int .i32 0), (.int .i32 0)] [(0, 2, (.t 4))], none⟩,
  ⟨some 6, .load false 1 (.t 1), none⟩,
  ⟨some 7, .call (.c (.fn 55 [] [])) [(.t 5), (.t 6)], none⟩,
  ⟨some 3, .mv (.t 7), none⟩])
 .ret))
def c112 : RFunc := ⟨c112r, some c112b, none⟩
def c118r : List RRes := [.tmp 2]
def c118b : RCode :=
 (.seq (.region [⟨some 2, .mv (.c (.bool false)), none⟩])
 (.seq (.region [⟨some 3, .mv (.t 0), none⟩,
  ⟨some 4, .mv (.t 0), none⟩,
  ⟨some 5, .bin (some .other) none .neq (.t 3) (.t 4), none⟩,
  ⟨some 2, .mv (.t 5), none⟩])
 .ret))
def c118 : RFunc := ⟨c118r, some c118b, none⟩
def c119r : List RRes := []
def c119_6 : RCode :=
 (.seq (.region [⟨some 106, .mv (.t 0), none⟩,
  ⟨some 107, .mv (.t 1), none⟩,
  ⟨some 108, .mv (.t 2), none⟩,
  ⟨some 109, .mv (.t 13), none⟩,
  ⟨some 110, .mv (.t 4), none⟩,
  ⟨some 111, .call (.c (.fn 134 [] [])) [(.t 106), (.t 107), (.t 108), (.t 109), (.t 110)], none⟩,
  ⟨some 105, .mv (.t 111), none⟩,
  ⟨some 112, .extract 0 (.t 105), none⟩,
  ⟨some 113, .extract 1 (.t 105), none⟩,
  ⟨some 16, .mv (.t 112), none⟩,
  ⟨some 17, .mv (.t 113), none⟩])
 (.seq (.region [⟨some 114, .mv (.t 17), none⟩,
  ⟨some 11, .mv (.t 114), none⟩])
 (.seq (.region [⟨some 115, .mv (.t 16), none⟩,
  ⟨some 116, .mv (.t 1), none⟩,
  ⟨some 117, .bin (some .other) none .sub (.t 115) (.t 116), none⟩,
  ⟨some 118, .mv (.t 2), none⟩,
  ⟨some 119, .mv (.t 16), none⟩,
  ⟨some 120, .bin (some .other) none .sub (.t 118) (.t 119), none⟩,
  ⟨some 18, .mv (.t 117), none⟩,
  ⟨some 19, .mv (.t 120), none⟩])
 (.seq (.region [⟨some 121, .mv (.t 12), none⟩,
  ⟨some 122, .bin (some .other) none .quo (.t 121) (.c (.int .i64 8)), none⟩,
  ⟨some 20, .mv (.t 122), none⟩])
 (.seq (.region [⟨some 123, .mv (.t 18), none⟩,
  ⟨some 124, .mv (.t 19), none⟩,
  ⟨some 125, .bin (some .other) none .lss (.t 123) (.t 124), none⟩])
 (.cond (.t 125)
 (.seq (.region [⟨some 126, .mv (.t 18), none⟩,
  ⟨some 127, .mv (.t 20), none⟩,
  ⟨some 128, .bin (some .other) none .geq (.t 126) (.t 127), none⟩,
  ⟨some 10, .mv (.t 128), none⟩])
 (.seq (.region [⟨some 129, .mv (.t 0), none⟩,
  ⟨some 130, .mv (.t 1), none⟩,
  ⟨some 131, .mv (.t 16), none⟩,
  ⟨some 132, .mv (.t 3), none⟩,
  ⟨some 133, .mv (.t 4), none⟩,
  ⟨some 134, .call (.c (.fn 119 [] [])) [(.t 129), (.t 130), (.t 131), (.t 132), (.t 133)], none⟩])
 (.region [⟨some 135, .mv (.t 16), none⟩,
  ⟨some 136, .bin (some .other) none .add (.t 135) (.c (.int .i64 1)), none⟩,
  ⟨some 1, .mv (.t 136), none⟩])))
 (.seq (.region [⟨some 137, .mv (.t 19), none⟩,
  ⟨some 138, .mv (.t 20), none⟩,
  ⟨some 139, .bin (some .other) none .geq (.t 137) (.t 138), none⟩,
  ⟨some 10, .mv (.t 139), none⟩])
 (.seq (.region [⟨some 140, .mv (.t 0), none⟩,
  ⟨some 141, .mv (.t 16), none⟩,
  ⟨some 142, .bin (some .other) none .add (.t 141) (.c (.int .i64 1)), none⟩,
  ⟨some 143, .mv (.t 2), none⟩,
  ⟨some 144, .mv (.t 3), none⟩,
  ⟨some 145, .mv (.t 4), none⟩,
  ⟨some 146, .call (.c (.fn 119 [] [])) [(.t 140), (.t 142), (.t 143), (.t 144), (.t 145)], none⟩])
 (.region [⟨some 147, .mv (.t 16), none⟩,
  ⟨some 2, .mv (.t 147), none⟩])))))))))
def c119_9 : RCode :=
 (.cond (.t 97)
 (.seq (.region [⟨some 98, .mv (.t 0), none⟩,
  ⟨some 99, .mv (.t 1), none⟩,
  ⟨some 100, .mv (.t 2), none⟩,
  ⟨some 101, .mv (.t 13), none⟩,
  ⟨some 102, .mv (.t 4), none⟩,
  ⟨some 103, .call (.c (.fn 133 [] [])) [(.t 98), (.t 99), (.t 100), (.t 101), (.t 102)], none⟩,
  ⟨some 15, .mv (.t 103), none⟩])
 (.seq (.region [⟨some 104, .mv (.t 15), none⟩,
  ⟨some 1, .mv (.t 104), none⟩])
 (.exit 1)))
 .skip)
def o119_10_16 : List (ROper × List ROper) :=
  (⟨some 97, .pick (.t 83) (.t 96) (.c (.bool false)), none⟩, []) ::
  []
def o119_10_15 : List (ROper × List ROper) :=
  (⟨some 96, .un .not (.t 95), some (83, true)⟩, []) ::
  o119_10_16
def o119_10_14 : List (ROper × List ROper) :=
  (⟨some 95, .bin (some .other) none .lss (.t 94) (.c (.int .i64 0)), some (83, true)⟩, []) ::
  o119_10_15
def o119_10_13 : List (ROper × List ROper) :=
  (⟨some 94, .call (.t 84) [(.t 89), (.t 93)], some (83, true)⟩, []) ::
  o119_10_14
def o119_10_12 : List (ROper × List ROper) :=
  (⟨some 93, .load true 2 (.t 92), some (83, true)⟩, []) ::
  o119_10_13
def o119_10_11 : List (ROper × List ROper) :=
  (⟨some 92, .iaddrS 2 (.t 90) (.t 91), some (83, true)⟩, []) ::
  o119_10_12
def o119_10_10 : List (ROper × List ROper) :=
  (⟨some 91, .mv (.t 13), some (83, true)⟩, []) ::
  o119_10_11
def o119_10_9 : List (ROper × List ROper) :=
  (⟨some 90, .mv (.t 0), some (83, true)⟩, []) ::
  o119_10_10
def o119_10_8 : List (ROper × List ROper) :=
  (⟨some 89, .load true 2 (.t 88), some (83, true)⟩, []) ::
  o119_10_9
def o119_10_7 : List (ROper × List ROper) :=
  (⟨some 88, .iaddrS 2 (.t 85) (.t 87), some (83, true)⟩, []) ::
  o119_10_8
def o119_10_6 : List (ROper × List ROper) :=
  (⟨some 87, .bin (some .other) none .sub (.t 86) (.c (.int .i64 1)), some (83, true)⟩, []) ::
  o119_10_7
def o119_10_5 : List (ROper × List ROper) :=
  (⟨some 86, .mv (.t 1), some (83, true)⟩, []) ::
  o119_10_6
def o119_10_4 : List (ROper × List ROper) :=
  (⟨some 85, .mv (.t 0), some (83, true)⟩, []) ::
  o119_10_5
def c119_5 : RCode :=
 (.seq (.seq (.drawn ((⟨some 81, .mv (.t 1), none⟩, []) ::
  (⟨some 82, .bin (some .other) none .gtr (.t 81) (.c (.int .i64 0)), none⟩, []) ::
  (⟨some 83, .mv (.t 82), none⟩, []) ::
  (⟨some 84, .mv (.t 4), some (83, true)⟩, []) ::
  o119_10_4))
 c119_9)
 c119_6)
def c119_24 : RCode :=
 (.cond (.t 75)
 (.seq (.region [⟨some 76, .mv (.t 0), none⟩,
  ⟨some 77, .mv (.t 1), none⟩,
  ⟨some 78, .mv (.t 2), none⟩,
  ⟨some 79, .mv (.t 4), none⟩,
  ⟨some 80, .call (.c (.fn 132 [] [])) [(.t 76), (.t 77), (.t 78), (.t 79)], none⟩])
 (.cond (.t 80)
 .ret
 .skip))
 .skip)
def o119_25_7 : List ROper :=
  ⟨some 75, .pick (.t 72) (.t 74) (.c (.bool false)), none⟩ ::
  []
def o119_25_6 : List ROper :=
  ⟨some 74, .bin (some .other) none .eql (.t 73) (.c (.int .i64 1)), some (72, true)⟩ ::
  o119_25_7
def o119_25_3 : List ROper :=
  ⟨some 71, .pick (.t 69) (.t 70) (.c (.bool false)), none⟩ ::
  ⟨some 72, .mv (.t 71), none⟩ ::
  ⟨some 73, .mv (.t 14), some (72, true)⟩ ::
  o119_25_6
def c119_4 : RCode :=
 (.seq (.seq (.region (⟨some 68, .mv (.t 10), none⟩ ::
  ⟨some 69, .mv (.t 68), none⟩ ::
  ⟨some 70, .mv (.t 11), some (69, true)⟩ ::
  o119_25_3))
 c119_24)
 c119_5)
def c119_3 : RCode :=
 (.seq (.region [⟨some 48, .mv (.t 0), none⟩,
  ⟨some 49, .mv (.t 1), none⟩,
  ⟨some 50, .mv (.t 2), none⟩,
  ⟨some 51, .mv (.t 4), none⟩,
  ⟨some 52, .call (.c (.fn 130 [] [])) [(.t 48), (.t 49), (.t 50), (.t 51)], none⟩,
  ⟨some 47, .mv (.t 52), none⟩,
  ⟨some 53, .extract 0 (.t 47), none⟩,
  ⟨some 54, .extract 1 (.t 47), none⟩,
  ⟨some 13, .mv (.t 53), none⟩,
  ⟨some 14, .mv (.t 54), none⟩])
 (.seq (.seq (.region [⟨some 55, .mv (.t 14), none⟩,
  ⟨some 56, .bin (some .other) none .eql (.t 55) (.c (.int .i64 2)), none⟩])
 (.cond (.t 56)
 (.seq (.region [⟨some 57, .mv (.t 0), none⟩,
  ⟨some 58, .mv (.t 1), none⟩,
  ⟨some 59, .mv (.t 2), none⟩,
  ⟨some 60, .mv (.t 4), none⟩,
  ⟨some 61, .call (.c (.fn 131 [] [])) [(.t 57), (.t 58), (.t 59), (.t 60)], none⟩])
 (.seq (.region [⟨some 62, .mv (.t 2), none⟩,
  ⟨some 63, .bin (some .other) none .sub (.t 62) (.c (.int .i64 1)), none⟩,
  ⟨some 64, .mv (.t 13), none⟩,
  ⟨some 65, .mv (.t 1), none⟩,
  ⟨some 66, .bin (some .other) none .sub (.t 64) (.t 65), none⟩,
  ⟨some 67, .bin (some .other) none .sub (.t 63) (.t 66), none⟩,
  ⟨some 13, .mv (.t 67), none⟩])
 (.region [⟨some 14, .mv (.c (.int .i64 1)), none⟩])))
 .skip))
 c119_4))
def c119_2 : RCode :=
 (.seq (.seq (.region [⟨some 38, .mv (.t 10), none⟩,
  ⟨some 39, .un .not (.t 38), none⟩])
 (.cond (.t 39)
 (.seq (.region [⟨some 40, .mv (.t 0), none⟩,
  ⟨some 41, .mv (.t 1), none⟩,
  ⟨some 42, .mv (.t 2), none⟩,
  ⟨some 43, .mv (.t 4), none⟩,
  ⟨some 44, .call (.c (.fn 129 [] [])) [(.t 40), (.t 41), (.t 42), (.t 43)], none⟩])
 (.region [⟨some 45, .mv (.t 3), none⟩,
  ⟨some 46, .bin (some .other) none .sub (.t 45) (.c (.int .i64 1)), none⟩,
  ⟨some 3, .mv (.t 46), none⟩]))
 .skip))
 c119_3)
def c119_1 : RCode :=
 (.seq (.seq (.region [⟨some 31, .mv (.t 3), none⟩,
  ⟨some 32, .bin (some .other) none .eql (.t 31) (.c (.int .i64 0)), none⟩])
 (.cond (.t 32)
 (.seq (.region [⟨some 33, .mv (.t 0), none⟩,
  ⟨some 34, .mv (.t 1), none⟩,
  ⟨some 35, .mv (.t 2), none⟩,
  ⟨some 36, .mv (.t 4), none⟩,
  ⟨some 37, .call (.c (.fn 128 [] [])) [(.t 33), (.t 34), (.t 35), (.t 36)], none⟩])
 .ret)
 .skip))
 c119_2)
def c119_0 : RCode :=
 (.block 1
 (.seq (.region [⟨some 21, .mv (.t 2), none⟩,
  ⟨some 22, .mv (.t 1), none⟩,
  ⟨some 23, .bin (some .other) none .sub (.t 21) (.t 22), none⟩,
  ⟨some 12, .mv (.t 23), none⟩])
 (.seq (.seq (.region [⟨some 24, .mv (.t 12), none⟩,
  ⟨some 25, .bin (some .other) none .leq (.t 24) (.c (.int .i64 12)), none⟩])
 (.cond (.t 25)
 (.seq (.region [⟨some 26, .mv (.t 0), none⟩,
  ⟨some 27, .mv (.t 1), none⟩,
  ⟨some 28, .mv (.t 2), none⟩,
  ⟨some 29, .mv (.t 4), none⟩,
  ⟨some 30, .call (.c (.fn 127 [] [])) [(.t 26), (.t 27), (.t 28), (.t 29)], none⟩])
 .ret)
 .skip))
 c119_1)))
def c119b : RCode :=
 (.seq (.region [⟨some 10, .mv (.c (.bool true)), none⟩])
 (.seq (.region [⟨some 11, .mv (.c (.bool true)), none⟩])
 (.block 0
 (.loop c119_0))))
def c119 : RFunc := ⟨c119r, some c119b, none⟩
def c120r : List RRes := [.tmp 2]
def c120_0 : RCode :=
 (.seq (.region [⟨some 9, .mv (.t 0), none⟩,
  ⟨some 10, .bin (some .other) none .mul (.t 9) (.c (.int .i64 2)), none⟩,
  ⟨some 11, .mv (.t 0), none⟩,
  ⟨some 12, .bin (some .other) none .mul (.t 11) (.c (.int .i64 2)), none⟩,
  ⟨some 13, .bin (some .other) none .add (.t 12) (.c (.int .i64 2)), none⟩,
  ⟨some 14, .slice .str (.c (.str ⟨#[48, 48, 48, 49, 48, 50, 48, 51, 48, 52, 48, 53, 48, 54, 48, 55, 48, 56, 48, 57, 49, 48, 49, 49, 49, 50, 49, 51, 49, 52, 49, 53, 49, 54, 49, 55, 49, 56, 49, 57, 50, 48, 50, 49, 50, 50, 50, 51, 50, 52, 50, 53, 50, 54, 50, 55, 50, 56, 50, 57, 51, 48, 51, 49, 51, 50, 51, 51, 51, 52, 51, 53, 51, 54, 51, 55, 51, 56, 51, 57, 52, 48, 52, 49, 52, 50, 52, 51, 52, 52, 52, 53, 52, 54, 52, 55, 52, 56, 52, 57, 53, 48, 53, 49, 53, 50, 53, 51, 53, 52, 53, 53, 53, 54, 53, 55, 53, 56, 53, 57, 54, 48, 54, 49, 54, 50, 54, 51, 54, 52, 54, 53, 54, 54, 54, 55, 54, 56, 54, 57, 55, 48, 55, 49, 55, 50, 55, 51, 55, 52, 55, 53, 55, 54, 55, 55, 55, 56, 55, 57, 56, 48, 56, 49, 56, 50, 56, 51, 56, 52, 56, 53, 56, 54, 56, 55, 56, 56, 56, 57, 57, 48, 57, 49, 57, 50, 57, 51, 57, 52, 57, 53, 57, 54, 57, 55, 57, 56, 57, 57]⟩)) (some (.t 10)) (some (.t 13)) none, none⟩,
  ⟨some 2, .mv (.t 14), none⟩])
 .ret)
def c120b : RCode :=
 (.seq (.region [⟨some 2, .mv (.c (.str ⟨#[]⟩)), none⟩])
 (.seq (.seq (.region [⟨some 3, .mv (.t 0), none⟩,
  ⟨some 4, .bin (some .other) none .lss (.t 3) (.c (.int .i64 10)), none⟩])
 (.cond (.t 4)
 (.seq (.region [⟨some 5, .mv (.t 0), none⟩,
  ⟨some 6, .mv (.t 0), none⟩,
  ⟨some 7, .bin (some .other) none .add (.t 6) (.c (.int .i64 1)), none⟩,
  ⟨some 8, .slice .str (.c (.str ⟨#[48, 49, 50, 51, 52, 53, 54, 55, 56, 57, 97, 98, 99, 100, 101, 102, 103, 104, 105, 106, 107, 108, 109, 110, 111, 112, 113, 114, 115, 116, 117, 118, 119, 120, 121, 122]⟩)) (some (.t 5)) (some (.t 7)) none, none⟩,
  ⟨some 2, .mv (.t 8), none⟩])
 .ret)
 .skip))
 c120_0))
def c120 : RFunc := ⟨c120r, some c120b, none⟩
def c125r : List RRes := [.tmp 2]
def c125_0 : RCode :=
 (.seq (.region [⟨some 5, .lit false 1 0 [] [], none⟩,
  ⟨some 6, .mv (.t 0), none⟩,
  ⟨some 7, .append 1 1 [(.int .u8 0)] false (.t 5) (.t 6), none⟩,
  ⟨some 2, .mv (.t 7), none⟩])
 .ret)
def c125b : RCode :=
 (.seq (.region [⟨some 2, .mv (.c .nils), none⟩])
 (.seq (.seq (.region [⟨some 3, .mv (.t 0), none⟩,
  ⟨some 4, .bin (some .slice) none .eql (.t 3) (.c .nils), none⟩])
 (.cond (.t 4)
 (.seq (.region [⟨some 2, .mv (.c .nils), none⟩])
 .ret)
 .skip))
 c125_0))
def c125 : RFunc := ⟨c125r, some c125b, none⟩
def c127r : List RRes := []
def c127_2 : RCode :=
 (.region [⟨some 15, .mv (.t 8), none⟩,
  ⟨some 16, .bin (some .other) none .add (.t 15) (.c (.int .i64 1)), none⟩,
  ⟨some 8, .mv (.t 16), none⟩])
def c127_6 : RCode :=
 (.region [⟨some 35, .mv (.t 9), none⟩,
  ⟨some 36, .bin (some .other) none .sub (.t 35) (.c (.int .i64 1)), none⟩,
  ⟨some 9, .mv (.t 36), none⟩])
def c127_5 : RCode :=
 (.seq (.block 3
 (.drawn [(⟨some 37, .mv (.t 0), none⟩, []),
  (⟨some 38, .mv (.t 9), none⟩, []),
  (⟨some 39, .mv (.t 0), none⟩, []),
  (⟨some 40, .mv (.t 9), none⟩, []),
  (⟨some 41, .bin (some .other) none .sub (.t 40) (.c (.int .i64 1)), none⟩, []),
  (⟨some 42, .mv (.t 0), none⟩, []),
  (⟨some 43, .mv (.t 9), none⟩, []),
  (⟨some 44, .bin (some .other) none .sub (.t 43) (.c (.int .i64 1)), none⟩, []),
  (⟨some 45, .iaddrS 2 (.t 42) (.t 44), none⟩, []),
  (⟨some 46, .load true 2 (.t 45), none⟩, []),
  (⟨some 47, .mv (.t 0), none⟩, []),
  (⟨some 48, .mv (.t 9), none⟩, []),
  (⟨some 49, .iaddrS 2 (.t 47) (.t 48), none⟩, []),
  (⟨some 50, .load true 2 (.t 49), none⟩, []),
  (⟨some 51, .iaddrS 2 (.t 37) (.t 38), none⟩, []),
  (⟨none, .store 2 (.t 51) (.t 46), none⟩, []),
  (⟨some 52, .iaddrS 2 (.t 39) (.t 41), none⟩, []),
  (⟨none, .store 2 (.t 52) (.t 50), none⟩, [])]))
 c127_6)
def c127_9 : RCode :=
 (.cond (.t 34)
 .skip
 (.exit 2))
def o127_10_16 : List (ROper × List ROper) :=
  (⟨some 34, .pick (.t 21) (.t 33) (.c (.bool false)), none⟩, []) ::
  []
def o127_10_15 : List (ROper × List ROper) :=
  (⟨some 33, .bin (some .other) none .lss (.t 32) (.c (.int .i64 0)), some (21, true)⟩, []) ::
  o127_10_16
def o127_10_14 : List (ROper × List ROper) :=
  (⟨some 32, .call (.t 22) [(.t 26), (.t 31)], some (21, true)⟩, []) ::
  o127_10_15
def o127_10_13 : List (ROper × List ROper) :=
  (⟨some 31, .load true 2 (.t 30), some (21, true)⟩, []) ::
  o127_10_14
def o127_10_12 : List (ROper × List ROper) :=
  (⟨some 30, .iaddrS 2 (.t 27) (.t 29), some (21, true)⟩, []) ::
  o127_10_13
def o127_10_11 : List (ROper × List ROper) :=
  (⟨some 29, .bin (some .other) none .sub (.t 28) (.c (.int .i64 1)), some (21, true)⟩, []) ::
  o127_10_12
def o127_10_10 : List (ROper × List ROper) :=
  (⟨some 28, .mv (.t 9), some (21, true)⟩, []) ::
  o127_10_11
def o127_10_9 : List (ROper × List ROper) :=
  (⟨some 27, .mv (.t 0), some (21, true)⟩, []) ::
  o127_10_10
def o127_10_8 : List (ROper × List ROper) :=
  (⟨some 26, .load true 2 (.t 25), some (21, true)⟩, []) ::
  o127_10_9
def o127_10_7 : List (ROper × List ROper) :=
  (⟨some 25, .iaddrS 2 (.t 23) (.t 24), some (21, true)⟩, []) ::
  o127_10_8
def o127_10_6 : List (ROper × List ROper) :=
  (⟨some 24, .mv (.t 9), some (21, true)⟩, []) ::
  o127_10_7
def o127_10_5 : List (ROper × List ROper) :=
  (⟨some 23, .mv (.t 0), some (21, true)⟩, []) ::
  o127_10_6
def c127_4 : RCode :=
 (.seq (.seq (.drawn ((⟨some 18, .mv (.t 9), none⟩, []) ::
  (⟨some 19, .mv (.t 1), none⟩, []) ::
  (⟨some 20, .bin (some .other) none .gtr (.t 18) (.t 19), none⟩, []) ::
  (⟨some 21, .mv (.t 20), none⟩, []) ::
  (⟨some 22, .mv (.t 3), some (21, true)⟩, []) ::
  o127_10_5))
 c127_9)
 c127_5)
def c127_1 : RCode :=
 (.seq (.block 1
 (.seq (.region [⟨some 17, .mv (.t 8), none⟩,
  ⟨some 9, .mv (.t 17), none⟩])
 (.block 2
 (.loop c127_4))))
 c127_2)
def c127_0 : RCode :=
 (.seq (.seq (.region [⟨some 12, .mv (.t 8), none⟩,
  ⟨some 13, .mv (.t 2), none⟩,
  ⟨some 14, .bin (some .other) none .lss (.t 12) (.t 13), none⟩])
 (.cond (.t 14)
 .skip
 (.exit 0)))
 c127_1)
def c127b : RCode :=
 (.seq (.region [⟨some 10, .mv (.t 1), none⟩,
  ⟨some 11, .bin (some .other) none .add (.t 10) (.c (.int .i64 1)), none⟩,
  ⟨some 8, .mv (.t 11), none⟩])
 (.block 0
 (.loop c127_0)))
def c127 : RFunc := ⟨c127r, some c127b, none⟩
end
end Go.AM.Ly
