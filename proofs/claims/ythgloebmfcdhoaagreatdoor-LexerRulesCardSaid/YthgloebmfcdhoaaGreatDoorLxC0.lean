import Derived.Test.YthgloebmfcdhoaaGreatDoorMc
set_option maxRecDepth 100000
set_option linter.unusedVariables false
namespace Go.AM
open Go
/-- gobo/gobolaw10.LexerOnes -/
def Lx.c3 : RFunc := ⟨[.tmp 2],
 some
 (.seq
  (.region [⟨(some 2), .mv (.c (.bool false)), none⟩])
  (.seq
   (.region [⟨(some 14), .mv (.t 0), none⟩,
    ⟨(some 15), .conv (.int .u64) (.t 14), none⟩,
    ⟨(some 16), .bin (some .other) none .rem (.t 15) (.c (.int .u64 40)), none⟩,
    ⟨(some 17), .conv (.int .i64) (.t 16), none⟩,
    ⟨(some 18), .bin (some .other) none .add (.c (.int .i64 1)) (.t 17), none⟩,
    ⟨(some 3), .mv (.t 18), none⟩])
   (.seq
    (.region [⟨(some 19), .call (.c (.fn 5 [] [])) [(.c (.int .i32 97))], none⟩,
     ⟨(some 4), .alloc [(.int .i64 0), .nils, .nils], none⟩,
     ⟨none, .store 3 (.t 4) (.t 19), none⟩])
    (.seq
     (.region [⟨(some 21), .load true 3 (.t 4), none⟩,
      ⟨(some 22), .lit false 3 1 [(.int .i64 0), .nils, .nils] [(0, 3, (.t 21))], none⟩,
      ⟨(some 23), .call (.c (.fn 6 [] [])) [(.t 22), (.c (.int .i64 9))], none⟩,
      ⟨(some 20), .mv (.t 23), none⟩,
      ⟨(some 24), .extract 0 (.t 20), none⟩,
      ⟨(some 25), .extract 1 (.t 20), none⟩,
      ⟨(some 5), .mv (.t 24), none⟩,
      ⟨(some 6), .mv (.t 25), none⟩])
     (.seq
      (.region [⟨(some 27), .load true 3 (.t 4), none⟩,
       ⟨(some 28), .load true 3 (.t 4), none⟩,
       ⟨(some 29), .lit false 3 1 [(.int .i64 0), .nils, .nils] [(0, 3, (.t 28))], none⟩,
       ⟨(some 30), .build [(.int .i64 0), .nils, .nils] [(0, 1, (.c (.int .i64 5))), (2, 1, (.t 29))], none⟩,
       ⟨(some 31), .lit false 3 2 [(.int .i64 0), .nils, .nils, (.int .i64 0), .nils, .nils] [(0, 3, (.t 27)), (3, 3, (.t 30))], none⟩,
       ⟨(some 32), .build [(.int .i64 0), .nils, .nils] [(0, 1, (.c (.int .i64 3))), (2, 1, (.t 31))], none⟩,
       ⟨(some 33), .lit false 3 1 [(.int .i64 0), .nils, .nils] [(0, 3, (.t 32))], none⟩,
       ⟨(some 34), .call (.c (.fn 6 [] [])) [(.t 33), (.c (.int .i64 9))], none⟩,
       ⟨(some 26), .mv (.t 34), none⟩,
       ⟨(some 35), .extract 0 (.t 26), none⟩,
       ⟨(some 36), .extract 1 (.t 26), none⟩,
       ⟨(some 7), .mv (.t 35), none⟩,
       ⟨(some 8), .mv (.t 36), none⟩])
      (.seq
       (.seq
        (.region [⟨(some 37), .mv (.t 6), none⟩,
         ⟨(some 38), .bin (some .other) none .neq (.t 37) (.c (.int .i64 0)), none⟩,
         ⟨(some 39), .mv (.t 38), none⟩,
         ⟨(some 40), .mv (.t 8), (some (39, false))⟩,
         ⟨(some 41), .bin (some .other) none .neq (.t 40) (.c (.int .i64 0)), (some (39, false))⟩,
         ⟨(some 42), .pick (.t 39) (.c (.bool true)) (.t 41), none⟩])
        (.cond (.t 42)
         (.seq
          (.region [⟨(some 2), .mv (.c (.bool false)), none⟩])
          .ret)
         .skip))
       (.seq
        (.region [⟨(some 9), .mv (.c .nils), none⟩])
        (.seq
         (.seq
          (.region [⟨(some 10), .mv (.c (.int .i64 0)), none⟩])
          (.block 0
           (.loop
            (.seq
             (.seq
              (.region [⟨(some 43), .mv (.t 10), none⟩,
               ⟨(some 44), .mv (.t 3), none⟩,
               ⟨(some 45), .bin (some .other) none .lss (.t 43) (.t 44), none⟩])
              (.cond (.t 45)
               .skip
               (.exit 0)))
             (.seq
              (.block 1
               (.region [⟨(some 48), .mv (.t 9), none⟩,
                ⟨(some 49), .lit false 1 1 [(.int .u8 0)] [(0, 1, (.c (.int .u8 97)))], none⟩,
                ⟨(some 50), .append 1 1 [(.int .u8 0)] false (.t 48) (.t 49), none⟩,
                ⟨(some 9), .mv (.t 50), none⟩]))
              (.region [⟨(some 46), .mv (.t 10), none⟩,
               ⟨(some 47), .bin (some .other) none .add (.t 46) (.c (.int .i64 1)), none⟩,
               ⟨(some 10), .mv (.t 47), none⟩]))))))
         (.seq
          (.region [⟨(some 51), .mv (.t 5), none⟩,
           ⟨(some 52), .mv (.t 9), none⟩,
           ⟨(some 53), .call (.c (.fn 7 [] [])) [(.t 51), (.t 52)], none⟩,
           ⟨(some 54), .mv (.t 7), none⟩,
           ⟨(some 55), .mv (.t 9), none⟩,
           ⟨(some 56), .call (.c (.fn 7 [] [])) [(.t 54), (.t 55)], none⟩,
           ⟨(some 57), .mv (.t 7), none⟩,
           ⟨(some 58), .lit false 1 0 [] [], none⟩,
           ⟨(some 59), .mv (.t 9), none⟩,
           ⟨(some 60), .append 1 1 [(.int .u8 0)] false (.t 58) (.t 59), none⟩,
           ⟨(some 61), .lit false 1 1 [(.int .u8 0)] [(0, 1, (.c (.int .u8 98)))], none⟩,
           ⟨(some 62), .append 1 1 [(.int .u8 0)] false (.t 60) (.t 61), none⟩,
           ⟨(some 63), .call (.c (.fn 7 [] [])) [(.t 57), (.t 62)], none⟩,
           ⟨(some 11), .mv (.t 53), none⟩,
           ⟨(some 12), .mv (.t 56), none⟩,
           ⟨(some 13), .mv (.t 63), none⟩])
          (.seq
           (.region [⟨(some 64), .call (.c (.fn 8 [] [])) [], none⟩,
            ⟨(some 65), .mv (.t 64), none⟩,
            ⟨(some 66), .mv (.t 11), (some (65, true))⟩,
            ⟨(some 67), .len .sl (.t 66), (some (65, true))⟩,
            ⟨(some 68), .mv (.t 3), (some (65, true))⟩,
            ⟨(some 69), .bin (some .other) none .eql (.t 67) (.t 68), (some (65, true))⟩,
            ⟨(some 70), .pick (.t 65) (.t 69) (.c (.bool false)), none⟩,
            ⟨(some 71), .mv (.t 70), none⟩,
            ⟨(some 72), .mv (.t 11), (some (71, true))⟩,
            ⟨(some 73), .iaddrS 4 (.t 72) (.c (.int .i64 0)), (some (71, true))⟩,
            ⟨(some 74), .faddr 2 (.t 73), (some (71, true))⟩,
            ⟨(some 75), .load false 1 (.t 74), (some (71, true))⟩,
            ⟨(some 76), .bin (some .other) none .eql (.t 75) (.c (.int .i64 1)), (some (71, true))⟩,
            ⟨(some 77), .pick (.t 71) (.t 76) (.c (.bool false)), none⟩,
            ⟨(some 78), .mv (.t 77), none⟩,
            ⟨(some 79), .mv (.t 11), (some (78, true))⟩,
            ⟨(some 80), .mv (.t 3), (some (78, true))⟩,
            ⟨(some 81), .bin (some .other) none .sub (.t 80) (.c (.int .i64 1)), (some (78, true))⟩,
            ⟨(some 82), .iaddrS 4 (.t 79) (.t 81), (some (78, true))⟩,
            ⟨(some 83), .faddr 3 (.t 82), (some (78, true))⟩,
            ⟨(some 84), .load false 1 (.t 83), (some (78, true))⟩,
            ⟨(some 85), .mv (.t 3), (some (78, true))⟩,
            ⟨(some 86), .bin (some .other) none .add (.t 85) (.c (.int .i64 1)), (some (78, true))⟩,
            ⟨(some 87), .bin (some .other) none .eql (.t 84) (.t 86), (some (78, true))⟩,
            ⟨(some 88), .pick (.t 78) (.t 87) (.c (.bool false)), none⟩,
            ⟨(some 89), .mv (.t 88), none⟩,
            ⟨(some 90), .mv (.t 12), (some (89, true))⟩,
            ⟨(some 91), .len .sl (.t 90), (some (89, true))⟩,
            ⟨(some 92), .bin (some .other) none .eql (.t 91) (.c (.int .i64 1)), (some (89, true))⟩,
            ⟨(some 93), .pick (.t 89) (.t 92) (.c (.bool false)), none⟩,
            ⟨(some 94), .mv (.t 93), none⟩,
            ⟨(some 95), .mv (.t 12), (some (94, true))⟩,
            ⟨(some 96), .iaddrS 4 (.t 95) (.c (.int .i64 0)), (some (94, true))⟩,
            ⟨(some 97), .load true 4 (.t 96), (some (94, true))⟩,
            ⟨(some 98), .mv (.t 3), (some (94, true))⟩,
            ⟨(some 99), .mv (.t 3), (some (94, true))⟩,
            ⟨(some 100), .bin (some .other) none .add (.t 99) (.c (.int .i64 1)), (some (94, true))⟩,
            ⟨(some 101), .build [(.int .i64 0), (.int .i64 0), (.int .i64 0), (.int .i64 0)] [(2, 1, (.t 98)), (3, 1, (.t 100))], (some (94, true))⟩,
            ⟨(some 102), .bin (some .other) (some [.int, .int, .int, .int]) .eql (.t 97) (.t 101), (some (94, true))⟩,
            ⟨(some 103), .pick (.t 94) (.t 102) (.c (.bool false)), none⟩,
            ⟨(some 104), .mv (.t 103), none⟩,
            ⟨(some 105), .mv (.t 13), (some (104, true))⟩,
            ⟨(some 106), .len .sl (.t 105), (some (104, true))⟩,
            ⟨(some 107), .bin (some .other) none .eql (.t 106) (.c (.int .i64 2)), (some (104, true))⟩,
            ⟨(some 108), .pick (.t 104) (.t 107) (.c (.bool false)), none⟩,
            ⟨(some 109), .mv (.t 108), none⟩,
            ⟨(some 110), .mv (.t 13), (some (109, true))⟩,
            ⟨(some 111), .iaddrS 4 (.t 110) (.c (.int .i64 0)), (some (109, true))⟩,
            ⟨(some 112), .load true 4 (.t 111), (some (109, true))⟩,
            ⟨(some 113), .mv (.t 3), (some (109, true))⟩,
            ⟨(some 114), .mv (.t 3), (some (109, true))⟩,
            ⟨(some 115), .bin (some .other) none .add (.t 114) (.c (.int .i64 1)), (some (109, true))⟩,
            ⟨(some 116), .build [(.int .i64 0), (.int .i64 0), (.int .i64 0), (.int .i64 0)] [(2, 1, (.t 113)), (3, 1, (.t 115))], (some (109, true))⟩,
            ⟨(some 117), .bin (some .other) (some [.int, .int, .int, .int]) .eql (.t 112) (.t 116), (some (109, true))⟩,
            ⟨(some 118), .pick (.t 109) (.t 117) (.c (.bool false)), none⟩,
            ⟨(some 119), .mv (.t 118), none⟩,
            ⟨(some 120), .mv (.t 13), (some (119, true))⟩,
            ⟨(some 121), .iaddrS 4 (.t 120) (.c (.int .i64 1)), (some (119, true))⟩,
            ⟨(some 122), .faddr 0 (.t 121), (some (119, true))⟩,
            ⟨(some 123), .load false 1 (.t 122), (some (119, true))⟩,
            ⟨(some 124), .bin (some .other) none .eql (.t 123) (.c (.int .i64 (.negSucc 0))), (some (119, true))⟩,
            ⟨(some 125), .pick (.t 119) (.t 124) (.c (.bool false)), none⟩,
            ⟨(some 2), .mv (.t 125), none⟩])
           .ret)))))))))),
 none⟩
/-- gobo/gobolaw10.LexerRules -/
def Lx.c4 : RFunc := ⟨[.tmp 4],
 some
 (.seq
  (.region [⟨(some 4), .mv (.c (.bool false)), none⟩])
  (.seq
   (.region [⟨(some 12), .call (.c (.fn 5 [] [])) [(.c (.int .i32 97))], none⟩,
    ⟨(some 5), .alloc [(.int .i64 0), .nils, .nils], none⟩,
    ⟨none, .store 3 (.t 5) (.t 12), none⟩])
   (.seq
    (.region [⟨(some 13), .load true 3 (.t 5), none⟩,
     ⟨(some 14), .load true 3 (.t 5), none⟩,
     ⟨(some 15), .lit false 3 2 [(.int .i64 0), .nils, .nils, (.int .i64 0), .nils, .nils] [(0, 3, (.t 13)), (3, 3, (.t 14))], none⟩,
     ⟨(some 16), .build [(.int .i64 0), .nils, .nils] [(0, 1, (.c (.int .i64 3))), (2, 1, (.t 15))], none⟩,
     ⟨(some 6), .alloc [(.int .i64 0), .nils, .nils], none⟩,
     ⟨none, .store 3 (.t 6) (.t 16), none⟩])
    (.seq
     (.region [⟨(some 17), .load true 3 (.t 5), none⟩,
      ⟨(some 18), .load true 3 (.t 6), none⟩,
      ⟨(some 19), .lit false 3 2 [(.int .i64 0), .nils, .nils, (.int .i64 0), .nils, .nils] [(0, 3, (.t 17)), (3, 3, (.t 18))], none⟩,
      ⟨(some 7), .mv (.t 19), none⟩])
     (.seq
      (.region [⟨(some 8), .mv (.c (.int .i64 1)), none⟩])
      (.seq
       (.seq
        (.region [⟨(some 20), .mv (.t 0), none⟩])
        (.cond (.t 20)
         (.region [⟨(some 21), .load true 3 (.t 6), none⟩,
          ⟨(some 22), .load true 3 (.t 5), none⟩,
          ⟨(some 23), .lit false 3 2 [(.int .i64 0), .nils, .nils, (.int .i64 0), .nils, .nils] [(0, 3, (.t 21)), (3, 3, (.t 22))], none⟩,
          ⟨(some 7), .mv (.t 23), none⟩,
          ⟨(some 8), .mv (.c (.int .i64 0)), none⟩])
         .skip))
       (.seq
        (.seq
         (.region [⟨(some 24), .mv (.t 1), none⟩])
         (.cond (.t 24)
          (.region [⟨(some 25), .load true 3 (.t 6), none⟩,
           ⟨(some 26), .load true 3 (.t 6), none⟩,
           ⟨(some 27), .lit false 3 2 [(.int .i64 0), .nils, .nils, (.int .i64 0), .nils, .nils] [(0, 3, (.t 25)), (3, 3, (.t 26))], none⟩,
           ⟨(some 7), .mv (.t 27), none⟩,
           ⟨(some 8), .mv (.c (.int .i64 0)), none⟩])
          .skip))
        (.seq
         (.region [⟨(some 29), .mv (.t 7), none⟩,
          ⟨(some 30), .call (.c (.fn 6 [] [])) [(.t 29), (.c (.int .i64 20))], none⟩,
          ⟨(some 28), .mv (.t 30), none⟩,
          ⟨(some 31), .extract 0 (.t 28), none⟩,
          ⟨(some 32), .extract 1 (.t 28), none⟩,
          ⟨(some 9), .mv (.t 31), none⟩,
          ⟨(some 10), .mv (.t 32), none⟩])
         (.seq
          (.region [⟨(some 33), .mv (.t 9), none⟩,
           ⟨(some 34), .lit false 1 2 [(.int .u8 0), (.int .u8 0)] [(0, 1, (.c (.int .u8 97))), (1, 1, (.c (.int .u8 97)))], none⟩,
           ⟨(some 35), .conv (.bytes true) (.t 34), none⟩,
           ⟨(some 36), .call (.c (.fn 7 [] [])) [(.t 33), (.t 35)], none⟩,
           ⟨(some 11), .mv (.t 36), none⟩])
          (.seq
           (.region [⟨(some 37), .call (.c (.fn 8 [] [])) [], none⟩,
            ⟨(some 38), .mv (.t 37), none⟩,
            ⟨(some 39), .mv (.t 10), (some (38, true))⟩,
            ⟨(some 40), .bin (some .other) none .eql (.t 39) (.c (.int .i64 0)), (some (38, true))⟩,
            ⟨(some 41), .pick (.t 38) (.t 40) (.c (.bool false)), none⟩,
            ⟨(some 42), .mv (.t 41), none⟩,
            ⟨(some 43), .mv (.t 11), (some (42, true))⟩,
            ⟨(some 44), .len .sl (.t 43), (some (42, true))⟩,
            ⟨(some 45), .bin (some .other) none .eql (.t 44) (.c (.int .i64 1)), (some (42, true))⟩,
            ⟨(some 46), .pick (.t 42) (.t 45) (.c (.bool false)), none⟩,
            ⟨(some 47), .mv (.t 46), none⟩,
            ⟨(some 48), .mv (.t 11), (some (47, true))⟩,
            ⟨(some 49), .iaddrS 4 (.t 48) (.c (.int .i64 0)), (some (47, true))⟩,
            ⟨(some 50), .faddr 0 (.t 49), (some (47, true))⟩,
            ⟨(some 51), .load false 1 (.t 50), (some (47, true))⟩,
            ⟨(some 52), .mv (.t 8), (some (47, true))⟩,
            ⟨(some 53), .bin (some .other) none .eql (.t 51) (.t 52), (some (47, true))⟩,
            ⟨(some 54), .pick (.t 47) (.t 53) (.c (.bool false)), none⟩,
            ⟨(some 55), .mv (.t 54), none⟩,
            ⟨(some 56), .mv (.t 11), (some (55, true))⟩,
            ⟨(some 57), .iaddrS 4 (.t 56) (.c (.int .i64 0)), (some (55, true))⟩,
            ⟨(some 58), .faddr 2 (.t 57), (some (55, true))⟩,
            ⟨(some 59), .load false 1 (.t 58), (some (55, true))⟩,
            ⟨(some 60), .bin (some .other) none .eql (.t 59) (.c (.int .i64 2)), (some (55, true))⟩,
            ⟨(some 61), .pick (.t 55) (.t 60) (.c (.bool false)), none⟩,
            ⟨(some 4), .mv (.t 61), none⟩])
           .ret)))))))))),
 none⟩
/-- gobo/gobolaw6.One -/
def Lx.c5 : RFunc := ⟨[.cell 2 true 3],
 some
 (.seq
  (.region [⟨(some 2), .alloc [(.int .i64 0), .nils, .nils], none⟩])
  (.seq
   (.region [⟨(some 3), .mv (.t 0), none⟩,
    ⟨(some 4), .mv (.t 0), none⟩,
    ⟨(some 5), .build [(.int .i32 0), (.int .i32 0)] [(0, 1, (.t 3)), (1, 1, (.t 4))], none⟩,
    ⟨(some 6), .lit false 2 1 [(.int .i32 0), (.int .i32 0)] [(0, 2, (.t 5))], none⟩,
    ⟨(some 7), .build [(.int .i64 0), .nils, .nils] [(0, 1, (.c (.int .i64 2))), (1, 1, (.t 6))], none⟩,
    ⟨none, .store 3 (.t 2) (.t 7), none⟩])
   .ret)),
 none⟩
/-- gobo/lexer.Build -/
def Lx.c6 : RFunc := ⟨[.tmp 4, .tmp 5],
 some
 (.seq
  (.region [⟨(some 2), .box (.t 0), none⟩,
   ⟨(some 3), .box (.t 1), none⟩,
   ⟨(some 4), .mv (.c .nilp), none⟩,
   ⟨(some 5), .mv (.c (.int .i64 0)), none⟩])
  (.seq
   (.region [⟨(some 6), .alloc [.nilp], none⟩])
   (.seq
    (.region [⟨(some 8), .mkfn 10 [] [(.t 2), (.t 3), (.t 6)], none⟩,
     ⟨(some 9), .call (.c (.fn 9 [] [])) [(.t 8)], none⟩,
     ⟨(some 7), .mv (.t 9), none⟩])
    (.seq
     (.region [⟨(some 10), .load false 1 (.t 6), none⟩,
      ⟨(some 11), .mv (.t 7), none⟩,
      ⟨(some 4), .mv (.t 10), none⟩,
      ⟨(some 5), .mv (.t 11), none⟩])
     .ret)))),
 none⟩
/-- gobo/lexer.All -/
def Lx.c7 : RFunc := ⟨[.tmp 4],
 some
 (.seq
  (.region [⟨(some 4), .mv (.c .nils), none⟩])
  (.seq
   (.region [⟨(some 5), .mv (.c .nils), none⟩])
   (.seq
    (.region [⟨(some 10), .mv (.t 1), none⟩,
     ⟨(some 11), .call (.c (.fn 16 [] [])) [(.t 10)], none⟩,
     ⟨(some 6), .mv (.t 11), none⟩])
    (.seq
     (.seq
      (.region [⟨(some 7), .mv (.c (.int .i64 0)), none⟩])
      (.block 0
       (.loop
        (.seq
         (.seq
          (.region [⟨(some 12), .mv (.t 0), none⟩,
           ⟨(some 13), .bin (some .ptr) none .neq (.t 12) (.c .nilp), none⟩,
           ⟨(some 14), .mv (.t 13), none⟩,
           ⟨(some 15), .mv (.t 7), (some (14, true))⟩,
           ⟨(some 16), .mv (.t 6), (some (14, true))⟩,
           ⟨(some 17), .len .sl (.t 16), (some (14, true))⟩,
           ⟨(some 18), .bin (some .other) none .lss (.t 15) (.t 17), (some (14, true))⟩,
           ⟨(some 19), .pick (.t 14) (.t 18) (.c (.bool false)), none⟩])
          (.cond (.t 19)
           .skip
           (.exit 0)))
         (.block 1
          (.seq
           (.region [⟨(some 21), .mv (.t 0), none⟩,
            ⟨(some 22), .mv (.t 6), none⟩,
            ⟨(some 23), .mv (.t 7), none⟩,
            ⟨(some 24), .call (.c (.fn 17 [] [])) [(.t 21), (.t 22), (.t 23)], none⟩,
            ⟨(some 20), .mv (.t 24), none⟩,
            ⟨(some 25), .extract 0 (.t 20), none⟩,
            ⟨(some 26), .extract 1 (.t 20), none⟩,
            ⟨(some 8), .alloc [(.int .i64 0), (.int .i64 0), (.int .i64 0), (.int .i64 0)], none⟩,
            ⟨none, .store 4 (.t 8) (.t 25), none⟩,
            ⟨(some 9), .mv (.t 26), none⟩])
           (.region [⟨(some 27), .mv (.t 5), none⟩,
            ⟨(some 28), .load true 4 (.t 8), none⟩,
            ⟨(some 29), .lit false 4 1 [(.int .i64 0), (.int .i64 0), (.int .i64 0), (.int .i64 0)] [(0, 4, (.t 28))], none⟩,
            ⟨(some 30), .append 4 32 [(.int .i64 0), (.int .i64 0), (.int .i64 0), (.int .i64 0)] false (.t 27) (.t 29), none⟩,
            ⟨(some 31), .mv (.t 7), none⟩,
            ⟨(some 32), .mv (.t 9), none⟩,
            ⟨(some 33), .bin (some .other) none .add (.t 31) (.t 32), none⟩,
            ⟨(some 5), .mv (.t 30), none⟩,
            ⟨(some 7), .mv (.t 33), none⟩])))))))
     (.seq
      (.region [⟨(some 34), .mv (.t 5), none⟩,
       ⟨(some 4), .mv (.t 34), none⟩])
      .ret))))),
 none⟩
/-- gobo/gobolaw10.told -/
def Lx.c8 : RFunc := ⟨[.tmp 0],
 some
 (.seq
  (.region [⟨(some 0), .mv (.c (.bool false)), none⟩])
  (.seq
   (.region [⟨(some 13), .call (.c (.fn 5 [] [])) [(.c (.int .i32 97))], none⟩,
    ⟨(some 1), .alloc [(.int .i64 0), .nils, .nils], none⟩,
    ⟨none, .store 3 (.t 1) (.t 13), none⟩])
   (.seq
    (.drawn [(⟨(some 14), .load true 3 (.t 1), none⟩, []),
     (⟨(some 15), .load true 3 (.t 1), none⟩, []),
     (⟨(some 16), .load true 3 (.t 1), none⟩, []),
     (⟨(some 17), .call (.c (.fn 5 [] [])) [(.c (.int .i32 98))], none⟩, [⟨(some 14), .load true 3 (.t 1), none⟩, ⟨(some 15), .load true 3 (.t 1), none⟩, ⟨(some 16), .load true 3 (.t 1), none⟩]),
     (⟨(some 18), .lit true 3 2 [(.int .i64 0), .nils, .nils, (.int .i64 0), .nils, .nils] [(0, 3, (.t 16)), (3, 3, (.t 17))], none⟩, []),
     (⟨(some 19), .build [(.int .i64 0), .nils, .nils] [(0, 1, (.c (.int .i64 3))), (2, 1, (.t 18))], none⟩, []),
     (⟨(some 20), .lit true 3 2 [(.int .i64 0), .nils, .nils, (.int .i64 0), .nils, .nils] [(0, 3, (.t 15)), (3, 3, (.t 19))], none⟩, []),
     (⟨(some 21), .build [(.int .i64 0), .nils, .nils] [(0, 1, (.c (.int .i64 3))), (2, 1, (.t 20))], none⟩, []),
     (⟨(some 22), .lit true 3 2 [(.int .i64 0), .nils, .nils, (.int .i64 0), .nils, .nils] [(0, 3, (.t 14)), (3, 3, (.t 21))], none⟩, []),
     (⟨(some 2), .mv (.t 22), none⟩, [])])
    (.seq
     (.region [⟨(some 24), .mv (.t 2), none⟩,
      ⟨(some 25), .call (.c (.fn 6 [] [])) [(.t 24), (.c (.int .i64 50))], none⟩,
      ⟨(some 23), .mv (.t 25), none⟩,
      ⟨(some 26), .extract 0 (.t 23), none⟩,
      ⟨(some 27), .extract 1 (.t 23), none⟩,
      ⟨(some 3), .mv (.t 26), none⟩,
      ⟨(some 4), .mv (.t 27), none⟩])
     (.seq
      (.region [⟨(some 29), .build [(.int .i64 0), .nils, .nils] [(0, 1, (.c (.int .i64 1)))], none⟩,
       ⟨(some 30), .lit false 3 1 [(.int .i64 0), .nils, .nils] [(0, 3, (.t 29))], none⟩,
       ⟨(some 31), .call (.c (.fn 6 [] [])) [(.t 30), (.c (.int .i64 50))], none⟩,
       ⟨(some 28), .mv (.t 31), none⟩,
       ⟨(some 32), .extract 0 (.t 28), none⟩,
       ⟨(some 33), .extract 1 (.t 28), none⟩,
       ⟨(some 5), .mv (.t 32), none⟩,
       ⟨(some 6), .mv (.t 33), none⟩])
      (.seq
       (.region [⟨(some 34), .mv (.t 3), none⟩,
        ⟨(some 35), .lit false 1 3 [(.int .u8 0), (.int .u8 0), (.int .u8 0)] [(0, 1, (.c (.int .u8 97))), (1, 1, (.c (.int .u8 97))), (2, 1, (.c (.int .u8 99)))], none⟩,
        ⟨(some 36), .conv (.bytes true) (.t 35), none⟩,
        ⟨(some 37), .call (.c (.fn 7 [] [])) [(.t 34), (.t 36)], none⟩,
        ⟨(some 7), .mv (.t 37), none⟩])
       (.seq
        (.region [⟨(some 38), .lit false 1 3 [(.int .u8 0), (.int .u8 0), (.int .u8 0)] [(0, 1, (.c (.int .u8 97))), (1, 1, (.c (.int .u8 97))), (2, 1, (.c (.int .u8 99)))], none⟩,
         ⟨(some 39), .conv (.bytes true) (.t 38), none⟩,
         ⟨(some 40), .call (.c (.fn 16 [] [])) [(.t 39)], none⟩,
         ⟨(some 8), .mv (.t 40), none⟩])
        (.seq
         (.region [⟨(some 42), .mv (.t 2), none⟩,
          ⟨(some 43), .mv (.t 8), none⟩,
          ⟨(some 44), .call (.c (.fn 18 [] [])) [(.t 42), (.t 43), (.c (.int .i64 0))], none⟩,
          ⟨(some 41), .mv (.t 44), none⟩,
          ⟨(some 45), .extract 0 (.t 41), none⟩,
          ⟨(some 46), .extract 1 (.t 41), none⟩,
          ⟨(some 9), .alloc [(.int .i64 0), (.int .i64 0), (.int .i64 0), (.int .i64 0)], none⟩,
          ⟨none, .store 4 (.t 9) (.t 45), none⟩,
          ⟨(some 10), .mv (.t 46), none⟩])
         (.seq
          (.region [⟨(some 48), .mv (.t 8), none⟩,
           ⟨(some 49), .call (.c (.fn 17 [] [])) [(.c .nilp), (.t 48), (.c (.int .i64 0))], none⟩,
           ⟨(some 47), .mv (.t 49), none⟩,
           ⟨(some 50), .extract 0 (.t 47), none⟩,
           ⟨(some 51), .extract 1 (.t 47), none⟩,
           ⟨(some 11), .alloc [(.int .i64 0), (.int .i64 0), (.int .i64 0), (.int .i64 0)], none⟩,
           ⟨none, .store 4 (.t 11) (.t 50), none⟩,
           ⟨(some 12), .mv (.t 51), none⟩])
          (.seq
           (.drawn [(⟨(some 52), .mv (.t 4), none⟩, []),
            (⟨(some 53), .bin (some .other) none .eql (.t 52) (.c (.int .i64 0)), none⟩, []),
            (⟨(some 54), .mv (.t 53), none⟩, []),
            (⟨(some 55), .mv (.t 6), (some (54, true))⟩, []),
            (⟨(some 56), .bin (some .other) none .eql (.t 55) (.c (.int .i64 11)), (some (54, true))⟩, []),
            (⟨(some 57), .pick (.t 54) (.t 56) (.c (.bool false)), none⟩, []),
            (⟨(some 58), .mv (.t 57), none⟩, []),
            (⟨(some 59), .mv (.t 7), (some (58, true))⟩, []),
            (⟨(some 60), .len .sl (.t 59), (some (58, true))⟩, []),
            (⟨(some 61), .bin (some .other) none .eql (.t 60) (.c (.int .i64 3)), (some (58, true))⟩, []),
            (⟨(some 62), .pick (.t 58) (.t 61) (.c (.bool false)), none⟩, []),
            (⟨(some 63), .mv (.t 62), none⟩, []),
            (⟨(some 64), .mv (.t 7), (some (63, true))⟩, []),
            (⟨(some 65), .iaddrS 4 (.t 64) (.c (.int .i64 0)), (some (63, true))⟩, []),
            (⟨(some 66), .load true 4 (.t 65), (some (63, true))⟩, []),
            (⟨(some 67), .build [(.int .i64 0), (.int .i64 0), (.int .i64 0), (.int .i64 0)] [(0, 1, (.c (.int .i64 0))), (2, 1, (.c (.int .i64 1))), (3, 1, (.c (.int .i64 3)))], (some (63, true))⟩, []),
            (⟨(some 68), .bin (some .other) (some [.int, .int, .int, .int]) .eql (.t 66) (.t 67), (some (63, true))⟩, []),
            (⟨(some 69), .pick (.t 63) (.t 68) (.c (.bool false)), none⟩, []),
            (⟨(some 70), .mv (.t 69), none⟩, []),
            (⟨(some 71), .mv (.t 7), (some (70, true))⟩, []),
            (⟨(some 72), .iaddrS 4 (.t 71) (.c (.int .i64 1)), (some (70, true))⟩, []),
            (⟨(some 73), .load true 4 (.t 72), (some (70, true))⟩, []),
            (⟨(some 74), .build [(.int .i64 0), (.int .i64 0), (.int .i64 0), (.int .i64 0)] [(0, 1, (.c (.int .i64 0))), (1, 1, (.c (.int .i64 1))), (2, 1, (.c (.int .i64 2))), (3, 1, (.c (.int .i64 3)))], (some (70, true))⟩, []),
            (⟨(some 75), .bin (some .other) (some [.int, .int, .int, .int]) .eql (.t 73) (.t 74), (some (70, true))⟩, []),
            (⟨(some 76), .pick (.t 70) (.t 75) (.c (.bool false)), none⟩, []),
            (⟨(some 77), .mv (.t 76), none⟩, []),
            (⟨(some 78), .mv (.t 7), (some (77, true))⟩, []),
            (⟨(some 79), .iaddrS 4 (.t 78) (.c (.int .i64 2)), (some (77, true))⟩, []),
            (⟨(some 80), .load true 4 (.t 79), (some (77, true))⟩, []),
            (⟨(some 81), .build [(.int .i64 0), (.int .i64 0), (.int .i64 0), (.int .i64 0)] [(0, 1, (.c (.int .i64 (.negSucc 0)))), (1, 1, (.c (.int .i64 2))), (2, 1, (.c (.int .i64 3))), (3, 1, (.c (.int .i64 3)))], (some (77, true))⟩, []),
            (⟨(some 82), .bin (some .other) (some [.int, .int, .int, .int]) .eql (.t 80) (.t 81), (some (77, true))⟩, []),
            (⟨(some 83), .pick (.t 77) (.t 82) (.c (.bool false)), none⟩, []),
            (⟨(some 84), .mv (.t 83), none⟩, []),
            (⟨(some 85), .load true 4 (.t 9), (some (84, true))⟩, []),
            (⟨(some 86), .mv (.t 7), (some (84, true))⟩, []),
            (⟨(some 87), .iaddrS 4 (.t 86) (.c (.int .i64 0)), (some (84, true))⟩, []),
            (⟨(some 88), .load true 4 (.t 87), (some (84, true))⟩, []),
            (⟨(some 89), .bin (some .other) (some [.int, .int, .int, .int]) .eql (.t 85) (.t 88), (some (84, true))⟩, []),
            (⟨(some 90), .pick (.t 84) (.t 89) (.c (.bool false)), none⟩, []),
            (⟨(some 91), .mv (.t 90), none⟩, []),
            (⟨(some 92), .mv (.t 10), (some (91, true))⟩, []),
            (⟨(some 93), .bin (some .other) none .eql (.t 92) (.c (.int .i64 1)), (some (91, true))⟩, []),
            (⟨(some 94), .pick (.t 91) (.t 93) (.c (.bool false)), none⟩, []),
            (⟨(some 95), .mv (.t 94), none⟩, []),
            (⟨(some 96), .load true 4 (.t 11), (some (95, true))⟩, []),
            (⟨(some 97), .build [(.int .i64 0), (.int .i64 0), (.int .i64 0), (.int .i64 0)] [], (some (95, true))⟩, []),
            (⟨(some 98), .bin (some .other) (some [.int, .int, .int, .int]) .eql (.t 96) (.t 97), (some (95, true))⟩, []),
            (⟨(some 99), .pick (.t 95) (.t 98) (.c (.bool false)), none⟩, []),
            (⟨(some 100), .mv (.t 99), none⟩, []),
            (⟨(some 101), .mv (.t 12), (some (100, true))⟩, []),
            (⟨(some 102), .bin (some .other) none .eql (.t 101) (.c (.int .i64 0)), (some (100, true))⟩, []),
            (⟨(some 103), .pick (.t 100) (.t 102) (.c (.bool false)), none⟩, []),
            (⟨(some 104), .mv (.t 103), none⟩, []),
            (⟨(some 105), .mv (.t 3), (some (104, true))⟩, []),
            (⟨(some 106), .mv (.t 8), (some (104, true))⟩, []),
            (⟨(some 107), .call (.c (.fn 19 [] [])) [(.t 105), (.t 106), (.c (.int .i64 0))], (some (104, true))⟩, []),
            (⟨(some 108), .pick (.t 104) (.t 107) (.c (.bool false)), none⟩, []),
            (⟨(some 109), .mv (.t 108), none⟩, []),
            (⟨(some 110), .mv (.t 3), (some (109, true))⟩, []),
            (⟨(some 111), .mv (.t 8), (some (109, true))⟩, []),
            (⟨(some 112), .slice (.sl 5) (.t 111) none (some (.c (.int .i64 2))) none, (some (109, true))⟩, []),
            (⟨(some 113), .call (.c (.fn 19 [] [])) [(.t 110), (.t 112), (.c (.int .i64 0))], (some (109, true))⟩, []),
            (⟨(some 114), .un .not (.t 113), (some (109, true))⟩, []),
            (⟨(some 115), .pick (.t 109) (.t 114) (.c (.bool false)), none⟩, []),
            (⟨(some 0), .mv (.t 115), none⟩, [])])
           .ret)))))))))),
 none⟩
/-- gobo/lexer.caught -/
def Lx.c9 : RFunc := ⟨[.cell 2 false 1],
 some
 (.seq
  (.region [⟨(some 2), .alloc [(.int .i64 0)], none⟩])
  (.seq
   (.region [⟨(some 3), .mkfn 20 [] [(.t 2)], none⟩,
    ⟨none, .defer (.t 3) [], none⟩])
   (.seq
    (.region [⟨(some 4), .mv (.t 0), none⟩,
     ⟨(some 5), .call (.t 4) [], none⟩])
    (.seq
     (.region [⟨none, .store 1 (.t 2) (.c (.int .i64 0)), none⟩])
     .ret)))),
 none⟩
/-- gobo/lexer.Build$1 -/
def Lx.c10 : RFunc := ⟨[],
 some
 (.seq
  (.region [⟨(some 7), .load false 1 (.t 0), none⟩,
   ⟨(some 8), .call (.c (.fn 11 [] [])) [(.t 7)], none⟩,
   ⟨(some 6), .mv (.t 8), none⟩,
   ⟨(some 9), .extract 0 (.t 6), none⟩,
   ⟨(some 10), .extract 1 (.t 6), none⟩,
   ⟨(some 3), .mv (.t 9), none⟩,
   ⟨(some 4), .mv (.t 10), none⟩])
  (.seq
   (.region [⟨(some 11), .mv (.t 4), none⟩,
    ⟨(some 12), .bin (some .other) none .eql (.t 11) (.c (.int .i64 0)), none⟩,
    ⟨(some 13), .mv (.t 4), none⟩,
    ⟨(some 14), .call (.c (.fn 12 [] [])) [(.t 12), (.t 13)], none⟩])
   (.seq
    (.region [⟨(some 16), .mv (.t 3), none⟩,
     ⟨(some 17), .load false 1 (.t 1), none⟩,
     ⟨(some 18), .call (.c (.fn 13 [] [])) [(.t 16), (.t 17)], none⟩,
     ⟨(some 15), .mv (.t 18), none⟩,
     ⟨(some 19), .extract 0 (.t 15), none⟩,
     ⟨(some 20), .extract 1 (.t 15), none⟩,
     ⟨(some 5), .mv (.t 19), none⟩,
     ⟨(some 4), .mv (.t 20), none⟩])
    (.seq
     (.region [⟨(some 21), .mv (.t 4), none⟩,
      ⟨(some 22), .bin (some .other) none .eql (.t 21) (.c (.int .i64 0)), none⟩,
      ⟨(some 23), .mv (.t 4), none⟩,
      ⟨(some 24), .call (.c (.fn 12 [] [])) [(.t 22), (.t 23)], none⟩])
     (.seq
      (.region [⟨(some 25), .load false 1 (.t 0), none⟩,
       ⟨(some 26), .call (.c (.fn 14 [] [])) [(.t 25)], none⟩,
       ⟨(some 27), .un .not (.t 26), none⟩,
       ⟨(some 28), .call (.c (.fn 12 [] [])) [(.t 27), (.c (.int .i64 11))], none⟩])
      (.region [⟨(some 29), .mv (.t 5), none⟩,
       ⟨(some 30), .call (.c (.fn 15 [] [])) [(.t 29)], none⟩,
       ⟨none, .store 1 (.t 2) (.t 30), none⟩])))))),
 none⟩
/-- gobo/nfa.Build -/
def Lx.c11 : RFunc := ⟨[.tmp 2, .tmp 3],
 some
 (.seq
  (.region [⟨(some 2), .mv (.c .nilp), none⟩,
   ⟨(some 3), .mv (.c (.int .i64 0)), none⟩])
  (.seq
   (.seq
    (.region [⟨(some 12), .mv (.t 0), none⟩,
     ⟨(some 13), .len .sl (.t 12), none⟩,
     ⟨(some 14), .bin (some .other) none .lss (.t 13) (.c (.int .i64 1)), none⟩,
     ⟨(some 15), .mv (.t 14), none⟩,
     ⟨(some 16), .mv (.t 0), (some (15, false))⟩,
     ⟨(some 17), .len .sl (.t 16), (some (15, false))⟩,
     ⟨(some 18), .bin (some .other) none .gtr (.t 17) (.c (.int .i64 16)), (some (15, false))⟩,
     ⟨(some 19), .pick (.t 15) (.c (.bool true)) (.t 18), none⟩,
     ⟨(some 20), .mv (.t 19), none⟩,
     ⟨(some 21), .mv (.t 0), (some (20, false))⟩,
     ⟨(some 22), .call (.c (.fn 21 [] [])) [(.t 21), (.c (.fn 22 [] []))], (some (20, false))⟩,
     ⟨(some 23), .pick (.t 20) (.c (.bool true)) (.t 22), none⟩])
    (.cond (.t 23)
     (.seq
      (.region [⟨(some 2), .mv (.c .nilp), none⟩,
       ⟨(some 3), .mv (.c (.int .i64 1)), none⟩])
      .ret)
     .skip))
   (.seq
    (.region [⟨(some 24), .lit false 1 1 [.nils] [(0, 1, (.c .nils))], none⟩,
     ⟨(some 25), .lit false 1 1 [.nils] [(0, 1, (.c .nils))], none⟩,
     ⟨(some 26), .lit false 1 1 [.nils] [(0, 1, (.c .nils))], none⟩,
     ⟨(some 27), .build [.nils, .nils, .nils, .nils] [(0, 1, (.t 24)), (1, 1, (.t 25)), (2, 1, (.t 26))], none⟩,
     ⟨(some 28), .box (.t 27), none⟩,
     ⟨(some 4), .alloc [.nilp], none⟩,
     ⟨none, .store 1 (.t 4) (.t 28), none⟩])
    (.seq
     (.region [⟨(some 29), .mkfn 24 [] [(.t 4)], none⟩,
      ⟨(some 5), .alloc [.nilf], none⟩,
      ⟨none, .store 1 (.t 5) (.t 29), none⟩])
     (.seq
      (.region [⟨(some 6), .alloc [.nilf], none⟩])
      (.seq
       (.region [⟨(some 30), .mkfn 26 [] [(.t 6), (.t 4), (.t 5)], none⟩,
        ⟨none, .store 1 (.t 6) (.t 30), none⟩])
       (.seq
        (.seq
         (.region [⟨(some 31), .mv (.t 0), none⟩,
          ⟨(some 32), .len .sl (.t 31), none⟩,
          ⟨(some 33), .mv (.c (.int .i64 0)), none⟩])
         (.block 0
          (.loop
           (.seq
            (.region [⟨(some 34), .bin (some .other) none .lss (.t 33) (.t 32), none⟩])
            (.seq
             (.cond (.t 34)
              .skip
              (.exit 0))
             (.seq
              (.block 1
               (.seq
                (.region [⟨(some 35), .mv (.t 33), none⟩,
                 ⟨(some 36), .iaddrS 3 (.t 31) (.t 33), none⟩,
                 ⟨(some 37), .load true 3 (.t 36), none⟩,
                 ⟨(some 8), .alloc [(.int .i64 0), .nils, .nils], none⟩,
                 ⟨(some 7), .mv (.t 35), none⟩,
                 ⟨none, .store 3 (.t 8) (.t 37), none⟩])
                (.seq
                 (.region [⟨(some 38), .load false 1 (.t 6), none⟩,
                  ⟨(some 39), .load true 3 (.t 8), none⟩,
                  ⟨(some 40), .call (.t 38) [(.t 39)], none⟩,
                  ⟨(some 9), .alloc [.nils, .nils, (.bool false)], none⟩,
                  ⟨none, .store 3 (.t 9) (.t 40), none⟩])
                 (.seq
                  (.drawn [(⟨(some 41), .load false 1 (.t 4), none⟩, []),
                   (⟨(some 42), .nilc (.t 41), none⟩, []),
                   (⟨(some 43), .faddr 1 (.t 42), none⟩, []),
                   (⟨(some 44), .load false 1 (.t 43), none⟩, []),
                   (⟨(some 45), .load false 1 (.t 4), none⟩, []),
                   (⟨(some 46), .nilc (.t 45), none⟩, []),
                   (⟨(some 47), .faddr 1 (.t 46), none⟩, []),
                   (⟨(some 48), .load false 1 (.t 47), none⟩, []),
                   (⟨(some 49), .iaddrS 1 (.t 48) (.c (.int .i64 0)), none⟩, []),
                   (⟨(some 50), .load false 1 (.t 49), none⟩, []),
                   (⟨(some 51), .faddr 0 (.t 9), none⟩, []),
                   (⟨(some 52), .load false 1 (.t 51), none⟩, []),
                   (⟨(some 53), .call (.c (.fn 25 [] [])) [(.t 50), (.t 52)], none⟩, [⟨(some 41), .load false 1 (.t 4), none⟩, ⟨(some 44), .load false 1 (.t 43), none⟩]),
                   (⟨(some 54), .iaddrS 1 (.t 44) (.c (.int .i64 0)), none⟩, []),
                   (⟨none, .store 1 (.t 54) (.t 53), none⟩, [])])
                  (.seq
                   (.seq
                    (.region [⟨(some 55), .faddr 1 (.t 9), none⟩,
                     ⟨(some 56), .load false 1 (.t 55), none⟩,
                     ⟨(some 57), .len .sl (.t 56), none⟩,
                     ⟨(some 58), .mv (.c (.int .i64 0)), none⟩])
                    (.block 2
                     (.loop
                      (.seq
                       (.region [⟨(some 59), .bin (some .other) none .lss (.t 58) (.t 57), none⟩])
                       (.seq
                        (.cond (.t 59)
                         .skip
                         (.exit 2))
                        (.seq
                         (.block 3
                          (.seq
                           (.region [⟨(some 60), .iaddrS 1 (.t 56) (.t 58), none⟩,
                            ⟨(some 61), .load false 1 (.t 60), none⟩,
                            ⟨(some 11), .mv (.t 61), none⟩])
                           (.drawn [(⟨(some 62), .load false 1 (.t 4), none⟩, []),
                            (⟨(some 63), .nilc (.t 62), none⟩, []),
                            (⟨(some 64), .faddr 2 (.t 63), none⟩, []),
                            (⟨(some 65), .load false 1 (.t 64), none⟩, []),
                            (⟨(some 66), .mv (.t 11), none⟩, []),
                            (⟨(some 67), .load false 1 (.t 4), none⟩, []),
                            (⟨(some 68), .nilc (.t 67), none⟩, []),
                            (⟨(some 69), .faddr 2 (.t 68), none⟩, []),
                            (⟨(some 70), .load false 1 (.t 69), none⟩, []),
                            (⟨(some 71), .mv (.t 11), none⟩, []),
                            (⟨(some 72), .iaddrS 1 (.t 70) (.t 71), none⟩, []),
                            (⟨(some 73), .load false 1 (.t 72), none⟩, []),
                            (⟨(some 74), .mv (.t 7), none⟩, []),
                            (⟨(some 75), .lit true 1 1 [(.int .i64 0)] [(0, 1, (.t 74))], none⟩, []),
                            (⟨(some 76), .append 1 8 [(.int .i64 0)] false (.t 73) (.t 75), none⟩, [⟨(some 62), .load false 1 (.t 4), none⟩, ⟨(some 65), .load false 1 (.t 64), none⟩]),
                            (⟨(some 77), .iaddrS 1 (.t 65) (.t 66), none⟩, []),
                            (⟨none, .store 1 (.t 77) (.t 76), none⟩, [])])))
                         (.region [⟨(some 78), .bin (some .other) none .add (.t 58) (.c (.int .i64 1)), none⟩,
                          ⟨(some 58), .mv (.t 78), none⟩])))))))
                   (.seq
                    (.region [⟨(some 79), .faddr 2 (.t 9), none⟩,
                     ⟨(some 80), .load false 1 (.t 79), none⟩])
                    (.cond (.t 80)
                     (.drawn [(⟨(some 81), .load false 1 (.t 4), none⟩, []),
                      (⟨(some 82), .load false 1 (.t 4), none⟩, []),
                      (⟨(some 83), .nilc (.t 82), none⟩, []),
                      (⟨(some 84), .faddr 3 (.t 83), none⟩, []),
                      (⟨(some 85), .load false 1 (.t 84), none⟩, []),
                      (⟨(some 86), .mv (.t 7), none⟩, []),
                      (⟨(some 87), .lit true 1 1 [(.int .i64 0)] [(0, 1, (.t 86))], none⟩, []),
                      (⟨(some 88), .append 1 8 [(.int .i64 0)] false (.t 85) (.t 87), none⟩, [⟨(some 81), .load false 1 (.t 4), none⟩]),
                      (⟨(some 89), .nilc (.t 81), none⟩, []),
                      (⟨(some 90), .faddr 3 (.t 89), none⟩, []),
                      (⟨none, .store 1 (.t 90) (.t 88), none⟩, [])])
                     .skip)))))))
              (.region [⟨(some 91), .bin (some .other) none .add (.t 33) (.c (.int .i64 1)), none⟩,
               ⟨(some 33), .mv (.t 91), none⟩])))))))
        (.seq
         (.region [⟨(some 92), .load false 1 (.t 4), none⟩,
          ⟨(some 2), .mv (.t 92), none⟩,
          ⟨(some 3), .mv (.c (.int .i64 0)), none⟩])
         .ret)))))))),
 none⟩
/-- gobo/lexer.must -/
def Lx.c12 : RFunc := ⟨[],
 some
 (.seq
  (.region [⟨(some 4), .mv (.t 0), none⟩,
   ⟨(some 5), .un .not (.t 4), none⟩])
  (.cond (.t 5)
   (.region [⟨(some 6), .mv (.t 1), none⟩,
    ⟨(some 7), .build [(.int .i64 0)] [(0, 1, (.t 6))], none⟩,
    ⟨(some 8), .iface 58 (.t 7), none⟩,
    ⟨none, .panic (.t 8), none⟩])
   .skip)),
 none⟩
/-- gobo/dfa.Build -/
def Lx.c13 : RFunc := ⟨[.tmp 4, .tmp 5],
 some
 (.seq
  (.region [⟨(some 4), .mv (.c .nilp), none⟩,
   ⟨(some 5), .mv (.c (.int .i64 0)), none⟩])
  (.seq
   (.seq
    (.region [⟨(some 18), .mv (.t 0), none⟩,
     ⟨(some 19), .bin (some .ptr) none .eql (.t 18) (.c .nilp), none⟩,
     ⟨(some 20), .mv (.t 19), none⟩,
     ⟨(some 21), .mv (.t 1), (some (20, false))⟩,
     ⟨(some 22), .bin (some .other) none .lss (.t 21) (.c (.int .i64 1)), (some (20, false))⟩,
     ⟨(some 23), .pick (.t 20) (.c (.bool true)) (.t 22), none⟩,
     ⟨(some 24), .mv (.t 23), none⟩,
     ⟨(some 25), .mv (.t 1), (some (24, false))⟩,
     ⟨(some 26), .bin (some .other) none .gtr (.t 25) (.c (.int .i64 400)), (some (24, false))⟩,
     ⟨(some 27), .pick (.t 24) (.c (.bool true)) (.t 26), none⟩])
    (.cond (.t 27)
     (.seq
      (.region [⟨(some 4), .mv (.c .nilp), none⟩,
       ⟨(some 5), .mv (.c (.int .i64 1)), none⟩])
      .ret)
     .skip))
   (.seq
    (.region [⟨(some 28), .mv (.t 0), none⟩,
     ⟨(some 29), .call (.c (.fn 27 [] [])) [(.t 28)], none⟩,
     ⟨(some 30), .build [.nils, .nils, .nils] [(0, 1, (.t 29))], none⟩,
     ⟨(some 31), .box (.t 30), none⟩,
     ⟨(some 6), .mv (.t 31), none⟩])
    (.seq
     (.region [⟨(some 32), .lit false 1 1 [(.int .i64 0)] [(0, 1, (.c (.int .i64 0)))], none⟩,
      ⟨(some 33), .lit false 1 1 [.nils] [(0, 1, (.t 32))], none⟩,
      ⟨(some 7), .mv (.t 33), none⟩])
     (.seq
      (.region [⟨(some 34), .mkmap none, none⟩,
       ⟨(some 35), .mv (.t 7), none⟩,
       ⟨(some 36), .iaddrS 1 (.t 35) (.c (.int .i64 0)), none⟩,
       ⟨(some 37), .load false 1 (.t 36), none⟩,
       ⟨(some 38), .call (.c (.fn 28 [] [])) [(.t 37)], none⟩,
       ⟨none, .mapupd .str (.t 34) (.t 38) (.c (.int .i64 0)), none⟩,
       ⟨(some 39), .mv (.t 34), none⟩,
       ⟨(some 8), .mv (.t 39), none⟩])
      (.seq
       (.seq
        (.region [⟨(some 9), .mv (.c (.int .i64 0)), none⟩])
        (.block 0
         (.loop
          (.seq
           (.seq
            (.region [⟨(some 40), .mv (.t 9), none⟩,
             ⟨(some 41), .mv (.t 7), none⟩,
             ⟨(some 42), .len .sl (.t 41), none⟩,
             ⟨(some 43), .bin (some .other) none .lss (.t 40) (.t 42), none⟩])
            (.cond (.t 43)
             .skip
             (.exit 0)))
           (.seq
            (.block 1
             (.seq
              (.region [⟨(some 46), .mv (.t 6), none⟩,
               ⟨(some 47), .nilc (.t 46), none⟩,
               ⟨(some 48), .faddr 0 (.t 47), none⟩,
               ⟨(some 49), .load false 1 (.t 48), none⟩,
               ⟨(some 50), .len .sl (.t 49), none⟩,
               ⟨(some 51), .mkslice 1 [(.int .i64 0)] 8 (.t 50) (.t 50), none⟩,
               ⟨(some 10), .mv (.t 51), none⟩])
              (.seq
               (.seq
                (.region [⟨(some 52), .mv (.t 6), none⟩,
                 ⟨(some 53), .nilc (.t 52), none⟩,
                 ⟨(some 54), .faddr 0 (.t 53), none⟩,
                 ⟨(some 55), .load false 1 (.t 54), none⟩,
                 ⟨(some 56), .len .sl (.t 55), none⟩,
                 ⟨(some 57), .mv (.c (.int .i64 0)), none⟩])
                (.block 2
                 (.loop
                  (.seq
                   (.region [⟨(some 58), .bin (some .other) none .lss (.t 57) (.t 56), none⟩])
                   (.seq
                    (.cond (.t 58)
                     .skip
                     (.exit 2))
                    (.seq
                     (.block 3
                      (.seq
                       (.region [⟨(some 59), .mv (.t 57), none⟩,
                        ⟨(some 60), .iaddrS 2 (.t 55) (.t 57), none⟩,
                        ⟨(some 61), .load true 2 (.t 60), none⟩,
                        ⟨(some 12), .alloc [(.int .i32 0), (.int .i32 0)], none⟩,
                        ⟨(some 11), .mv (.t 59), none⟩,
                        ⟨none, .store 2 (.t 12) (.t 61), none⟩])
                       (.seq
                        (.drawn [(⟨(some 62), .mv (.t 0), none⟩, []),
                         (⟨(some 63), .mv (.t 7), none⟩, []),
                         (⟨(some 64), .mv (.t 9), none⟩, []),
                         (⟨(some 65), .iaddrS 1 (.t 63) (.t 64), none⟩, []),
                         (⟨(some 66), .load false 1 (.t 65), none⟩, []),
                         (⟨(some 67), .faddr 0 (.t 12), none⟩, []),
                         (⟨(some 68), .load false 1 (.t 67), none⟩, []),
                         (⟨(some 69), .call (.c (.fn 29 [] [])) [(.t 62), (.t 66), (.t 68)], none⟩, []),
                         (⟨(some 13), .mv (.t 69), none⟩, [])])
                        (.seq
                         (.seq
                          (.region [⟨(some 70), .mv (.t 10), none⟩,
                           ⟨(some 71), .mv (.t 11), none⟩,
                           ⟨(some 72), .iaddrS 1 (.t 70) (.t 71), none⟩,
                           ⟨none, .store 1 (.t 72) (.c (.int .i64 (.negSucc 0))), none⟩])
                          (.seq
                           (.region [⟨(some 73), .mv (.t 13), none⟩,
                            ⟨(some 74), .len .sl (.t 73), none⟩,
                            ⟨(some 75), .bin (some .other) none .eql (.t 74) (.c (.int .i64 0)), none⟩])
                           (.cond (.t 75)
                            (.exit 3)
                            .skip)))
                         (.seq
                          (.region [⟨(some 77), .mv (.t 8), none⟩,
                           ⟨(some 78), .mv (.t 13), none⟩,
                           ⟨(some 79), .call (.c (.fn 28 [] [])) [(.t 78)], none⟩,
                           ⟨(some 80), .lookup .str (.int .i64 0) (.t 77) (.t 79) true, none⟩,
                           ⟨(some 76), .mv (.t 80), none⟩,
                           ⟨(some 81), .extract 0 (.t 76), none⟩,
                           ⟨(some 82), .extract 1 (.t 76), none⟩,
                           ⟨(some 14), .mv (.t 81), none⟩,
                           ⟨(some 15), .mv (.t 82), none⟩])
                          (.seq
                           (.seq
                            (.region [⟨(some 83), .mv (.t 15), none⟩,
                             ⟨(some 84), .un .not (.t 83), none⟩])
                            (.cond (.t 84)
                             (.seq
                              (.region [⟨(some 85), .mv (.t 7), none⟩,
                               ⟨(some 86), .len .sl (.t 85), none⟩,
                               ⟨(some 14), .mv (.t 86), none⟩])
                              (.seq
                               (.region [⟨(some 87), .mv (.t 8), none⟩,
                                ⟨(some 88), .mv (.t 13), none⟩,
                                ⟨(some 89), .call (.c (.fn 28 [] [])) [(.t 88)], none⟩,
                                ⟨(some 90), .mv (.t 14), none⟩,
                                ⟨none, .mapupd .str (.t 87) (.t 89) (.t 90), none⟩])
                               (.seq
                                (.region [⟨(some 91), .mv (.t 7), none⟩,
                                 ⟨(some 92), .mv (.t 13), none⟩,
                                 ⟨(some 93), .lit false 1 1 [.nils] [(0, 1, (.t 92))], none⟩,
                                 ⟨(some 94), .append 1 24 [.nils] false (.t 91) (.t 93), none⟩,
                                 ⟨(some 7), .mv (.t 94), none⟩])
                                (.seq
                                 (.region [⟨(some 95), .mv (.t 7), none⟩,
                                  ⟨(some 96), .len .sl (.t 95), none⟩,
                                  ⟨(some 97), .mv (.t 1), none⟩,
                                  ⟨(some 98), .bin (some .other) none .gtr (.t 96) (.t 97), none⟩])
                                 (.cond (.t 98)
                                  (.seq
                                   (.region [⟨(some 4), .mv (.c .nilp), none⟩,
                                    ⟨(some 5), .mv (.c (.int .i64 8)), none⟩])
                                   .ret)
                                  .skip)))))
                             .skip))
                           (.region [⟨(some 99), .mv (.t 10), none⟩,
                            ⟨(some 100), .mv (.t 11), none⟩,
                            ⟨(some 101), .mv (.t 14), none⟩,
                            ⟨(some 102), .iaddrS 1 (.t 99) (.t 100), none⟩,
                            ⟨none, .store 1 (.t 102) (.t 101), none⟩])))))))
                     (.region [⟨(some 103), .bin (some .other) none .add (.t 57) (.c (.int .i64 1)), none⟩,
                      ⟨(some 57), .mv (.t 103), none⟩])))))))
               (.seq
                (.region [⟨(some 16), .mv (.c (.int .i64 (.negSucc 0))), none⟩])
                (.seq
                 (.seq
                  (.region [⟨(some 104), .mv (.t 0), none⟩,
                   ⟨(some 105), .mv (.t 7), none⟩,
                   ⟨(some 106), .mv (.t 9), none⟩,
                   ⟨(some 107), .iaddrS 1 (.t 105) (.t 106), none⟩,
                   ⟨(some 108), .load false 1 (.t 107), none⟩,
                   ⟨(some 109), .call (.c (.fn 30 [] [])) [(.t 104), (.t 108)], none⟩,
                   ⟨(some 17), .mv (.t 109), none⟩])
                  (.seq
                   (.region [⟨(some 110), .mv (.t 17), none⟩,
                    ⟨(some 111), .len .sl (.t 110), none⟩,
                    ⟨(some 112), .bin (some .other) none .gtr (.t 111) (.c (.int .i64 0)), none⟩])
                   (.cond (.t 112)
                    (.region [⟨(some 113), .mv (.t 17), none⟩,
                     ⟨(some 114), .iaddrS 1 (.t 113) (.c (.int .i64 0)), none⟩,
                     ⟨(some 115), .load false 1 (.t 114), none⟩,
                     ⟨(some 16), .mv (.t 115), none⟩])
                    .skip)))
                 (.drawn [(⟨(some 116), .mv (.t 6), none⟩, []),
                  (⟨(some 117), .mv (.t 6), none⟩, []),
                  (⟨(some 118), .mv (.t 6), none⟩, []),
                  (⟨(some 119), .nilc (.t 118), none⟩, []),
                  (⟨(some 120), .faddr 1 (.t 119), none⟩, []),
                  (⟨(some 121), .load false 1 (.t 120), none⟩, []),
                  (⟨(some 122), .mv (.t 10), none⟩, []),
                  (⟨(some 123), .lit true 1 1 [.nils] [(0, 1, (.t 122))], none⟩, []),
                  (⟨(some 125), .mv (.t 6), none⟩, []),
                  (⟨(some 126), .nilc (.t 125), none⟩, []),
                  (⟨(some 127), .faddr 2 (.t 126), none⟩, []),
                  (⟨(some 128), .load false 1 (.t 127), none⟩, []),
                  (⟨(some 129), .mv (.t 16), none⟩, []),
                  (⟨(some 130), .lit true 1 1 [(.int .i64 0)] [(0, 1, (.t 129))], none⟩, []),
                  (⟨(some 124), .append 1 24 [.nils] false (.t 121) (.t 123), none⟩, [⟨(some 128), .load false 1 (.t 127), none⟩]),
                  (⟨(some 131), .append 1 8 [(.int .i64 0)] false (.t 128) (.t 130), none⟩, []),
                  (⟨(some 132), .nilc (.t 116), none⟩, []),
                  (⟨(some 133), .faddr 1 (.t 132), none⟩, []),
                  (⟨none, .store 1 (.t 133) (.t 124), none⟩, []),
                  (⟨(some 134), .nilc (.t 117), none⟩, []),
                  (⟨(some 135), .faddr 2 (.t 134), none⟩, []),
                  (⟨none, .store 1 (.t 135) (.t 131), none⟩, [])]))))))
            (.region [⟨(some 44), .mv (.t 9), none⟩,
             ⟨(some 45), .bin (some .other) none .add (.t 44) (.c (.int .i64 1)), none⟩,
             ⟨(some 9), .mv (.t 45), none⟩]))))))
       (.seq
        (.region [⟨(some 136), .mv (.t 6), none⟩,
         ⟨(some 4), .mv (.t 136), none⟩,
         ⟨(some 5), .mv (.c (.int .i64 0)), none⟩])
        .ret))))))),
 none⟩
/-- gobo/lexer.empty -/
def Lx.c14 : RFunc := ⟨[.tmp 2],
 some
 (.seq
  (.region [⟨(some 2), .mv (.c (.bool false)), none⟩])
  (.seq
   (.region [⟨(some 3), .mv (.t 0), none⟩,
    ⟨(some 4), .call (.c (.fn 21 [] [])) [(.t 3), (.c (.fn 31 [] []))], none⟩,
    ⟨(some 2), .mv (.t 4), none⟩])
   .ret)),
 none⟩
/-- gobo/mini.Build -/
def Lx.c15 : RFunc := ⟨[.tmp 2],
 some
 (.seq
  (.region [⟨(some 2), .mv (.c .nilp), none⟩])
  (.seq
   (.seq
    (.region [⟨(some 14), .mv (.t 0), none⟩,
     ⟨(some 15), .bin (some .ptr) none .eql (.t 14) (.c .nilp), none⟩])
    (.cond (.t 15)
     (.seq
      (.region [⟨(some 2), .mv (.c .nilp), none⟩])
      .ret)
     .skip))
   (.seq
    (.region [⟨(some 16), .mv (.t 0), none⟩,
     ⟨(some 17), .call (.c (.fn 32 [] [])) [(.t 16)], none⟩,
     ⟨(some 18), .build [.nils, .nils, .nils] [(0, 1, (.t 17))], none⟩,
     ⟨(some 19), .box (.t 18), none⟩,
     ⟨(some 3), .mv (.t 19), none⟩])
    (.seq
     (.region [⟨(some 20), .mv (.t 0), none⟩,
      ⟨(some 21), .call (.c (.fn 33 [] [])) [(.t 20)], none⟩,
      ⟨(some 4), .mv (.t 21), none⟩])
     (.seq
      (.region [⟨(some 22), .mv (.t 0), none⟩,
       ⟨(some 23), .mv (.t 4), none⟩,
       ⟨(some 24), .call (.c (.fn 34 [] [])) [(.t 22), (.t 23)], none⟩,
       ⟨(some 5), .mv (.t 24), none⟩])
      (.seq
       (.region [⟨(some 25), .mkmap none, none⟩,
        ⟨(some 26), .mv (.t 5), none⟩,
        ⟨(some 27), .iaddrS 1 (.t 26) (.c (.int .i64 0)), none⟩,
        ⟨(some 28), .load false 1 (.t 27), none⟩,
        ⟨none, .mapupd .int (.t 25) (.t 28) (.c (.int .i64 0)), none⟩,
        ⟨(some 29), .mv (.t 25), none⟩,
        ⟨(some 6), .mv (.t 29), none⟩])
       (.seq
        (.region [⟨(some 30), .lit false 1 1 [(.int .i64 0)] [(0, 1, (.c (.int .i64 0)))], none⟩,
         ⟨(some 7), .mv (.t 30), none⟩])
        (.seq
         (.seq
          (.region [⟨(some 8), .mv (.c (.int .i64 0)), none⟩])
          (.block 0
           (.loop
            (.seq
             (.seq
              (.region [⟨(some 31), .mv (.t 8), none⟩,
               ⟨(some 32), .mv (.t 7), none⟩,
               ⟨(some 33), .len .sl (.t 32), none⟩,
               ⟨(some 34), .bin (some .other) none .lss (.t 31) (.t 33), none⟩])
              (.cond (.t 34)
               .skip
               (.exit 0)))
             (.seq
              (.block 1
               (.seq
                (.region [⟨(some 37), .mv (.t 3), none⟩,
                 ⟨(some 38), .nilc (.t 37), none⟩,
                 ⟨(some 39), .faddr 0 (.t 38), none⟩,
                 ⟨(some 40), .load false 1 (.t 39), none⟩,
                 ⟨(some 41), .len .sl (.t 40), none⟩,
                 ⟨(some 42), .mkslice 1 [(.int .i64 0)] 8 (.t 41) (.t 41), none⟩,
                 ⟨(some 9), .mv (.t 42), none⟩])
                (.seq
                 (.seq
                  (.region [⟨(some 43), .mv (.t 3), none⟩,
                   ⟨(some 44), .nilc (.t 43), none⟩,
                   ⟨(some 45), .faddr 0 (.t 44), none⟩,
                   ⟨(some 46), .load false 1 (.t 45), none⟩,
                   ⟨(some 47), .len .sl (.t 46), none⟩,
                   ⟨(some 48), .mv (.c (.int .i64 0)), none⟩])
                  (.block 2
                   (.loop
                    (.seq
                     (.region [⟨(some 49), .bin (some .other) none .lss (.t 48) (.t 47), none⟩])
                     (.seq
                      (.cond (.t 49)
                       .skip
                       (.exit 2))
                      (.seq
                       (.block 3
                        (.seq
                         (.region [⟨(some 50), .mv (.t 48), none⟩,
                          ⟨(some 10), .mv (.t 50), none⟩])
                         (.seq
                          (.region [⟨(some 51), .mv (.t 0), none⟩,
                           ⟨(some 52), .mv (.t 7), none⟩,
                           ⟨(some 53), .mv (.t 8), none⟩,
                           ⟨(some 54), .iaddrS 1 (.t 52) (.t 53), none⟩,
                           ⟨(some 55), .load false 1 (.t 54), none⟩,
                           ⟨(some 56), .mv (.t 10), none⟩,
                           ⟨(some 57), .call (.c (.fn 35 [] [])) [(.t 51), (.t 55), (.t 56)], none⟩,
                           ⟨(some 11), .mv (.t 57), none⟩])
                          (.seq
                           (.seq
                            (.region [⟨(some 58), .mv (.t 9), none⟩,
                             ⟨(some 59), .mv (.t 10), none⟩,
                             ⟨(some 60), .iaddrS 1 (.t 58) (.t 59), none⟩,
                             ⟨none, .store 1 (.t 60) (.c (.int .i64 (.negSucc 0))), none⟩])
                            (.seq
                             (.region [⟨(some 61), .mv (.t 11), none⟩,
                              ⟨(some 62), .bin (some .other) none .lss (.t 61) (.c (.int .i64 0)), none⟩,
                              ⟨(some 63), .mv (.t 62), none⟩,
                              ⟨(some 64), .mv (.t 4), (some (63, false))⟩,
                              ⟨(some 65), .mv (.t 11), (some (63, false))⟩,
                              ⟨(some 66), .iaddrS 1 (.t 64) (.t 65), (some (63, false))⟩,
                              ⟨(some 67), .load false 1 (.t 66), (some (63, false))⟩,
                              ⟨(some 68), .un .not (.t 67), (some (63, false))⟩,
                              ⟨(some 69), .pick (.t 63) (.c (.bool true)) (.t 68), none⟩])
                             (.cond (.t 69)
                              (.exit 3)
                              .skip)))
                           (.seq
                            (.region [⟨(some 71), .mv (.t 6), none⟩,
                             ⟨(some 72), .mv (.t 5), none⟩,
                             ⟨(some 73), .mv (.t 11), none⟩,
                             ⟨(some 74), .iaddrS 1 (.t 72) (.t 73), none⟩,
                             ⟨(some 75), .load false 1 (.t 74), none⟩,
                             ⟨(some 76), .lookup .int (.int .i64 0) (.t 71) (.t 75) true, none⟩,
                             ⟨(some 70), .mv (.t 76), none⟩,
                             ⟨(some 77), .extract 0 (.t 70), none⟩,
                             ⟨(some 78), .extract 1 (.t 70), none⟩,
                             ⟨(some 12), .mv (.t 77), none⟩,
                             ⟨(some 13), .mv (.t 78), none⟩])
                            (.seq
                             (.seq
                              (.region [⟨(some 79), .mv (.t 13), none⟩,
                               ⟨(some 80), .un .not (.t 79), none⟩])
                              (.cond (.t 80)
                               (.seq
                                (.region [⟨(some 81), .mv (.t 7), none⟩,
                                 ⟨(some 82), .len .sl (.t 81), none⟩,
                                 ⟨(some 12), .mv (.t 82), none⟩])
                                (.seq
                                 (.region [⟨(some 83), .mv (.t 6), none⟩,
                                  ⟨(some 84), .mv (.t 5), none⟩,
                                  ⟨(some 85), .mv (.t 11), none⟩,
                                  ⟨(some 86), .iaddrS 1 (.t 84) (.t 85), none⟩,
                                  ⟨(some 87), .load false 1 (.t 86), none⟩,
                                  ⟨(some 88), .mv (.t 12), none⟩,
                                  ⟨none, .mapupd .int (.t 83) (.t 87) (.t 88), none⟩])
                                 (.region [⟨(some 89), .mv (.t 7), none⟩,
                                  ⟨(some 90), .mv (.t 11), none⟩,
                                  ⟨(some 91), .lit false 1 1 [(.int .i64 0)] [(0, 1, (.t 90))], none⟩,
                                  ⟨(some 92), .append 1 8 [(.int .i64 0)] false (.t 89) (.t 91), none⟩,
                                  ⟨(some 7), .mv (.t 92), none⟩])))
                               .skip))
                             (.region [⟨(some 93), .mv (.t 9), none⟩,
                              ⟨(some 94), .mv (.t 10), none⟩,
                              ⟨(some 95), .mv (.t 12), none⟩,
                              ⟨(some 96), .iaddrS 1 (.t 93) (.t 94), none⟩,
                              ⟨none, .store 1 (.t 96) (.t 95), none⟩])))))))
                       (.region [⟨(some 97), .bin (some .other) none .add (.t 48) (.c (.int .i64 1)), none⟩,
                        ⟨(some 48), .mv (.t 97), none⟩])))))))
                 (.drawn [(⟨(some 98), .mv (.t 3), none⟩, []),
                  (⟨(some 99), .mv (.t 3), none⟩, []),
                  (⟨(some 100), .mv (.t 3), none⟩, []),
                  (⟨(some 101), .nilc (.t 100), none⟩, []),
                  (⟨(some 102), .faddr 1 (.t 101), none⟩, []),
                  (⟨(some 103), .load false 1 (.t 102), none⟩, []),
                  (⟨(some 104), .mv (.t 9), none⟩, []),
                  (⟨(some 105), .lit true 1 1 [.nils] [(0, 1, (.t 104))], none⟩, []),
                  (⟨(some 107), .mv (.t 3), none⟩, []),
                  (⟨(some 108), .nilc (.t 107), none⟩, []),
                  (⟨(some 109), .faddr 2 (.t 108), none⟩, []),
                  (⟨(some 110), .load false 1 (.t 109), none⟩, []),
                  (⟨(some 111), .mv (.t 0), none⟩, []),
                  (⟨(some 112), .mv (.t 7), none⟩, []),
                  (⟨(some 113), .mv (.t 8), none⟩, []),
                  (⟨(some 114), .iaddrS 1 (.t 112) (.t 113), none⟩, []),
                  (⟨(some 115), .load false 1 (.t 114), none⟩, []),
                  (⟨(some 106), .append 1 24 [.nils] false (.t 103) (.t 105), none⟩, [⟨(some 110), .load false 1 (.t 109), none⟩, ⟨(some 115), .load false 1 (.t 114), none⟩]),
                  (⟨(some 116), .call (.c (.fn 36 [] [])) [(.t 111), (.t 115)], none⟩, [⟨(some 110), .load false 1 (.t 109), none⟩]),
                  (⟨(some 117), .lit true 1 1 [(.int .i64 0)] [(0, 1, (.t 116))], none⟩, []),
                  (⟨(some 118), .append 1 8 [(.int .i64 0)] false (.t 110) (.t 117), none⟩, []),
                  (⟨(some 119), .nilc (.t 98), none⟩, []),
                  (⟨(some 120), .faddr 1 (.t 119), none⟩, []),
                  (⟨none, .store 1 (.t 120) (.t 106), none⟩, []),
                  (⟨(some 121), .nilc (.t 99), none⟩, []),
                  (⟨(some 122), .faddr 2 (.t 121), none⟩, []),
                  (⟨none, .store 1 (.t 122) (.t 118), none⟩, [])]))))
              (.region [⟨(some 35), .mv (.t 8), none⟩,
               ⟨(some 36), .bin (some .other) none .add (.t 35) (.c (.int .i64 1)), none⟩,
               ⟨(some 8), .mv (.t 36), none⟩]))))))
         (.seq
          (.region [⟨(some 123), .mv (.t 3), none⟩,
           ⟨(some 2), .mv (.t 123), none⟩])
          .ret))))))))),
 none⟩
/-- gobo/decode.All -/
def Lx.c16 : RFunc := ⟨[.tmp 2],
 some
 (.seq
  (.region [⟨(some 2), .mv (.c .nils), none⟩])
  (.seq
   (.region [⟨(some 4), .call (.c (.fn 37 [] [])) [], none⟩,
    ⟨(some 3), .mv (.t 4), none⟩])
   (.seq
    (.region [⟨(some 5), .mv (.t 3), none⟩,
     ⟨(some 6), .mv (.t 0), none⟩,
     ⟨(some 7), .call (.c (.fn 38 [] [])) [(.t 5), (.t 6)], none⟩,
     ⟨(some 8), .mv (.t 3), none⟩,
     ⟨(some 9), .call (.c (.fn 39 [] [])) [(.t 8)], none⟩,
     ⟨(some 10), .append 5 32 [(.int .i32 0), (.int .i64 0), (.int .i64 0), (.bool false), (.bool false)] false (.t 7) (.t 9), none⟩,
     ⟨(some 2), .mv (.t 10), none⟩])
    .ret))),
 none⟩
/-- gobo/lexer.One -/
def Lx.c17 : RFunc := ⟨[.cell 6 true 4, .tmp 7],
 some
 (.seq
  (.region [⟨(some 6), .alloc [(.int .i64 0), (.int .i64 0), (.int .i64 0), (.int .i64 0)], none⟩,
   ⟨(some 7), .mv (.c (.int .i64 0)), none⟩])
  (.seq
   (.region [⟨(some 12), .mv (.t 0), none⟩,
    ⟨(some 13), .mv (.t 1), none⟩,
    ⟨(some 14), .mv (.t 2), none⟩,
    ⟨(some 15), .call (.c (.fn 40 [] [])) [(.t 12), (.t 13), (.t 14)], none⟩,
    ⟨(some 11), .mv (.t 15), none⟩,
    ⟨(some 16), .extract 0 (.t 11), none⟩,
    ⟨(some 17), .extract 1 (.t 11), none⟩,
    ⟨(some 18), .extract 2 (.t 11), none⟩,
    ⟨(some 8), .alloc [(.int .i64 0), (.int .i64 0), (.int .i64 0), (.int .i64 0)], none⟩,
    ⟨none, .store 4 (.t 8) (.t 16), none⟩,
    ⟨(some 9), .mv (.t 17), none⟩,
    ⟨(some 10), .mv (.t 18), none⟩])
   (.seq
    (.region [⟨(some 19), .load true 4 (.t 8), none⟩,
     ⟨(some 20), .mv (.t 9), none⟩,
     ⟨none, .store 4 (.t 6) (.t 19), none⟩,
     ⟨(some 7), .mv (.t 20), none⟩])
    .ret))),
 none⟩
/-- gobo/lexer.Model -/
def Lx.c18 : RFunc := ⟨[.cell 6 true 4, .tmp 7],
 some
 (.seq
  (.region [⟨(some 6), .alloc [(.int .i64 0), (.int .i64 0), (.int .i64 0), (.int .i64 0)], none⟩,
   ⟨(some 7), .mv (.c (.int .i64 0)), none⟩])
  (.seq
   (.region [⟨(some 16), .mv (.t 0), none⟩,
    ⟨(some 17), .call (.c (.fn 11 [] [])) [(.t 16)], none⟩,
    ⟨(some 15), .mv (.t 17), none⟩,
    ⟨(some 18), .extract 0 (.t 15), none⟩,
    ⟨(some 19), .extract 1 (.t 15), none⟩,
    ⟨(some 8), .alloc [.nilp], none⟩,
    ⟨none, .store 1 (.t 8) (.t 18), none⟩,
    ⟨(some 9), .mv (.t 19), none⟩])
   (.seq
    (.seq
     (.region [⟨(some 20), .mv (.t 9), none⟩,
      ⟨(some 21), .bin (some .other) none .neq (.t 20) (.c (.int .i64 0)), none⟩,
      ⟨(some 22), .mv (.t 21), none⟩,
      ⟨(some 23), .mv (.t 0), (some (22, false))⟩,
      ⟨(some 24), .call (.c (.fn 14 [] [])) [(.t 23)], (some (22, false))⟩,
      ⟨(some 25), .pick (.t 22) (.c (.bool true)) (.t 24), none⟩])
     (.cond (.t 25)
      (.seq
       (.region [⟨(some 26), .build [(.int .i64 0), (.int .i64 0), (.int .i64 0), (.int .i64 0)] [], none⟩,
        ⟨none, .store 4 (.t 6) (.t 26), none⟩,
        ⟨(some 7), .mv (.c (.int .i64 0)), none⟩])
       .ret)
      .skip))
    (.seq
     (.region [⟨(some 27), .load false 1 (.t 8), none⟩,
      ⟨(some 28), .call (.c (.fn 41 [] [])) [(.t 27)], none⟩,
      ⟨(some 10), .alloc [.nils], none⟩,
      ⟨none, .store 1 (.t 10) (.t 28), none⟩])
     (.seq
      (.region [⟨(some 29), .lit false 1 1 [(.int .i64 0)] [(0, 1, (.c (.int .i64 0)))], none⟩,
       ⟨(some 11), .alloc [.nils], none⟩,
       ⟨none, .store 1 (.t 11) (.t 29), none⟩])
      (.seq
       (.region [⟨(some 31), .mv (.t 1), none⟩,
        ⟨(some 32), .mv (.t 2), none⟩,
        ⟨(some 33), .mkfn 43 [] [(.t 8), (.t 11), (.t 10)], none⟩,
        ⟨(some 34), .call (.c (.fn 42 [] [])) [(.t 31), (.t 32), (.t 33)], none⟩,
        ⟨(some 30), .mv (.t 34), none⟩,
        ⟨(some 35), .extract 0 (.t 30), none⟩,
        ⟨(some 36), .extract 1 (.t 30), none⟩,
        ⟨(some 37), .extract 2 (.t 30), none⟩,
        ⟨(some 12), .alloc [(.int .i64 0), (.int .i64 0), (.int .i64 0), (.int .i64 0)], none⟩,
        ⟨none, .store 4 (.t 12) (.t 35), none⟩,
        ⟨(some 13), .mv (.t 36), none⟩,
        ⟨(some 14), .mv (.t 37), none⟩])
       (.seq
        (.region [⟨(some 38), .load true 4 (.t 12), none⟩,
         ⟨(some 39), .mv (.t 13), none⟩,
         ⟨none, .store 4 (.t 6) (.t 38), none⟩,
         ⟨(some 7), .mv (.t 39), none⟩])
        .ret))))))),
 none⟩
/-- gobo/lexer.Sure -/
def Lx.c19 : RFunc := ⟨[.tmp 6],
 some
 (.seq
  (.region [⟨(some 6), .mv (.c (.bool false)), none⟩])
  (.seq
   (.region [⟨(some 11), .mv (.t 0), none⟩,
    ⟨(some 12), .mv (.t 1), none⟩,
    ⟨(some 13), .mv (.t 2), none⟩,
    ⟨(some 14), .call (.c (.fn 40 [] [])) [(.t 11), (.t 12), (.t 13)], none⟩,
    ⟨(some 10), .mv (.t 14), none⟩,
    ⟨(some 15), .extract 0 (.t 10), none⟩,
    ⟨(some 16), .extract 1 (.t 10), none⟩,
    ⟨(some 17), .extract 2 (.t 10), none⟩,
    ⟨(some 7), .alloc [(.int .i64 0), (.int .i64 0), (.int .i64 0), (.int .i64 0)], none⟩,
    ⟨none, .store 4 (.t 7) (.t 15), none⟩,
    ⟨(some 8), .mv (.t 16), none⟩,
    ⟨(some 9), .mv (.t 17), none⟩])
   (.seq
    (.region [⟨(some 18), .mv (.t 9), none⟩,
     ⟨(some 6), .mv (.t 18), none⟩])
    .ret))),
 none⟩
/-- gobo/lexer.caught$1 -/
def Lx.c20 : RFunc := ⟨[],
 none,
 some ((some 4), [⟨(some 1), .mv (.t 4), none⟩],
  (.seq
   (.region [⟨(some 5), .mv (.t 1), none⟩,
    ⟨(some 6), .bin (some .iface0) none .neq (.t 5) (.c .nili), none⟩])
   (.cond (.t 6)
    (.seq
     (.region [⟨(some 8), .mv (.t 1), none⟩,
      ⟨(some 9), .assert 58 true (some (.agg [(.int .i64 0)])) (.t 8), none⟩,
      ⟨(some 7), .mv (.t 9), none⟩,
      ⟨(some 10), .extract 0 (.t 7), none⟩,
      ⟨(some 11), .extract 1 (.t 7), none⟩,
      ⟨(some 2), .alloc [(.int .i64 0)], none⟩,
      ⟨none, .store 1 (.t 2) (.t 10), none⟩,
      ⟨(some 3), .mv (.t 11), none⟩])
     (.seq
      (.seq
       (.region [⟨(some 12), .mv (.t 3), none⟩,
        ⟨(some 13), .un .not (.t 12), none⟩])
       (.cond (.t 13)
        (.region [⟨(some 14), .mv (.t 1), none⟩,
         ⟨none, .panic (.t 14), none⟩])
        .skip))
      (.region [⟨(some 15), .faddr 0 (.t 2), none⟩,
       ⟨(some 16), .load false 1 (.t 15), none⟩,
       ⟨none, .store 1 (.t 0) (.t 16), none⟩])))
    .skip)))⟩
/-- slices.ContainsFunc[[]gobo/api.Re,gobo/api.Re] -/
def Lx.c21 : RFunc := ⟨[.tmp 4],
 some
 (.seq
  (.region [⟨(some 4), .mv (.c (.bool false)), none⟩])
  (.seq
   (.region [⟨(some 5), .mv (.t 0), none⟩,
    ⟨(some 6), .mv (.t 1), none⟩,
    ⟨(some 7), .call (.c (.fn 46 [] [])) [(.t 5), (.t 6)], none⟩,
    ⟨(some 8), .bin (some .other) none .geq (.t 7) (.c (.int .i64 0)), none⟩,
    ⟨(some 4), .mv (.t 8), none⟩])
   .ret)),
 none⟩
/-- gobo/nfa.Build$1 -/
def Lx.c22 : RFunc := ⟨[.tmp 2],
 some
 (.seq
  (.region [⟨(some 1), .box (.t 0), none⟩,
   ⟨(some 2), .mv (.c (.bool false)), none⟩])
  (.seq
   (.region [⟨(some 3), .load true 3 (.t 1), none⟩,
    ⟨(some 4), .call (.c (.fn 23 [] [])) [(.t 3)], none⟩,
    ⟨(some 5), .un .not (.t 4), none⟩,
    ⟨(some 2), .mv (.t 5), none⟩])
   .ret)),
 none⟩
/-- gobo/regex.May -/
def Lx.c23 : RFunc := ⟨[.tmp 2],
 some
 (.seq
  (.region [⟨(some 1), .box (.t 0), none⟩,
   ⟨(some 2), .mv (.c (.bool false)), none⟩])
  (.seq
   (.region [⟨(some 3), .load true 3 (.t 1), none⟩,
    ⟨(some 4), .call (.c (.fn 47 [] [])) [(.t 3)], none⟩,
    ⟨(some 5), .mv (.t 4), none⟩,
    ⟨(some 6), .load true 3 (.t 1), (some (5, true))⟩,
    ⟨(some 7), .call (.c (.fn 48 [] [])) [(.t 6)], (some (5, true))⟩,
    ⟨(some 8), .pick (.t 5) (.t 7) (.c (.bool false)), none⟩,
    ⟨(some 2), .mv (.t 8), none⟩])
   .ret)),
 none⟩
/-- gobo/nfa.Build$2 -/
def Lx.c24 : RFunc := ⟨[],
 some
 (.seq
  (.region [⟨(some 7), .mv (.t 0), none⟩,
   ⟨(some 8), .len .sl (.t 7), none⟩,
   ⟨(some 9), .mv (.c (.int .i64 0)), none⟩])
  (.block 0
   (.loop
    (.seq
     (.region [⟨(some 10), .bin (some .other) none .lss (.t 9) (.t 8), none⟩])
     (.seq
      (.cond (.t 10)
       .skip
       (.exit 0))
      (.seq
       (.block 1
        (.seq
         (.region [⟨(some 11), .iaddrS 1 (.t 7) (.t 9), none⟩,
          ⟨(some 12), .load false 1 (.t 11), none⟩,
          ⟨(some 6), .mv (.t 12), none⟩])
         (.drawn [(⟨(some 13), .load false 1 (.t 2), none⟩, []),
          (⟨(some 14), .nilc (.t 13), none⟩, []),
          (⟨(some 15), .faddr 1 (.t 14), none⟩, []),
          (⟨(some 16), .load false 1 (.t 15), none⟩, []),
          (⟨(some 17), .mv (.t 6), none⟩, []),
          (⟨(some 18), .load false 1 (.t 2), none⟩, []),
          (⟨(some 19), .nilc (.t 18), none⟩, []),
          (⟨(some 20), .faddr 1 (.t 19), none⟩, []),
          (⟨(some 21), .load false 1 (.t 20), none⟩, []),
          (⟨(some 22), .mv (.t 6), none⟩, []),
          (⟨(some 23), .iaddrS 1 (.t 21) (.t 22), none⟩, []),
          (⟨(some 24), .load false 1 (.t 23), none⟩, []),
          (⟨(some 25), .mv (.t 1), none⟩, []),
          (⟨(some 26), .call (.c (.fn 25 [] [])) [(.t 24), (.t 25)], none⟩, [⟨(some 13), .load false 1 (.t 2), none⟩, ⟨(some 16), .load false 1 (.t 15), none⟩]),
          (⟨(some 27), .iaddrS 1 (.t 16) (.t 17), none⟩, []),
          (⟨none, .store 1 (.t 27) (.t 26), none⟩, [])])))
       (.region [⟨(some 28), .bin (some .other) none .add (.t 9) (.c (.int .i64 1)), none⟩,
        ⟨(some 9), .mv (.t 28), none⟩]))))))),
 none⟩
/-- gobo/nfa.both -/
def Lx.c25 : RFunc := ⟨[.tmp 4],
 some
 (.seq
  (.region [⟨(some 4), .mv (.c .nils), none⟩])
  (.seq
   (.region [⟨(some 6), .mv (.t 0), none⟩,
    ⟨(some 7), .mv (.t 1), none⟩,
    ⟨(some 8), .lit false 1 2 [.nils, .nils] [(0, 1, (.t 6)), (1, 1, (.t 7))], none⟩,
    ⟨(some 9), .call (.c (.fn 49 [] [])) [(.t 8)], none⟩,
    ⟨(some 5), .mv (.t 9), none⟩])
   (.seq
    (.region [⟨(some 10), .mv (.t 5), none⟩,
     ⟨(some 11), .call (.c (.fn 50 [] [])) [(.t 10)], none⟩])
    (.seq
     (.region [⟨(some 12), .mv (.t 5), none⟩,
      ⟨(some 13), .call (.c (.fn 51 [] [])) [(.t 12)], none⟩,
      ⟨(some 4), .mv (.t 13), none⟩])
     .ret)))),
 none⟩
/-- gobo/nfa.Build$3 -/
def Lx.c26 : RFunc := ⟨[.cell 5 true 3],
 some
 (.seq
  (.region [⟨(some 4), .box (.t 0), none⟩,
   ⟨(some 5), .alloc [.nils, .nils, (.bool false)], none⟩])
  (.seq
   (.region [⟨(some 6), .mv (.c .nils), none⟩])
   (.seq
    (.seq
     (.region [⟨(some 13), .faddr 2 (.t 4), none⟩,
      ⟨(some 14), .load false 1 (.t 13), none⟩,
      ⟨(some 15), .len .sl (.t 14), none⟩,
      ⟨(some 16), .mv (.c (.int .i64 0)), none⟩])
     (.block 0
      (.loop
       (.seq
        (.region [⟨(some 17), .bin (some .other) none .lss (.t 16) (.t 15), none⟩])
        (.seq
         (.cond (.t 17)
          .skip
          (.exit 0))
         (.seq
          (.block 1
           (.seq
            (.region [⟨(some 18), .iaddrS 3 (.t 14) (.t 16), none⟩,
             ⟨(some 19), .load true 3 (.t 18), none⟩,
             ⟨(some 8), .alloc [(.int .i64 0), .nils, .nils], none⟩,
             ⟨none, .store 3 (.t 8) (.t 19), none⟩])
            (.region [⟨(some 20), .mv (.t 6), none⟩,
             ⟨(some 21), .load false 1 (.t 1), none⟩,
             ⟨(some 22), .load true 3 (.t 8), none⟩,
             ⟨(some 23), .call (.t 21) [(.t 22)], none⟩,
             ⟨(some 24), .lit false 3 1 [.nils, .nils, (.bool false)] [(0, 3, (.t 23))], none⟩,
             ⟨(some 25), .append 3 56 [.nils, .nils, (.bool false)] false (.t 20) (.t 24), none⟩,
             ⟨(some 6), .mv (.t 25), none⟩])))
          (.region [⟨(some 26), .bin (some .other) none .add (.t 16) (.c (.int .i64 1)), none⟩,
           ⟨(some 16), .mv (.t 26), none⟩])))))))
    (.seq
     (.seq
      (.region [⟨(some 27), .faddr 0 (.t 4), none⟩,
       ⟨(some 28), .load false 1 (.t 27), none⟩])
      (.block 2
       (.seq
        (.region [⟨(some 30), .bin (some .other) none .eql (.t 28) (.c (.int .i64 2)), none⟩,
         ⟨(some 29), .mv (.t 30), none⟩])
        (.cond (.t 29)
         (.seq
          (.region [⟨(some 31), .load false 1 (.t 2), none⟩,
           ⟨(some 32), .nilc (.t 31), none⟩,
           ⟨(some 33), .faddr 0 (.t 32), none⟩,
           ⟨(some 34), .load false 1 (.t 33), none⟩,
           ⟨(some 35), .len .sl (.t 34), none⟩,
           ⟨(some 9), .mv (.t 35), none⟩])
          (.seq
           (.drawn [(⟨(some 36), .load false 1 (.t 2), none⟩, []),
            (⟨(some 37), .load false 1 (.t 2), none⟩, []),
            (⟨(some 38), .load false 1 (.t 2), none⟩, []),
            (⟨(some 39), .load false 1 (.t 2), none⟩, []),
            (⟨(some 40), .nilc (.t 39), none⟩, []),
            (⟨(some 41), .faddr 0 (.t 40), none⟩, []),
            (⟨(some 42), .load false 1 (.t 41), none⟩, []),
            (⟨(some 43), .faddr 1 (.t 4), none⟩, []),
            (⟨(some 44), .load false 1 (.t 43), none⟩, []),
            (⟨(some 45), .lit true 1 1 [.nils] [(0, 1, (.t 44))], none⟩, []),
            (⟨(some 47), .load false 1 (.t 2), none⟩, []),
            (⟨(some 48), .nilc (.t 47), none⟩, []),
            (⟨(some 49), .faddr 1 (.t 48), none⟩, []),
            (⟨(some 50), .load false 1 (.t 49), none⟩, []),
            (⟨(some 51), .lit true 1 1 [.nils] [(0, 1, (.c .nils))], none⟩, []),
            (⟨(some 53), .load false 1 (.t 2), none⟩, []),
            (⟨(some 54), .nilc (.t 53), none⟩, []),
            (⟨(some 55), .faddr 2 (.t 54), none⟩, []),
            (⟨(some 56), .load false 1 (.t 55), none⟩, []),
            (⟨(some 57), .lit true 1 1 [.nils] [(0, 1, (.c .nils))], none⟩, []),
            (⟨(some 46), .append 1 24 [.nils] false (.t 42) (.t 45), none⟩, [⟨(some 36), .load false 1 (.t 2), none⟩, ⟨(some 37), .load false 1 (.t 2), none⟩, ⟨(some 38), .load false 1 (.t 2), none⟩, ⟨(some 47), .load false 1 (.t 2), none⟩, ⟨(some 50), .load false 1 (.t 49), none⟩, ⟨(some 53), .load false 1 (.t 2), none⟩, ⟨(some 56), .load false 1 (.t 55), none⟩]),
            (⟨(some 52), .append 1 24 [.nils] false (.t 50) (.t 51), none⟩, [⟨(some 36), .load false 1 (.t 2), none⟩, ⟨(some 37), .load false 1 (.t 2), none⟩, ⟨(some 38), .load false 1 (.t 2), none⟩, ⟨(some 53), .load false 1 (.t 2), none⟩, ⟨(some 56), .load false 1 (.t 55), none⟩]),
            (⟨(some 58), .append 1 24 [.nils] false (.t 56) (.t 57), none⟩, [⟨(some 36), .load false 1 (.t 2), none⟩, ⟨(some 37), .load false 1 (.t 2), none⟩, ⟨(some 38), .load false 1 (.t 2), none⟩]),
            (⟨(some 59), .nilc (.t 36), none⟩, []),
            (⟨(some 60), .faddr 0 (.t 59), none⟩, []),
            (⟨none, .store 1 (.t 60) (.t 46), none⟩, [⟨(some 37), .load false 1 (.t 2), none⟩, ⟨(some 38), .load false 1 (.t 2), none⟩]),
            (⟨(some 61), .nilc (.t 37), none⟩, []),
            (⟨(some 62), .faddr 1 (.t 61), none⟩, []),
            (⟨none, .store 1 (.t 62) (.t 52), none⟩, [⟨(some 38), .load false 1 (.t 2), none⟩]),
            (⟨(some 63), .nilc (.t 38), none⟩, []),
            (⟨(some 64), .faddr 2 (.t 63), none⟩, []),
            (⟨none, .store 1 (.t 64) (.t 58), none⟩, [])])
           (.seq
            (.region [⟨(some 65), .mv (.t 9), none⟩,
             ⟨(some 66), .lit false 1 1 [(.int .i64 0)] [(0, 1, (.t 65))], none⟩,
             ⟨(some 67), .mv (.t 9), none⟩,
             ⟨(some 68), .lit false 1 1 [(.int .i64 0)] [(0, 1, (.t 67))], none⟩,
             ⟨(some 69), .build [.nils, .nils, (.bool false)] [(0, 1, (.t 66)), (1, 1, (.t 68)), (2, 1, (.c (.bool false)))], none⟩,
             ⟨none, .store 3 (.t 5) (.t 69), none⟩])
            .ret)))
         (.seq
          (.region [⟨(some 71), .bin (some .other) none .eql (.t 28) (.c (.int .i64 3)), none⟩,
           ⟨(some 70), .mv (.t 71), none⟩])
          (.cond (.t 70)
           (.seq
            (.drawn [(⟨(some 72), .mv (.t 6), none⟩, []),
             (⟨(some 73), .iaddrS 3 (.t 72) (.c (.int .i64 0)), none⟩, []),
             (⟨(some 74), .load true 3 (.t 73), none⟩, []),
             (⟨(some 75), .mv (.t 6), none⟩, []),
             (⟨(some 76), .iaddrS 3 (.t 75) (.c (.int .i64 1)), none⟩, []),
             (⟨(some 77), .load true 3 (.t 76), none⟩, []),
             (⟨(some 10), .alloc [.nils, .nils, (.bool false)], none⟩, [⟨(some 74), .load true 3 (.t 73), none⟩, ⟨(some 77), .load true 3 (.t 76), none⟩]),
             (⟨(some 11), .alloc [.nils, .nils, (.bool false)], none⟩, [⟨(some 74), .load true 3 (.t 73), none⟩, ⟨(some 77), .load true 3 (.t 76), none⟩]),
             (⟨none, .store 3 (.t 10) (.t 74), none⟩, [⟨(some 77), .load true 3 (.t 76), none⟩]),
             (⟨none, .store 3 (.t 11) (.t 77), none⟩, [])])
            (.seq
             (.region [⟨(some 78), .load false 1 (.t 3), none⟩,
              ⟨(some 79), .faddr 1 (.t 10), none⟩,
              ⟨(some 80), .load false 1 (.t 79), none⟩,
              ⟨(some 81), .faddr 0 (.t 11), none⟩,
              ⟨(some 82), .load false 1 (.t 81), none⟩,
              ⟨(some 83), .call (.t 78) [(.t 80), (.t 82)], none⟩])
             (.seq
              (.region [⟨(some 84), .faddr 0 (.t 10), none⟩,
               ⟨(some 85), .load false 1 (.t 84), none⟩,
               ⟨(some 86), .faddr 1 (.t 11), none⟩,
               ⟨(some 87), .load false 1 (.t 86), none⟩,
               ⟨(some 88), .faddr 2 (.t 10), none⟩,
               ⟨(some 89), .load false 1 (.t 88), none⟩,
               ⟨(some 90), .mv (.t 89), none⟩,
               ⟨(some 91), .faddr 2 (.t 11), (some (90, true))⟩,
               ⟨(some 92), .load false 1 (.t 91), (some (90, true))⟩,
               ⟨(some 93), .pick (.t 90) (.t 92) (.c (.bool false)), none⟩,
               ⟨(some 94), .build [.nils, .nils, (.bool false)] [(0, 1, (.t 85)), (1, 1, (.t 87)), (2, 1, (.t 93))], none⟩,
               ⟨(some 12), .alloc [.nils, .nils, (.bool false)], none⟩,
               ⟨none, .store 3 (.t 12) (.t 94), none⟩])
              (.seq
               (.seq
                (.region [⟨(some 95), .faddr 2 (.t 10), none⟩,
                 ⟨(some 96), .load false 1 (.t 95), none⟩])
                (.cond (.t 96)
                 (.region [⟨(some 97), .faddr 0 (.t 10), none⟩,
                  ⟨(some 98), .load false 1 (.t 97), none⟩,
                  ⟨(some 99), .faddr 0 (.t 11), none⟩,
                  ⟨(some 100), .load false 1 (.t 99), none⟩,
                  ⟨(some 101), .call (.c (.fn 25 [] [])) [(.t 98), (.t 100)], none⟩,
                  ⟨(some 102), .faddr 0 (.t 12), none⟩,
                  ⟨none, .store 1 (.t 102) (.t 101), none⟩])
                 .skip))
               (.seq
                (.seq
                 (.region [⟨(some 103), .faddr 2 (.t 11), none⟩,
                  ⟨(some 104), .load false 1 (.t 103), none⟩])
                 (.cond (.t 104)
                  (.region [⟨(some 105), .faddr 1 (.t 10), none⟩,
                   ⟨(some 106), .load false 1 (.t 105), none⟩,
                   ⟨(some 107), .faddr 1 (.t 11), none⟩,
                   ⟨(some 108), .load false 1 (.t 107), none⟩,
                   ⟨(some 109), .call (.c (.fn 25 [] [])) [(.t 106), (.t 108)], none⟩,
                   ⟨(some 110), .faddr 1 (.t 12), none⟩,
                   ⟨none, .store 1 (.t 110) (.t 109), none⟩])
                  .skip))
                (.seq
                 (.region [⟨(some 111), .load true 3 (.t 12), none⟩,
                  ⟨none, .store 3 (.t 5) (.t 111), none⟩])
                 .ret))))))
           (.seq
            (.region [⟨(some 113), .bin (some .other) none .eql (.t 28) (.c (.int .i64 4)), none⟩,
             ⟨(some 112), .mv (.t 113), none⟩])
            (.cond (.t 112)
             (.seq
              (.drawn [(⟨(some 114), .mv (.t 6), none⟩, []),
               (⟨(some 115), .iaddrS 3 (.t 114) (.c (.int .i64 0)), none⟩, []),
               (⟨(some 116), .faddr 0 (.t 115), none⟩, []),
               (⟨(some 117), .load false 1 (.t 116), none⟩, []),
               (⟨(some 118), .mv (.t 6), none⟩, []),
               (⟨(some 119), .iaddrS 3 (.t 118) (.c (.int .i64 1)), none⟩, []),
               (⟨(some 120), .faddr 0 (.t 119), none⟩, []),
               (⟨(some 121), .load false 1 (.t 120), none⟩, []),
               (⟨(some 123), .mv (.t 6), none⟩, []),
               (⟨(some 124), .iaddrS 3 (.t 123) (.c (.int .i64 0)), none⟩, []),
               (⟨(some 125), .faddr 1 (.t 124), none⟩, []),
               (⟨(some 126), .load false 1 (.t 125), none⟩, []),
               (⟨(some 127), .mv (.t 6), none⟩, []),
               (⟨(some 128), .iaddrS 3 (.t 127) (.c (.int .i64 1)), none⟩, []),
               (⟨(some 129), .faddr 1 (.t 128), none⟩, []),
               (⟨(some 130), .load false 1 (.t 129), none⟩, []),
               (⟨(some 132), .mv (.t 6), none⟩, []),
               (⟨(some 133), .iaddrS 3 (.t 132) (.c (.int .i64 0)), none⟩, []),
               (⟨(some 134), .faddr 2 (.t 133), none⟩, []),
               (⟨(some 135), .load false 1 (.t 134), none⟩, []),
               (⟨(some 122), .call (.c (.fn 25 [] [])) [(.t 117), (.t 121)], none⟩, [⟨(some 126), .load false 1 (.t 125), none⟩, ⟨(some 130), .load false 1 (.t 129), none⟩, ⟨(some 135), .load false 1 (.t 134), none⟩]),
               (⟨(some 131), .call (.c (.fn 25 [] [])) [(.t 126), (.t 130)], none⟩, [⟨(some 135), .load false 1 (.t 134), none⟩]),
               (⟨(some 136), .mv (.t 135), none⟩, []),
               (⟨(some 137), .mv (.t 6), (some (136, false))⟩, []),
               (⟨(some 138), .iaddrS 3 (.t 137) (.c (.int .i64 1)), (some (136, false))⟩, []),
               (⟨(some 139), .faddr 2 (.t 138), (some (136, false))⟩, []),
               (⟨(some 140), .load false 1 (.t 139), (some (136, false))⟩, []),
               (⟨(some 141), .pick (.t 136) (.c (.bool true)) (.t 140), none⟩, []),
               (⟨(some 142), .build [.nils, .nils, (.bool false)] [(0, 1, (.t 122)), (1, 1, (.t 131)), (2, 1, (.t 141))], none⟩, []),
               (⟨none, .store 3 (.t 5) (.t 142), none⟩, [])])
              .ret)
             (.seq
              (.region [⟨(some 144), .bin (some .other) none .eql (.t 28) (.c (.int .i64 5)), none⟩,
               ⟨(some 143), .mv (.t 144), none⟩])
              (.cond (.t 143)
               (.seq
                (.drawn [(⟨(some 145), .load false 1 (.t 3), none⟩, []),
                 (⟨(some 146), .mv (.t 6), none⟩, []),
                 (⟨(some 147), .iaddrS 3 (.t 146) (.c (.int .i64 0)), none⟩, []),
                 (⟨(some 148), .faddr 1 (.t 147), none⟩, []),
                 (⟨(some 149), .load false 1 (.t 148), none⟩, []),
                 (⟨(some 150), .mv (.t 6), none⟩, []),
                 (⟨(some 151), .iaddrS 3 (.t 150) (.c (.int .i64 0)), none⟩, []),
                 (⟨(some 152), .faddr 0 (.t 151), none⟩, []),
                 (⟨(some 153), .load false 1 (.t 152), none⟩, []),
                 (⟨(some 154), .call (.t 145) [(.t 149), (.t 153)], none⟩, [])])
                (.seq
                 (.drawn [(⟨(some 155), .mv (.t 6), none⟩, []),
                  (⟨(some 156), .iaddrS 3 (.t 155) (.c (.int .i64 0)), none⟩, []),
                  (⟨(some 157), .faddr 0 (.t 156), none⟩, []),
                  (⟨(some 158), .load false 1 (.t 157), none⟩, []),
                  (⟨(some 159), .mv (.t 6), none⟩, []),
                  (⟨(some 160), .iaddrS 3 (.t 159) (.c (.int .i64 0)), none⟩, []),
                  (⟨(some 161), .faddr 1 (.t 160), none⟩, []),
                  (⟨(some 162), .load false 1 (.t 161), none⟩, []),
                  (⟨(some 163), .build [.nils, .nils, (.bool false)] [(0, 1, (.t 158)), (1, 1, (.t 162)), (2, 1, (.c (.bool true)))], none⟩, []),
                  (⟨none, .store 3 (.t 5) (.t 163), none⟩, [])])
                 .ret))
               .skip))))))))))
     (.seq
      (.region [⟨(some 164), .faddr 0 (.t 4), none⟩,
       ⟨(some 165), .load false 1 (.t 164), none⟩,
       ⟨(some 166), .bin (some .other) none .eql (.t 165) (.c (.int .i64 1)), none⟩,
       ⟨(some 167), .build [.nils, .nils, (.bool false)] [(2, 1, (.t 166))], none⟩,
       ⟨none, .store 3 (.t 5) (.t 167), none⟩])
      .ret))))),
 none⟩
/-- (*gobo/nfa.Nfa).Cells -/
def Lx.c27 : RFunc := ⟨[.tmp 2],
 some
 (.seq
  (.region [⟨(some 2), .mv (.c .nils), none⟩])
  (.seq
   (.seq
    (.region [⟨(some 3), .mv (.t 0), none⟩,
     ⟨(some 4), .bin (some .ptr) none .eql (.t 3) (.c .nilp), none⟩])
    (.cond (.t 4)
     (.seq
      (.region [⟨(some 2), .mv (.c .nils), none⟩])
      .ret)
     .skip))
   (.seq
    (.region [⟨(some 5), .mv (.t 0), none⟩,
     ⟨(some 6), .nilc (.t 5), none⟩,
     ⟨(some 7), .faddr 0 (.t 6), none⟩,
     ⟨(some 8), .load false 1 (.t 7), none⟩,
     ⟨(some 9), .call (.c (.fn 52 [] [])) [(.t 8)], none⟩,
     ⟨(some 2), .mv (.t 9), none⟩])
    .ret))),
 none⟩
/-- gobo/dfa.name -/
def Lx.c28 : RFunc := ⟨[.tmp 2],
 some
 (.seq
  (.region [⟨(some 2), .mv (.c (.str ⟨#[]⟩)), none⟩])
  (.seq
   (.region [⟨(some 3), .mv (.c .nils), none⟩])
   (.seq
    (.seq
     (.region [⟨(some 6), .mv (.t 0), none⟩,
      ⟨(some 7), .len .sl (.t 6), none⟩,
      ⟨(some 8), .mv (.c (.int .i64 0)), none⟩])
     (.block 0
      (.loop
       (.seq
        (.region [⟨(some 9), .bin (some .other) none .lss (.t 8) (.t 7), none⟩])
        (.seq
         (.cond (.t 9)
          .skip
          (.exit 0))
         (.seq
          (.block 1
           (.seq
            (.region [⟨(some 10), .iaddrS 1 (.t 6) (.t 8), none⟩,
             ⟨(some 11), .load false 1 (.t 10), none⟩,
             ⟨(some 5), .mv (.t 11), none⟩])
            (.region [⟨(some 12), .mv (.t 3), none⟩,
             ⟨(some 13), .mv (.t 5), none⟩,
             ⟨(some 14), .call (.c (.fn 53 [] [])) [(.t 12), (.t 13), (.c (.int .i64 10))], none⟩,
             ⟨(some 15), .lit false 1 1 [(.int .u8 0)] [(0, 1, (.c (.int .u8 32)))], none⟩,
             ⟨(some 16), .append 1 1 [(.int .u8 0)] false (.t 14) (.t 15), none⟩,
             ⟨(some 3), .mv (.t 16), none⟩])))
          (.region [⟨(some 17), .bin (some .other) none .add (.t 8) (.c (.int .i64 1)), none⟩,
           ⟨(some 8), .mv (.t 17), none⟩])))))))
    (.seq
     (.region [⟨(some 18), .mv (.t 3), none⟩,
      ⟨(some 19), .conv .strBytes (.t 18), none⟩,
      ⟨(some 2), .mv (.t 19), none⟩])
     .ret)))),
 none⟩
/-- (*gobo/nfa.Nfa).Next -/
def Lx.c29 : RFunc := ⟨[.tmp 6],
 some
 (.seq
  (.region [⟨(some 6), .mv (.c .nils), none⟩])
  (.seq
   (.seq
    (.region [⟨(some 12), .mv (.t 0), none⟩,
     ⟨(some 13), .bin (some .ptr) none .eql (.t 12) (.c .nilp), none⟩])
    (.cond (.t 13)
     (.seq
      (.region [⟨(some 6), .mv (.c .nils), none⟩])
      .ret)
     .skip))
   (.seq
    (.region [⟨(some 7), .mv (.c .nils), none⟩])
    (.seq
     (.seq
      (.region [⟨(some 14), .mv (.t 1), none⟩,
       ⟨(some 15), .len .sl (.t 14), none⟩,
       ⟨(some 16), .mv (.c (.int .i64 0)), none⟩])
      (.block 0
       (.loop
        (.seq
         (.region [⟨(some 17), .bin (some .other) none .lss (.t 16) (.t 15), none⟩])
         (.seq
          (.cond (.t 17)
           .skip
           (.exit 0))
          (.seq
           (.block 1
            (.seq
             (.region [⟨(some 18), .iaddrS 1 (.t 14) (.t 16), none⟩,
              ⟨(some 19), .load false 1 (.t 18), none⟩,
              ⟨(some 9), .mv (.t 19), none⟩])
             (.seq
              (.seq
               (.region [⟨(some 20), .mv (.t 0), none⟩,
                ⟨(some 21), .mv (.t 9), none⟩,
                ⟨(some 22), .call (.c (.fn 54 [] [])) [(.t 20), (.t 21)], none⟩,
                ⟨(some 23), .un .not (.t 22), none⟩])
               (.cond (.t 23)
                (.exit 1)
                .skip))
              (.seq
               (.region [⟨(some 24), .mv (.t 0), none⟩,
                ⟨(some 25), .nilc (.t 24), none⟩,
                ⟨(some 26), .faddr 1 (.t 25), none⟩,
                ⟨(some 27), .load false 1 (.t 26), none⟩,
                ⟨(some 28), .mv (.t 9), none⟩,
                ⟨(some 29), .iaddrS 1 (.t 27) (.t 28), none⟩,
                ⟨(some 30), .load false 1 (.t 29), none⟩,
                ⟨(some 31), .len .sl (.t 30), none⟩,
                ⟨(some 32), .mv (.c (.int .i64 0)), none⟩])
               (.block 2
                (.loop
                 (.seq
                  (.region [⟨(some 33), .bin (some .other) none .lss (.t 32) (.t 31), none⟩])
                  (.seq
                   (.cond (.t 33)
                    .skip
                    (.exit 2))
                   (.seq
                    (.block 3
                     (.seq
                      (.region [⟨(some 34), .iaddrS 1 (.t 30) (.t 32), none⟩,
                       ⟨(some 35), .load false 1 (.t 34), none⟩,
                       ⟨(some 11), .mv (.t 35), none⟩])
                      (.seq
                       (.region [⟨(some 36), .mv (.t 0), none⟩,
                        ⟨(some 37), .nilc (.t 36), none⟩,
                        ⟨(some 38), .faddr 0 (.t 37), none⟩,
                        ⟨(some 39), .load false 1 (.t 38), none⟩,
                        ⟨(some 40), .mv (.t 11), none⟩,
                        ⟨(some 41), .iaddrS 1 (.t 39) (.t 40), none⟩,
                        ⟨(some 42), .load false 1 (.t 41), none⟩,
                        ⟨(some 43), .mv (.t 2), none⟩,
                        ⟨(some 44), .call (.c (.fn 55 [] [])) [(.t 42), (.t 43)], none⟩])
                       (.cond (.t 44)
                        (.region [⟨(some 45), .mv (.t 7), none⟩,
                         ⟨(some 46), .mv (.t 11), none⟩,
                         ⟨(some 47), .lit false 1 1 [(.int .i64 0)] [(0, 1, (.t 46))], none⟩,
                         ⟨(some 48), .append 1 8 [(.int .i64 0)] false (.t 45) (.t 47), none⟩,
                         ⟨(some 7), .mv (.t 48), none⟩])
                        .skip))))
                    (.region [⟨(some 49), .bin (some .other) none .add (.t 32) (.c (.int .i64 1)), none⟩,
                     ⟨(some 32), .mv (.t 49), none⟩]))))))))))
           (.region [⟨(some 50), .bin (some .other) none .add (.t 16) (.c (.int .i64 1)), none⟩,
            ⟨(some 16), .mv (.t 50), none⟩])))))))
     (.seq
      (.region [⟨(some 51), .mv (.t 7), none⟩,
       ⟨(some 52), .call (.c (.fn 25 [] [])) [(.t 51), (.c .nils)], none⟩,
       ⟨(some 6), .mv (.t 52), none⟩])
      .ret))))),
 none⟩
/-- (*gobo/nfa.Nfa).Rules -/
def Lx.c30 : RFunc := ⟨[.tmp 4],
 some
 (.seq
  (.region [⟨(some 4), .mv (.c .nils), none⟩])
  (.seq
   (.seq
    (.region [⟨(some 8), .mv (.t 0), none⟩,
     ⟨(some 9), .bin (some .ptr) none .eql (.t 8) (.c .nilp), none⟩])
    (.cond (.t 9)
     (.seq
      (.region [⟨(some 4), .mv (.c .nils), none⟩])
      .ret)
     .skip))
   (.seq
    (.region [⟨(some 5), .mv (.c .nils), none⟩])
    (.seq
     (.seq
      (.region [⟨(some 10), .mv (.t 1), none⟩,
       ⟨(some 11), .len .sl (.t 10), none⟩,
       ⟨(some 12), .mv (.c (.int .i64 0)), none⟩])
      (.block 0
       (.loop
        (.seq
         (.region [⟨(some 13), .bin (some .other) none .lss (.t 12) (.t 11), none⟩])
         (.seq
          (.cond (.t 13)
           .skip
           (.exit 0))
          (.seq
           (.block 1
            (.seq
             (.region [⟨(some 14), .iaddrS 1 (.t 10) (.t 12), none⟩,
              ⟨(some 15), .load false 1 (.t 14), none⟩,
              ⟨(some 7), .mv (.t 15), none⟩])
             (.block 2
              (.seq
               (.region [⟨(some 17), .mv (.t 7), none⟩,
                ⟨(some 18), .bin (some .other) none .eql (.t 17) (.c (.int .i64 0)), none⟩,
                ⟨(some 16), .mv (.t 18), none⟩])
               (.cond (.t 16)
                (.region [⟨(some 19), .mv (.t 5), none⟩,
                 ⟨(some 20), .mv (.t 0), none⟩,
                 ⟨(some 21), .nilc (.t 20), none⟩,
                 ⟨(some 22), .faddr 3 (.t 21), none⟩,
                 ⟨(some 23), .load false 1 (.t 22), none⟩,
                 ⟨(some 24), .append 1 8 [(.int .i64 0)] false (.t 19) (.t 23), none⟩,
                 ⟨(some 5), .mv (.t 24), none⟩])
                (.seq
                 (.region [⟨(some 26), .mv (.t 0), none⟩,
                  ⟨(some 27), .mv (.t 7), none⟩,
                  ⟨(some 28), .call (.c (.fn 54 [] [])) [(.t 26), (.t 27)], none⟩,
                  ⟨(some 25), .mv (.t 28), none⟩])
                 (.cond (.t 25)
                  (.region [⟨(some 29), .mv (.t 5), none⟩,
                   ⟨(some 30), .mv (.t 0), none⟩,
                   ⟨(some 31), .nilc (.t 30), none⟩,
                   ⟨(some 32), .faddr 2 (.t 31), none⟩,
                   ⟨(some 33), .load false 1 (.t 32), none⟩,
                   ⟨(some 34), .mv (.t 7), none⟩,
                   ⟨(some 35), .iaddrS 1 (.t 33) (.t 34), none⟩,
                   ⟨(some 36), .load false 1 (.t 35), none⟩,
                   ⟨(some 37), .append 1 8 [(.int .i64 0)] false (.t 29) (.t 36), none⟩,
                   ⟨(some 5), .mv (.t 37), none⟩])
                  .skip)))))))
           (.region [⟨(some 38), .bin (some .other) none .add (.t 12) (.c (.int .i64 1)), none⟩,
            ⟨(some 12), .mv (.t 38), none⟩])))))))
     (.seq
      (.region [⟨(some 39), .mv (.t 5), none⟩,
       ⟨(some 40), .call (.c (.fn 25 [] [])) [(.t 39), (.c .nils)], none⟩,
       ⟨(some 4), .mv (.t 40), none⟩])
      .ret))))),
 none⟩
/-- gobo/regex.Empty -/
def Lx.c31 : RFunc := ⟨[.tmp 2],
 some
 (.seq
  (.region [⟨(some 1), .box (.t 0), none⟩,
   ⟨(some 2), .mv (.c (.bool false)), none⟩])
  (.seq
   (.region [⟨(some 3), .load true 3 (.t 1), none⟩,
    ⟨(some 4), .call (.c (.fn 23 [] [])) [(.t 3)], none⟩,
    ⟨(some 5), .mv (.t 4), none⟩,
    ⟨(some 6), .load true 3 (.t 1), (some (5, true))⟩,
    ⟨(some 7), .call (.c (.fn 56 [] [])) [(.t 6)], (some (5, true))⟩,
    ⟨(some 8), .pick (.t 5) (.t 7) (.c (.bool false)), none⟩,
    ⟨(some 2), .mv (.t 8), none⟩])
   .ret)),
 none⟩
/-- (*gobo/dfa.Dfa).Cells -/
def Lx.c32 : RFunc := ⟨[.tmp 2],
 some
 (.seq
  (.region [⟨(some 2), .mv (.c .nils), none⟩])
  (.seq
   (.seq
    (.region [⟨(some 3), .mv (.t 0), none⟩,
     ⟨(some 4), .bin (some .ptr) none .eql (.t 3) (.c .nilp), none⟩])
    (.cond (.t 4)
     (.seq
      (.region [⟨(some 2), .mv (.c .nils), none⟩])
      .ret)
     .skip))
   (.seq
    (.region [⟨(some 5), .mv (.t 0), none⟩,
     ⟨(some 6), .nilc (.t 5), none⟩,
     ⟨(some 7), .faddr 0 (.t 6), none⟩,
     ⟨(some 8), .load false 1 (.t 7), none⟩,
     ⟨(some 9), .call (.c (.fn 57 [] [])) [(.t 8)], none⟩,
     ⟨(some 2), .mv (.t 9), none⟩])
    .ret))),
 none⟩
/-- gobo/mini.alive -/
def Lx.c33 : RFunc := ⟨[.tmp 2],
 some
 (.seq
  (.region [⟨(some 2), .mv (.c .nils), none⟩])
  (.seq
   (.region [⟨(some 9), .mv (.t 0), none⟩,
    ⟨(some 10), .call (.c (.fn 58 [] [])) [(.t 9)], none⟩,
    ⟨(some 11), .mkslice 1 [(.bool false)] 1 (.t 10) (.t 10), none⟩,
    ⟨(some 3), .mv (.t 11), none⟩])
   (.seq
    (.seq
     (.region [⟨(some 4), .mv (.c (.bool true)), none⟩])
     (.block 0
      (.loop
       (.seq
        (.seq
         (.region [⟨(some 12), .mv (.t 4), none⟩])
         (.cond (.t 12)
          .skip
          (.exit 0)))
        (.block 1
         (.seq
          (.region [⟨(some 4), .mv (.c (.bool false)), none⟩])
          (.seq
           (.region [⟨(some 13), .mv (.t 3), none⟩,
            ⟨(some 14), .len .sl (.t 13), none⟩,
            ⟨(some 15), .mv (.c (.int .i64 0)), none⟩])
           (.block 2
            (.loop
             (.seq
              (.region [⟨(some 16), .bin (some .other) none .lss (.t 15) (.t 14), none⟩])
              (.seq
               (.cond (.t 16)
                .skip
                (.exit 2))
               (.seq
                (.block 3
                 (.seq
                  (.region [⟨(some 17), .mv (.t 15), none⟩,
                   ⟨(some 5), .mv (.t 17), none⟩])
                  (.seq
                   (.region [⟨(some 18), .mv (.t 0), none⟩,
                    ⟨(some 19), .mv (.t 5), none⟩,
                    ⟨(some 20), .call (.c (.fn 36 [] [])) [(.t 18), (.t 19)], none⟩,
                    ⟨(some 21), .bin (some .other) none .geq (.t 20) (.c (.int .i64 0)), none⟩,
                    ⟨(some 6), .mv (.t 21), none⟩])
                   (.seq
                    (.seq
                     (.region [⟨(some 22), .mv (.t 0), none⟩,
                      ⟨(some 23), .call (.c (.fn 32 [] [])) [(.t 22)], none⟩,
                      ⟨(some 24), .len .sl (.t 23), none⟩,
                      ⟨(some 25), .mv (.c (.int .i64 0)), none⟩])
                     (.block 4
                      (.loop
                       (.seq
                        (.region [⟨(some 26), .bin (some .other) none .lss (.t 25) (.t 24), none⟩])
                        (.seq
                         (.cond (.t 26)
                          .skip
                          (.exit 4))
                         (.seq
                          (.block 5
                           (.seq
                            (.region [⟨(some 27), .mv (.t 25), none⟩,
                             ⟨(some 7), .mv (.t 27), none⟩])
                            (.seq
                             (.region [⟨(some 28), .mv (.t 0), none⟩,
                              ⟨(some 29), .mv (.t 5), none⟩,
                              ⟨(some 30), .mv (.t 7), none⟩,
                              ⟨(some 31), .call (.c (.fn 35 [] [])) [(.t 28), (.t 29), (.t 30)], none⟩,
                              ⟨(some 8), .mv (.t 31), none⟩])
                             (.region [⟨(some 32), .mv (.t 6), none⟩,
                              ⟨(some 33), .mv (.t 32), none⟩,
                              ⟨(some 34), .mv (.t 8), (some (33, false))⟩,
                              ⟨(some 35), .bin (some .other) none .geq (.t 34) (.c (.int .i64 0)), (some (33, false))⟩,
                              ⟨(some 36), .mv (.t 35), (some (33, false))⟩,
                              ⟨(some 37), .mv (.t 3), (some (36, true))⟩,
                              ⟨(some 38), .mv (.t 8), (some (36, true))⟩,
                              ⟨(some 39), .iaddrS 1 (.t 37) (.t 38), (some (36, true))⟩,
                              ⟨(some 40), .load false 1 (.t 39), (some (36, true))⟩,
                              ⟨(some 41), .pick (.t 36) (.t 40) (.c (.bool false)), (some (33, false))⟩,
                              ⟨(some 42), .pick (.t 33) (.c (.bool true)) (.t 41), none⟩,
                              ⟨(some 6), .mv (.t 42), none⟩]))))
                          (.region [⟨(some 43), .bin (some .other) none .add (.t 25) (.c (.int .i64 1)), none⟩,
                           ⟨(some 25), .mv (.t 43), none⟩])))))))
                    (.seq
                     (.region [⟨(some 44), .mv (.t 4), none⟩,
                      ⟨(some 45), .mv (.t 44), none⟩,
                      ⟨(some 46), .mv (.t 6), (some (45, false))⟩,
                      ⟨(some 47), .mv (.t 46), (some (45, false))⟩,
                      ⟨(some 48), .mv (.t 3), (some (47, true))⟩,
                      ⟨(some 49), .mv (.t 5), (some (47, true))⟩,
                      ⟨(some 50), .iaddrS 1 (.t 48) (.t 49), (some (47, true))⟩,
                      ⟨(some 51), .load false 1 (.t 50), (some (47, true))⟩,
                      ⟨(some 52), .un .not (.t 51), (some (47, true))⟩,
                      ⟨(some 53), .pick (.t 47) (.t 52) (.c (.bool false)), (some (45, false))⟩,
                      ⟨(some 54), .pick (.t 45) (.c (.bool true)) (.t 53), none⟩,
                      ⟨(some 4), .mv (.t 54), none⟩])
                     (.region [⟨(some 55), .mv (.t 3), none⟩,
                      ⟨(some 56), .mv (.t 5), none⟩,
                      ⟨(some 57), .mv (.t 6), none⟩,
                      ⟨(some 58), .iaddrS 1 (.t 55) (.t 56), none⟩,
                      ⟨none, .store 1 (.t 58) (.t 57), none⟩]))))))
                (.region [⟨(some 59), .bin (some .other) none .add (.t 15) (.c (.int .i64 1)), none⟩,
                 ⟨(some 15), .mv (.t 59), none⟩])))))))))))))
    (.seq
     (.region [⟨(some 60), .mv (.t 3), none⟩,
      ⟨(some 2), .mv (.t 60), none⟩])
     .ret)))),
 none⟩
/-- gobo/mini.classes -/
def Lx.c34 : RFunc := ⟨[.tmp 4],
 some
 (.seq
  (.region [⟨(some 4), .mv (.c .nils), none⟩])
  (.seq
   (.region [⟨(some 15), .mv (.t 0), none⟩,
    ⟨(some 16), .call (.c (.fn 58 [] [])) [(.t 15)], none⟩,
    ⟨(some 17), .mkslice 1 [(.int .i64 0)] 8 (.t 16) (.t 16), none⟩,
    ⟨(some 5), .mv (.t 17), none⟩])
   (.seq
    (.region [⟨(some 6), .mv (.c (.int .i64 1)), none⟩])
    (.block 0
     (.loop
      (.block 1
       (.seq
        (.region [⟨(some 18), .mkmap none, none⟩,
         ⟨(some 7), .mv (.t 18), none⟩])
        (.seq
         (.region [⟨(some 19), .mv (.t 5), none⟩,
          ⟨(some 20), .len .sl (.t 19), none⟩,
          ⟨(some 21), .mkslice 1 [(.int .i64 0)] 8 (.t 20) (.t 20), none⟩,
          ⟨(some 8), .mv (.t 21), none⟩])
         (.seq
          (.seq
           (.region [⟨(some 22), .mv (.t 5), none⟩,
            ⟨(some 23), .len .sl (.t 22), none⟩,
            ⟨(some 24), .mv (.c (.int .i64 0)), none⟩])
           (.block 2
            (.loop
             (.seq
              (.region [⟨(some 25), .bin (some .other) none .lss (.t 24) (.t 23), none⟩])
              (.seq
               (.cond (.t 25)
                .skip
                (.exit 2))
               (.seq
                (.block 3
                 (.seq
                  (.region [⟨(some 26), .mv (.t 24), none⟩,
                   ⟨(some 9), .mv (.t 26), none⟩])
                  (.seq
                   (.region [⟨(some 27), .mv (.t 5), none⟩,
                    ⟨(some 28), .mv (.t 9), none⟩,
                    ⟨(some 29), .iaddrS 1 (.t 27) (.t 28), none⟩,
                    ⟨(some 30), .load false 1 (.t 29), none⟩,
                    ⟨(some 31), .call (.c (.fn 53 [] [])) [(.c .nils), (.t 30), (.c (.int .i64 10))], none⟩,
                    ⟨(some 10), .mv (.t 31), none⟩])
                   (.seq
                    (.region [⟨(some 32), .mv (.t 10), none⟩,
                     ⟨(some 33), .lit false 1 1 [(.int .u8 0)] [(0, 1, (.c (.int .u8 58)))], none⟩,
                     ⟨(some 34), .append 1 1 [(.int .u8 0)] false (.t 32) (.t 33), none⟩,
                     ⟨(some 35), .mv (.t 0), none⟩,
                     ⟨(some 36), .mv (.t 9), none⟩,
                     ⟨(some 37), .call (.c (.fn 36 [] [])) [(.t 35), (.t 36)], none⟩,
                     ⟨(some 38), .call (.c (.fn 53 [] [])) [(.t 34), (.t 37), (.c (.int .i64 10))], none⟩,
                     ⟨(some 10), .mv (.t 38), none⟩])
                    (.seq
                     (.seq
                      (.region [⟨(some 39), .mv (.t 0), none⟩,
                       ⟨(some 40), .call (.c (.fn 32 [] [])) [(.t 39)], none⟩,
                       ⟨(some 41), .len .sl (.t 40), none⟩,
                       ⟨(some 42), .mv (.c (.int .i64 0)), none⟩])
                      (.block 4
                       (.loop
                        (.seq
                         (.region [⟨(some 43), .bin (some .other) none .lss (.t 42) (.t 41), none⟩])
                         (.seq
                          (.cond (.t 43)
                           .skip
                           (.exit 4))
                          (.seq
                           (.block 5
                            (.seq
                             (.region [⟨(some 44), .mv (.t 42), none⟩,
                              ⟨(some 11), .mv (.t 44), none⟩])
                             (.seq
                              (.region [⟨(some 45), .mv (.t 0), none⟩,
                               ⟨(some 46), .mv (.t 9), none⟩,
                               ⟨(some 47), .mv (.t 11), none⟩,
                               ⟨(some 48), .call (.c (.fn 35 [] [])) [(.t 45), (.t 46), (.t 47)], none⟩,
                               ⟨(some 12), .mv (.t 48), none⟩])
                              (.seq
                               (.seq
                                (.region [⟨(some 49), .mv (.t 12), none⟩,
                                 ⟨(some 50), .bin (some .other) none .geq (.t 49) (.c (.int .i64 0)), none⟩,
                                 ⟨(some 51), .mv (.t 50), none⟩,
                                 ⟨(some 52), .mv (.t 1), (some (51, true))⟩,
                                 ⟨(some 53), .mv (.t 12), (some (51, true))⟩,
                                 ⟨(some 54), .iaddrS 1 (.t 52) (.t 53), (some (51, true))⟩,
                                 ⟨(some 55), .load false 1 (.t 54), (some (51, true))⟩,
                                 ⟨(some 56), .pick (.t 51) (.t 55) (.c (.bool false)), none⟩])
                                (.cond (.t 56)
                                 (.region [⟨(some 57), .mv (.t 5), none⟩,
                                  ⟨(some 58), .mv (.t 12), none⟩,
                                  ⟨(some 59), .iaddrS 1 (.t 57) (.t 58), none⟩,
                                  ⟨(some 60), .load false 1 (.t 59), none⟩,
                                  ⟨(some 12), .mv (.t 60), none⟩])
                                 (.region [⟨(some 12), .mv (.c (.int .i64 (.negSucc 0))), none⟩])))
                               (.region [⟨(some 61), .mv (.t 10), none⟩,
                                ⟨(some 62), .lit false 1 1 [(.int .u8 0)] [(0, 1, (.c (.int .u8 32)))], none⟩,
                                ⟨(some 63), .append 1 1 [(.int .u8 0)] false (.t 61) (.t 62), none⟩,
                                ⟨(some 64), .mv (.t 12), none⟩,
                                ⟨(some 65), .call (.c (.fn 53 [] [])) [(.t 63), (.t 64), (.c (.int .i64 10))], none⟩,
                                ⟨(some 10), .mv (.t 65), none⟩])))))
                           (.region [⟨(some 66), .bin (some .other) none .add (.t 42) (.c (.int .i64 1)), none⟩,
                            ⟨(some 42), .mv (.t 66), none⟩])))))))
                     (.seq
                      (.seq
                       (.region [⟨(some 68), .mv (.t 7), none⟩,
                        ⟨(some 69), .mv (.t 10), none⟩,
                        ⟨(some 70), .conv .strBytes (.t 69), none⟩,
                        ⟨(some 71), .lookup .str (.int .i64 0) (.t 68) (.t 70) true, none⟩,
                        ⟨(some 67), .mv (.t 71), none⟩,
                        ⟨(some 72), .extract 0 (.t 67), none⟩,
                        ⟨(some 73), .extract 1 (.t 67), none⟩,
                        ⟨(some 13), .mv (.t 72), none⟩,
                        ⟨(some 14), .mv (.t 73), none⟩])
                       (.seq
                        (.region [⟨(some 74), .mv (.t 14), none⟩,
                         ⟨(some 75), .un .not (.t 74), none⟩])
                        (.cond (.t 75)
                         (.region [⟨(some 76), .mv (.t 7), none⟩,
                          ⟨(some 77), .mv (.t 10), none⟩,
                          ⟨(some 78), .conv .strBytes (.t 77), none⟩,
                          ⟨(some 79), .mv (.t 7), none⟩,
                          ⟨(some 80), .len .map (.t 79), none⟩,
                          ⟨none, .mapupd .str (.t 76) (.t 78) (.t 80), none⟩])
                         .skip)))
                      (.region [⟨(some 81), .mv (.t 8), none⟩,
                       ⟨(some 82), .mv (.t 9), none⟩,
                       ⟨(some 83), .mv (.t 7), none⟩,
                       ⟨(some 84), .mv (.t 10), none⟩,
                       ⟨(some 85), .conv .strBytes (.t 84), none⟩,
                       ⟨(some 86), .lookup .str (.int .i64 0) (.t 83) (.t 85) false, none⟩,
                       ⟨(some 87), .iaddrS 1 (.t 81) (.t 82), none⟩,
                       ⟨none, .store 1 (.t 87) (.t 86), none⟩])))))))
                (.region [⟨(some 88), .bin (some .other) none .add (.t 24) (.c (.int .i64 1)), none⟩,
                 ⟨(some 24), .mv (.t 88), none⟩])))))))
          (.seq
           (.region [⟨(some 89), .mv (.t 8), none⟩,
            ⟨(some 5), .mv (.t 89), none⟩])
           (.seq
            (.seq
             (.region [⟨(some 90), .mv (.t 7), none⟩,
              ⟨(some 91), .len .map (.t 90), none⟩,
              ⟨(some 92), .mv (.t 6), none⟩,
              ⟨(some 93), .bin (some .other) none .eql (.t 91) (.t 92), none⟩])
             (.cond (.t 93)
              (.seq
               (.region [⟨(some 94), .mv (.t 5), none⟩,
                ⟨(some 4), .mv (.t 94), none⟩])
               .ret)
              .skip))
            (.region [⟨(some 95), .mv (.t 7), none⟩,
             ⟨(some 96), .len .map (.t 95), none⟩,
             ⟨(some 6), .mv (.t 96), none⟩])))))))))))),
 none⟩
/-- (*gobo/dfa.Dfa).Next -/
def Lx.c35 : RFunc := ⟨[.tmp 6],
 some
 (.seq
  (.region [⟨(some 6), .mv (.c (.int .i64 0)), none⟩])
  (.seq
   (.seq
    (.region [⟨(some 7), .mv (.t 0), none⟩,
     ⟨(some 8), .bin (some .ptr) none .eql (.t 7) (.c .nilp), none⟩,
     ⟨(some 9), .mv (.t 8), none⟩,
     ⟨(some 10), .mv (.t 1), (some (9, false))⟩,
     ⟨(some 11), .bin (some .other) none .lss (.t 10) (.c (.int .i64 0)), (some (9, false))⟩,
     ⟨(some 12), .pick (.t 9) (.c (.bool true)) (.t 11), none⟩,
     ⟨(some 13), .mv (.t 12), none⟩,
     ⟨(some 14), .mv (.t 1), (some (13, false))⟩,
     ⟨(some 15), .mv (.t 0), (some (13, false))⟩,
     ⟨(some 16), .nilc (.t 15), (some (13, false))⟩,
     ⟨(some 17), .faddr 1 (.t 16), (some (13, false))⟩,
     ⟨(some 18), .load false 1 (.t 17), (some (13, false))⟩,
     ⟨(some 19), .len .sl (.t 18), (some (13, false))⟩,
     ⟨(some 20), .bin (some .other) none .geq (.t 14) (.t 19), (some (13, false))⟩,
     ⟨(some 21), .pick (.t 13) (.c (.bool true)) (.t 20), none⟩,
     ⟨(some 22), .mv (.t 21), none⟩,
     ⟨(some 23), .mv (.t 2), (some (22, false))⟩,
     ⟨(some 24), .bin (some .other) none .lss (.t 23) (.c (.int .i64 0)), (some (22, false))⟩,
     ⟨(some 25), .pick (.t 22) (.c (.bool true)) (.t 24), none⟩,
     ⟨(some 26), .mv (.t 25), none⟩,
     ⟨(some 27), .mv (.t 2), (some (26, false))⟩,
     ⟨(some 28), .mv (.t 0), (some (26, false))⟩,
     ⟨(some 29), .nilc (.t 28), (some (26, false))⟩,
     ⟨(some 30), .faddr 0 (.t 29), (some (26, false))⟩,
     ⟨(some 31), .load false 1 (.t 30), (some (26, false))⟩,
     ⟨(some 32), .len .sl (.t 31), (some (26, false))⟩,
     ⟨(some 33), .bin (some .other) none .geq (.t 27) (.t 32), (some (26, false))⟩,
     ⟨(some 34), .pick (.t 26) (.c (.bool true)) (.t 33), none⟩])
    (.cond (.t 34)
     (.seq
      (.region [⟨(some 6), .mv (.c (.int .i64 (.negSucc 0))), none⟩])
      .ret)
     .skip))
   (.seq
    (.region [⟨(some 35), .mv (.t 0), none⟩,
     ⟨(some 36), .nilc (.t 35), none⟩,
     ⟨(some 37), .faddr 1 (.t 36), none⟩,
     ⟨(some 38), .load false 1 (.t 37), none⟩,
     ⟨(some 39), .mv (.t 1), none⟩,
     ⟨(some 40), .iaddrS 1 (.t 38) (.t 39), none⟩,
     ⟨(some 41), .load false 1 (.t 40), none⟩,
     ⟨(some 42), .mv (.t 2), none⟩,
     ⟨(some 43), .iaddrS 1 (.t 41) (.t 42), none⟩,
     ⟨(some 44), .load false 1 (.t 43), none⟩,
     ⟨(some 6), .mv (.t 44), none⟩])
    .ret))),
 none⟩
/-- (*gobo/dfa.Dfa).Rule -/
def Lx.c36 : RFunc := ⟨[.tmp 4],
 some
 (.seq
  (.region [⟨(some 4), .mv (.c (.int .i64 0)), none⟩])
  (.seq
   (.seq
    (.region [⟨(some 5), .mv (.t 0), none⟩,
     ⟨(some 6), .bin (some .ptr) none .eql (.t 5) (.c .nilp), none⟩,
     ⟨(some 7), .mv (.t 6), none⟩,
     ⟨(some 8), .mv (.t 1), (some (7, false))⟩,
     ⟨(some 9), .bin (some .other) none .lss (.t 8) (.c (.int .i64 0)), (some (7, false))⟩,
     ⟨(some 10), .pick (.t 7) (.c (.bool true)) (.t 9), none⟩,
     ⟨(some 11), .mv (.t 10), none⟩,
     ⟨(some 12), .mv (.t 1), (some (11, false))⟩,
     ⟨(some 13), .mv (.t 0), (some (11, false))⟩,
     ⟨(some 14), .nilc (.t 13), (some (11, false))⟩,
     ⟨(some 15), .faddr 2 (.t 14), (some (11, false))⟩,
     ⟨(some 16), .load false 1 (.t 15), (some (11, false))⟩,
     ⟨(some 17), .len .sl (.t 16), (some (11, false))⟩,
     ⟨(some 18), .bin (some .other) none .geq (.t 12) (.t 17), (some (11, false))⟩,
     ⟨(some 19), .pick (.t 11) (.c (.bool true)) (.t 18), none⟩])
    (.cond (.t 19)
     (.seq
      (.region [⟨(some 4), .mv (.c (.int .i64 (.negSucc 0))), none⟩])
      .ret)
     .skip))
   (.seq
    (.region [⟨(some 20), .mv (.t 0), none⟩,
     ⟨(some 21), .nilc (.t 20), none⟩,
     ⟨(some 22), .faddr 2 (.t 21), none⟩,
     ⟨(some 23), .load false 1 (.t 22), none⟩,
     ⟨(some 24), .mv (.t 1), none⟩,
     ⟨(some 25), .iaddrS 1 (.t 23) (.t 24), none⟩,
     ⟨(some 26), .load false 1 (.t 25), none⟩,
     ⟨(some 4), .mv (.t 26), none⟩])
    .ret))),
 none⟩
/-- gobo/decode.New -/
def Lx.c37 : RFunc := ⟨[.tmp 0],
 some
 (.seq
  (.region [⟨(some 0), .mv (.c .nilp), none⟩])
  (.seq
   (.region [⟨(some 1), .build [.nils, (.int .i64 0), (.bool false), .nils] [], none⟩,
    ⟨(some 2), .box (.t 1), none⟩,
    ⟨(some 0), .mv (.t 2), none⟩])
   .ret)),
 none⟩
/-- (*gobo/decode.Dec).Feed -/
def Lx.c38 : RFunc := ⟨[.tmp 4],
 some
 (.seq
  (.region [⟨(some 4), .mv (.c .nils), none⟩])
  (.seq
   (.seq
    (.region [⟨(some 7), .mv (.t 0), none⟩,
     ⟨(some 8), .bin (some .ptr) none .eql (.t 7) (.c .nilp), none⟩,
     ⟨(some 9), .mv (.t 8), none⟩,
     ⟨(some 10), .mv (.t 0), (some (9, false))⟩,
     ⟨(some 11), .nilc (.t 10), (some (9, false))⟩,
     ⟨(some 12), .faddr 2 (.t 11), (some (9, false))⟩,
     ⟨(some 13), .load false 1 (.t 12), (some (9, false))⟩,
     ⟨(some 14), .pick (.t 9) (.c (.bool true)) (.t 13), none⟩])
    (.cond (.t 14)
     (.seq
      (.region [⟨(some 4), .mv (.c .nils), none⟩])
      .ret)
     .skip))
   (.seq
    (.seq
     (.region [⟨(some 15), .mv (.t 1), none⟩,
      ⟨(some 16), .len .sl (.t 15), none⟩,
      ⟨(some 17), .mv (.c (.int .i64 0)), none⟩])
     (.block 0
      (.loop
       (.seq
        (.region [⟨(some 18), .bin (some .other) none .lss (.t 17) (.t 16), none⟩])
        (.seq
         (.cond (.t 18)
          .skip
          (.exit 0))
         (.seq
          (.block 1
           (.seq
            (.region [⟨(some 19), .iaddrS 1 (.t 15) (.t 17), none⟩,
             ⟨(some 20), .load false 1 (.t 19), none⟩,
             ⟨(some 6), .mv (.t 20), none⟩])
            (.region [⟨(some 21), .mv (.t 0), none⟩,
             ⟨(some 22), .mv (.t 6), none⟩,
             ⟨(some 23), .call (.c (.fn 59 [] [])) [(.t 21), (.t 22)], none⟩])))
          (.region [⟨(some 24), .bin (some .other) none .add (.t 17) (.c (.int .i64 1)), none⟩,
           ⟨(some 17), .mv (.t 24), none⟩])))))))
    (.seq
     (.region [⟨(some 25), .mv (.t 0), none⟩,
      ⟨(some 26), .call (.c (.fn 60 [] [])) [(.t 25)], none⟩,
      ⟨(some 4), .mv (.t 26), none⟩])
     .ret)))),
 none⟩
/-- (*gobo/decode.Dec).Close -/
def Lx.c39 : RFunc := ⟨[.tmp 2],
 some
 (.seq
  (.region [⟨(some 2), .mv (.c .nils), none⟩])
  (.seq
   (.seq
    (.region [⟨(some 3), .mv (.t 0), none⟩,
     ⟨(some 4), .bin (some .ptr) none .eql (.t 3) (.c .nilp), none⟩,
     ⟨(some 5), .mv (.t 4), none⟩,
     ⟨(some 6), .mv (.t 0), (some (5, false))⟩,
     ⟨(some 7), .nilc (.t 6), (some (5, false))⟩,
     ⟨(some 8), .faddr 2 (.t 7), (some (5, false))⟩,
     ⟨(some 9), .load false 1 (.t 8), (some (5, false))⟩,
     ⟨(some 10), .pick (.t 5) (.c (.bool true)) (.t 9), none⟩])
    (.cond (.t 10)
     (.seq
      (.region [⟨(some 2), .mv (.c .nils), none⟩])
      .ret)
     .skip))
   (.seq
    (.seq
     (.region [⟨(some 11), .mv (.t 0), none⟩,
      ⟨(some 12), .nilc (.t 11), none⟩,
      ⟨(some 13), .faddr 2 (.t 12), none⟩,
      ⟨none, .store 1 (.t 13) (.c (.bool true)), none⟩])
     (.seq
      (.region [⟨(some 14), .mv (.t 0), none⟩,
       ⟨(some 15), .nilc (.t 14), none⟩,
       ⟨(some 16), .faddr 0 (.t 15), none⟩,
       ⟨(some 17), .load false 1 (.t 16), none⟩,
       ⟨(some 18), .len .sl (.t 17), none⟩,
       ⟨(some 19), .bin (some .other) none .gtr (.t 18) (.c (.int .i64 0)), none⟩])
      (.cond (.t 19)
       (.region [⟨(some 20), .mv (.t 0), none⟩,
        ⟨(some 21), .call (.c (.fn 61 [] [])) [(.t 20), (.c (.bool true)), (.c (.bool true))], none⟩])
       .skip)))
    (.seq
     (.region [⟨(some 22), .mv (.t 0), none⟩,
      ⟨(some 23), .call (.c (.fn 60 [] [])) [(.t 22)], none⟩,
      ⟨(some 2), .mv (.t 23), none⟩])
     .ret)))),
 none⟩
/-- gobo/lexer.Next -/
def Lx.c40 : RFunc := ⟨[.cell 6 true 4, .tmp 7, .tmp 8],
 some
 (.seq
  (.region [⟨(some 3), .box (.t 0), none⟩,
   ⟨(some 6), .alloc [(.int .i64 0), (.int .i64 0), (.int .i64 0), (.int .i64 0)], none⟩,
   ⟨(some 7), .mv (.c (.int .i64 0)), none⟩,
   ⟨(some 8), .mv (.c (.bool false)), none⟩])
  (.seq
   (.seq
    (.region [⟨(some 10), .load false 1 (.t 3), none⟩,
     ⟨(some 11), .bin (some .ptr) none .eql (.t 10) (.c .nilp), none⟩])
    (.cond (.t 11)
     (.seq
      (.region [⟨(some 12), .build [(.int .i64 0), (.int .i64 0), (.int .i64 0), (.int .i64 0)] [], none⟩,
       ⟨none, .store 4 (.t 6) (.t 12), none⟩,
       ⟨(some 7), .mv (.c (.int .i64 0)), none⟩,
       ⟨(some 8), .mv (.c (.bool false)), none⟩])
      .ret)
     .skip))
   (.seq
    (.region [⟨(some 9), .alloc [(.int .i64 0)], none⟩,
     ⟨none, .store 1 (.t 9) (.c (.int .i64 0)), none⟩])
    (.seq
     (.region [⟨(some 13), .mv (.t 1), none⟩,
      ⟨(some 14), .mv (.t 2), none⟩,
      ⟨(some 15), .mkfn 62 [] [(.t 3), (.t 9)], none⟩,
      ⟨(some 16), .call (.c (.fn 42 [] [])) [(.t 13), (.t 14), (.t 15)], none⟩,
      ⟨(some 17), .extract 0 (.t 16), none⟩,
      ⟨(some 18), .extract 1 (.t 16), none⟩,
      ⟨(some 19), .extract 2 (.t 16), none⟩,
      ⟨none, .store 4 (.t 6) (.t 17), none⟩,
      ⟨(some 7), .mv (.t 18), none⟩,
      ⟨(some 8), .mv (.t 19), none⟩])
     .ret)))),
 none⟩
/-- gobo/lexer.live -/
def Lx.c41 : RFunc := ⟨[.tmp 2],
 some
 (.seq
  (.region [⟨(some 2), .mv (.c .nils), none⟩])
  (.seq
   (.region [⟨(some 10), .mv (.t 0), none⟩,
    ⟨(some 11), .call (.c (.fn 65 [] [])) [(.t 10)], none⟩,
    ⟨(some 12), .mkslice 1 [(.bool false)] 1 (.t 11) (.t 11), none⟩,
    ⟨(some 3), .alloc [.nils], none⟩,
    ⟨none, .store 1 (.t 3) (.t 12), none⟩])
   (.seq
    (.region [⟨(some 13), .mv (.t 0), none⟩,
     ⟨(some 14), .call (.c (.fn 27 [] [])) [(.t 13)], none⟩,
     ⟨(some 4), .mv (.t 14), none⟩])
    (.seq
     (.seq
      (.region [⟨(some 5), .mv (.c (.bool true)), none⟩])
      (.block 0
       (.loop
        (.seq
         (.seq
          (.region [⟨(some 15), .mv (.t 5), none⟩])
          (.cond (.t 15)
           .skip
           (.exit 0)))
         (.block 1
          (.seq
           (.region [⟨(some 5), .mv (.c (.bool false)), none⟩])
           (.seq
            (.region [⟨(some 16), .load false 1 (.t 3), none⟩,
             ⟨(some 17), .len .sl (.t 16), none⟩,
             ⟨(some 18), .mv (.c (.int .i64 0)), none⟩])
            (.block 2
             (.loop
              (.seq
               (.region [⟨(some 19), .bin (some .other) none .lss (.t 18) (.t 17), none⟩])
               (.seq
                (.cond (.t 19)
                 .skip
                 (.exit 2))
                (.seq
                 (.block 3
                  (.seq
                   (.region [⟨(some 20), .mv (.t 18), none⟩,
                    ⟨(some 6), .mv (.t 20), none⟩])
                   (.seq
                    (.region [⟨(some 21), .mv (.t 0), none⟩,
                     ⟨(some 22), .mv (.t 6), none⟩,
                     ⟨(some 23), .lit false 1 1 [(.int .i64 0)] [(0, 1, (.t 22))], none⟩,
                     ⟨(some 24), .call (.c (.fn 30 [] [])) [(.t 21), (.t 23)], none⟩,
                     ⟨(some 25), .len .sl (.t 24), none⟩,
                     ⟨(some 26), .bin (some .other) none .gtr (.t 25) (.c (.int .i64 0)), none⟩,
                     ⟨(some 7), .mv (.t 26), none⟩])
                    (.seq
                     (.seq
                      (.region [⟨(some 27), .mv (.t 4), none⟩,
                       ⟨(some 28), .len .sl (.t 27), none⟩,
                       ⟨(some 29), .mv (.c (.int .i64 0)), none⟩])
                      (.block 4
                       (.loop
                        (.seq
                         (.region [⟨(some 30), .bin (some .other) none .lss (.t 29) (.t 28), none⟩])
                         (.seq
                          (.cond (.t 30)
                           .skip
                           (.exit 4))
                          (.seq
                           (.block 5
                            (.seq
                             (.region [⟨(some 31), .iaddrS 2 (.t 27) (.t 29), none⟩,
                              ⟨(some 32), .load true 2 (.t 31), none⟩,
                              ⟨(some 9), .alloc [(.int .i32 0), (.int .i32 0)], none⟩,
                              ⟨none, .store 2 (.t 9) (.t 32), none⟩])
                             (.region [⟨(some 33), .mv (.t 7), none⟩,
                              ⟨(some 34), .mv (.t 33), none⟩,
                              ⟨(some 35), .mv (.t 0), (some (34, false))⟩,
                              ⟨(some 36), .mv (.t 6), (some (34, false))⟩,
                              ⟨(some 37), .lit false 1 1 [(.int .i64 0)] [(0, 1, (.t 36))], (some (34, false))⟩,
                              ⟨(some 38), .faddr 0 (.t 9), (some (34, false))⟩,
                              ⟨(some 39), .load false 1 (.t 38), (some (34, false))⟩,
                              ⟨(some 40), .call (.c (.fn 29 [] [])) [(.t 35), (.t 37), (.t 39)], (some (34, false))⟩,
                              ⟨(some 41), .mkfn 67 [] [(.t 3)], (some (34, false))⟩,
                              ⟨(some 42), .call (.c (.fn 66 [] [])) [(.t 40), (.t 41)], (some (34, false))⟩,
                              ⟨(some 43), .pick (.t 34) (.c (.bool true)) (.t 42), none⟩,
                              ⟨(some 7), .mv (.t 43), none⟩])))
                           (.region [⟨(some 44), .bin (some .other) none .add (.t 29) (.c (.int .i64 1)), none⟩,
                            ⟨(some 29), .mv (.t 44), none⟩])))))))
                     (.seq
                      (.region [⟨(some 45), .mv (.t 5), none⟩,
                       ⟨(some 46), .mv (.t 45), none⟩,
                       ⟨(some 47), .mv (.t 7), (some (46, false))⟩,
                       ⟨(some 48), .mv (.t 47), (some (46, false))⟩,
                       ⟨(some 49), .load false 1 (.t 3), (some (48, true))⟩,
                       ⟨(some 50), .mv (.t 6), (some (48, true))⟩,
                       ⟨(some 51), .iaddrS 1 (.t 49) (.t 50), (some (48, true))⟩,
                       ⟨(some 52), .load false 1 (.t 51), (some (48, true))⟩,
                       ⟨(some 53), .un .not (.t 52), (some (48, true))⟩,
                       ⟨(some 54), .pick (.t 48) (.t 53) (.c (.bool false)), (some (46, false))⟩,
                       ⟨(some 55), .pick (.t 46) (.c (.bool true)) (.t 54), none⟩,
                       ⟨(some 5), .mv (.t 55), none⟩])
                      (.region [⟨(some 56), .load false 1 (.t 3), none⟩,
                       ⟨(some 57), .mv (.t 6), none⟩,
                       ⟨(some 58), .mv (.t 7), none⟩,
                       ⟨(some 59), .iaddrS 1 (.t 56) (.t 57), none⟩,
                       ⟨none, .store 1 (.t 59) (.t 58), none⟩]))))))
                 (.region [⟨(some 60), .bin (some .other) none .add (.t 18) (.c (.int .i64 1)), none⟩,
                  ⟨(some 18), .mv (.t 60), none⟩])))))))))))))
     (.seq
      (.region [⟨(some 61), .load false 1 (.t 3), none⟩,
       ⟨(some 2), .mv (.t 61), none⟩])
      .ret))))),
 none⟩
/-- gobo/lexer.walk -/
def Lx.c42 : RFunc := ⟨[.cell 6 true 4, .tmp 7, .tmp 8],
 some
 (.seq
  (.region [⟨(some 6), .alloc [(.int .i64 0), (.int .i64 0), (.int .i64 0), (.int .i64 0)], none⟩,
   ⟨(some 7), .mv (.c (.int .i64 0)), none⟩,
   ⟨(some 8), .mv (.c (.bool false)), none⟩])
  (.seq
   (.seq
    (.region [⟨(some 16), .mv (.t 1), none⟩,
     ⟨(some 17), .bin (some .other) none .lss (.t 16) (.c (.int .i64 0)), none⟩,
     ⟨(some 18), .mv (.t 17), none⟩,
     ⟨(some 19), .mv (.t 1), (some (18, false))⟩,
     ⟨(some 20), .mv (.t 0), (some (18, false))⟩,
     ⟨(some 21), .len .sl (.t 20), (some (18, false))⟩,
     ⟨(some 22), .bin (some .other) none .geq (.t 19) (.t 21), (some (18, false))⟩,
     ⟨(some 23), .pick (.t 18) (.c (.bool true)) (.t 22), none⟩])
    (.cond (.t 23)
     (.seq
      (.region [⟨(some 24), .build [(.int .i64 0), (.int .i64 0), (.int .i64 0), (.int .i64 0)] [], none⟩,
       ⟨none, .store 4 (.t 6) (.t 24), none⟩,
       ⟨(some 7), .mv (.c (.int .i64 0)), none⟩,
       ⟨(some 8), .mv (.c (.bool false)), none⟩])
      .ret)
     .skip))
   (.seq
    (.drawn [(⟨(some 25), .mv (.t 0), none⟩, []),
     (⟨(some 26), .mv (.t 1), none⟩, []),
     (⟨(some 27), .iaddrS 5 (.t 25) (.t 26), none⟩, []),
     (⟨(some 28), .faddr 1 (.t 27), none⟩, []),
     (⟨(some 29), .load false 1 (.t 28), none⟩, []),
     (⟨(some 30), .mv (.t 0), none⟩, []),
     (⟨(some 31), .mv (.t 1), none⟩, []),
     (⟨(some 32), .iaddrS 5 (.t 30) (.t 31), none⟩, []),
     (⟨(some 33), .faddr 2 (.t 32), none⟩, []),
     (⟨(some 34), .load false 1 (.t 33), none⟩, []),
     (⟨(some 35), .build [(.int .i64 0), (.int .i64 0), (.int .i64 0), (.int .i64 0)] [(0, 1, (.c (.int .i64 (.negSucc 0)))), (1, 1, (.t 29)), (2, 1, (.t 34))], none⟩, []),
     (⟨(some 9), .alloc [(.int .i64 0), (.int .i64 0), (.int .i64 0), (.int .i64 0)], none⟩, [⟨(some 29), .load false 1 (.t 28), none⟩, ⟨(some 34), .load false 1 (.t 33), none⟩]),
     (⟨none, .store 4 (.t 9) (.t 35), none⟩, [])])
    (.seq
     (.region [⟨(some 10), .mv (.c (.int .i64 1)), none⟩,
      ⟨(some 11), .mv (.c (.bool false)), none⟩])
     (.seq
      (.seq
       (.region [⟨(some 36), .mv (.t 1), none⟩,
        ⟨(some 12), .mv (.t 36), none⟩])
       (.block 0
        (.loop
         (.seq
          (.seq
           (.region [⟨(some 37), .mv (.t 12), none⟩,
            ⟨(some 38), .mv (.t 0), none⟩,
            ⟨(some 39), .len .sl (.t 38), none⟩,
            ⟨(some 40), .bin (some .other) none .lss (.t 37) (.t 39), none⟩,
            ⟨(some 41), .mv (.t 40), none⟩,
            ⟨(some 42), .mv (.t 11), (some (41, true))⟩,
            ⟨(some 43), .un .not (.t 42), (some (41, true))⟩,
            ⟨(some 44), .pick (.t 41) (.t 43) (.c (.bool false)), none⟩])
           (.cond (.t 44)
            .skip
            (.exit 0)))
          (.seq
           (.block 1
            (.seq
             (.region [⟨(some 47), .mv (.t 0), none⟩,
              ⟨(some 48), .mv (.t 12), none⟩,
              ⟨(some 49), .iaddrS 5 (.t 47) (.t 48), none⟩,
              ⟨(some 50), .load true 5 (.t 49), none⟩,
              ⟨(some 13), .alloc [(.int .i32 0), (.int .i64 0), (.int .i64 0), (.bool false), (.bool false)], none⟩,
              ⟨none, .store 5 (.t 13) (.t 50), none⟩])
             (.seq
              (.seq
               (.region [⟨(some 51), .faddr 2 (.t 13), none⟩,
                ⟨(some 52), .load false 1 (.t 51), none⟩,
                ⟨(some 53), .faddr 3 (.t 9), none⟩,
                ⟨none, .store 1 (.t 53) (.t 52), none⟩])
               (.seq
                (.region [⟨(some 54), .faddr 4 (.t 13), none⟩,
                 ⟨(some 55), .load false 1 (.t 54), none⟩])
                (.cond (.t 55)
                 (.region [⟨(some 56), .faddr 3 (.t 9), none⟩,
                  ⟨(some 57), .load false 1 (.t 56), none⟩,
                  ⟨(some 58), .bin (some .other) none .add (.t 57) (.c (.int .i64 1)), none⟩,
                  ⟨(some 59), .faddr 3 (.t 9), none⟩,
                  ⟨none, .store 1 (.t 59) (.t 58), none⟩])
                 .skip)))
              (.seq
               (.region [⟨(some 14), .mv (.c (.bool false)), none⟩,
                ⟨(some 15), .mv (.c (.int .i64 (.negSucc 0))), none⟩])
               (.seq
                (.seq
                 (.region [⟨(some 60), .faddr 3 (.t 13), none⟩,
                  ⟨(some 61), .load false 1 (.t 60), none⟩,
                  ⟨(some 62), .un .not (.t 61), none⟩])
                 (.cond (.t 62)
                  (.region [⟨(some 64), .mv (.t 2), none⟩,
                   ⟨(some 65), .load true 5 (.t 13), none⟩,
                   ⟨(some 66), .call (.t 64) [(.t 65)], none⟩,
                   ⟨(some 63), .mv (.t 66), none⟩,
                   ⟨(some 67), .extract 0 (.t 63), none⟩,
                   ⟨(some 68), .extract 1 (.t 63), none⟩,
                   ⟨(some 14), .mv (.t 67), none⟩,
                   ⟨(some 15), .mv (.t 68), none⟩])
                  .skip))
                (.seq
                 (.region [⟨(some 69), .mv (.t 14), none⟩,
                  ⟨(some 70), .un .not (.t 69), none⟩,
                  ⟨(some 11), .mv (.t 70), none⟩])
                 (.seq
                  (.region [⟨(some 71), .mv (.t 15), none⟩,
                   ⟨(some 72), .bin (some .other) none .geq (.t 71) (.c (.int .i64 0)), none⟩])
                  (.cond (.t 72)
                   (.drawn [(⟨(some 73), .mv (.t 15), none⟩, []),
                    (⟨(some 74), .faddr 2 (.t 13), none⟩, []),
                    (⟨(some 75), .load false 1 (.t 74), none⟩, []),
                    (⟨(some 76), .mv (.t 12), none⟩, []),
                    (⟨(some 77), .mv (.t 1), none⟩, []),
                    (⟨(some 78), .bin (some .other) none .sub (.t 76) (.t 77), none⟩, []),
                    (⟨(some 79), .bin (some .other) none .add (.t 78) (.c (.int .i64 1)), none⟩, []),
                    (⟨(some 80), .faddr 0 (.t 9), none⟩, []),
                    (⟨none, .store 1 (.t 80) (.t 73), none⟩, [⟨(some 75), .load false 1 (.t 74), none⟩]),
                    (⟨(some 81), .faddr 2 (.t 9), none⟩, []),
                    (⟨none, .store 1 (.t 81) (.t 75), none⟩, []),
                    (⟨(some 10), .mv (.t 79), none⟩, [])])
                   .skip))))))))
           (.region [⟨(some 45), .mv (.t 12), none⟩,
            ⟨(some 46), .bin (some .other) none .add (.t 45) (.c (.int .i64 1)), none⟩,
            ⟨(some 12), .mv (.t 46), none⟩]))))))
      (.seq
       (.seq
        (.region [⟨(some 82), .mv (.t 11), none⟩,
         ⟨(some 83), .un .not (.t 82), none⟩])
        (.cond (.t 83)
         (.region [⟨(some 84), .mv (.t 0), none⟩,
          ⟨(some 85), .mv (.t 0), none⟩,
          ⟨(some 86), .len .sl (.t 85), none⟩,
          ⟨(some 87), .bin (some .other) none .sub (.t 86) (.c (.int .i64 1)), none⟩,
          ⟨(some 88), .iaddrS 5 (.t 84) (.t 87), none⟩,
          ⟨(some 89), .faddr 2 (.t 88), none⟩,
          ⟨(some 90), .load false 1 (.t 89), none⟩,
          ⟨(some 91), .bin (some .other) none .add (.t 90) (.c (.int .i64 1)), none⟩,
          ⟨(some 92), .faddr 3 (.t 9), none⟩,
          ⟨none, .store 1 (.t 92) (.t 91), none⟩])
         .skip))
       (.seq
        (.region [⟨(some 93), .load true 4 (.t 9), none⟩,
         ⟨(some 94), .mv (.t 10), none⟩,
         ⟨(some 95), .mv (.t 11), none⟩,
         ⟨none, .store 4 (.t 6) (.t 93), none⟩,
         ⟨(some 7), .mv (.t 94), none⟩,
         ⟨(some 8), .mv (.t 95), none⟩])
        .ret))))))),
 none⟩
/-- gobo/lexer.Model$1 -/
def Lx.c43 : RFunc := ⟨[.tmp 5, .tmp 6],
 some
 (.seq
  (.region [⟨(some 4), .box (.t 0), none⟩,
   ⟨(some 5), .mv (.c (.bool false)), none⟩,
   ⟨(some 6), .mv (.c (.int .i64 0)), none⟩])
  (.seq
   (.region [⟨(some 8), .load false 1 (.t 1), none⟩,
    ⟨(some 9), .load false 1 (.t 2), none⟩,
    ⟨(some 10), .faddr 0 (.t 4), none⟩,
    ⟨(some 11), .load false 1 (.t 10), none⟩,
    ⟨(some 12), .call (.c (.fn 29 [] [])) [(.t 8), (.t 9), (.t 11)], none⟩,
    ⟨(some 13), .mkfn 45 [] [(.t 3)], none⟩,
    ⟨(some 14), .call (.c (.fn 44 [] [])) [(.t 12), (.t 13)], none⟩,
    ⟨none, .store 1 (.t 2) (.t 14), none⟩])
   (.seq
    (.seq
     (.region [⟨(some 15), .load false 1 (.t 1), none⟩,
      ⟨(some 16), .load false 1 (.t 2), none⟩,
      ⟨(some 17), .call (.c (.fn 30 [] [])) [(.t 15), (.t 16)], none⟩,
      ⟨(some 7), .mv (.t 17), none⟩])
     (.seq
      (.region [⟨(some 18), .mv (.t 7), none⟩,
       ⟨(some 19), .len .sl (.t 18), none⟩,
       ⟨(some 20), .bin (some .other) none .gtr (.t 19) (.c (.int .i64 0)), none⟩])
      (.cond (.t 20)
       (.seq
        (.drawn [(⟨(some 21), .mv (.t 7), none⟩, []),
         (⟨(some 22), .iaddrS 1 (.t 21) (.c (.int .i64 0)), none⟩, []),
         (⟨(some 23), .load false 1 (.t 22), none⟩, []),
         (⟨(some 5), .mv (.c (.bool true)), none⟩, []),
         (⟨(some 6), .mv (.t 23), none⟩, [])])
        .ret)
       .skip)))
    (.seq
     (.region [⟨(some 24), .load false 1 (.t 2), none⟩,
      ⟨(some 25), .len .sl (.t 24), none⟩,
      ⟨(some 26), .bin (some .other) none .gtr (.t 25) (.c (.int .i64 0)), none⟩,
      ⟨(some 5), .mv (.t 26), none⟩,
      ⟨(some 6), .mv (.c (.int .i64 (.negSucc 0))), none⟩])
     .ret)))),
 none⟩
end Go.AM
