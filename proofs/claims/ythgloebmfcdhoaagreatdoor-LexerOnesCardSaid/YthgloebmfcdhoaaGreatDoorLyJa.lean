import Derived.Test.YthgloebmfcdhoaaGreatDoorVc
namespace Go.AM
open Go
def noG : Glob := fun _ => none
end Go.AM
set_option maxRecDepth 100000
set_option linter.unusedVariables false
set_option linter.unusedSimpArgs false
namespace Go.AM.Ly
open Go
noncomputable section
def j3_2 (ev : Ev) (L : Nat) (t2 : AV) (H : Heap) : CR :=
 .ret t2 H
def j3_48 (ev : Ev) (L : Nat) (t119 t124 : AV) (H : Heap) : CR :=
 ob (pickF t124 (.bool false) t119) fun t125 =>
 j3_2 ev L t125 H
def j3_47 (ev : Ev) (L : Nat) (t119 t123 : AV) (H : Heap) : CR :=
 gd (isBool true t119) (j3_48 ev L t119 undefA H)
 (ob (binR (some .other) none .eql t123 (.int .i64 (.negSucc 0))) fun t124 =>
 j3_48 ev L t119 t124 H)
def j3_46 (ev : Ev) (L : Nat) (t119 t122 : AV) (H : Heap) : CR :=
 gd (isBool true t119) (j3_47 ev L t119 undefA H)
 (ob (loadR false 1 noG H t122) fun t123 =>
 j3_47 ev L t119 t123 H)
def j3_45 (ev : Ev) (L : Nat) (t119 t121 : AV) (H : Heap) : CR :=
 gd (isBool true t119) (j3_46 ev L t119 undefA H)
 (ob (moveP 0 t121) fun t122 =>
 j3_46 ev L t119 t122 H)
def j3_44 (ev : Ev) (L : Nat) (t119 t120 : AV) (H : Heap) : CR :=
 gd (isBool true t119) (j3_45 ev L t119 undefA H)
 (ob (indexSl 4 t120 (.int .i64 1)) fun t121 =>
 j3_45 ev L t119 t121 H)
def j3_43 (ev : Ev) (L : Nat) (t13 t109 t117 : AV) (H : Heap) : CR :=
 ob (pickF t117 (.bool false) t109) fun t118 =>
 gd (isBool true t118) (j3_44 ev L t118 undefA H)
 (j3_44 ev L t118 t13 H)
def j3_42 (ev : Ev) (L : Nat) (t13 t109 t112 t116 : AV) (H : Heap) : CR :=
 gd (isBool true t109) (j3_43 ev L t13 t109 undefA H)
 (ob (binR (some .other) (some [.int, .int, .int, .int]) .eql t112 t116) fun t117 =>
 j3_43 ev L t13 t109 t117 H)
def j3_41 (ev : Ev) (L : Nat) (t13 t109 t112 t113 t115 : AV) (H : Heap) : CR :=
 gd (isBool true t109) (j3_42 ev L t13 t109 t112 undefA H)
 (ob ((fillR [(.int .i64 0), (.int .i64 0), (.int .i64 0), (.int .i64 0)] [(2, 1, t113), (3, 1, t115)]).map .agg) fun t116 =>
 j3_42 ev L t13 t109 t112 t116 H)
def j3_40 (ev : Ev) (L : Nat) (t13 t109 t112 t113 t114 : AV) (H : Heap) : CR :=
 gd (isBool true t109) (j3_41 ev L t13 t109 t112 t113 undefA H)
 (ob (binR (some .other) none .add t114 (.int .i64 1)) fun t115 =>
 j3_41 ev L t13 t109 t112 t113 t115 H)
def j3_39 (ev : Ev) (L : Nat) (t3 t13 t109 t112 t113 : AV) (H : Heap) : CR :=
 gd (isBool true t109) (j3_40 ev L t13 t109 t112 t113 undefA H)
 (j3_40 ev L t13 t109 t112 t113 t3 H)
def j3_38 (ev : Ev) (L : Nat) (t3 t13 t109 t112 : AV) (H : Heap) : CR :=
 gd (isBool true t109) (j3_39 ev L t3 t13 t109 t112 undefA H)
 (j3_39 ev L t3 t13 t109 t112 t3 H)
def j3_37 (ev : Ev) (L : Nat) (t3 t13 t109 t111 : AV) (H : Heap) : CR :=
 gd (isBool true t109) (j3_38 ev L t3 t13 t109 undefA H)
 (ob (loadR true 4 noG H t111) fun t112 =>
 j3_38 ev L t3 t13 t109 t112 H)
def j3_36 (ev : Ev) (L : Nat) (t3 t13 t109 t110 : AV) (H : Heap) : CR :=
 gd (isBool true t109) (j3_37 ev L t3 t13 t109 undefA H)
 (ob (indexSl 4 t110 (.int .i64 0)) fun t111 =>
 j3_37 ev L t3 t13 t109 t111 H)
def j3_35 (ev : Ev) (L : Nat) (t3 t13 t104 t107 : AV) (H : Heap) : CR :=
 ob (pickF t107 (.bool false) t104) fun t108 =>
 gd (isBool true t108) (j3_36 ev L t3 t13 t108 undefA H)
 (j3_36 ev L t3 t13 t108 t13 H)
def j3_34 (ev : Ev) (L : Nat) (t3 t13 t104 t106 : AV) (H : Heap) : CR :=
 gd (isBool true t104) (j3_35 ev L t3 t13 t104 undefA H)
 (ob (binR (some .other) none .eql t106 (.int .i64 2)) fun t107 =>
 j3_35 ev L t3 t13 t104 t107 H)
def j3_33 (ev : Ev) (L : Nat) (t3 t13 t104 t105 : AV) (H : Heap) : CR :=
 gd (isBool true t104) (j3_34 ev L t3 t13 t104 undefA H)
 (ob (lenR H t105 .sl) fun t106 =>
 j3_34 ev L t3 t13 t104 t106 H)
def j3_32 (ev : Ev) (L : Nat) (t3 t13 t94 t102 : AV) (H : Heap) : CR :=
 ob (pickF t102 (.bool false) t94) fun t103 =>
 gd (isBool true t103) (j3_33 ev L t3 t13 t103 undefA H)
 (j3_33 ev L t3 t13 t103 t13 H)
def j3_31 (ev : Ev) (L : Nat) (t3 t13 t94 t97 t101 : AV) (H : Heap) : CR :=
 gd (isBool true t94) (j3_32 ev L t3 t13 t94 undefA H)
 (ob (binR (some .other) (some [.int, .int, .int, .int]) .eql t97 t101) fun t102 =>
 j3_32 ev L t3 t13 t94 t102 H)
def j3_30 (ev : Ev) (L : Nat) (t3 t13 t94 t97 t98 t100 : AV) (H : Heap) : CR :=
 gd (isBool true t94) (j3_31 ev L t3 t13 t94 t97 undefA H)
 (ob ((fillR [(.int .i64 0), (.int .i64 0), (.int .i64 0), (.int .i64 0)] [(2, 1, t98), (3, 1, t100)]).map .agg) fun t101 =>
 j3_31 ev L t3 t13 t94 t97 t101 H)
def j3_29 (ev : Ev) (L : Nat) (t3 t13 t94 t97 t98 t99 : AV) (H : Heap) : CR :=
 gd (isBool true t94) (j3_30 ev L t3 t13 t94 t97 t98 undefA H)
 (ob (binR (some .other) none .add t99 (.int .i64 1)) fun t100 =>
 j3_30 ev L t3 t13 t94 t97 t98 t100 H)
def j3_28 (ev : Ev) (L : Nat) (t3 t13 t94 t97 t98 : AV) (H : Heap) : CR :=
 gd (isBool true t94) (j3_29 ev L t3 t13 t94 t97 t98 undefA H)
 (j3_29 ev L t3 t13 t94 t97 t98 t3 H)
def j3_27 (ev : Ev) (L : Nat) (t3 t13 t94 t97 : AV) (H : Heap) : CR :=
 gd (isBool true t94) (j3_28 ev L t3 t13 t94 t97 undefA H)
 (j3_28 ev L t3 t13 t94 t97 t3 H)
def j3_26 (ev : Ev) (L : Nat) (t3 t13 t94 t96 : AV) (H : Heap) : CR :=
 gd (isBool true t94) (j3_27 ev L t3 t13 t94 undefA H)
 (ob (loadR true 4 noG H t96) fun t97 =>
 j3_27 ev L t3 t13 t94 t97 H)
def j3_25 (ev : Ev) (L : Nat) (t3 t13 t94 t95 : AV) (H : Heap) : CR :=
 gd (isBool true t94) (j3_26 ev L t3 t13 t94 undefA H)
 (ob (indexSl 4 t95 (.int .i64 0)) fun t96 =>
 j3_26 ev L t3 t13 t94 t96 H)
def j3_24 (ev : Ev) (L : Nat) (t3 t12 t13 t89 t92 : AV) (H : Heap) : CR :=
 ob (pickF t92 (.bool false) t89) fun t93 =>
 gd (isBool true t93) (j3_25 ev L t3 t13 t93 undefA H)
 (j3_25 ev L t3 t13 t93 t12 H)
def j3_23 (ev : Ev) (L : Nat) (t3 t12 t13 t89 t91 : AV) (H : Heap) : CR :=
 gd (isBool true t89) (j3_24 ev L t3 t12 t13 t89 undefA H)
 (ob (binR (some .other) none .eql t91 (.int .i64 1)) fun t92 =>
 j3_24 ev L t3 t12 t13 t89 t92 H)
def j3_22 (ev : Ev) (L : Nat) (t3 t12 t13 t89 t90 : AV) (H : Heap) : CR :=
 gd (isBool true t89) (j3_23 ev L t3 t12 t13 t89 undefA H)
 (ob (lenR H t90 .sl) fun t91 =>
 j3_23 ev L t3 t12 t13 t89 t91 H)
def j3_21 (ev : Ev) (L : Nat) (t3 t12 t13 t78 t87 : AV) (H : Heap) : CR :=
 ob (pickF t87 (.bool false) t78) fun t88 =>
 gd (isBool true t88) (j3_22 ev L t3 t12 t13 t88 undefA H)
 (j3_22 ev L t3 t12 t13 t88 t12 H)
def j3_20 (ev : Ev) (L : Nat) (t3 t12 t13 t78 t84 t86 : AV) (H : Heap) : CR :=
 gd (isBool true t78) (j3_21 ev L t3 t12 t13 t78 undefA H)
 (ob (binR (some .other) none .eql t84 t86) fun t87 =>
 j3_21 ev L t3 t12 t13 t78 t87 H)
def j3_19 (ev : Ev) (L : Nat) (t3 t12 t13 t78 t84 t85 : AV) (H : Heap) : CR :=
 gd (isBool true t78) (j3_20 ev L t3 t12 t13 t78 t84 undefA H)
 (ob (binR (some .other) none .add t85 (.int .i64 1)) fun t86 =>
 j3_20 ev L t3 t12 t13 t78 t84 t86 H)
def j3_18 (ev : Ev) (L : Nat) (t3 t12 t13 t78 t84 : AV) (H : Heap) : CR :=
 gd (isBool true t78) (j3_19 ev L t3 t12 t13 t78 t84 undefA H)
 (j3_19 ev L t3 t12 t13 t78 t84 t3 H)
def j3_17 (ev : Ev) (L : Nat) (t3 t12 t13 t78 t83 : AV) (H : Heap) : CR :=
 gd (isBool true t78) (j3_18 ev L t3 t12 t13 t78 undefA H)
 (ob (loadR false 1 noG H t83) fun t84 =>
 j3_18 ev L t3 t12 t13 t78 t84 H)
def j3_16 (ev : Ev) (L : Nat) (t3 t12 t13 t78 t82 : AV) (H : Heap) : CR :=
 gd (isBool true t78) (j3_17 ev L t3 t12 t13 t78 undefA H)
 (ob (moveP 3 t82) fun t83 =>
 j3_17 ev L t3 t12 t13 t78 t83 H)
def j3_15 (ev : Ev) (L : Nat) (t3 t12 t13 t78 t79 t81 : AV) (H : Heap) : CR :=
 gd (isBool true t78) (j3_16 ev L t3 t12 t13 t78 undefA H)
 (ob (indexSl 4 t79 t81) fun t82 =>
 j3_16 ev L t3 t12 t13 t78 t82 H)
def j3_14 (ev : Ev) (L : Nat) (t3 t12 t13 t78 t79 t80 : AV) (H : Heap) : CR :=
 gd (isBool true t78) (j3_15 ev L t3 t12 t13 t78 t79 undefA H)
 (ob (binR (some .other) none .sub t80 (.int .i64 1)) fun t81 =>
 j3_15 ev L t3 t12 t13 t78 t79 t81 H)
def j3_13 (ev : Ev) (L : Nat) (t3 t12 t13 t78 t79 : AV) (H : Heap) : CR :=
 gd (isBool true t78) (j3_14 ev L t3 t12 t13 t78 t79 undefA H)
 (j3_14 ev L t3 t12 t13 t78 t79 t3 H)
def j3_12 (ev : Ev) (L : Nat) (t3 t11 t12 t13 t71 t76 : AV) (H : Heap) : CR :=
 ob (pickF t76 (.bool false) t71) fun t77 =>
 gd (isBool true t77) (j3_13 ev L t3 t12 t13 t77 undefA H)
 (j3_13 ev L t3 t12 t13 t77 t11 H)
def j3_11 (ev : Ev) (L : Nat) (t3 t11 t12 t13 t71 t75 : AV) (H : Heap) : CR :=
 gd (isBool true t71) (j3_12 ev L t3 t11 t12 t13 t71 undefA H)
 (ob (binR (some .other) none .eql t75 (.int .i64 1)) fun t76 =>
 j3_12 ev L t3 t11 t12 t13 t71 t76 H)
def j3_10 (ev : Ev) (L : Nat) (t3 t11 t12 t13 t71 t74 : AV) (H : Heap) : CR :=
 gd (isBool true t71) (j3_11 ev L t3 t11 t12 t13 t71 undefA H)
 (ob (loadR false 1 noG H t74) fun t75 =>
 j3_11 ev L t3 t11 t12 t13 t71 t75 H)
def j3_9 (ev : Ev) (L : Nat) (t3 t11 t12 t13 t71 t73 : AV) (H : Heap) : CR :=
 gd (isBool true t71) (j3_10 ev L t3 t11 t12 t13 t71 undefA H)
 (ob (moveP 2 t73) fun t74 =>
 j3_10 ev L t3 t11 t12 t13 t71 t74 H)
def j3_8 (ev : Ev) (L : Nat) (t3 t11 t12 t13 t71 t72 : AV) (H : Heap) : CR :=
 gd (isBool true t71) (j3_9 ev L t3 t11 t12 t13 t71 undefA H)
 (ob (indexSl 4 t72 (.int .i64 0)) fun t73 =>
 j3_9 ev L t3 t11 t12 t13 t71 t73 H)
def j3_7 (ev : Ev) (L : Nat) (t3 t11 t12 t13 t65 t69 : AV) (H : Heap) : CR :=
 ob (pickF t69 (.bool false) t65) fun t70 =>
 gd (isBool true t70) (j3_8 ev L t3 t11 t12 t13 t70 undefA H)
 (j3_8 ev L t3 t11 t12 t13 t70 t11 H)
def j3_6 (ev : Ev) (L : Nat) (t3 t11 t12 t13 t65 t67 t68 : AV) (H : Heap) : CR :=
 gd (isBool true t65) (j3_7 ev L t3 t11 t12 t13 t65 undefA H)
 (ob (binR (some .other) none .eql t67 t68) fun t69 =>
 j3_7 ev L t3 t11 t12 t13 t65 t69 H)
def j3_5 (ev : Ev) (L : Nat) (t3 t11 t12 t13 t65 t67 : AV) (H : Heap) : CR :=
 gd (isBool true t65) (j3_6 ev L t3 t11 t12 t13 t65 t67 undefA H)
 (j3_6 ev L t3 t11 t12 t13 t65 t67 t3 H)
def j3_4 (ev : Ev) (L : Nat) (t3 t11 t12 t13 t65 t66 : AV) (H : Heap) : CR :=
 gd (isBool true t65) (j3_5 ev L t3 t11 t12 t13 t65 undefA H)
 (ob (lenR H t66 .sl) fun t67 =>
 j3_5 ev L t3 t11 t12 t13 t65 t67 H)
def j3_1 (ev : Ev) (L : Nat) (t3 t5 t7 t9 : AV) (H : Heap) : CR :=
 ck (ev 7 [t5, t9] H) fun t53 H =>
 ck (ev 7 [t7, t9] H) fun t56 H =>
 obR ((fillR [] []).map fun cs => (.sl H.next 0 0 1 (some 0), H.new (.row cs))) fun t58 H =>
 obR (appendR 1 1 [(.int .u8 0)] false H t58 t9) fun t60 H =>
 obR ((fillR [(.int .u8 0)] [(0, 1, (.int .u8 98))]).map fun cs => (.sl H.next 0 1 1 (some 1), H.new (.row cs))) fun t61 H =>
 obR (appendR 1 1 [(.int .u8 0)] false H t60 t61) fun t62 H =>
 ck (ev 7 [t7, t62] H) fun t63 H =>
 ck (ev 8 [] H) fun t64 H =>
 gd (isBool true t64) (j3_4 ev L t3 t53 t56 t63 t64 undefA H)
 (j3_4 ev L t3 t53 t56 t63 t64 t53 H)
def j3_51 (ev : Ev) (L : Nat) (k49 : AV → AV → AV → AV → AV → Heap → CR) (t3 t5 t7 t9 t10 : AV) (H : Heap) : CR :=
 ob (binR (some .other) none .add t10 (.int .i64 1)) fun t47 =>
 k49 t3 t5 t7 t9 t47 H
def j3_50 (ev : Ev) (L : Nat) (k49 : AV → AV → AV → AV → AV → Heap → CR) (t3 t5 t7 t9 t10 : AV) (H : Heap) : CR :=
 obR ((fillR [(.int .u8 0)] [(0, 1, (.int .u8 97))]).map fun cs => (.sl H.next 0 1 1 (some 1), H.new (.row cs))) fun t49 H =>
 obR (appendR 1 1 [(.int .u8 0)] false H t9 t49) fun t50 H =>
 j3_51 ev L k49 t3 t5 t7 t50 t10 H
def j3_49 (ev : Ev) (L : Nat) (k49 : AV → AV → AV → AV → AV → Heap → CR) (t3 t5 t7 t9 t10 : AV) (H : Heap) : CR :=
 ob (binR (some .other) none .lss t10 t3) fun t45 =>
 ifK (j3_50 ev L k49 t3 t5 t7 t9 t10 H)
 (j3_1 ev L t3 t5 t7 t9 H) t45
def l3_49 (ev : Ev) (L : Nat) : Nat → AV → AV → AV → AV → AV → Heap → CR
  | 0, _, _, _, _, _, _ => .fail
  | m + 1, t3, t5, t7, t9, t10, H => j3_49 ev L (l3_49 ev L m) t3 t5 t7 t9 t10 H
def j3_0 (ev : Ev) (L : Nat) (t3 t5 t7 : AV) (H : Heap) : CR :=
 l3_49 ev L L t3 t5 t7 .nils (.int .i64 0) H
def j3_54 (ev : Ev) (L : Nat) (t3 t5 t7 t42 : AV) (H : Heap) : CR :=
 ifK (.ret (.bool false) H)
 (j3_0 ev L t3 t5 t7 H) t42
def j3_57 (ev : Ev) (L : Nat) (t3 t5 t7 t39 t41 : AV) (H : Heap) : CR :=
 ob (pickF (.bool true) t41 t39) fun t42 =>
 j3_54 ev L t3 t5 t7 t42 H
def j3_56 (ev : Ev) (L : Nat) (t3 t5 t7 t39 t40 : AV) (H : Heap) : CR :=
 gd (isBool false t39) (j3_57 ev L t3 t5 t7 t39 undefA H)
 (ob (binR (some .other) none .neq t40 (.int .i64 0)) fun t41 =>
 j3_57 ev L t3 t5 t7 t39 t41 H)
def f3 (ev : Ev) (L : Nat) (t0 : AV) (H : Heap) : CR :=
 obR (convR H t0 (.int .u64)) fun t15 H =>
 ob (binR (some .other) none .rem t15 (.int .u64 40)) fun t16 =>
 obR (convR H t16 (.int .i64)) fun t17 H =>
 ob (binR (some .other) none .add (.int .i64 1) t17) fun t18 =>
 ck (ev 5 [(.int .i32 97)] H) fun t19 H =>
 na H [(.int .i64 0), .nils, .nils] fun t4 H =>
 ob (storeR 3 H t4 t19) fun H =>
 ob (loadR true 3 noG H t4) fun t21 =>
 obR ((fillR [(.int .i64 0), .nils, .nils] [(0, 3, t21)]).map fun cs => (.sl H.next 0 1 3 (some 1), H.new (.row cs))) fun t22 H =>
 ck (ev 6 [t22, (.int .i64 9)] H) fun t23 H =>
 ob (extractA 0 t23) fun t24 =>
 ob (extractA 1 t23) fun t25 =>
 ob (loadR true 3 noG H t4) fun t27 =>
 ob (loadR true 3 noG H t4) fun t28 =>
 obR ((fillR [(.int .i64 0), .nils, .nils] [(0, 3, t28)]).map fun cs => (.sl H.next 0 1 3 (some 1), H.new (.row cs))) fun t29 H =>
 ob ((fillR [(.int .i64 0), .nils, .nils] [(0, 1, (.int .i64 5)), (2, 1, t29)]).map .agg) fun t30 =>
 obR ((fillR [(.int .i64 0), .nils, .nils, (.int .i64 0), .nils, .nils] [(0, 3, t27), (3, 3, t30)]).map fun cs => (.sl H.next 0 2 3 (some 2), H.new (.row cs))) fun t31 H =>
 ob ((fillR [(.int .i64 0), .nils, .nils] [(0, 1, (.int .i64 3)), (2, 1, t31)]).map .agg) fun t32 =>
 obR ((fillR [(.int .i64 0), .nils, .nils] [(0, 3, t32)]).map fun cs => (.sl H.next 0 1 3 (some 1), H.new (.row cs))) fun t33 H =>
 ck (ev 6 [t33, (.int .i64 9)] H) fun t34 H =>
 ob (extractA 0 t34) fun t35 =>
 ob (extractA 1 t34) fun t36 =>
 ob (binR (some .other) none .neq t25 (.int .i64 0)) fun t38 =>
 gd (isBool false t38) (j3_56 ev L t18 t24 t35 t38 undefA H)
 (j3_56 ev L t18 t24 t35 t38 t36 H)
def q3 : CRun := fun ev L args H => match args with
  | [t0] => f3 ev L t0 H
  | _ => .fail
def j4_2 (ev : Ev) (L : Nat) (t4 : AV) (H : Heap) : CR :=
 .ret t4 H
def j4_19 (ev : Ev) (L : Nat) (t55 t60 : AV) (H : Heap) : CR :=
 ob (pickF t60 (.bool false) t55) fun t61 =>
 j4_2 ev L t61 H
def j4_18 (ev : Ev) (L : Nat) (t55 t59 : AV) (H : Heap) : CR :=
 gd (isBool true t55) (j4_19 ev L t55 undefA H)
 (ob (binR (some .other) none .eql t59 (.int .i64 2)) fun t60 =>
 j4_19 ev L t55 t60 H)
def j4_17 (ev : Ev) (L : Nat) (t55 t58 : AV) (H : Heap) : CR :=
 gd (isBool true t55) (j4_18 ev L t55 undefA H)
 (ob (loadR false 1 noG H t58) fun t59 =>
 j4_18 ev L t55 t59 H)
def j4_16 (ev : Ev) (L : Nat) (t55 t57 : AV) (H : Heap) : CR :=
 gd (isBool true t55) (j4_17 ev L t55 undefA H)
 (ob (moveP 2 t57) fun t58 =>
 j4_17 ev L t55 t58 H)
def j4_15 (ev : Ev) (L : Nat) (t55 t56 : AV) (H : Heap) : CR :=
 gd (isBool true t55) (j4_16 ev L t55 undefA H)
 (ob (indexSl 4 t56 (.int .i64 0)) fun t57 =>
 j4_16 ev L t55 t57 H)
def j4_14 (ev : Ev) (L : Nat) (t11 t47 t53 : AV) (H : Heap) : CR :=
 ob (pickF t53 (.bool false) t47) fun t54 =>
 gd (isBool true t54) (j4_15 ev L t54 undefA H)
 (j4_15 ev L t54 t11 H)
def j4_13 (ev : Ev) (L : Nat) (t11 t47 t51 t52 : AV) (H : Heap) : CR :=
 gd (isBool true t47) (j4_14 ev L t11 t47 undefA H)
 (ob (binR (some .other) none .eql t51 t52) fun t53 =>
 j4_14 ev L t11 t47 t53 H)
def j4_12 (ev : Ev) (L : Nat) (t8 t11 t47 t51 : AV) (H : Heap) : CR :=
 gd (isBool true t47) (j4_13 ev L t11 t47 t51 undefA H)
 (j4_13 ev L t11 t47 t51 t8 H)
def j4_11 (ev : Ev) (L : Nat) (t8 t11 t47 t50 : AV) (H : Heap) : CR :=
 gd (isBool true t47) (j4_12 ev L t8 t11 t47 undefA H)
 (ob (loadR false 1 noG H t50) fun t51 =>
 j4_12 ev L t8 t11 t47 t51 H)
def j4_10 (ev : Ev) (L : Nat) (t8 t11 t47 t49 : AV) (H : Heap) : CR :=
 gd (isBool true t47) (j4_11 ev L t8 t11 t47 undefA H)
 (ob (moveP 0 t49) fun t50 =>
 j4_11 ev L t8 t11 t47 t50 H)
def j4_9 (ev : Ev) (L : Nat) (t8 t11 t47 t48 : AV) (H : Heap) : CR :=
 gd (isBool true t47) (j4_10 ev L t8 t11 t47 undefA H)
 (ob (indexSl 4 t48 (.int .i64 0)) fun t49 =>
 j4_10 ev L t8 t11 t47 t49 H)
def j4_8 (ev : Ev) (L : Nat) (t8 t11 t42 t45 : AV) (H : Heap) : CR :=
 ob (pickF t45 (.bool false) t42) fun t46 =>
 gd (isBool true t46) (j4_9 ev L t8 t11 t46 undefA H)
 (j4_9 ev L t8 t11 t46 t11 H)
def j4_7 (ev : Ev) (L : Nat) (t8 t11 t42 t44 : AV) (H : Heap) : CR :=
 gd (isBool true t42) (j4_8 ev L t8 t11 t42 undefA H)
 (ob (binR (some .other) none .eql t44 (.int .i64 1)) fun t45 =>
 j4_8 ev L t8 t11 t42 t45 H)
def j4_6 (ev : Ev) (L : Nat) (t8 t11 t42 t43 : AV) (H : Heap) : CR :=
 gd (isBool true t42) (j4_7 ev L t8 t11 t42 undefA H)
 (ob (lenR H t43 .sl) fun t44 =>
 j4_7 ev L t8 t11 t42 t44 H)
def j4_5 (ev : Ev) (L : Nat) (t8 t11 t38 t40 : AV) (H : Heap) : CR :=
 ob (pickF t40 (.bool false) t38) fun t41 =>
 gd (isBool true t41) (j4_6 ev L t8 t11 t41 undefA H)
 (j4_6 ev L t8 t11 t41 t11 H)
def j4_4 (ev : Ev) (L : Nat) (t8 t11 t38 t39 : AV) (H : Heap) : CR :=
 gd (isBool true t38) (j4_5 ev L t8 t11 t38 undefA H)
 (ob (binR (some .other) none .eql t39 (.int .i64 0)) fun t40 =>
 j4_5 ev L t8 t11 t38 t40 H)
def j4_1 (ev : Ev) (L : Nat) (t7 t8 : AV) (H : Heap) : CR :=
 ck (ev 6 [t7, (.int .i64 20)] H) fun t30 H =>
 ob (extractA 0 t30) fun t31 =>
 ob (extractA 1 t30) fun t32 =>
 obR ((fillR [(.int .u8 0), (.int .u8 0)] [(0, 1, (.int .u8 97)), (1, 1, (.int .u8 97))]).map fun cs => (.sl H.next 0 2 1 (some 2), H.new (.row cs))) fun t34 H =>
 obR (convR H t34 (.bytes true)) fun t35 H =>
 ck (ev 7 [t31, t35] H) fun t36 H =>
 ck (ev 8 [] H) fun t37 H =>
 gd (isBool true t37) (j4_4 ev L t8 t36 t37 undefA H)
 (j4_4 ev L t8 t36 t37 t32 H)
def j4_0 (ev : Ev) (L : Nat) (t1 t6 t7 t8 : AV) (H : Heap) : CR :=
 ifK (ob (loadR true 3 noG H t6) fun t25 =>
 ob (loadR true 3 noG H t6) fun t26 =>
 obR ((fillR [(.int .i64 0), .nils, .nils, (.int .i64 0), .nils, .nils] [(0, 3, t25), (3, 3, t26)]).map fun cs => (.sl H.next 0 2 3 (some 2), H.new (.row cs))) fun t27 H =>
 j4_1 ev L t27 (.int .i64 0) H)
 (j4_1 ev L t7 t8 H) t1
def f4 (ev : Ev) (L : Nat) (t0 t1 : AV) (H : Heap) : CR :=
 ck (ev 5 [(.int .i32 97)] H) fun t12 H =>
 na H [(.int .i64 0), .nils, .nils] fun t5 H =>
 ob (storeR 3 H t5 t12) fun H =>
 ob (loadR true 3 noG H t5) fun t13 =>
 ob (loadR true 3 noG H t5) fun t14 =>
 obR ((fillR [(.int .i64 0), .nils, .nils, (.int .i64 0), .nils, .nils] [(0, 3, t13), (3, 3, t14)]).map fun cs => (.sl H.next 0 2 3 (some 2), H.new (.row cs))) fun t15 H =>
 ob ((fillR [(.int .i64 0), .nils, .nils] [(0, 1, (.int .i64 3)), (2, 1, t15)]).map .agg) fun t16 =>
 na H [(.int .i64 0), .nils, .nils] fun t6 H =>
 ob (storeR 3 H t6 t16) fun H =>
 ob (loadR true 3 noG H t5) fun t17 =>
 ob (loadR true 3 noG H t6) fun t18 =>
 obR ((fillR [(.int .i64 0), .nils, .nils, (.int .i64 0), .nils, .nils] [(0, 3, t17), (3, 3, t18)]).map fun cs => (.sl H.next 0 2 3 (some 2), H.new (.row cs))) fun t19 H =>
 ifK (ob (loadR true 3 noG H t6) fun t21 =>
 ob (loadR true 3 noG H t5) fun t22 =>
 obR ((fillR [(.int .i64 0), .nils, .nils, (.int .i64 0), .nils, .nils] [(0, 3, t21), (3, 3, t22)]).map fun cs => (.sl H.next 0 2 3 (some 2), H.new (.row cs))) fun t23 H =>
 j4_0 ev L t1 t6 t23 (.int .i64 0) H)
 (j4_0 ev L t1 t6 t19 (.int .i64 1) H) t0
def q4 : CRun := fun ev L args H => match args with
  | [t0, t1] => f4 ev L t0 t1 H
  | _ => .fail
def f5 (ev : Ev) (L : Nat) (t0 : AV) (H : Heap) : CR :=
 na H [(.int .i64 0), .nils, .nils] fun t2 H =>
 ob ((fillR [(.int .i32 0), (.int .i32 0)] [(0, 1, t0), (1, 1, t0)]).map .agg) fun t5 =>
 obR ((fillR [(.int .i32 0), (.int .i32 0)] [(0, 2, t5)]).map fun cs => (.sl H.next 0 1 2 (some 1), H.new (.row cs))) fun t6 H =>
 ob ((fillR [(.int .i64 0), .nils, .nils] [(0, 1, (.int .i64 2)), (1, 1, t6)]).map .agg) fun t7 =>
 ob (storeR 3 H t2 t7) fun H =>
 rt ((loadR true 3 noG H t2).bind fun r0 => some [r0]) H
def q5 : CRun := fun ev L args H => match args with
  | [t0] => f5 ev L t0 H
  | _ => .fail
def f6 (ev : Ev) (L : Nat) (t0 t1 : AV) (H : Heap) : CR :=
 na H (AV.cells t0) fun t2 H =>
 na H (AV.cells t1) fun t3 H =>
 na H [.nilp] fun t6 H =>
 ck (ev 9 [(.fn 10 [] [t2, t3, t6])] H) fun t9 H =>
 ob (loadR false 1 noG H t6) fun t10 =>
 .ret (.tup [t10, t9]) H
def q6 : CRun := fun ev L args H => match args with
  | [t0, t1] => f6 ev L t0 t1 H
  | _ => .fail
def j7_0 (ev : Ev) (L : Nat) (t5 : AV) (H : Heap) : CR :=
 .ret t5 H
def j7_2 (ev : Ev) (L : Nat) (k1 : AV → AV → AV → AV → Heap → CR) (t0 t5 t6 t7 : AV) (H : Heap) : CR :=
 ck (ev 17 [t0, t6, t7] H) fun t24 H =>
 ob (extractA 0 t24) fun t25 =>
 ob (extractA 1 t24) fun t26 =>
 na H [(.int .i64 0), (.int .i64 0), (.int .i64 0), (.int .i64 0)] fun t8 H =>
 ob (storeR 4 H t8 t25) fun H =>
 ob (loadR true 4 noG H t8) fun t28 =>
 obR ((fillR [(.int .i64 0), (.int .i64 0), (.int .i64 0), (.int .i64 0)] [(0, 4, t28)]).map fun cs => (.sl H.next 0 1 4 (some 1), H.new (.row cs))) fun t29 H =>
 obR (appendR 4 32 [(.int .i64 0), (.int .i64 0), (.int .i64 0), (.int .i64 0)] false H t5 t29) fun t30 H =>
 ob (binR (some .other) none .add t7 t26) fun t33 =>
 k1 t0 t30 t6 t33 H
def j7_4 (ev : Ev) (L : Nat) (k1 : AV → AV → AV → AV → Heap → CR) (t0 t5 t6 t7 t19 : AV) (H : Heap) : CR :=
 ifK (j7_2 ev L k1 t0 t5 t6 t7 H)
 (j7_0 ev L t5 H) t19
def j7_9 (ev : Ev) (L : Nat) (k1 : AV → AV → AV → AV → Heap → CR) (t0 t5 t6 t7 t14 t18 : AV) (H : Heap) : CR :=
 ob (pickF t18 (.bool false) t14) fun t19 =>
 j7_4 ev L k1 t0 t5 t6 t7 t19 H
def j7_8 (ev : Ev) (L : Nat) (k1 : AV → AV → AV → AV → Heap → CR) (t0 t5 t6 t7 t14 t15 t17 : AV) (H : Heap) : CR :=
 gd (isBool true t14) (j7_9 ev L k1 t0 t5 t6 t7 t14 undefA H)
 (ob (binR (some .other) none .lss t15 t17) fun t18 =>
 j7_9 ev L k1 t0 t5 t6 t7 t14 t18 H)
def j7_7 (ev : Ev) (L : Nat) (k1 : AV → AV → AV → AV → Heap → CR) (t0 t5 t6 t7 t14 t15 t16 : AV) (H : Heap) : CR :=
 gd (isBool true t14) (j7_8 ev L k1 t0 t5 t6 t7 t14 t15 undefA H)
 (ob (lenR H t16 .sl) fun t17 =>
 j7_8 ev L k1 t0 t5 t6 t7 t14 t15 t17 H)
def j7_6 (ev : Ev) (L : Nat) (k1 : AV → AV → AV → AV → Heap → CR) (t0 t5 t6 t7 t14 t15 : AV) (H : Heap) : CR :=
 gd (isBool true t14) (j7_7 ev L k1 t0 t5 t6 t7 t14 t15 undefA H)
 (j7_7 ev L k1 t0 t5 t6 t7 t14 t15 t6 H)
def j7_1 (ev : Ev) (L : Nat) (k1 : AV → AV → AV → AV → Heap → CR) (t0 t5 t6 t7 : AV) (H : Heap) : CR :=
 ob (binR (some .ptr) none .neq t0 .nilp) fun t13 =>
 gd (isBool true t13) (j7_6 ev L k1 t0 t5 t6 t7 t13 undefA H)
 (j7_6 ev L k1 t0 t5 t6 t7 t13 t7 H)
def l7_1 (ev : Ev) (L : Nat) : Nat → AV → AV → AV → AV → Heap → CR
  | 0, _, _, _, _, _ => .fail
  | m + 1, t0, t5, t6, t7, H => j7_1 ev L (l7_1 ev L m) t0 t5 t6 t7 H
def f7 (ev : Ev) (L : Nat) (t0 t1 : AV) (H : Heap) : CR :=
 ck (ev 16 [t1] H) fun t11 H =>
 l7_1 ev L L t0 .nils t11 (.int .i64 0) H
def q7 : CRun := fun ev L args H => match args with
  | [t0, t1] => f7 ev L t0 t1 H
  | _ => .fail
def j8_0 (ev : Ev) (L : Nat) (t0 : AV) (H : Heap) : CR :=
 .ret t0 H
def j8_41 (ev : Ev) (L : Nat) (t109 t114 : AV) (H : Heap) : CR :=
 ob (pickF t114 (.bool false) t109) fun t115 =>
 j8_0 ev L t115 H
def j8_40 (ev : Ev) (L : Nat) (t109 t113 : AV) (H : Heap) : CR :=
 gd (isBool true t109) (j8_41 ev L t109 undefA H)
 (ob (unA .not t113) fun t114 =>
 j8_41 ev L t109 t114 H)
def j8_39 (ev : Ev) (L : Nat) (t109 t110 t112 : AV) (H : Heap) : CR :=
 gd (isBool true t109) (j8_40 ev L t109 undefA H)
 (ck ((noPan ev) 19 [t110, t112, (.int .i64 0)] H) fun t113 H =>
 j8_40 ev L t109 t113 H)
def j8_38 (ev : Ev) (L : Nat) (t109 t110 t111 : AV) (H : Heap) : CR :=
 gd (isBool true t109) (j8_39 ev L t109 t110 undefA H)
 (ob (sliceR noG H (.sl 5) t111 none (some (.int .i64 2)) none) fun t112 =>
 j8_39 ev L t109 t110 t112 H)
def j8_37 (ev : Ev) (L : Nat) (t8 t109 t110 : AV) (H : Heap) : CR :=
 gd (isBool true t109) (j8_38 ev L t109 t110 undefA H)
 (j8_38 ev L t109 t110 t8 H)
def j8_36 (ev : Ev) (L : Nat) (t3 t8 t104 t107 : AV) (H : Heap) : CR :=
 ob (pickF t107 (.bool false) t104) fun t108 =>
 gd (isBool true t108) (j8_37 ev L t8 t108 undefA H)
 (j8_37 ev L t8 t108 t3 H)
def j8_35 (ev : Ev) (L : Nat) (t3 t8 t104 t105 t106 : AV) (H : Heap) : CR :=
 gd (isBool true t104) (j8_36 ev L t3 t8 t104 undefA H)
 (ck ((noPan ev) 19 [t105, t106, (.int .i64 0)] H) fun t107 H =>
 j8_36 ev L t3 t8 t104 t107 H)
def j8_34 (ev : Ev) (L : Nat) (t3 t8 t104 t105 : AV) (H : Heap) : CR :=
 gd (isBool true t104) (j8_35 ev L t3 t8 t104 t105 undefA H)
 (j8_35 ev L t3 t8 t104 t105 t8 H)
def j8_33 (ev : Ev) (L : Nat) (t3 t8 t100 t102 : AV) (H : Heap) : CR :=
 ob (pickF t102 (.bool false) t100) fun t103 =>
 gd (isBool true t103) (j8_34 ev L t3 t8 t103 undefA H)
 (j8_34 ev L t3 t8 t103 t3 H)
def j8_32 (ev : Ev) (L : Nat) (t3 t8 t100 t101 : AV) (H : Heap) : CR :=
 gd (isBool true t100) (j8_33 ev L t3 t8 t100 undefA H)
 (ob (binR (some .other) none .eql t101 (.int .i64 0)) fun t102 =>
 j8_33 ev L t3 t8 t100 t102 H)
def j8_31 (ev : Ev) (L : Nat) (t3 t8 t12 t95 t98 : AV) (H : Heap) : CR :=
 ob (pickF t98 (.bool false) t95) fun t99 =>
 gd (isBool true t99) (j8_32 ev L t3 t8 t99 undefA H)
 (j8_32 ev L t3 t8 t99 t12 H)
def j8_30 (ev : Ev) (L : Nat) (t3 t8 t12 t95 t96 t97 : AV) (H : Heap) : CR :=
 gd (isBool true t95) (j8_31 ev L t3 t8 t12 t95 undefA H)
 (ob (binR (some .other) (some [.int, .int, .int, .int]) .eql t96 t97) fun t98 =>
 j8_31 ev L t3 t8 t12 t95 t98 H)
def j8_29 (ev : Ev) (L : Nat) (t3 t8 t12 t95 t96 : AV) (H : Heap) : CR :=
 gd (isBool true t95) (j8_30 ev L t3 t8 t12 t95 t96 undefA H)
 (ob ((fillR [(.int .i64 0), (.int .i64 0), (.int .i64 0), (.int .i64 0)] []).map .agg) fun t97 =>
 j8_30 ev L t3 t8 t12 t95 t96 t97 H)
def j8_28 (ev : Ev) (L : Nat) (t3 t8 t11 t12 t91 t93 : AV) (H : Heap) : CR :=
 ob (pickF t93 (.bool false) t91) fun t94 =>
 gd (isBool true t94) (j8_29 ev L t3 t8 t12 t94 undefA H)
 (ob (loadR true 4 noG H t11) fun t96 =>
 j8_29 ev L t3 t8 t12 t94 t96 H)
def j8_27 (ev : Ev) (L : Nat) (t3 t8 t11 t12 t91 t92 : AV) (H : Heap) : CR :=
 gd (isBool true t91) (j8_28 ev L t3 t8 t11 t12 t91 undefA H)
 (ob (binR (some .other) none .eql t92 (.int .i64 1)) fun t93 =>
 j8_28 ev L t3 t8 t11 t12 t91 t93 H)
def j8_26 (ev : Ev) (L : Nat) (t3 t8 t10 t11 t12 t84 t89 : AV) (H : Heap) : CR :=
 ob (pickF t89 (.bool false) t84) fun t90 =>
 gd (isBool true t90) (j8_27 ev L t3 t8 t11 t12 t90 undefA H)
 (j8_27 ev L t3 t8 t11 t12 t90 t10 H)
def j8_25 (ev : Ev) (L : Nat) (t3 t8 t10 t11 t12 t84 t85 t88 : AV) (H : Heap) : CR :=
 gd (isBool true t84) (j8_26 ev L t3 t8 t10 t11 t12 t84 undefA H)
 (ob (binR (some .other) (some [.int, .int, .int, .int]) .eql t85 t88) fun t89 =>
 j8_26 ev L t3 t8 t10 t11 t12 t84 t89 H)
def j8_24 (ev : Ev) (L : Nat) (t3 t8 t10 t11 t12 t84 t85 t87 : AV) (H : Heap) : CR :=
 gd (isBool true t84) (j8_25 ev L t3 t8 t10 t11 t12 t84 t85 undefA H)
 (ob (loadR true 4 noG H t87) fun t88 =>
 j8_25 ev L t3 t8 t10 t11 t12 t84 t85 t88 H)
def j8_23 (ev : Ev) (L : Nat) (t3 t8 t10 t11 t12 t84 t85 t86 : AV) (H : Heap) : CR :=
 gd (isBool true t84) (j8_24 ev L t3 t8 t10 t11 t12 t84 t85 undefA H)
 (ob (indexSl 4 t86 (.int .i64 0)) fun t87 =>
 j8_24 ev L t3 t8 t10 t11 t12 t84 t85 t87 H)
def j8_22 (ev : Ev) (L : Nat) (t3 t7 t8 t10 t11 t12 t84 t85 : AV) (H : Heap) : CR :=
 gd (isBool true t84) (j8_23 ev L t3 t8 t10 t11 t12 t84 t85 undefA H)
 (j8_23 ev L t3 t8 t10 t11 t12 t84 t85 t7 H)
def j8_21 (ev : Ev) (L : Nat) (t3 t7 t8 t9 t10 t11 t12 t77 t82 : AV) (H : Heap) : CR :=
 ob (pickF t82 (.bool false) t77) fun t83 =>
 gd (isBool true t83) (j8_22 ev L t3 t7 t8 t10 t11 t12 t83 undefA H)
 (ob (loadR true 4 noG H t9) fun t85 =>
 j8_22 ev L t3 t7 t8 t10 t11 t12 t83 t85 H)
def j8_20 (ev : Ev) (L : Nat) (t3 t7 t8 t9 t10 t11 t12 t77 t80 t81 : AV) (H : Heap) : CR :=
 gd (isBool true t77) (j8_21 ev L t3 t7 t8 t9 t10 t11 t12 t77 undefA H)
 (ob (binR (some .other) (some [.int, .int, .int, .int]) .eql t80 t81) fun t82 =>
 j8_21 ev L t3 t7 t8 t9 t10 t11 t12 t77 t82 H)
def j8_19 (ev : Ev) (L : Nat) (t3 t7 t8 t9 t10 t11 t12 t77 t80 : AV) (H : Heap) : CR :=
 gd (isBool true t77) (j8_20 ev L t3 t7 t8 t9 t10 t11 t12 t77 t80 undefA H)
 (ob ((fillR [(.int .i64 0), (.int .i64 0), (.int .i64 0), (.int .i64 0)] [(0, 1, (.int .i64 (.negSucc 0))), (1, 1, (.int .i64 2)), (2, 1, (.int .i64 3)), (3, 1, (.int .i64 3))]).map .agg) fun t81 =>
 j8_20 ev L t3 t7 t8 t9 t10 t11 t12 t77 t80 t81 H)
def j8_18 (ev : Ev) (L : Nat) (t3 t7 t8 t9 t10 t11 t12 t77 t79 : AV) (H : Heap) : CR :=
 gd (isBool true t77) (j8_19 ev L t3 t7 t8 t9 t10 t11 t12 t77 undefA H)
 (ob (loadR true 4 noG H t79) fun t80 =>
 j8_19 ev L t3 t7 t8 t9 t10 t11 t12 t77 t80 H)
def j8_17 (ev : Ev) (L : Nat) (t3 t7 t8 t9 t10 t11 t12 t77 t78 : AV) (H : Heap) : CR :=
 gd (isBool true t77) (j8_18 ev L t3 t7 t8 t9 t10 t11 t12 t77 undefA H)
 (ob (indexSl 4 t78 (.int .i64 2)) fun t79 =>
 j8_18 ev L t3 t7 t8 t9 t10 t11 t12 t77 t79 H)
def j8_16 (ev : Ev) (L : Nat) (t3 t7 t8 t9 t10 t11 t12 t70 t75 : AV) (H : Heap) : CR :=
 ob (pickF t75 (.bool false) t70) fun t76 =>
 gd (isBool true t76) (j8_17 ev L t3 t7 t8 t9 t10 t11 t12 t76 undefA H)
 (j8_17 ev L t3 t7 t8 t9 t10 t11 t12 t76 t7 H)
def j8_15 (ev : Ev) (L : Nat) (t3 t7 t8 t9 t10 t11 t12 t70 t73 t74 : AV) (H : Heap) : CR :=
 gd (isBool true t70) (j8_16 ev L t3 t7 t8 t9 t10 t11 t12 t70 undefA H)
 (ob (binR (some .other) (some [.int, .int, .int, .int]) .eql t73 t74) fun t75 =>
 j8_16 ev L t3 t7 t8 t9 t10 t11 t12 t70 t75 H)
def j8_14 (ev : Ev) (L : Nat) (t3 t7 t8 t9 t10 t11 t12 t70 t73 : AV) (H : Heap) : CR :=
 gd (isBool true t70) (j8_15 ev L t3 t7 t8 t9 t10 t11 t12 t70 t73 undefA H)
 (ob ((fillR [(.int .i64 0), (.int .i64 0), (.int .i64 0), (.int .i64 0)] [(0, 1, (.int .i64 0)), (1, 1, (.int .i64 1)), (2, 1, (.int .i64 2)), (3, 1, (.int .i64 3))]).map .agg) fun t74 =>
 j8_15 ev L t3 t7 t8 t9 t10 t11 t12 t70 t73 t74 H)
def j8_13 (ev : Ev) (L : Nat) (t3 t7 t8 t9 t10 t11 t12 t70 t72 : AV) (H : Heap) : CR :=
 gd (isBool true t70) (j8_14 ev L t3 t7 t8 t9 t10 t11 t12 t70 undefA H)
 (ob (loadR true 4 noG H t72) fun t73 =>
 j8_14 ev L t3 t7 t8 t9 t10 t11 t12 t70 t73 H)
def j8_12 (ev : Ev) (L : Nat) (t3 t7 t8 t9 t10 t11 t12 t70 t71 : AV) (H : Heap) : CR :=
 gd (isBool true t70) (j8_13 ev L t3 t7 t8 t9 t10 t11 t12 t70 undefA H)
 (ob (indexSl 4 t71 (.int .i64 1)) fun t72 =>
 j8_13 ev L t3 t7 t8 t9 t10 t11 t12 t70 t72 H)
def j8_11 (ev : Ev) (L : Nat) (t3 t7 t8 t9 t10 t11 t12 t63 t68 : AV) (H : Heap) : CR :=
 ob (pickF t68 (.bool false) t63) fun t69 =>
 gd (isBool true t69) (j8_12 ev L t3 t7 t8 t9 t10 t11 t12 t69 undefA H)
 (j8_12 ev L t3 t7 t8 t9 t10 t11 t12 t69 t7 H)
def j8_10 (ev : Ev) (L : Nat) (t3 t7 t8 t9 t10 t11 t12 t63 t66 t67 : AV) (H : Heap) : CR :=
 gd (isBool true t63) (j8_11 ev L t3 t7 t8 t9 t10 t11 t12 t63 undefA H)
 (ob (binR (some .other) (some [.int, .int, .int, .int]) .eql t66 t67) fun t68 =>
 j8_11 ev L t3 t7 t8 t9 t10 t11 t12 t63 t68 H)
def j8_9 (ev : Ev) (L : Nat) (t3 t7 t8 t9 t10 t11 t12 t63 t66 : AV) (H : Heap) : CR :=
 gd (isBool true t63) (j8_10 ev L t3 t7 t8 t9 t10 t11 t12 t63 t66 undefA H)
 (ob ((fillR [(.int .i64 0), (.int .i64 0), (.int .i64 0), (.int .i64 0)] [(0, 1, (.int .i64 0)), (2, 1, (.int .i64 1)), (3, 1, (.int .i64 3))]).map .agg) fun t67 =>
 j8_10 ev L t3 t7 t8 t9 t10 t11 t12 t63 t66 t67 H)
def j8_8 (ev : Ev) (L : Nat) (t3 t7 t8 t9 t10 t11 t12 t63 t65 : AV) (H : Heap) : CR :=
 gd (isBool true t63) (j8_9 ev L t3 t7 t8 t9 t10 t11 t12 t63 undefA H)
 (ob (loadR true 4 noG H t65) fun t66 =>
 j8_9 ev L t3 t7 t8 t9 t10 t11 t12 t63 t66 H)
def j8_7 (ev : Ev) (L : Nat) (t3 t7 t8 t9 t10 t11 t12 t63 t64 : AV) (H : Heap) : CR :=
 gd (isBool true t63) (j8_8 ev L t3 t7 t8 t9 t10 t11 t12 t63 undefA H)
 (ob (indexSl 4 t64 (.int .i64 0)) fun t65 =>
 j8_8 ev L t3 t7 t8 t9 t10 t11 t12 t63 t65 H)
def j8_6 (ev : Ev) (L : Nat) (t3 t7 t8 t9 t10 t11 t12 t58 t61 : AV) (H : Heap) : CR :=
 ob (pickF t61 (.bool false) t58) fun t62 =>
 gd (isBool true t62) (j8_7 ev L t3 t7 t8 t9 t10 t11 t12 t62 undefA H)
 (j8_7 ev L t3 t7 t8 t9 t10 t11 t12 t62 t7 H)
def j8_5 (ev : Ev) (L : Nat) (t3 t7 t8 t9 t10 t11 t12 t58 t60 : AV) (H : Heap) : CR :=
 gd (isBool true t58) (j8_6 ev L t3 t7 t8 t9 t10 t11 t12 t58 undefA H)
 (ob (binR (some .other) none .eql t60 (.int .i64 3)) fun t61 =>
 j8_6 ev L t3 t7 t8 t9 t10 t11 t12 t58 t61 H)
def j8_4 (ev : Ev) (L : Nat) (t3 t7 t8 t9 t10 t11 t12 t58 t59 : AV) (H : Heap) : CR :=
 gd (isBool true t58) (j8_5 ev L t3 t7 t8 t9 t10 t11 t12 t58 undefA H)
 (ob (lenR H t59 .sl) fun t60 =>
 j8_5 ev L t3 t7 t8 t9 t10 t11 t12 t58 t60 H)
def j8_3 (ev : Ev) (L : Nat) (t3 t7 t8 t9 t10 t11 t12 t54 t56 : AV) (H : Heap) : CR :=
 ob (pickF t56 (.bool false) t54) fun t57 =>
 gd (isBool true t57) (j8_4 ev L t3 t7 t8 t9 t10 t11 t12 t57 undefA H)
 (j8_4 ev L t3 t7 t8 t9 t10 t11 t12 t57 t7 H)
def j8_2 (ev : Ev) (L : Nat) (t3 t7 t8 t9 t10 t11 t12 t54 t55 : AV) (H : Heap) : CR :=
 gd (isBool true t54) (j8_3 ev L t3 t7 t8 t9 t10 t11 t12 t54 undefA H)
 (ob (binR (some .other) none .eql t55 (.int .i64 11)) fun t56 =>
 j8_3 ev L t3 t7 t8 t9 t10 t11 t12 t54 t56 H)
def f8 (ev : Ev) (L : Nat) (H : Heap) : CR :=
 ck (ev 5 [(.int .i32 97)] H) fun t13 H =>
 na H [(.int .i64 0), .nils, .nils] fun t1 H =>
 ob (storeR 3 H t1 t13) fun H =>
 ob (loadR true 3 noG H t1) fun t14 =>
 ob (loadR true 3 noG H t1) fun t15 =>
 ob (loadR true 3 noG H t1) fun t16 =>
 ck ((noPan ev) 5 [(.int .i32 98)] H) fun t17 H =>
 sure (againV (loadR true 3 noG H t1) t14)
 (sure (againV (loadR true 3 noG H t1) t15)
 (sure (againV (loadR true 3 noG H t1) t16)
 (ob ((fillR [(.int .i64 0), .nils, .nils, (.int .i64 0), .nils, .nils] [(0, 3, t16), (3, 3, t17)]).map fun cs => .ds 2 cs (some 2)) fun t18 =>
 ob ((fillR [(.int .i64 0), .nils, .nils] [(0, 1, (.int .i64 3)), (2, 1, t18)]).map .agg) fun t19 =>
 ob ((fillR [(.int .i64 0), .nils, .nils, (.int .i64 0), .nils, .nils] [(0, 3, t15), (3, 3, t19)]).map fun cs => .ds 2 cs (some 2)) fun t20 =>
 ob ((fillR [(.int .i64 0), .nils, .nils] [(0, 1, (.int .i64 3)), (2, 1, t20)]).map .agg) fun t21 =>
 ob ((fillR [(.int .i64 0), .nils, .nils, (.int .i64 0), .nils, .nils] [(0, 3, t14), (3, 3, t21)]).map fun cs => .ds 2 cs (some 2)) fun t22 =>
 ck (ev 6 [t22, (.int .i64 50)] H) fun t25 H =>
 ob (extractA 0 t25) fun t26 =>
 ob (extractA 1 t25) fun t27 =>
 ob ((fillR [(.int .i64 0), .nils, .nils] [(0, 1, (.int .i64 1))]).map .agg) fun t29 =>
 obR ((fillR [(.int .i64 0), .nils, .nils] [(0, 3, t29)]).map fun cs => (.sl H.next 0 1 3 (some 1), H.new (.row cs))) fun t30 H =>
 ck (ev 6 [t30, (.int .i64 50)] H) fun t31 H =>
 ob (extractA 0 t31) fun t32 =>
 ob (extractA 1 t31) fun t33 =>
 obR ((fillR [(.int .u8 0), (.int .u8 0), (.int .u8 0)] [(0, 1, (.int .u8 97)), (1, 1, (.int .u8 97)), (2, 1, (.int .u8 99))]).map fun cs => (.sl H.next 0 3 1 (some 3), H.new (.row cs))) fun t35 H =>
 obR (convR H t35 (.bytes true)) fun t36 H =>
 ck (ev 7 [t26, t36] H) fun t37 H =>
 obR ((fillR [(.int .u8 0), (.int .u8 0), (.int .u8 0)] [(0, 1, (.int .u8 97)), (1, 1, (.int .u8 97)), (2, 1, (.int .u8 99))]).map fun cs => (.sl H.next 0 3 1 (some 3), H.new (.row cs))) fun t38 H =>
 obR (convR H t38 (.bytes true)) fun t39 H =>
 ck (ev 16 [t39] H) fun t40 H =>
 ck (ev 18 [t22, t40, (.int .i64 0)] H) fun t44 H =>
 ob (extractA 0 t44) fun t45 =>
 ob (extractA 1 t44) fun t46 =>
 na H [(.int .i64 0), (.int .i64 0), (.int .i64 0), (.int .i64 0)] fun t9 H =>
 ob (storeR 4 H t9 t45) fun H =>
 ck (ev 17 [.nilp, t40, (.int .i64 0)] H) fun t49 H =>
 ob (extractA 0 t49) fun t50 =>
 ob (extractA 1 t49) fun t51 =>
 na H [(.int .i64 0), (.int .i64 0), (.int .i64 0), (.int .i64 0)] fun t11 H =>
 ob (storeR 4 H t11 t50) fun H =>
 ob (binR (some .other) none .eql t27 (.int .i64 0)) fun t53 =>
 gd (isBool true t53) (j8_2 ev L t26 t37 t40 t9 t46 t11 t51 t53 undefA H)
 (j8_2 ev L t26 t37 t40 t9 t46 t11 t51 t53 t33 H))))
def q8 : CRun := fun ev L args H => match args with
  | [] => f8 ev L H
  | _ => .fail
def f10 (ev : Ev) (L : Nat) (t0 t1 t2 : AV) (H : Heap) : CR :=
 ob (loadR false 1 noG H t0) fun t7 =>
 ck (ev 11 [t7] H) fun t8 H =>
 ob (extractA 0 t8) fun t9 =>
 ob (extractA 1 t8) fun t10 =>
 ob (binR (some .other) none .eql t10 (.int .i64 0)) fun t12 =>
 ck (ev 12 [t12, t10] H) fun t14 H =>
 ob (loadR false 1 noG H t1) fun t17 =>
 ck (ev 13 [t9, t17] H) fun t18 H =>
 ob (extractA 0 t18) fun t19 =>
 ob (extractA 1 t18) fun t20 =>
 ob (binR (some .other) none .eql t20 (.int .i64 0)) fun t22 =>
 ck (ev 12 [t22, t20] H) fun t24 H =>
 ob (loadR false 1 noG H t0) fun t25 =>
 ck (ev 14 [t25] H) fun t26 H =>
 ob (unA .not t26) fun t27 =>
 ck (ev 12 [t27, (.int .i64 11)] H) fun t28 H =>
 ck (ev 15 [t19] H) fun t30 H =>
 ob (storeR 1 H t2 t30) fun H =>
 .ret (.tup []) H
def q10 : CRun := fun ev L args H => match args with
  | [t0, t1, t2] => f10 ev L t0 t1 t2 H
  | _ => .fail
def j11_1 (ev : Ev) (L : Nat) (t4 : AV) (H : Heap) : CR :=
 ob (loadR false 1 noG H t4) fun t92 =>
 .ret (.tup [t92, (.int .i64 0)]) H
def j11_4 (ev : Ev) (L : Nat) (k2 : AV → AV → AV → AV → AV → Heap → CR) (t4 t6 t31 t32 t33 : AV) (H : Heap) : CR :=
 ob (binR (some .other) none .add t33 (.int .i64 1)) fun t91 =>
 k2 t4 t6 t31 t32 t91 H
def j11_6 (ev : Ev) (L : Nat) (k2 : AV → AV → AV → AV → AV → Heap → CR) (t4 t6 t7 t9 t31 t32 t33 : AV) (H : Heap) : CR :=
 ob (moveP 2 t9) fun t79 =>
 ob (loadR false 1 noG H t79) fun t80 =>
 ifK (ob (loadR false 1 noG H t4) fun t81 =>
 ob (loadR false 1 noG H t4) fun t82 =>
 ob (nilCheckA t82) fun t83 =>
 ob (moveP 3 t83) fun t84 =>
 ob (loadR false 1 noG H t84) fun t85 =>
 ob ((fillR [(.int .i64 0)] [(0, 1, t7)]).map fun cs => .ds 1 cs (some 1)) fun t87 =>
 obR (appendR 1 8 [(.int .i64 0)] false H t85 t87) fun t88 H =>
 sure (againV (loadR false 1 noG H t4) t81)
 (ob (nilCheckA t81) fun t89 =>
 ob (moveP 3 t89) fun t90 =>
 ob (storeR 1 H t90 t88) fun H =>
 j11_4 ev L k2 t4 t6 t31 t32 t33 H))
 (j11_4 ev L k2 t4 t6 t31 t32 t33 H) t80
def j11_10 (ev : Ev) (L : Nat) (k2 : AV → AV → AV → AV → AV → Heap → CR) (k8 : AV → AV → AV → AV → AV → AV → AV → AV → AV → AV → Heap → CR) (t4 t6 t7 t9 t31 t32 t33 t56 t57 t58 : AV) (H : Heap) : CR :=
 ob (binR (some .other) none .add t58 (.int .i64 1)) fun t78 =>
 k8 t4 t6 t7 t9 t31 t32 t33 t56 t57 t78 H
def j11_9 (ev : Ev) (L : Nat) (k2 : AV → AV → AV → AV → AV → Heap → CR) (k8 : AV → AV → AV → AV → AV → AV → AV → AV → AV → AV → Heap → CR) (t4 t6 t7 t9 t31 t32 t33 t56 t57 t58 : AV) (H : Heap) : CR :=
 ob (indexSl 1 t56 t58) fun t60 =>
 ob (loadR false 1 noG H t60) fun t61 =>
 ob (loadR false 1 noG H t4) fun t62 =>
 ob (nilCheckA t62) fun t63 =>
 ob (moveP 2 t63) fun t64 =>
 ob (loadR false 1 noG H t64) fun t65 =>
 ob (loadR false 1 noG H t4) fun t67 =>
 ob (nilCheckA t67) fun t68 =>
 ob (moveP 2 t68) fun t69 =>
 ob (loadR false 1 noG H t69) fun t70 =>
 ob (indexSl 1 t70 t61) fun t72 =>
 ob (loadR false 1 noG H t72) fun t73 =>
 ob ((fillR [(.int .i64 0)] [(0, 1, t7)]).map fun cs => .ds 1 cs (some 1)) fun t75 =>
 obR (appendR 1 8 [(.int .i64 0)] false H t73 t75) fun t76 H =>
 sure (againV (loadR false 1 noG H t4) t62)
 (sure (againV (loadR false 1 noG H t64) t65)
 (ob (indexSl 1 t65 t61) fun t77 =>
 ob (storeR 1 H t77 t76) fun H =>
 j11_10 ev L k2 k8 t4 t6 t7 t9 t31 t32 t33 t56 t57 t58 H))
def j11_8 (ev : Ev) (L : Nat) (k2 : AV → AV → AV → AV → AV → Heap → CR) (k8 : AV → AV → AV → AV → AV → AV → AV → AV → AV → AV → Heap → CR) (t4 t6 t7 t9 t31 t32 t33 t56 t57 t58 : AV) (H : Heap) : CR :=
 ob (binR (some .other) none .lss t58 t57) fun t59 =>
 ifK (j11_9 ev L k2 k8 t4 t6 t7 t9 t31 t32 t33 t56 t57 t58 H)
 (j11_6 ev L k2 t4 t6 t7 t9 t31 t32 t33 H) t59
def l11_8 (ev : Ev) (L : Nat) (k2 : AV → AV → AV → AV → AV → Heap → CR) : Nat → AV → AV → AV → AV → AV → AV → AV → AV → AV → AV → Heap → CR
  | 0, _, _, _, _, _, _, _, _, _, _, _ => .fail
  | m + 1, t4, t6, t7, t9, t31, t32, t33, t56, t57, t58, H => j11_8 ev L k2 (l11_8 ev L k2 m) t4 t6 t7 t9 t31 t32 t33 t56 t57 t58 H
def j11_3 (ev : Ev) (L : Nat) (k2 : AV → AV → AV → AV → AV → Heap → CR) (t4 t6 t31 t32 t33 : AV) (H : Heap) : CR :=
 ob (indexSl 3 t31 t33) fun t36 =>
 ob (loadR true 3 noG H t36) fun t37 =>
 na H [(.int .i64 0), .nils, .nils] fun t8 H =>
 ob (storeR 3 H t8 t37) fun H =>
 ob (loadR false 1 noG H t6) fun t38 =>
 ob (loadR true 3 noG H t8) fun t39 =>
 ob (asCall [t39] t38) fun fa => ck (ev fa.1 fa.2 H) fun t40 H =>
 na H [.nils, .nils, (.bool false)] fun t9 H =>
 ob (storeR 3 H t9 t40) fun H =>
 ob (loadR false 1 noG H t4) fun t41 =>
 ob (nilCheckA t41) fun t42 =>
 ob (moveP 1 t42) fun t43 =>
 ob (loadR false 1 noG H t43) fun t44 =>
 ob (loadR false 1 noG H t4) fun t45 =>
 ob (nilCheckA t45) fun t46 =>
 ob (moveP 1 t46) fun t47 =>
 ob (loadR false 1 noG H t47) fun t48 =>
 ob (indexSl 1 t48 (.int .i64 0)) fun t49 =>
 ob (loadR false 1 noG H t49) fun t50 =>
 ob (moveP 0 t9) fun t51 =>
 ob (loadR false 1 noG H t51) fun t52 =>
 ck ((noPan ev) 25 [t50, t52] H) fun t53 H =>
 sure (againV (loadR false 1 noG H t4) t41)
 (sure (againV (loadR false 1 noG H t43) t44)
 (ob (indexSl 1 t44 (.int .i64 0)) fun t54 =>
 ob (storeR 1 H t54 t53) fun H =>
 ob (moveP 1 t9) fun t55 =>
 ob (loadR false 1 noG H t55) fun t56 =>
 ob (lenR H t56 .sl) fun t57 =>
 l11_8 ev L k2 L t4 t6 t33 t9 t31 t32 t33 t56 t57 (.int .i64 0) H))
def j11_2 (ev : Ev) (L : Nat) (k2 : AV → AV → AV → AV → AV → Heap → CR) (t4 t6 t31 t32 t33 : AV) (H : Heap) : CR :=
 ob (binR (some .other) none .lss t33 t32) fun t34 =>
 ifK (j11_3 ev L k2 t4 t6 t31 t32 t33 H)
 (j11_1 ev L t4 H) t34
def l11_2 (ev : Ev) (L : Nat) : Nat → AV → AV → AV → AV → AV → Heap → CR
  | 0, _, _, _, _, _, _ => .fail
  | m + 1, t4, t6, t31, t32, t33, H => j11_2 ev L (l11_2 ev L m) t4 t6 t31 t32 t33 H
def j11_0 (ev : Ev) (L : Nat) (t0 : AV) (H : Heap) : CR :=
 obR ((fillR [.nils] [(0, 1, .nils)]).map fun cs => (.sl H.next 0 1 1 (some 1), H.new (.row cs))) fun t24 H =>
 obR ((fillR [.nils] [(0, 1, .nils)]).map fun cs => (.sl H.next 0 1 1 (some 1), H.new (.row cs))) fun t25 H =>
 obR ((fillR [.nils] [(0, 1, .nils)]).map fun cs => (.sl H.next 0 1 1 (some 1), H.new (.row cs))) fun t26 H =>
 ob ((fillR [.nils, .nils, .nils, .nils] [(0, 1, t24), (1, 1, t25), (2, 1, t26)]).map .agg) fun t27 =>
 na H (AV.cells t27) fun t28 H =>
 na H [.nilp] fun t4 H =>
 ob (storeR 1 H t4 t28) fun H =>
 na H [.nilf] fun t5 H =>
 ob (storeR 1 H t5 (.fn 24 [] [t4])) fun H =>
 na H [.nilf] fun t6 H =>
 ob (storeR 1 H t6 (.fn 26 [] [t6, t4, t5])) fun H =>
 ob (lenR H t0 .sl) fun t32 =>
 l11_2 ev L L t4 t6 t0 t32 (.int .i64 0) H
def j11_13 (ev : Ev) (L : Nat) (t0 t23 : AV) (H : Heap) : CR :=
 ifK (.ret (.tup [.nilp, (.int .i64 1)]) H)
 (j11_0 ev L t0 H) t23
def j11_19 (ev : Ev) (L : Nat) (t0 t20 t22 : AV) (H : Heap) : CR :=
 ob (pickF (.bool true) t22 t20) fun t23 =>
 j11_13 ev L t0 t23 H
def j11_18 (ev : Ev) (L : Nat) (t0 t20 t21 : AV) (H : Heap) : CR :=
 gd (isBool false t20) (j11_19 ev L t0 t20 undefA H)
 (ck (ev 21 [t21, (.fn 22 [] [])] H) fun t22 H =>
 j11_19 ev L t0 t20 t22 H)
def j11_17 (ev : Ev) (L : Nat) (t0 t15 t18 : AV) (H : Heap) : CR :=
 ob (pickF (.bool true) t18 t15) fun t19 =>
 gd (isBool false t19) (j11_18 ev L t0 t19 undefA H)
 (j11_18 ev L t0 t19 t0 H)
def j11_16 (ev : Ev) (L : Nat) (t0 t15 t17 : AV) (H : Heap) : CR :=
 gd (isBool false t15) (j11_17 ev L t0 t15 undefA H)
 (ob (binR (some .other) none .gtr t17 (.int .i64 16)) fun t18 =>
 j11_17 ev L t0 t15 t18 H)
def j11_15 (ev : Ev) (L : Nat) (t0 t15 t16 : AV) (H : Heap) : CR :=
 gd (isBool false t15) (j11_16 ev L t0 t15 undefA H)
 (ob (lenR H t16 .sl) fun t17 =>
 j11_16 ev L t0 t15 t17 H)
def f11 (ev : Ev) (L : Nat) (t0 : AV) (H : Heap) : CR :=
 ob (lenR H t0 .sl) fun t13 =>
 ob (binR (some .other) none .lss t13 (.int .i64 1)) fun t14 =>
 gd (isBool false t14) (j11_15 ev L t0 t14 undefA H)
 (j11_15 ev L t0 t14 t0 H)
def q11 : CRun := fun ev L args H => match args with
  | [t0] => f11 ev L t0 H
  | _ => .fail
def f12 (ev : Ev) (L : Nat) (t0 t1 : AV) (H : Heap) : CR :=
 ob (unA .not t0) fun t5 =>
 ifK (ob ((fillR [(.int .i64 0)] [(0, 1, t1)]).map .agg) fun t7 =>
 thr H (.iface 58 t7))
 (.ret (.tup []) H) t5
def q12 : CRun := fun ev L args H => match args with
  | [t0, t1] => f12 ev L t0 t1 H
  | _ => .fail
def j13_1 (ev : Ev) (L : Nat) (t6 : AV) (H : Heap) : CR :=
 .ret (.tup [t6, (.int .i64 0)]) H
def j13_4 (ev : Ev) (L : Nat) (k2 : AV → AV → AV → AV → AV → AV → Heap → CR) (t0 t1 t6 t7 t8 t9 : AV) (H : Heap) : CR :=
 ob (binR (some .other) none .add t9 (.int .i64 1)) fun t45 =>
 k2 t0 t1 t6 t7 t8 t45 H
def j13_7 (ev : Ev) (L : Nat) (k2 : AV → AV → AV → AV → AV → AV → Heap → CR) (t0 t1 t6 t7 t8 t9 t10 t16 : AV) (H : Heap) : CR :=
 ob (nilCheckA t6) fun t119 =>
 ob (moveP 1 t119) fun t120 =>
 ob (loadR false 1 noG H t120) fun t121 =>
 ob ((fillR [.nils] [(0, 1, t10)]).map fun cs => .ds 1 cs (some 1)) fun t123 =>
 ob (nilCheckA t6) fun t126 =>
 ob (moveP 2 t126) fun t127 =>
 ob (loadR false 1 noG H t127) fun t128 =>
 ob ((fillR [(.int .i64 0)] [(0, 1, t16)]).map fun cs => .ds 1 cs (some 1)) fun t130 =>
 obR (appendR 1 24 [.nils] false H t121 t123) fun t124 H =>
 sure (againV (loadR false 1 noG H t127) t128)
 (obR (appendR 1 8 [(.int .i64 0)] false H t128 t130) fun t131 H =>
 ob (nilCheckA t6) fun t132 =>
 ob (moveP 1 t132) fun t133 =>
 ob (storeR 1 H t133 t124) fun H =>
 ob (nilCheckA t6) fun t134 =>
 ob (moveP 2 t134) fun t135 =>
 ob (storeR 1 H t135 t131) fun H =>
 j13_4 ev L k2 t0 t1 t6 t7 t8 t9 H)
def j13_6 (ev : Ev) (L : Nat) (k2 : AV → AV → AV → AV → AV → AV → Heap → CR) (t0 t1 t6 t7 t8 t9 t10 : AV) (H : Heap) : CR :=
 ob (indexSl 1 t7 t9) fun t107 =>
 ob (loadR false 1 noG H t107) fun t108 =>
 ck (ev 30 [t0, t108] H) fun t109 H =>
 ob (lenR H t109 .sl) fun t111 =>
 ob (binR (some .other) none .gtr t111 (.int .i64 0)) fun t112 =>
 ifK (ob (indexSl 1 t109 (.int .i64 0)) fun t114 =>
 ob (loadR false 1 noG H t114) fun t115 =>
 j13_7 ev L k2 t0 t1 t6 t7 t8 t9 t10 t115 H)
 (j13_7 ev L k2 t0 t1 t6 t7 t8 t9 t10 (.int .i64 (.negSucc 0)) H) t112
def j13_12 (ev : Ev) (L : Nat) (k2 : AV → AV → AV → AV → AV → AV → Heap → CR) (k10 : AV → AV → AV → AV → AV → AV → AV → AV → AV → AV → Heap → CR) (t0 t1 t6 t7 t8 t9 t10 t55 t56 t57 : AV) (H : Heap) : CR :=
 ob (binR (some .other) none .add t57 (.int .i64 1)) fun t103 =>
 k10 t0 t1 t6 t7 t8 t9 t10 t55 t56 t103 H
def j13_15 (ev : Ev) (L : Nat) (k2 : AV → AV → AV → AV → AV → AV → Heap → CR) (k10 : AV → AV → AV → AV → AV → AV → AV → AV → AV → AV → Heap → CR) (t0 t1 t6 t7 t8 t9 t10 t11 t14 t55 t56 t57 : AV) (H : Heap) : CR :=
 ob (indexSl 1 t10 t11) fun t102 =>
 ob (storeR 1 H t102 t14) fun H =>
 j13_12 ev L k2 k10 t0 t1 t6 t7 t8 t9 t10 t55 t56 t57 H
def j13_14 (ev : Ev) (L : Nat) (k2 : AV → AV → AV → AV → AV → AV → Heap → CR) (k10 : AV → AV → AV → AV → AV → AV → AV → AV → AV → AV → Heap → CR) (t0 t1 t6 t7 t8 t9 t10 t11 t13 t55 t56 t57 : AV) (H : Heap) : CR :=
 ck (ev 28 [t13] H) fun t79 H =>
 ob (lookupR .str (.int .i64 0) H t8 t79 true) fun t80 =>
 ob (extractA 0 t80) fun t81 =>
 ob (extractA 1 t80) fun t82 =>
 ob (unA .not t82) fun t84 =>
 ifK (ob (lenR H t7 .sl) fun t86 =>
 ck (ev 28 [t13] H) fun t89 H =>
 ob (mapUpdR .str H t89 t86 t8) fun H =>
 obR ((fillR [.nils] [(0, 1, t13)]).map fun cs => (.sl H.next 0 1 1 (some 1), H.new (.row cs))) fun t93 H =>
 obR (appendR 1 24 [.nils] false H t7 t93) fun t94 H =>
 ob (lenR H t94 .sl) fun t96 =>
 ob (binR (some .other) none .gtr t96 t1) fun t98 =>
 ifK (.ret (.tup [.nilp, (.int .i64 8)]) H)
 (j13_15 ev L k2 k10 t0 t1 t6 t94 t8 t9 t10 t11 t86 t55 t56 t57 H) t98)
 (j13_15 ev L k2 k10 t0 t1 t6 t7 t8 t9 t10 t11 t81 t55 t56 t57 H) t84
def j13_11 (ev : Ev) (L : Nat) (k2 : AV → AV → AV → AV → AV → AV → Heap → CR) (k10 : AV → AV → AV → AV → AV → AV → AV → AV → AV → AV → Heap → CR) (t0 t1 t6 t7 t8 t9 t10 t55 t56 t57 : AV) (H : Heap) : CR :=
 ob (indexSl 2 t55 t57) fun t60 =>
 ob (loadR true 2 noG H t60) fun t61 =>
 na H [(.int .i32 0), (.int .i32 0)] fun t12 H =>
 ob (storeR 2 H t12 t61) fun H =>
 ob (indexSl 1 t7 t9) fun t65 =>
 ob (loadR false 1 noG H t65) fun t66 =>
 ob (moveP 0 t12) fun t67 =>
 ob (loadR false 1 noG H t67) fun t68 =>
 ck ((noPan ev) 29 [t0, t66, t68] H) fun t69 H =>
 ob (indexSl 1 t10 t57) fun t72 =>
 ob (storeR 1 H t72 (.int .i64 (.negSucc 0))) fun H =>
 ob (lenR H t69 .sl) fun t74 =>
 ob (binR (some .other) none .eql t74 (.int .i64 0)) fun t75 =>
 ifK (j13_12 ev L k2 k10 t0 t1 t6 t7 t8 t9 t10 t55 t56 t57 H)
 (j13_14 ev L k2 k10 t0 t1 t6 t7 t8 t9 t10 t57 t69 t55 t56 t57 H) t75
def j13_10 (ev : Ev) (L : Nat) (k2 : AV → AV → AV → AV → AV → AV → Heap → CR) (k10 : AV → AV → AV → AV → AV → AV → AV → AV → AV → AV → Heap → CR) (t0 t1 t6 t7 t8 t9 t10 t55 t56 t57 : AV) (H : Heap) : CR :=
 ob (binR (some .other) none .lss t57 t56) fun t58 =>
 ifK (j13_11 ev L k2 k10 t0 t1 t6 t7 t8 t9 t10 t55 t56 t57 H)
 (j13_6 ev L k2 t0 t1 t6 t7 t8 t9 t10 H) t58
def l13_10 (ev : Ev) (L : Nat) (k2 : AV → AV → AV → AV → AV → AV → Heap → CR) : Nat → AV → AV → AV → AV → AV → AV → AV → AV → AV → AV → Heap → CR
  | 0, _, _, _, _, _, _, _, _, _, _, _ => .fail
  | m + 1, t0, t1, t6, t7, t8, t9, t10, t55, t56, t57, H => j13_10 ev L k2 (l13_10 ev L k2 m) t0 t1 t6 t7 t8 t9 t10 t55 t56 t57 H
def j13_3 (ev : Ev) (L : Nat) (k2 : AV → AV → AV → AV → AV → AV → Heap → CR) (t0 t1 t6 t7 t8 t9 : AV) (H : Heap) : CR :=
 ob (nilCheckA t6) fun t47 =>
 ob (moveP 0 t47) fun t48 =>
 ob (loadR false 1 noG H t48) fun t49 =>
 ob (lenR H t49 .sl) fun t50 =>
 obR (makeSliceR 1 [(.int .i64 0)] 8 H t50 t50) fun t51 H =>
 ob (nilCheckA t6) fun t53 =>
 ob (moveP 0 t53) fun t54 =>
 ob (loadR false 1 noG H t54) fun t55 =>
 ob (lenR H t55 .sl) fun t56 =>
 l13_10 ev L k2 L t0 t1 t6 t7 t8 t9 t51 t55 t56 (.int .i64 0) H
def j13_2 (ev : Ev) (L : Nat) (k2 : AV → AV → AV → AV → AV → AV → Heap → CR) (t0 t1 t6 t7 t8 t9 : AV) (H : Heap) : CR :=
 ob (lenR H t7 .sl) fun t42 =>
 ob (binR (some .other) none .lss t9 t42) fun t43 =>
 ifK (j13_3 ev L k2 t0 t1 t6 t7 t8 t9 H)
 (j13_1 ev L t6 H) t43
def l13_2 (ev : Ev) (L : Nat) : Nat → AV → AV → AV → AV → AV → AV → Heap → CR
  | 0, _, _, _, _, _, _, _ => .fail
  | m + 1, t0, t1, t6, t7, t8, t9, H => j13_2 ev L (l13_2 ev L m) t0 t1 t6 t7 t8 t9 H
def j13_0 (ev : Ev) (L : Nat) (t0 t1 : AV) (H : Heap) : CR :=
 ck (ev 27 [t0] H) fun t29 H =>
 ob ((fillR [.nils, .nils, .nils] [(0, 1, t29)]).map .agg) fun t30 =>
 na H (AV.cells t30) fun t31 H =>
 obR ((fillR [(.int .i64 0)] [(0, 1, (.int .i64 0))]).map fun cs => (.sl H.next 0 1 1 (some 1), H.new (.row cs))) fun t32 H =>
 obR ((fillR [.nils] [(0, 1, t32)]).map fun cs => (.sl H.next 0 1 1 (some 1), H.new (.row cs))) fun t33 H =>
 nm H fun t34 H =>
 ob (indexSl 1 t33 (.int .i64 0)) fun t36 =>
 ob (loadR false 1 noG H t36) fun t37 =>
 ck (ev 28 [t37] H) fun t38 H =>
 ob (mapUpdR .str H t38 (.int .i64 0) t34) fun H =>
 l13_2 ev L L t0 t1 t31 t33 t34 (.int .i64 0) H
def j13_17 (ev : Ev) (L : Nat) (t0 t1 t27 : AV) (H : Heap) : CR :=
 ifK (.ret (.tup [.nilp, (.int .i64 1)]) H)
 (j13_0 ev L t0 t1 H) t27
def j13_22 (ev : Ev) (L : Nat) (t0 t1 t24 t26 : AV) (H : Heap) : CR :=
 ob (pickF (.bool true) t26 t24) fun t27 =>
 j13_17 ev L t0 t1 t27 H
def j13_21 (ev : Ev) (L : Nat) (t0 t1 t24 t25 : AV) (H : Heap) : CR :=
 gd (isBool false t24) (j13_22 ev L t0 t1 t24 undefA H)
 (ob (binR (some .other) none .gtr t25 (.int .i64 400)) fun t26 =>
 j13_22 ev L t0 t1 t24 t26 H)
def j13_20 (ev : Ev) (L : Nat) (t0 t1 t20 t22 : AV) (H : Heap) : CR :=
 ob (pickF (.bool true) t22 t20) fun t23 =>
 gd (isBool false t23) (j13_21 ev L t0 t1 t23 undefA H)
 (j13_21 ev L t0 t1 t23 t1 H)
def j13_19 (ev : Ev) (L : Nat) (t0 t1 t20 t21 : AV) (H : Heap) : CR :=
 gd (isBool false t20) (j13_20 ev L t0 t1 t20 undefA H)
 (ob (binR (some .other) none .lss t21 (.int .i64 1)) fun t22 =>
 j13_20 ev L t0 t1 t20 t22 H)
def f13 (ev : Ev) (L : Nat) (t0 t1 : AV) (H : Heap) : CR :=
 ob (binR (some .ptr) none .eql t0 .nilp) fun t19 =>
 gd (isBool false t19) (j13_19 ev L t0 t1 t19 undefA H)
 (j13_19 ev L t0 t1 t19 t1 H)
def q13 : CRun := fun ev L args H => match args with
  | [t0, t1] => f13 ev L t0 t1 H
  | _ => .fail
def f14 (ev : Ev) (L : Nat) (t0 : AV) (H : Heap) : CR :=
 ck (ev 21 [t0, (.fn 31 [] [])] H) fun t4 H =>
 .ret t4 H
def q14 : CRun := fun ev L args H => match args with
  | [t0] => f14 ev L t0 H
  | _ => .fail
def j15_1 (ev : Ev) (L : Nat) (t3 : AV) (H : Heap) : CR :=
 .ret t3 H
def j15_4 (ev : Ev) (L : Nat) (k2 : AV → AV → AV → AV → AV → AV → AV → Heap → CR) (t0 t3 t4 t5 t6 t7 t8 : AV) (H : Heap) : CR :=
 ob (binR (some .other) none .add t8 (.int .i64 1)) fun t36 =>
 k2 t0 t3 t4 t5 t6 t7 t36 H
def j15_6 (ev : Ev) (L : Nat) (k2 : AV → AV → AV → AV → AV → AV → AV → Heap → CR) (t0 t3 t4 t5 t6 t7 t8 t9 : AV) (H : Heap) : CR :=
 ob (nilCheckA t3) fun t101 =>
 ob (moveP 1 t101) fun t102 =>
 ob (loadR false 1 noG H t102) fun t103 =>
 ob ((fillR [.nils] [(0, 1, t9)]).map fun cs => .ds 1 cs (some 1)) fun t105 =>
 ob (nilCheckA t3) fun t108 =>
 ob (moveP 2 t108) fun t109 =>
 ob (loadR false 1 noG H t109) fun t110 =>
 ob (indexSl 1 t7 t8) fun t114 =>
 ob (loadR false 1 noG H t114) fun t115 =>
 obR (appendR 1 24 [.nils] false H t103 t105) fun t106 H =>
 sure (againV (loadR false 1 noG H t109) t110)
 (sure (againV (loadR false 1 noG H t114) t115)
 (ck ((noPan ev) 36 [t0, t115] H) fun t116 H =>
 sure (againV (loadR false 1 noG H t109) t110)
 (ob ((fillR [(.int .i64 0)] [(0, 1, t116)]).map fun cs => .ds 1 cs (some 1)) fun t117 =>
 obR (appendR 1 8 [(.int .i64 0)] false H t110 t117) fun t118 H =>
 ob (nilCheckA t3) fun t119 =>
 ob (moveP 1 t119) fun t120 =>
 ob (storeR 1 H t120 t106) fun H =>
 ob (nilCheckA t3) fun t121 =>
 ob (moveP 2 t121) fun t122 =>
 ob (storeR 1 H t122 t118) fun H =>
 j15_4 ev L k2 t0 t3 t4 t5 t6 t7 t8 H)))
def j15_10 (ev : Ev) (L : Nat) (k2 : AV → AV → AV → AV → AV → AV → AV → Heap → CR) (k8 : AV → AV → AV → AV → AV → AV → AV → AV → AV → AV → Heap → CR) (t0 t3 t4 t5 t6 t7 t8 t9 t47 t48 : AV) (H : Heap) : CR :=
 ob (binR (some .other) none .add t48 (.int .i64 1)) fun t97 =>
 k8 t0 t3 t4 t5 t6 t7 t8 t9 t47 t97 H
def j15_13 (ev : Ev) (L : Nat) (k2 : AV → AV → AV → AV → AV → AV → AV → Heap → CR) (k8 : AV → AV → AV → AV → AV → AV → AV → AV → AV → AV → Heap → CR) (t0 t3 t4 t5 t6 t7 t8 t9 t10 t12 t47 t48 : AV) (H : Heap) : CR :=
 ob (indexSl 1 t9 t10) fun t96 =>
 ob (storeR 1 H t96 t12) fun H =>
 j15_10 ev L k2 k8 t0 t3 t4 t5 t6 t7 t8 t9 t47 t48 H
def j15_12 (ev : Ev) (L : Nat) (k2 : AV → AV → AV → AV → AV → AV → AV → Heap → CR) (k8 : AV → AV → AV → AV → AV → AV → AV → AV → AV → AV → Heap → CR) (t0 t3 t4 t5 t6 t7 t8 t9 t10 t11 t47 t48 : AV) (H : Heap) : CR :=
 ob (indexSl 1 t5 t11) fun t74 =>
 ob (loadR false 1 noG H t74) fun t75 =>
 ob (lookupR .int (.int .i64 0) H t6 t75 true) fun t76 =>
 ob (extractA 0 t76) fun t77 =>
 ob (extractA 1 t76) fun t78 =>
 ob (unA .not t78) fun t80 =>
 ifK (ob (lenR H t7 .sl) fun t82 =>
 ob (indexSl 1 t5 t11) fun t86 =>
 ob (loadR false 1 noG H t86) fun t87 =>
 ob (mapUpdR .int H t87 t82 t6) fun H =>
 obR ((fillR [(.int .i64 0)] [(0, 1, t11)]).map fun cs => (.sl H.next 0 1 1 (some 1), H.new (.row cs))) fun t91 H =>
 obR (appendR 1 8 [(.int .i64 0)] false H t7 t91) fun t92 H =>
 j15_13 ev L k2 k8 t0 t3 t4 t5 t6 t92 t8 t9 t10 t82 t47 t48 H)
 (j15_13 ev L k2 k8 t0 t3 t4 t5 t6 t7 t8 t9 t10 t77 t47 t48 H) t80
def j15_16 (ev : Ev) (L : Nat) (k2 : AV → AV → AV → AV → AV → AV → AV → Heap → CR) (k8 : AV → AV → AV → AV → AV → AV → AV → AV → AV → AV → Heap → CR) (t0 t3 t4 t5 t6 t7 t8 t9 t10 t11 t47 t48 t69 : AV) (H : Heap) : CR :=
 ifK (j15_10 ev L k2 k8 t0 t3 t4 t5 t6 t7 t8 t9 t47 t48 H)
 (j15_12 ev L k2 k8 t0 t3 t4 t5 t6 t7 t8 t9 t10 t11 t47 t48 H) t69
def j15_22 (ev : Ev) (L : Nat) (k2 : AV → AV → AV → AV → AV → AV → AV → Heap → CR) (k8 : AV → AV → AV → AV → AV → AV → AV → AV → AV → AV → Heap → CR) (t0 t3 t4 t5 t6 t7 t8 t9 t10 t11 t47 t48 t63 t68 : AV) (H : Heap) : CR :=
 ob (pickF (.bool true) t68 t63) fun t69 =>
 j15_16 ev L k2 k8 t0 t3 t4 t5 t6 t7 t8 t9 t10 t11 t47 t48 t69 H
def j15_21 (ev : Ev) (L : Nat) (k2 : AV → AV → AV → AV → AV → AV → AV → Heap → CR) (k8 : AV → AV → AV → AV → AV → AV → AV → AV → AV → AV → Heap → CR) (t0 t3 t4 t5 t6 t7 t8 t9 t10 t11 t47 t48 t63 t67 : AV) (H : Heap) : CR :=
 gd (isBool false t63) (j15_22 ev L k2 k8 t0 t3 t4 t5 t6 t7 t8 t9 t10 t11 t47 t48 t63 undefA H)
 (ob (unA .not t67) fun t68 =>
 j15_22 ev L k2 k8 t0 t3 t4 t5 t6 t7 t8 t9 t10 t11 t47 t48 t63 t68 H)
def j15_20 (ev : Ev) (L : Nat) (k2 : AV → AV → AV → AV → AV → AV → AV → Heap → CR) (k8 : AV → AV → AV → AV → AV → AV → AV → AV → AV → AV → Heap → CR) (t0 t3 t4 t5 t6 t7 t8 t9 t10 t11 t47 t48 t63 t66 : AV) (H : Heap) : CR :=
 gd (isBool false t63) (j15_21 ev L k2 k8 t0 t3 t4 t5 t6 t7 t8 t9 t10 t11 t47 t48 t63 undefA H)
 (ob (loadR false 1 noG H t66) fun t67 =>
 j15_21 ev L k2 k8 t0 t3 t4 t5 t6 t7 t8 t9 t10 t11 t47 t48 t63 t67 H)
def j15_19 (ev : Ev) (L : Nat) (k2 : AV → AV → AV → AV → AV → AV → AV → Heap → CR) (k8 : AV → AV → AV → AV → AV → AV → AV → AV → AV → AV → Heap → CR) (t0 t3 t4 t5 t6 t7 t8 t9 t10 t11 t47 t48 t63 t64 t65 : AV) (H : Heap) : CR :=
 gd (isBool false t63) (j15_20 ev L k2 k8 t0 t3 t4 t5 t6 t7 t8 t9 t10 t11 t47 t48 t63 undefA H)
 (ob (indexSl 1 t64 t65) fun t66 =>
 j15_20 ev L k2 k8 t0 t3 t4 t5 t6 t7 t8 t9 t10 t11 t47 t48 t63 t66 H)
def j15_18 (ev : Ev) (L : Nat) (k2 : AV → AV → AV → AV → AV → AV → AV → Heap → CR) (k8 : AV → AV → AV → AV → AV → AV → AV → AV → AV → AV → Heap → CR) (t0 t3 t4 t5 t6 t7 t8 t9 t10 t11 t47 t48 t63 t64 : AV) (H : Heap) : CR :=
 gd (isBool false t63) (j15_19 ev L k2 k8 t0 t3 t4 t5 t6 t7 t8 t9 t10 t11 t47 t48 t63 t64 undefA H)
 (j15_19 ev L k2 k8 t0 t3 t4 t5 t6 t7 t8 t9 t10 t11 t47 t48 t63 t64 t11 H)
def j15_9 (ev : Ev) (L : Nat) (k2 : AV → AV → AV → AV → AV → AV → AV → Heap → CR) (k8 : AV → AV → AV → AV → AV → AV → AV → AV → AV → AV → Heap → CR) (t0 t3 t4 t5 t6 t7 t8 t9 t47 t48 : AV) (H : Heap) : CR :=
 ob (indexSl 1 t7 t8) fun t54 =>
 ob (loadR false 1 noG H t54) fun t55 =>
 ck (ev 35 [t0, t55, t48] H) fun t57 H =>
 ob (indexSl 1 t9 t48) fun t60 =>
 ob (storeR 1 H t60 (.int .i64 (.negSucc 0))) fun H =>
 ob (binR (some .other) none .lss t57 (.int .i64 0)) fun t62 =>
 gd (isBool false t62) (j15_18 ev L k2 k8 t0 t3 t4 t5 t6 t7 t8 t9 t48 t57 t47 t48 t62 undefA H)
 (j15_18 ev L k2 k8 t0 t3 t4 t5 t6 t7 t8 t9 t48 t57 t47 t48 t62 t4 H)
def j15_8 (ev : Ev) (L : Nat) (k2 : AV → AV → AV → AV → AV → AV → AV → Heap → CR) (k8 : AV → AV → AV → AV → AV → AV → AV → AV → AV → AV → Heap → CR) (t0 t3 t4 t5 t6 t7 t8 t9 t47 t48 : AV) (H : Heap) : CR :=
 ob (binR (some .other) none .lss t48 t47) fun t49 =>
 ifK (j15_9 ev L k2 k8 t0 t3 t4 t5 t6 t7 t8 t9 t47 t48 H)
 (j15_6 ev L k2 t0 t3 t4 t5 t6 t7 t8 t9 H) t49
def l15_8 (ev : Ev) (L : Nat) (k2 : AV → AV → AV → AV → AV → AV → AV → Heap → CR) : Nat → AV → AV → AV → AV → AV → AV → AV → AV → AV → AV → Heap → CR
  | 0, _, _, _, _, _, _, _, _, _, _, _ => .fail
  | m + 1, t0, t3, t4, t5, t6, t7, t8, t9, t47, t48, H => j15_8 ev L k2 (l15_8 ev L k2 m) t0 t3 t4 t5 t6 t7 t8 t9 t47 t48 H
def j15_3 (ev : Ev) (L : Nat) (k2 : AV → AV → AV → AV → AV → AV → AV → Heap → CR) (t0 t3 t4 t5 t6 t7 t8 : AV) (H : Heap) : CR :=
 ob (nilCheckA t3) fun t38 =>
 ob (moveP 0 t38) fun t39 =>
 ob (loadR false 1 noG H t39) fun t40 =>
 ob (lenR H t40 .sl) fun t41 =>
 obR (makeSliceR 1 [(.int .i64 0)] 8 H t41 t41) fun t42 H =>
 ob (nilCheckA t3) fun t44 =>
 ob (moveP 0 t44) fun t45 =>
 ob (loadR false 1 noG H t45) fun t46 =>
 ob (lenR H t46 .sl) fun t47 =>
 l15_8 ev L k2 L t0 t3 t4 t5 t6 t7 t8 t42 t47 (.int .i64 0) H
def j15_2 (ev : Ev) (L : Nat) (k2 : AV → AV → AV → AV → AV → AV → AV → Heap → CR) (t0 t3 t4 t5 t6 t7 t8 : AV) (H : Heap) : CR :=
 ob (lenR H t7 .sl) fun t33 =>
 ob (binR (some .other) none .lss t8 t33) fun t34 =>
 ifK (j15_3 ev L k2 t0 t3 t4 t5 t6 t7 t8 H)
 (j15_1 ev L t3 H) t34
def l15_2 (ev : Ev) (L : Nat) : Nat → AV → AV → AV → AV → AV → AV → AV → Heap → CR
  | 0, _, _, _, _, _, _, _, _ => .fail
  | m + 1, t0, t3, t4, t5, t6, t7, t8, H => j15_2 ev L (l15_2 ev L m) t0 t3 t4 t5 t6 t7 t8 H
def j15_0 (ev : Ev) (L : Nat) (t0 : AV) (H : Heap) : CR :=
 ck (ev 32 [t0] H) fun t17 H =>
 ob ((fillR [.nils, .nils, .nils] [(0, 1, t17)]).map .agg) fun t18 =>
 na H (AV.cells t18) fun t19 H =>
 ck (ev 33 [t0] H) fun t21 H =>
 ck (ev 34 [t0, t21] H) fun t24 H =>
 nm H fun t25 H =>
 ob (indexSl 1 t24 (.int .i64 0)) fun t27 =>
 ob (loadR false 1 noG H t27) fun t28 =>
 ob (mapUpdR .int H t28 (.int .i64 0) t25) fun H =>
 obR ((fillR [(.int .i64 0)] [(0, 1, (.int .i64 0))]).map fun cs => (.sl H.next 0 1 1 (some 1), H.new (.row cs))) fun t30 H =>
 l15_2 ev L L t0 t19 t21 t24 t25 t30 (.int .i64 0) H
def f15 (ev : Ev) (L : Nat) (t0 : AV) (H : Heap) : CR :=
 ob (binR (some .ptr) none .eql t0 .nilp) fun t15 =>
 ifK (.ret .nilp H)
 (j15_0 ev L t0 H) t15
def q15 : CRun := fun ev L args H => match args with
  | [t0] => f15 ev L t0 H
  | _ => .fail
def f16 (ev : Ev) (L : Nat) (t0 : AV) (H : Heap) : CR :=
 ck (ev 37 [] H) fun t4 H =>
 ck (ev 38 [t4, t0] H) fun t7 H =>
 ck (ev 39 [t4] H) fun t9 H =>
 obR (appendR 5 32 [(.int .i32 0), (.int .i64 0), (.int .i64 0), (.bool false), (.bool false)] false H t7 t9) fun t10 H =>
 .ret t10 H
def q16 : CRun := fun ev L args H => match args with
  | [t0] => f16 ev L t0 H
  | _ => .fail
def f17 (ev : Ev) (L : Nat) (t0 t1 t2 : AV) (H : Heap) : CR :=
 na H [(.int .i64 0), (.int .i64 0), (.int .i64 0), (.int .i64 0)] fun t6 H =>
 ck (ev 40 [t0, t1, t2] H) fun t15 H =>
 ob (extractA 0 t15) fun t16 =>
 ob (extractA 1 t15) fun t17 =>
 ob (extractA 2 t15) fun t18 =>
 na H [(.int .i64 0), (.int .i64 0), (.int .i64 0), (.int .i64 0)] fun t8 H =>
 ob (storeR 4 H t8 t16) fun H =>
 ob (loadR true 4 noG H t8) fun t19 =>
 ob (storeR 4 H t6 t19) fun H =>
 rt ((loadR true 4 noG H t6).bind fun r0 => some [r0, t17]) H
def q17 : CRun := fun ev L args H => match args with
  | [t0, t1, t2] => f17 ev L t0 t1 t2 H
  | _ => .fail
def j18_0 (ev : Ev) (L : Nat) (t1 t2 t6 t8 : AV) (H : Heap) : CR :=
 ob (loadR false 1 noG H t8) fun t27 =>
 ck (ev 41 [t27] H) fun t28 H =>
 na H [.nils] fun t10 H =>
 ob (storeR 1 H t10 t28) fun H =>
 obR ((fillR [(.int .i64 0)] [(0, 1, (.int .i64 0))]).map fun cs => (.sl H.next 0 1 1 (some 1), H.new (.row cs))) fun t29 H =>
 na H [.nils] fun t11 H =>
 ob (storeR 1 H t11 t29) fun H =>
 ck (ev 42 [t1, t2, (.fn 43 [] [t8, t11, t10])] H) fun t34 H =>
 ob (extractA 0 t34) fun t35 =>
 ob (extractA 1 t34) fun t36 =>
 ob (extractA 2 t34) fun t37 =>
 na H [(.int .i64 0), (.int .i64 0), (.int .i64 0), (.int .i64 0)] fun t12 H =>
 ob (storeR 4 H t12 t35) fun H =>
 ob (loadR true 4 noG H t12) fun t38 =>
 ob (storeR 4 H t6 t38) fun H =>
 rt ((loadR true 4 noG H t6).bind fun r0 => some [r0, t36]) H
def j18_1 (ev : Ev) (L : Nat) (t1 t2 t6 t8 t25 : AV) (H : Heap) : CR :=
 ifK (ob ((fillR [(.int .i64 0), (.int .i64 0), (.int .i64 0), (.int .i64 0)] []).map .agg) fun t26 =>
 ob (storeR 4 H t6 t26) fun H =>
 rt ((loadR true 4 noG H t6).bind fun r0 => some [r0, (.int .i64 0)]) H)
 (j18_0 ev L t1 t2 t6 t8 H) t25
def j18_4 (ev : Ev) (L : Nat) (t1 t2 t6 t8 t22 t24 : AV) (H : Heap) : CR :=
 ob (pickF (.bool true) t24 t22) fun t25 =>
 j18_1 ev L t1 t2 t6 t8 t25 H
def j18_3 (ev : Ev) (L : Nat) (t1 t2 t6 t8 t22 t23 : AV) (H : Heap) : CR :=
 gd (isBool false t22) (j18_4 ev L t1 t2 t6 t8 t22 undefA H)
 (ck (ev 14 [t23] H) fun t24 H =>
 j18_4 ev L t1 t2 t6 t8 t22 t24 H)
def f18 (ev : Ev) (L : Nat) (t0 t1 t2 : AV) (H : Heap) : CR :=
 na H [(.int .i64 0), (.int .i64 0), (.int .i64 0), (.int .i64 0)] fun t6 H =>
 ck (ev 11 [t0] H) fun t17 H =>
 ob (extractA 0 t17) fun t18 =>
 ob (extractA 1 t17) fun t19 =>
 na H [.nilp] fun t8 H =>
 ob (storeR 1 H t8 t18) fun H =>
 ob (binR (some .other) none .neq t19 (.int .i64 0)) fun t21 =>
 gd (isBool false t21) (j18_3 ev L t1 t2 t6 t8 t21 undefA H)
 (j18_3 ev L t1 t2 t6 t8 t21 t0 H)
def q18 : CRun := fun ev L args H => match args with
  | [t0, t1, t2] => f18 ev L t0 t1 t2 H
  | _ => .fail
def f19 (ev : Ev) (L : Nat) (t0 t1 t2 : AV) (H : Heap) : CR :=
 ck (ev 40 [t0, t1, t2] H) fun t14 H =>
 ob (extractA 0 t14) fun t15 =>
 ob (extractA 1 t14) fun t16 =>
 ob (extractA 2 t14) fun t17 =>
 na H [(.int .i64 0), (.int .i64 0), (.int .i64 0), (.int .i64 0)] fun t7 H =>
 ob (storeR 4 H t7 t15) fun H =>
 .ret t17 H
def q19 : CRun := fun ev L args H => match args with
  | [t0, t1, t2] => f19 ev L t0 t1 t2 H
  | _ => .fail
def f21 (ev : Ev) (L : Nat) (t0 t1 : AV) (H : Heap) : CR :=
 ck (ev 46 [t0, t1] H) fun t7 H =>
 ob (binR (some .other) none .geq t7 (.int .i64 0)) fun t8 =>
 .ret t8 H
def q21 : CRun := fun ev L args H => match args with
  | [t0, t1] => f21 ev L t0 t1 H
  | _ => .fail
def f22 (ev : Ev) (L : Nat) (t0 : AV) (H : Heap) : CR :=
 na H (AV.cells t0) fun t1 H =>
 ob (loadR true 3 noG H t1) fun t3 =>
 ck (ev 23 [t3] H) fun t4 H =>
 ob (unA .not t4) fun t5 =>
 .ret t5 H
def q22 : CRun := fun ev L args H => match args with
  | [t0] => f22 ev L t0 H
  | _ => .fail
def j23_0 (ev : Ev) (L : Nat) (t2 : AV) (H : Heap) : CR :=
 .ret t2 H
def j23_3 (ev : Ev) (L : Nat) (t5 t7 : AV) (H : Heap) : CR :=
 ob (pickF t7 (.bool false) t5) fun t8 =>
 j23_0 ev L t8 H
def j23_2 (ev : Ev) (L : Nat) (t5 t6 : AV) (H : Heap) : CR :=
 gd (isBool true t5) (j23_3 ev L t5 undefA H)
 (ck (ev 48 [t6] H) fun t7 H =>
 j23_3 ev L t5 t7 H)
def f23 (ev : Ev) (L : Nat) (t0 : AV) (H : Heap) : CR :=
 na H (AV.cells t0) fun t1 H =>
 ob (loadR true 3 noG H t1) fun t3 =>
 ck (ev 47 [t3] H) fun t4 H =>
 gd (isBool true t4) (j23_2 ev L t4 undefA H)
 (ob (loadR true 3 noG H t1) fun t6 =>
 j23_2 ev L t4 t6 H)
def q23 : CRun := fun ev L args H => match args with
  | [t0] => f23 ev L t0 H
  | _ => .fail
def j24_2 (ev : Ev) (L : Nat) (k0 : AV → AV → AV → AV → AV → Heap → CR) (t1 t2 t7 t8 t9 : AV) (H : Heap) : CR :=
 ob (binR (some .other) none .add t9 (.int .i64 1)) fun t28 =>
 k0 t1 t2 t7 t8 t28 H
def j24_1 (ev : Ev) (L : Nat) (k0 : AV → AV → AV → AV → AV → Heap → CR) (t1 t2 t7 t8 t9 : AV) (H : Heap) : CR :=
 ob (indexSl 1 t7 t9) fun t11 =>
 ob (loadR false 1 noG H t11) fun t12 =>
 ob (loadR false 1 noG H t2) fun t13 =>
 ob (nilCheckA t13) fun t14 =>
 ob (moveP 1 t14) fun t15 =>
 ob (loadR false 1 noG H t15) fun t16 =>
 ob (loadR false 1 noG H t2) fun t18 =>
 ob (nilCheckA t18) fun t19 =>
 ob (moveP 1 t19) fun t20 =>
 ob (loadR false 1 noG H t20) fun t21 =>
 ob (indexSl 1 t21 t12) fun t23 =>
 ob (loadR false 1 noG H t23) fun t24 =>
 ck ((noPan ev) 25 [t24, t1] H) fun t26 H =>
 sure (againV (loadR false 1 noG H t2) t13)
 (sure (againV (loadR false 1 noG H t15) t16)
 (ob (indexSl 1 t16 t12) fun t27 =>
 ob (storeR 1 H t27 t26) fun H =>
 j24_2 ev L k0 t1 t2 t7 t8 t9 H))
def j24_0 (ev : Ev) (L : Nat) (k0 : AV → AV → AV → AV → AV → Heap → CR) (t1 t2 t7 t8 t9 : AV) (H : Heap) : CR :=
 ob (binR (some .other) none .lss t9 t8) fun t10 =>
 ifK (j24_1 ev L k0 t1 t2 t7 t8 t9 H)
 (.ret (.tup []) H) t10
def l24_0 (ev : Ev) (L : Nat) : Nat → AV → AV → AV → AV → AV → Heap → CR
  | 0, _, _, _, _, _, _ => .fail
  | m + 1, t1, t2, t7, t8, t9, H => j24_0 ev L (l24_0 ev L m) t1 t2 t7 t8 t9 H
def f24 (ev : Ev) (L : Nat) (t0 t1 t2 : AV) (H : Heap) : CR :=
 ob (lenR H t0 .sl) fun t8 =>
 l24_0 ev L L t1 t2 t0 t8 (.int .i64 0) H
def q24 : CRun := fun ev L args H => match args with
  | [t0, t1, t2] => f24 ev L t0 t1 t2 H
  | _ => .fail
def f25 (ev : Ev) (L : Nat) (t0 t1 : AV) (H : Heap) : CR :=
 obR ((fillR [.nils, .nils] [(0, 1, t0), (1, 1, t1)]).map fun cs => (.sl H.next 0 2 1 (some 2), H.new (.row cs))) fun t8 H =>
 ck (ev 49 [t8] H) fun t9 H =>
 ck (ev 50 [t9] H) fun t11 H =>
 ck (ev 51 [t9] H) fun t13 H =>
 .ret t13 H
def q25 : CRun := fun ev L args H => match args with
  | [t0, t1] => f25 ev L t0 t1 H
  | _ => .fail
end
end Go.AM.Ly
set_option maxRecDepth 100000
namespace Go.AM.Ly
open Go
noncomputable section
def j26_1 (ev : Ev) (L : Nat) (t4 t5 : AV) (H : Heap) : CR :=
 ob (moveP 0 t4) fun t164 =>
 ob (loadR false 1 noG H t164) fun t165 =>
 ob (binR (some .other) none .eql t165 (.int .i64 1)) fun t166 =>
 ob ((fillR [.nils, .nils, (.bool false)] [(2, 1, t166)]).map .agg) fun t167 =>
 ob (storeR 3 H t5 t167) fun H =>
 rt ((loadR true 3 noG H t5).bind fun r0 => some [r0]) H
def j26_4 (ev : Ev) (L : Nat) (t5 t12 : AV) (H : Heap) : CR :=
 ob (loadR true 3 noG H t12) fun t111 =>
 ob (storeR 3 H t5 t111) fun H =>
 rt ((loadR true 3 noG H t5).bind fun r0 => some [r0]) H
def j26_3 (ev : Ev) (L : Nat) (t5 t10 t11 t12 : AV) (H : Heap) : CR :=
 ob (moveP 2 t11) fun t103 =>
 ob (loadR false 1 noG H t103) fun t104 =>
 ifK (ob (moveP 1 t10) fun t105 =>
 ob (loadR false 1 noG H t105) fun t106 =>
 ob (moveP 1 t11) fun t107 =>
 ob (loadR false 1 noG H t107) fun t108 =>
 ck (ev 25 [t106, t108] H) fun t109 H =>
 ob (moveP 1 t12) fun t110 =>
 ob (storeR 1 H t110 t109) fun H =>
 j26_4 ev L t5 t12 H)
 (j26_4 ev L t5 t12 H) t104
def j26_2 (ev : Ev) (L : Nat) (t5 t10 t11 t12 : AV) (H : Heap) : CR :=
 ob (moveP 2 t10) fun t95 =>
 ob (loadR false 1 noG H t95) fun t96 =>
 ifK (ob (moveP 0 t10) fun t97 =>
 ob (loadR false 1 noG H t97) fun t98 =>
 ob (moveP 0 t11) fun t99 =>
 ob (loadR false 1 noG H t99) fun t100 =>
 ck (ev 25 [t98, t100] H) fun t101 H =>
 ob (moveP 0 t12) fun t102 =>
 ob (storeR 1 H t102 t101) fun H =>
 j26_3 ev L t5 t10 t11 t12 H)
 (j26_3 ev L t5 t10 t11 t12 H) t96
def j26_9 (ev : Ev) (L : Nat) (t5 t10 t11 t85 t87 t90 t92 : AV) (H : Heap) : CR :=
 ob (pickF t92 (.bool false) t90) fun t93 =>
 ob ((fillR [.nils, .nils, (.bool false)] [(0, 1, t85), (1, 1, t87), (2, 1, t93)]).map .agg) fun t94 =>
 na H [.nils, .nils, (.bool false)] fun t12 H =>
 ob (storeR 3 H t12 t94) fun H =>
 j26_2 ev L t5 t10 t11 t12 H
def j26_8 (ev : Ev) (L : Nat) (t5 t10 t11 t85 t87 t90 t91 : AV) (H : Heap) : CR :=
 gd (isBool true t90) (j26_9 ev L t5 t10 t11 t85 t87 t90 undefA H)
 (ob (loadR false 1 noG H t91) fun t92 =>
 j26_9 ev L t5 t10 t11 t85 t87 t90 t92 H)
def j26_10 (ev : Ev) (L : Nat) (t5 : AV) (H : Heap) : CR :=
 rt ((loadR true 3 noG H t5).bind fun r0 => some [r0]) H
def j26_15 (ev : Ev) (L : Nat) (t5 t122 t131 t136 t140 : AV) (H : Heap) : CR :=
 ob (pickF (.bool true) t140 t136) fun t141 =>
 ob ((fillR [.nils, .nils, (.bool false)] [(0, 1, t122), (1, 1, t131), (2, 1, t141)]).map .agg) fun t142 =>
 ob (storeR 3 H t5 t142) fun H =>
 j26_10 ev L t5 H
def j26_14 (ev : Ev) (L : Nat) (t5 t122 t131 t136 t139 : AV) (H : Heap) : CR :=
 gd (isBool false t136) (j26_15 ev L t5 t122 t131 t136 undefA H)
 (ob (loadR false 1 noG H t139) fun t140 =>
 j26_15 ev L t5 t122 t131 t136 t140 H)
def j26_13 (ev : Ev) (L : Nat) (t5 t122 t131 t136 t138 : AV) (H : Heap) : CR :=
 gd (isBool false t136) (j26_14 ev L t5 t122 t131 t136 undefA H)
 (ob (moveP 2 t138) fun t139 =>
 j26_14 ev L t5 t122 t131 t136 t139 H)
def j26_12 (ev : Ev) (L : Nat) (t5 t122 t131 t136 t137 : AV) (H : Heap) : CR :=
 gd (isBool false t136) (j26_13 ev L t5 t122 t131 t136 undefA H)
 (ob (indexSl 3 t137 (.int .i64 1)) fun t138 =>
 j26_13 ev L t5 t122 t131 t136 t138 H)
def j26_16 (ev : Ev) (L : Nat) (t5 t6 : AV) (H : Heap) : CR :=
 ob (indexSl 3 t6 (.int .i64 0)) fun t156 =>
 ob (moveP 0 t156) fun t157 =>
 ob (loadR false 1 noG H t157) fun t158 =>
 ob (indexSl 3 t6 (.int .i64 0)) fun t160 =>
 ob (moveP 1 t160) fun t161 =>
 ob (loadR false 1 noG H t161) fun t162 =>
 ob ((fillR [.nils, .nils, (.bool false)] [(0, 1, t158), (1, 1, t162), (2, 1, (.bool true))]).map .agg) fun t163 =>
 ob (storeR 3 H t5 t163) fun H =>
 rt ((loadR true 3 noG H t5).bind fun r0 => some [r0]) H
def j26_0 (ev : Ev) (L : Nat) (t2 t3 t4 t5 t6 : AV) (H : Heap) : CR :=
 ob (moveP 0 t4) fun t27 =>
 ob (loadR false 1 noG H t27) fun t28 =>
 ob (binR (some .other) none .eql t28 (.int .i64 2)) fun t30 =>
 ifK (ob (loadR false 1 noG H t2) fun t31 =>
 ob (nilCheckA t31) fun t32 =>
 ob (moveP 0 t32) fun t33 =>
 ob (loadR false 1 noG H t33) fun t34 =>
 ob (lenR H t34 .sl) fun t35 =>
 ob (loadR false 1 noG H t2) fun t36 =>
 ob (loadR false 1 noG H t2) fun t37 =>
 ob (loadR false 1 noG H t2) fun t38 =>
 ob (loadR false 1 noG H t2) fun t39 =>
 ob (nilCheckA t39) fun t40 =>
 ob (moveP 0 t40) fun t41 =>
 ob (loadR false 1 noG H t41) fun t42 =>
 ob (moveP 1 t4) fun t43 =>
 ob (loadR false 1 noG H t43) fun t44 =>
 ob ((fillR [.nils] [(0, 1, t44)]).map fun cs => .ds 1 cs (some 1)) fun t45 =>
 ob (loadR false 1 noG H t2) fun t47 =>
 ob (nilCheckA t47) fun t48 =>
 ob (moveP 1 t48) fun t49 =>
 ob (loadR false 1 noG H t49) fun t50 =>
 ob ((fillR [.nils] [(0, 1, .nils)]).map fun cs => .ds 1 cs (some 1)) fun t51 =>
 ob (loadR false 1 noG H t2) fun t53 =>
 ob (nilCheckA t53) fun t54 =>
 ob (moveP 2 t54) fun t55 =>
 ob (loadR false 1 noG H t55) fun t56 =>
 ob ((fillR [.nils] [(0, 1, .nils)]).map fun cs => .ds 1 cs (some 1)) fun t57 =>
 obR (appendR 1 24 [.nils] false H t42 t45) fun t46 H =>
 sure (againV (loadR false 1 noG H t2) t36)
 (sure (againV (loadR false 1 noG H t2) t37)
 (sure (againV (loadR false 1 noG H t2) t38)
 (sure (againV (loadR false 1 noG H t2) t47)
 (sure (againV (loadR false 1 noG H t49) t50)
 (sure (againV (loadR false 1 noG H t2) t53)
 (sure (againV (loadR false 1 noG H t55) t56)
 (obR (appendR 1 24 [.nils] false H t50 t51) fun t52 H =>
 sure (againV (loadR false 1 noG H t2) t36)
 (sure (againV (loadR false 1 noG H t2) t37)
 (sure (againV (loadR false 1 noG H t2) t38)
 (sure (againV (loadR false 1 noG H t2) t53)
 (sure (againV (loadR false 1 noG H t55) t56)
 (obR (appendR 1 24 [.nils] false H t56 t57) fun t58 H =>
 sure (againV (loadR false 1 noG H t2) t36)
 (sure (againV (loadR false 1 noG H t2) t37)
 (sure (againV (loadR false 1 noG H t2) t38)
 (ob (nilCheckA t36) fun t59 =>
 ob (moveP 0 t59) fun t60 =>
 ob (storeR 1 H t60 t46) fun H =>
 sure (againV (loadR false 1 noG H t2) t37)
 (sure (againV (loadR false 1 noG H t2) t38)
 (ob (nilCheckA t37) fun t61 =>
 ob (moveP 1 t61) fun t62 =>
 ob (storeR 1 H t62 t52) fun H =>
 sure (againV (loadR false 1 noG H t2) t38)
 (ob (nilCheckA t38) fun t63 =>
 ob (moveP 2 t63) fun t64 =>
 ob (storeR 1 H t64 t58) fun H =>
 obR ((fillR [(.int .i64 0)] [(0, 1, t35)]).map fun cs => (.sl H.next 0 1 1 (some 1), H.new (.row cs))) fun t66 H =>
 obR ((fillR [(.int .i64 0)] [(0, 1, t35)]).map fun cs => (.sl H.next 0 1 1 (some 1), H.new (.row cs))) fun t68 H =>
 ob ((fillR [.nils, .nils, (.bool false)] [(0, 1, t66), (1, 1, t68), (2, 1, (.bool false))]).map .agg) fun t69 =>
 ob (storeR 3 H t5 t69) fun H =>
 rt ((loadR true 3 noG H t5).bind fun r0 => some [r0]) H)))))))))))))))))))
 (ob (binR (some .other) none .eql t28 (.int .i64 3)) fun t71 =>
 ifK (ob (indexSl 3 t6 (.int .i64 0)) fun t73 =>
 ob (loadR true 3 noG H t73) fun t74 =>
 ob (indexSl 3 t6 (.int .i64 1)) fun t76 =>
 ob (loadR true 3 noG H t76) fun t77 =>
 na H [.nils, .nils, (.bool false)] fun t10 H =>
 sure (againV (loadR true 3 noG H t73) t74)
 (sure (againV (loadR true 3 noG H t76) t77)
 (na H [.nils, .nils, (.bool false)] fun t11 H =>
 sure (againV (loadR true 3 noG H t73) t74)
 (sure (againV (loadR true 3 noG H t76) t77)
 (ob (storeR 3 H t10 t74) fun H =>
 sure (againV (loadR true 3 noG H t76) t77)
 (ob (storeR 3 H t11 t77) fun H =>
 ob (loadR false 1 noG H t3) fun t78 =>
 ob (moveP 1 t10) fun t79 =>
 ob (loadR false 1 noG H t79) fun t80 =>
 ob (moveP 0 t11) fun t81 =>
 ob (loadR false 1 noG H t81) fun t82 =>
 ob (asCall [t80, t82] t78) fun fa => ck (ev fa.1 fa.2 H) fun t83 H =>
 ob (moveP 0 t10) fun t84 =>
 ob (loadR false 1 noG H t84) fun t85 =>
 ob (moveP 1 t11) fun t86 =>
 ob (loadR false 1 noG H t86) fun t87 =>
 ob (moveP 2 t10) fun t88 =>
 ob (loadR false 1 noG H t88) fun t89 =>
 gd (isBool true t89) (j26_8 ev L t5 t10 t11 t85 t87 t89 undefA H)
 (ob (moveP 2 t11) fun t91 =>
 j26_8 ev L t5 t10 t11 t85 t87 t89 t91 H)))))))
 (ob (binR (some .other) none .eql t28 (.int .i64 4)) fun t113 =>
 ifK (ob (indexSl 3 t6 (.int .i64 0)) fun t115 =>
 ob (moveP 0 t115) fun t116 =>
 ob (loadR false 1 noG H t116) fun t117 =>
 ob (indexSl 3 t6 (.int .i64 1)) fun t119 =>
 ob (moveP 0 t119) fun t120 =>
 ob (loadR false 1 noG H t120) fun t121 =>
 ob (indexSl 3 t6 (.int .i64 0)) fun t124 =>
 ob (moveP 1 t124) fun t125 =>
 ob (loadR false 1 noG H t125) fun t126 =>
 ob (indexSl 3 t6 (.int .i64 1)) fun t128 =>
 ob (moveP 1 t128) fun t129 =>
 ob (loadR false 1 noG H t129) fun t130 =>
 ob (indexSl 3 t6 (.int .i64 0)) fun t133 =>
 ob (moveP 2 t133) fun t134 =>
 ob (loadR false 1 noG H t134) fun t135 =>
 ck ((noPan ev) 25 [t117, t121] H) fun t122 H =>
 sure (againV (loadR false 1 noG H t125) t126)
 (sure (againV (loadR false 1 noG H t129) t130)
 (sure (againV (loadR false 1 noG H t134) t135)
 (ck ((noPan ev) 25 [t126, t130] H) fun t131 H =>
 sure (againV (loadR false 1 noG H t134) t135)
 (gd (isBool false t135) (j26_12 ev L t5 t122 t131 t135 undefA H)
 (j26_12 ev L t5 t122 t131 t135 t6 H))))))
 (ob (binR (some .other) none .eql t28 (.int .i64 5)) fun t144 =>
 ifK (ob (loadR false 1 noG H t3) fun t145 =>
 ob (indexSl 3 t6 (.int .i64 0)) fun t147 =>
 ob (moveP 1 t147) fun t148 =>
 ob (loadR false 1 noG H t148) fun t149 =>
 ob (indexSl 3 t6 (.int .i64 0)) fun t151 =>
 ob (moveP 0 t151) fun t152 =>
 ob (loadR false 1 noG H t152) fun t153 =>
 ob (asCall [t149, t153] t145) fun fa => ck (ev fa.1 fa.2 H) fun t154 H =>
 j26_16 ev L t5 t6 H)
 (j26_1 ev L t4 t5 H) t144) t113) t71) t30
def j26_20 (ev : Ev) (L : Nat) (k18 : AV → AV → AV → AV → AV → AV → AV → AV → AV → Heap → CR) (t1 t2 t3 t4 t5 t6 t14 t15 t16 : AV) (H : Heap) : CR :=
 ob (binR (some .other) none .add t16 (.int .i64 1)) fun t26 =>
 k18 t1 t2 t3 t4 t5 t6 t14 t15 t26 H
def j26_19 (ev : Ev) (L : Nat) (k18 : AV → AV → AV → AV → AV → AV → AV → AV → AV → Heap → CR) (t1 t2 t3 t4 t5 t6 t14 t15 t16 : AV) (H : Heap) : CR :=
 ob (indexSl 3 t14 t16) fun t18 =>
 ob (loadR true 3 noG H t18) fun t19 =>
 na H [(.int .i64 0), .nils, .nils] fun t8 H =>
 ob (storeR 3 H t8 t19) fun H =>
 ob (loadR false 1 noG H t1) fun t21 =>
 ob (loadR true 3 noG H t8) fun t22 =>
 ob (asCall [t22] t21) fun fa => ck (ev fa.1 fa.2 H) fun t23 H =>
 obR ((fillR [.nils, .nils, (.bool false)] [(0, 3, t23)]).map fun cs => (.sl H.next 0 1 3 (some 1), H.new (.row cs))) fun t24 H =>
 obR (appendR 3 56 [.nils, .nils, (.bool false)] false H t6 t24) fun t25 H =>
 j26_20 ev L k18 t1 t2 t3 t4 t5 t25 t14 t15 t16 H
def j26_18 (ev : Ev) (L : Nat) (k18 : AV → AV → AV → AV → AV → AV → AV → AV → AV → Heap → CR) (t1 t2 t3 t4 t5 t6 t14 t15 t16 : AV) (H : Heap) : CR :=
 ob (binR (some .other) none .lss t16 t15) fun t17 =>
 ifK (j26_19 ev L k18 t1 t2 t3 t4 t5 t6 t14 t15 t16 H)
 (j26_0 ev L t2 t3 t4 t5 t6 H) t17
def l26_18 (ev : Ev) (L : Nat) : Nat → AV → AV → AV → AV → AV → AV → AV → AV → AV → Heap → CR
  | 0, _, _, _, _, _, _, _, _, _, _ => .fail
  | m + 1, t1, t2, t3, t4, t5, t6, t14, t15, t16, H => j26_18 ev L (l26_18 ev L m) t1 t2 t3 t4 t5 t6 t14 t15 t16 H
def f26 (ev : Ev) (L : Nat) (t0 t1 t2 t3 : AV) (H : Heap) : CR :=
 na H (AV.cells t0) fun t4 H =>
 na H [.nils, .nils, (.bool false)] fun t5 H =>
 ob (moveP 2 t4) fun t13 =>
 ob (loadR false 1 noG H t13) fun t14 =>
 ob (lenR H t14 .sl) fun t15 =>
 l26_18 ev L L t1 t2 t3 t4 t5 .nils t14 t15 (.int .i64 0) H
def q26 : CRun := fun ev L args H => match args with
  | [t0, t1, t2, t3] => f26 ev L t0 t1 t2 t3 H
  | _ => .fail
def j27_0 (ev : Ev) (L : Nat) (t0 : AV) (H : Heap) : CR :=
 ob (nilCheckA t0) fun t6 =>
 ob (moveP 0 t6) fun t7 =>
 ob (loadR false 1 noG H t7) fun t8 =>
 ck (ev 52 [t8] H) fun t9 H =>
 .ret t9 H
def f27 (ev : Ev) (L : Nat) (t0 : AV) (H : Heap) : CR :=
 ob (binR (some .ptr) none .eql t0 .nilp) fun t4 =>
 ifK (.ret .nils H)
 (j27_0 ev L t0 H) t4
def q27 : CRun := fun ev L args H => match args with
  | [t0] => f27 ev L t0 H
  | _ => .fail
def j28_0 (ev : Ev) (L : Nat) (t3 : AV) (H : Heap) : CR :=
 obR (convR H t3 .strBytes) fun t19 H =>
 .ret t19 H
def j28_3 (ev : Ev) (L : Nat) (k1 : AV → AV → AV → AV → Heap → CR) (t3 t6 t7 t8 : AV) (H : Heap) : CR :=
 ob (binR (some .other) none .add t8 (.int .i64 1)) fun t17 =>
 k1 t3 t6 t7 t17 H
def j28_2 (ev : Ev) (L : Nat) (k1 : AV → AV → AV → AV → Heap → CR) (t3 t6 t7 t8 : AV) (H : Heap) : CR :=
 ob (indexSl 1 t6 t8) fun t10 =>
 ob (loadR false 1 noG H t10) fun t11 =>
 ck (ev 53 [t3, t11, (.int .i64 10)] H) fun t14 H =>
 obR ((fillR [(.int .u8 0)] [(0, 1, (.int .u8 32))]).map fun cs => (.sl H.next 0 1 1 (some 1), H.new (.row cs))) fun t15 H =>
 obR (appendR 1 1 [(.int .u8 0)] false H t14 t15) fun t16 H =>
 j28_3 ev L k1 t16 t6 t7 t8 H
def j28_1 (ev : Ev) (L : Nat) (k1 : AV → AV → AV → AV → Heap → CR) (t3 t6 t7 t8 : AV) (H : Heap) : CR :=
 ob (binR (some .other) none .lss t8 t7) fun t9 =>
 ifK (j28_2 ev L k1 t3 t6 t7 t8 H)
 (j28_0 ev L t3 H) t9
def l28_1 (ev : Ev) (L : Nat) : Nat → AV → AV → AV → AV → Heap → CR
  | 0, _, _, _, _, _ => .fail
  | m + 1, t3, t6, t7, t8, H => j28_1 ev L (l28_1 ev L m) t3 t6 t7 t8 H
def f28 (ev : Ev) (L : Nat) (t0 : AV) (H : Heap) : CR :=
 ob (lenR H t0 .sl) fun t7 =>
 l28_1 ev L L .nils t0 t7 (.int .i64 0) H
def q28 : CRun := fun ev L args H => match args with
  | [t0] => f28 ev L t0 H
  | _ => .fail
def j29_1 (ev : Ev) (L : Nat) (t7 : AV) (H : Heap) : CR :=
 ck (ev 25 [t7, .nils] H) fun t52 H =>
 .ret t52 H
def j29_4 (ev : Ev) (L : Nat) (k2 : AV → AV → AV → AV → AV → AV → Heap → CR) (t0 t2 t7 t14 t15 t16 : AV) (H : Heap) : CR :=
 ob (binR (some .other) none .add t16 (.int .i64 1)) fun t50 =>
 k2 t0 t2 t7 t14 t15 t50 H
def j29_9 (ev : Ev) (L : Nat) (k2 : AV → AV → AV → AV → AV → AV → Heap → CR) (k7 : AV → AV → AV → AV → AV → AV → AV → AV → AV → Heap → CR) (t0 t2 t7 t14 t15 t16 t30 t31 t32 : AV) (H : Heap) : CR :=
 ob (binR (some .other) none .add t32 (.int .i64 1)) fun t49 =>
 k7 t0 t2 t7 t14 t15 t16 t30 t31 t49 H
def j29_8 (ev : Ev) (L : Nat) (k2 : AV → AV → AV → AV → AV → AV → Heap → CR) (k7 : AV → AV → AV → AV → AV → AV → AV → AV → AV → Heap → CR) (t0 t2 t7 t14 t15 t16 t30 t31 t32 : AV) (H : Heap) : CR :=
 ob (indexSl 1 t30 t32) fun t34 =>
 ob (loadR false 1 noG H t34) fun t35 =>
 ob (nilCheckA t0) fun t37 =>
 ob (moveP 0 t37) fun t38 =>
 ob (loadR false 1 noG H t38) fun t39 =>
 ob (indexSl 1 t39 t35) fun t41 =>
 ob (loadR false 1 noG H t41) fun t42 =>
 ck (ev 55 [t42, t2] H) fun t44 H =>
 ifK (obR ((fillR [(.int .i64 0)] [(0, 1, t35)]).map fun cs => (.sl H.next 0 1 1 (some 1), H.new (.row cs))) fun t47 H =>
 obR (appendR 1 8 [(.int .i64 0)] false H t7 t47) fun t48 H =>
 j29_9 ev L k2 k7 t0 t2 t48 t14 t15 t16 t30 t31 t32 H)
 (j29_9 ev L k2 k7 t0 t2 t7 t14 t15 t16 t30 t31 t32 H) t44
def j29_7 (ev : Ev) (L : Nat) (k2 : AV → AV → AV → AV → AV → AV → Heap → CR) (k7 : AV → AV → AV → AV → AV → AV → AV → AV → AV → Heap → CR) (t0 t2 t7 t14 t15 t16 t30 t31 t32 : AV) (H : Heap) : CR :=
 ob (binR (some .other) none .lss t32 t31) fun t33 =>
 ifK (j29_8 ev L k2 k7 t0 t2 t7 t14 t15 t16 t30 t31 t32 H)
 (j29_4 ev L k2 t0 t2 t7 t14 t15 t16 H) t33
def l29_7 (ev : Ev) (L : Nat) (k2 : AV → AV → AV → AV → AV → AV → Heap → CR) : Nat → AV → AV → AV → AV → AV → AV → AV → AV → AV → Heap → CR
  | 0, _, _, _, _, _, _, _, _, _, _ => .fail
  | m + 1, t0, t2, t7, t14, t15, t16, t30, t31, t32, H => j29_7 ev L k2 (l29_7 ev L k2 m) t0 t2 t7 t14 t15 t16 t30 t31 t32 H
def j29_6 (ev : Ev) (L : Nat) (k2 : AV → AV → AV → AV → AV → AV → Heap → CR) (t0 t2 t7 t9 t14 t15 t16 : AV) (H : Heap) : CR :=
 ob (nilCheckA t0) fun t25 =>
 ob (moveP 1 t25) fun t26 =>
 ob (loadR false 1 noG H t26) fun t27 =>
 ob (indexSl 1 t27 t9) fun t29 =>
 ob (loadR false 1 noG H t29) fun t30 =>
 ob (lenR H t30 .sl) fun t31 =>
 l29_7 ev L k2 L t0 t2 t7 t14 t15 t16 t30 t31 (.int .i64 0) H
def j29_3 (ev : Ev) (L : Nat) (k2 : AV → AV → AV → AV → AV → AV → Heap → CR) (t0 t2 t7 t14 t15 t16 : AV) (H : Heap) : CR :=
 ob (indexSl 1 t14 t16) fun t18 =>
 ob (loadR false 1 noG H t18) fun t19 =>
 ck (ev 54 [t0, t19] H) fun t22 H =>
 ob (unA .not t22) fun t23 =>
 ifK (j29_4 ev L k2 t0 t2 t7 t14 t15 t16 H)
 (j29_6 ev L k2 t0 t2 t7 t19 t14 t15 t16 H) t23
def j29_2 (ev : Ev) (L : Nat) (k2 : AV → AV → AV → AV → AV → AV → Heap → CR) (t0 t2 t7 t14 t15 t16 : AV) (H : Heap) : CR :=
 ob (binR (some .other) none .lss t16 t15) fun t17 =>
 ifK (j29_3 ev L k2 t0 t2 t7 t14 t15 t16 H)
 (j29_1 ev L t7 H) t17
def l29_2 (ev : Ev) (L : Nat) : Nat → AV → AV → AV → AV → AV → AV → Heap → CR
  | 0, _, _, _, _, _, _, _ => .fail
  | m + 1, t0, t2, t7, t14, t15, t16, H => j29_2 ev L (l29_2 ev L m) t0 t2 t7 t14 t15 t16 H
def j29_0 (ev : Ev) (L : Nat) (t0 t1 t2 : AV) (H : Heap) : CR :=
 ob (lenR H t1 .sl) fun t15 =>
 l29_2 ev L L t0 t2 .nils t1 t15 (.int .i64 0) H
def f29 (ev : Ev) (L : Nat) (t0 t1 t2 : AV) (H : Heap) : CR :=
 ob (binR (some .ptr) none .eql t0 .nilp) fun t13 =>
 ifK (.ret .nils H)
 (j29_0 ev L t0 t1 t2 H) t13
def q29 : CRun := fun ev L args H => match args with
  | [t0, t1, t2] => f29 ev L t0 t1 t2 H
  | _ => .fail
def j30_1 (ev : Ev) (L : Nat) (t5 : AV) (H : Heap) : CR :=
 ck (ev 25 [t5, .nils] H) fun t40 H =>
 .ret t40 H
def j30_4 (ev : Ev) (L : Nat) (k2 : AV → AV → AV → AV → AV → Heap → CR) (t0 t5 t10 t11 t12 : AV) (H : Heap) : CR :=
 ob (binR (some .other) none .add t12 (.int .i64 1)) fun t38 =>
 k2 t0 t5 t10 t11 t38 H
def j30_3 (ev : Ev) (L : Nat) (k2 : AV → AV → AV → AV → AV → Heap → CR) (t0 t5 t10 t11 t12 : AV) (H : Heap) : CR :=
 ob (indexSl 1 t10 t12) fun t14 =>
 ob (loadR false 1 noG H t14) fun t15 =>
 ob (binR (some .other) none .eql t15 (.int .i64 0)) fun t18 =>
 ifK (ob (nilCheckA t0) fun t21 =>
 ob (moveP 3 t21) fun t22 =>
 ob (loadR false 1 noG H t22) fun t23 =>
 obR (appendR 1 8 [(.int .i64 0)] false H t5 t23) fun t24 H =>
 j30_4 ev L k2 t0 t24 t10 t11 t12 H)
 (ck (ev 54 [t0, t15] H) fun t28 H =>
 ifK (ob (nilCheckA t0) fun t31 =>
 ob (moveP 2 t31) fun t32 =>
 ob (loadR false 1 noG H t32) fun t33 =>
 ob (indexSl 1 t33 t15) fun t35 =>
 ob (loadR false 1 noG H t35) fun t36 =>
 obR (appendR 1 8 [(.int .i64 0)] false H t5 t36) fun t37 H =>
 j30_4 ev L k2 t0 t37 t10 t11 t12 H)
 (j30_4 ev L k2 t0 t5 t10 t11 t12 H) t28) t18
def j30_2 (ev : Ev) (L : Nat) (k2 : AV → AV → AV → AV → AV → Heap → CR) (t0 t5 t10 t11 t12 : AV) (H : Heap) : CR :=
 ob (binR (some .other) none .lss t12 t11) fun t13 =>
 ifK (j30_3 ev L k2 t0 t5 t10 t11 t12 H)
 (j30_1 ev L t5 H) t13
def l30_2 (ev : Ev) (L : Nat) : Nat → AV → AV → AV → AV → AV → Heap → CR
  | 0, _, _, _, _, _, _ => .fail
  | m + 1, t0, t5, t10, t11, t12, H => j30_2 ev L (l30_2 ev L m) t0 t5 t10 t11 t12 H
def j30_0 (ev : Ev) (L : Nat) (t0 t1 : AV) (H : Heap) : CR :=
 ob (lenR H t1 .sl) fun t11 =>
 l30_2 ev L L t0 .nils t1 t11 (.int .i64 0) H
def f30 (ev : Ev) (L : Nat) (t0 t1 : AV) (H : Heap) : CR :=
 ob (binR (some .ptr) none .eql t0 .nilp) fun t9 =>
 ifK (.ret .nils H)
 (j30_0 ev L t0 t1 H) t9
def q30 : CRun := fun ev L args H => match args with
  | [t0, t1] => f30 ev L t0 t1 H
  | _ => .fail
def j31_0 (ev : Ev) (L : Nat) (t2 : AV) (H : Heap) : CR :=
 .ret t2 H
def j31_3 (ev : Ev) (L : Nat) (t5 t7 : AV) (H : Heap) : CR :=
 ob (pickF t7 (.bool false) t5) fun t8 =>
 j31_0 ev L t8 H
def j31_2 (ev : Ev) (L : Nat) (t5 t6 : AV) (H : Heap) : CR :=
 gd (isBool true t5) (j31_3 ev L t5 undefA H)
 (ck (ev 56 [t6] H) fun t7 H =>
 j31_3 ev L t5 t7 H)
def f31 (ev : Ev) (L : Nat) (t0 : AV) (H : Heap) : CR :=
 na H (AV.cells t0) fun t1 H =>
 ob (loadR true 3 noG H t1) fun t3 =>
 ck (ev 23 [t3] H) fun t4 H =>
 gd (isBool true t4) (j31_2 ev L t4 undefA H)
 (ob (loadR true 3 noG H t1) fun t6 =>
 j31_2 ev L t4 t6 H)
def q31 : CRun := fun ev L args H => match args with
  | [t0] => f31 ev L t0 H
  | _ => .fail
def j32_0 (ev : Ev) (L : Nat) (t0 : AV) (H : Heap) : CR :=
 ob (nilCheckA t0) fun t6 =>
 ob (moveP 0 t6) fun t7 =>
 ob (loadR false 1 noG H t7) fun t8 =>
 ck (ev 57 [t8] H) fun t9 H =>
 .ret t9 H
def f32 (ev : Ev) (L : Nat) (t0 : AV) (H : Heap) : CR :=
 ob (binR (some .ptr) none .eql t0 .nilp) fun t4 =>
 ifK (.ret .nils H)
 (j32_0 ev L t0 H) t4
def q32 : CRun := fun ev L args H => match args with
  | [t0] => f32 ev L t0 H
  | _ => .fail
def j33_0 (ev : Ev) (L : Nat) (t3 : AV) (H : Heap) : CR :=
 .ret t3 H
def j33_5 (ev : Ev) (L : Nat) (k1 : AV → AV → AV → Heap → CR) (k3 : AV → AV → AV → AV → AV → Heap → CR) (t0 t3 t4 t14 t15 : AV) (H : Heap) : CR :=
 ob (binR (some .other) none .add t15 (.int .i64 1)) fun t59 =>
 k3 t0 t3 t4 t14 t59 H
def j33_8 (ev : Ev) (L : Nat) (k1 : AV → AV → AV → Heap → CR) (k3 : AV → AV → AV → AV → AV → Heap → CR) (t0 t3 t4 t5 t6 t14 t15 : AV) (H : Heap) : CR :=
 ob (indexSl 1 t3 t5) fun t58 =>
 ob (storeR 1 H t58 t6) fun H =>
 j33_5 ev L k1 k3 t0 t3 t4 t14 t15 H
def j33_18 (ev : Ev) (L : Nat) (k1 : AV → AV → AV → Heap → CR) (k3 : AV → AV → AV → AV → AV → Heap → CR) (t0 t3 t5 t6 t14 t15 t45 t53 : AV) (H : Heap) : CR :=
 ob (pickF (.bool true) t53 t45) fun t54 =>
 j33_8 ev L k1 k3 t0 t3 t54 t5 t6 t14 t15 H
def j33_17 (ev : Ev) (L : Nat) (k1 : AV → AV → AV → Heap → CR) (k3 : AV → AV → AV → AV → AV → Heap → CR) (t0 t3 t5 t6 t14 t15 t45 t47 t52 : AV) (H : Heap) : CR :=
 gd (isBool false t45) (j33_18 ev L k1 k3 t0 t3 t5 t6 t14 t15 t45 undefA H)
 (ob (pickF t52 (.bool false) t47) fun t53 =>
 j33_18 ev L k1 k3 t0 t3 t5 t6 t14 t15 t45 t53 H)
def j33_16 (ev : Ev) (L : Nat) (k1 : AV → AV → AV → Heap → CR) (k3 : AV → AV → AV → AV → AV → Heap → CR) (t0 t3 t5 t6 t14 t15 t45 t47 t51 : AV) (H : Heap) : CR :=
 gd (isBool true t47) (j33_17 ev L k1 k3 t0 t3 t5 t6 t14 t15 t45 t47 undefA H)
 (ob (unA .not t51) fun t52 =>
 j33_17 ev L k1 k3 t0 t3 t5 t6 t14 t15 t45 t47 t52 H)
def j33_15 (ev : Ev) (L : Nat) (k1 : AV → AV → AV → Heap → CR) (k3 : AV → AV → AV → AV → AV → Heap → CR) (t0 t3 t5 t6 t14 t15 t45 t47 t50 : AV) (H : Heap) : CR :=
 gd (isBool true t47) (j33_16 ev L k1 k3 t0 t3 t5 t6 t14 t15 t45 t47 undefA H)
 (ob (loadR false 1 noG H t50) fun t51 =>
 j33_16 ev L k1 k3 t0 t3 t5 t6 t14 t15 t45 t47 t51 H)
def j33_14 (ev : Ev) (L : Nat) (k1 : AV → AV → AV → Heap → CR) (k3 : AV → AV → AV → AV → AV → Heap → CR) (t0 t3 t5 t6 t14 t15 t45 t47 t48 t49 : AV) (H : Heap) : CR :=
 gd (isBool true t47) (j33_15 ev L k1 k3 t0 t3 t5 t6 t14 t15 t45 t47 undefA H)
 (ob (indexSl 1 t48 t49) fun t50 =>
 j33_15 ev L k1 k3 t0 t3 t5 t6 t14 t15 t45 t47 t50 H)
def j33_13 (ev : Ev) (L : Nat) (k1 : AV → AV → AV → Heap → CR) (k3 : AV → AV → AV → AV → AV → Heap → CR) (t0 t3 t5 t6 t14 t15 t45 t47 t48 : AV) (H : Heap) : CR :=
 gd (isBool true t47) (j33_14 ev L k1 k3 t0 t3 t5 t6 t14 t15 t45 t47 t48 undefA H)
 (j33_14 ev L k1 k3 t0 t3 t5 t6 t14 t15 t45 t47 t48 t5 H)
def j33_12 (ev : Ev) (L : Nat) (k1 : AV → AV → AV → Heap → CR) (k3 : AV → AV → AV → AV → AV → Heap → CR) (t0 t3 t5 t6 t14 t15 t45 t47 : AV) (H : Heap) : CR :=
 gd (isBool true t47) (j33_13 ev L k1 k3 t0 t3 t5 t6 t14 t15 t45 t47 undefA H)
 (j33_13 ev L k1 k3 t0 t3 t5 t6 t14 t15 t45 t47 t3 H)
def j33_11 (ev : Ev) (L : Nat) (k1 : AV → AV → AV → Heap → CR) (k3 : AV → AV → AV → AV → AV → Heap → CR) (t0 t3 t5 t6 t14 t15 t45 t46 : AV) (H : Heap) : CR :=
 gd (isBool false t45) (j33_12 ev L k1 k3 t0 t3 t5 t6 t14 t15 t45 undefA H)
 (j33_12 ev L k1 k3 t0 t3 t5 t6 t14 t15 t45 t46 H)
def j33_7 (ev : Ev) (L : Nat) (k1 : AV → AV → AV → Heap → CR) (k3 : AV → AV → AV → AV → AV → Heap → CR) (t0 t3 t4 t5 t6 t14 t15 : AV) (H : Heap) : CR :=
 gd (isBool false t4) (j33_11 ev L k1 k3 t0 t3 t5 t6 t14 t15 t4 undefA H)
 (j33_11 ev L k1 k3 t0 t3 t5 t6 t14 t15 t4 t6 H)
def j33_21 (ev : Ev) (L : Nat) (k1 : AV → AV → AV → Heap → CR) (k3 : AV → AV → AV → AV → AV → Heap → CR) (k19 : AV → AV → AV → AV → AV → AV → AV → AV → AV → Heap → CR) (t0 t3 t4 t5 t6 t14 t15 t24 t25 : AV) (H : Heap) : CR :=
 ob (binR (some .other) none .add t25 (.int .i64 1)) fun t43 =>
 k19 t0 t3 t4 t5 t6 t14 t15 t24 t43 H
def j33_31 (ev : Ev) (L : Nat) (k1 : AV → AV → AV → Heap → CR) (k3 : AV → AV → AV → AV → AV → Heap → CR) (k19 : AV → AV → AV → AV → AV → AV → AV → AV → AV → Heap → CR) (t0 t3 t4 t5 t14 t15 t24 t25 t33 t41 : AV) (H : Heap) : CR :=
 ob (pickF (.bool true) t41 t33) fun t42 =>
 j33_21 ev L k1 k3 k19 t0 t3 t4 t5 t42 t14 t15 t24 t25 H
def j33_30 (ev : Ev) (L : Nat) (k1 : AV → AV → AV → Heap → CR) (k3 : AV → AV → AV → AV → AV → Heap → CR) (k19 : AV → AV → AV → AV → AV → AV → AV → AV → AV → Heap → CR) (t0 t3 t4 t5 t14 t15 t24 t25 t33 t36 t40 : AV) (H : Heap) : CR :=
 gd (isBool false t33) (j33_31 ev L k1 k3 k19 t0 t3 t4 t5 t14 t15 t24 t25 t33 undefA H)
 (ob (pickF t40 (.bool false) t36) fun t41 =>
 j33_31 ev L k1 k3 k19 t0 t3 t4 t5 t14 t15 t24 t25 t33 t41 H)
def j33_29 (ev : Ev) (L : Nat) (k1 : AV → AV → AV → Heap → CR) (k3 : AV → AV → AV → AV → AV → Heap → CR) (k19 : AV → AV → AV → AV → AV → AV → AV → AV → AV → Heap → CR) (t0 t3 t4 t5 t14 t15 t24 t25 t33 t36 t39 : AV) (H : Heap) : CR :=
 gd (isBool true t36) (j33_30 ev L k1 k3 k19 t0 t3 t4 t5 t14 t15 t24 t25 t33 t36 undefA H)
 (ob (loadR false 1 noG H t39) fun t40 =>
 j33_30 ev L k1 k3 k19 t0 t3 t4 t5 t14 t15 t24 t25 t33 t36 t40 H)
def j33_28 (ev : Ev) (L : Nat) (k1 : AV → AV → AV → Heap → CR) (k3 : AV → AV → AV → AV → AV → Heap → CR) (k19 : AV → AV → AV → AV → AV → AV → AV → AV → AV → Heap → CR) (t0 t3 t4 t5 t14 t15 t24 t25 t33 t36 t37 t38 : AV) (H : Heap) : CR :=
 gd (isBool true t36) (j33_29 ev L k1 k3 k19 t0 t3 t4 t5 t14 t15 t24 t25 t33 t36 undefA H)
 (ob (indexSl 1 t37 t38) fun t39 =>
 j33_29 ev L k1 k3 k19 t0 t3 t4 t5 t14 t15 t24 t25 t33 t36 t39 H)
def j33_27 (ev : Ev) (L : Nat) (k1 : AV → AV → AV → Heap → CR) (k3 : AV → AV → AV → AV → AV → Heap → CR) (k19 : AV → AV → AV → AV → AV → AV → AV → AV → AV → Heap → CR) (t0 t3 t4 t5 t8 t14 t15 t24 t25 t33 t36 t37 : AV) (H : Heap) : CR :=
 gd (isBool true t36) (j33_28 ev L k1 k3 k19 t0 t3 t4 t5 t14 t15 t24 t25 t33 t36 t37 undefA H)
 (j33_28 ev L k1 k3 k19 t0 t3 t4 t5 t14 t15 t24 t25 t33 t36 t37 t8 H)
def j33_26 (ev : Ev) (L : Nat) (k1 : AV → AV → AV → Heap → CR) (k3 : AV → AV → AV → AV → AV → Heap → CR) (k19 : AV → AV → AV → AV → AV → AV → AV → AV → AV → Heap → CR) (t0 t3 t4 t5 t8 t14 t15 t24 t25 t33 t36 : AV) (H : Heap) : CR :=
 gd (isBool true t36) (j33_27 ev L k1 k3 k19 t0 t3 t4 t5 t8 t14 t15 t24 t25 t33 t36 undefA H)
 (j33_27 ev L k1 k3 k19 t0 t3 t4 t5 t8 t14 t15 t24 t25 t33 t36 t3 H)
def j33_25 (ev : Ev) (L : Nat) (k1 : AV → AV → AV → Heap → CR) (k3 : AV → AV → AV → AV → AV → Heap → CR) (k19 : AV → AV → AV → AV → AV → AV → AV → AV → AV → Heap → CR) (t0 t3 t4 t5 t8 t14 t15 t24 t25 t33 t35 : AV) (H : Heap) : CR :=
 gd (isBool false t33) (j33_26 ev L k1 k3 k19 t0 t3 t4 t5 t8 t14 t15 t24 t25 t33 undefA H)
 (j33_26 ev L k1 k3 k19 t0 t3 t4 t5 t8 t14 t15 t24 t25 t33 t35 H)
def j33_24 (ev : Ev) (L : Nat) (k1 : AV → AV → AV → Heap → CR) (k3 : AV → AV → AV → AV → AV → Heap → CR) (k19 : AV → AV → AV → AV → AV → AV → AV → AV → AV → Heap → CR) (t0 t3 t4 t5 t8 t14 t15 t24 t25 t33 t34 : AV) (H : Heap) : CR :=
 gd (isBool false t33) (j33_25 ev L k1 k3 k19 t0 t3 t4 t5 t8 t14 t15 t24 t25 t33 undefA H)
 (ob (binR (some .other) none .geq t34 (.int .i64 0)) fun t35 =>
 j33_25 ev L k1 k3 k19 t0 t3 t4 t5 t8 t14 t15 t24 t25 t33 t35 H)
def j33_20 (ev : Ev) (L : Nat) (k1 : AV → AV → AV → Heap → CR) (k3 : AV → AV → AV → AV → AV → Heap → CR) (k19 : AV → AV → AV → AV → AV → AV → AV → AV → AV → Heap → CR) (t0 t3 t4 t5 t6 t14 t15 t24 t25 : AV) (H : Heap) : CR :=
 ck (ev 35 [t0, t5, t25] H) fun t31 H =>
 gd (isBool false t6) (j33_24 ev L k1 k3 k19 t0 t3 t4 t5 t31 t14 t15 t24 t25 t6 undefA H)
 (j33_24 ev L k1 k3 k19 t0 t3 t4 t5 t31 t14 t15 t24 t25 t6 t31 H)
def j33_19 (ev : Ev) (L : Nat) (k1 : AV → AV → AV → Heap → CR) (k3 : AV → AV → AV → AV → AV → Heap → CR) (k19 : AV → AV → AV → AV → AV → AV → AV → AV → AV → Heap → CR) (t0 t3 t4 t5 t6 t14 t15 t24 t25 : AV) (H : Heap) : CR :=
 ob (binR (some .other) none .lss t25 t24) fun t26 =>
 ifK (j33_20 ev L k1 k3 k19 t0 t3 t4 t5 t6 t14 t15 t24 t25 H)
 (j33_7 ev L k1 k3 t0 t3 t4 t5 t6 t14 t15 H) t26
def l33_19 (ev : Ev) (L : Nat) (k1 : AV → AV → AV → Heap → CR) (k3 : AV → AV → AV → AV → AV → Heap → CR) : Nat → AV → AV → AV → AV → AV → AV → AV → AV → AV → Heap → CR
  | 0, _, _, _, _, _, _, _, _, _, _ => .fail
  | m + 1, t0, t3, t4, t5, t6, t14, t15, t24, t25, H => j33_19 ev L k1 k3 (l33_19 ev L k1 k3 m) t0 t3 t4 t5 t6 t14 t15 t24 t25 H
def j33_4 (ev : Ev) (L : Nat) (k1 : AV → AV → AV → Heap → CR) (k3 : AV → AV → AV → AV → AV → Heap → CR) (t0 t3 t4 t14 t15 : AV) (H : Heap) : CR :=
 ck (ev 36 [t0, t15] H) fun t20 H =>
 ob (binR (some .other) none .geq t20 (.int .i64 0)) fun t21 =>
 ck (ev 32 [t0] H) fun t23 H =>
 ob (lenR H t23 .sl) fun t24 =>
 l33_19 ev L k1 k3 L t0 t3 t4 t15 t21 t14 t15 t24 (.int .i64 0) H
def j33_3 (ev : Ev) (L : Nat) (k1 : AV → AV → AV → Heap → CR) (k3 : AV → AV → AV → AV → AV → Heap → CR) (t0 t3 t4 t14 t15 : AV) (H : Heap) : CR :=
 ob (binR (some .other) none .lss t15 t14) fun t16 =>
 ifK (j33_4 ev L k1 k3 t0 t3 t4 t14 t15 H)
 (k1 t0 t3 t4 H) t16
def l33_3 (ev : Ev) (L : Nat) (k1 : AV → AV → AV → Heap → CR) : Nat → AV → AV → AV → AV → AV → Heap → CR
  | 0, _, _, _, _, _, _ => .fail
  | m + 1, t0, t3, t4, t14, t15, H => j33_3 ev L k1 (l33_3 ev L k1 m) t0 t3 t4 t14 t15 H
def j33_2 (ev : Ev) (L : Nat) (k1 : AV → AV → AV → Heap → CR) (t0 t3 : AV) (H : Heap) : CR :=
 ob (lenR H t3 .sl) fun t14 =>
 l33_3 ev L k1 L t0 t3 (.bool false) t14 (.int .i64 0) H
def j33_1 (ev : Ev) (L : Nat) (k1 : AV → AV → AV → Heap → CR) (t0 t3 t4 : AV) (H : Heap) : CR :=
 ifK (j33_2 ev L k1 t0 t3 H)
 (j33_0 ev L t3 H) t4
def l33_1 (ev : Ev) (L : Nat) : Nat → AV → AV → AV → Heap → CR
  | 0, _, _, _, _ => .fail
  | m + 1, t0, t3, t4, H => j33_1 ev L (l33_1 ev L m) t0 t3 t4 H
def f33 (ev : Ev) (L : Nat) (t0 : AV) (H : Heap) : CR :=
 ck (ev 58 [t0] H) fun t10 H =>
 obR (makeSliceR 1 [(.bool false)] 1 H t10 t10) fun t11 H =>
 l33_1 ev L L t0 t11 (.bool true) H
def q33 : CRun := fun ev L args H => match args with
  | [t0] => f33 ev L t0 H
  | _ => .fail
def j34_2 (ev : Ev) (L : Nat) (k0 : AV → AV → AV → AV → Heap → CR) (t0 t1 t5 t7 : AV) (H : Heap) : CR :=
 ob (lenR H t7 .map) fun t96 =>
 k0 t0 t1 t5 t96 H
def j34_1 (ev : Ev) (L : Nat) (k0 : AV → AV → AV → AV → Heap → CR) (t0 t1 t6 t7 t8 : AV) (H : Heap) : CR :=
 ob (lenR H t7 .map) fun t91 =>
 ob (binR (some .other) none .eql t91 t6) fun t93 =>
 ifK (.ret t8 H)
 (j34_2 ev L k0 t0 t1 t8 t7 H) t93
def j34_6 (ev : Ev) (L : Nat) (k0 : AV → AV → AV → AV → Heap → CR) (k4 : AV → AV → AV → AV → AV → AV → AV → AV → Heap → CR) (t0 t1 t5 t6 t7 t8 t23 t24 : AV) (H : Heap) : CR :=
 ob (binR (some .other) none .add t24 (.int .i64 1)) fun t88 =>
 k4 t0 t1 t5 t6 t7 t8 t23 t88 H
def j34_9 (ev : Ev) (L : Nat) (k0 : AV → AV → AV → AV → Heap → CR) (k4 : AV → AV → AV → AV → AV → AV → AV → AV → Heap → CR) (t0 t1 t5 t6 t7 t8 t9 t10 t23 t24 : AV) (H : Heap) : CR :=
 obR (convR H t10 .strBytes) fun t85 H =>
 ob (lookupR .str (.int .i64 0) H t7 t85 false) fun t86 =>
 ob (indexSl 1 t8 t9) fun t87 =>
 ob (storeR 1 H t87 t86) fun H =>
 j34_6 ev L k0 k4 t0 t1 t5 t6 t7 t8 t23 t24 H
def j34_8 (ev : Ev) (L : Nat) (k0 : AV → AV → AV → AV → Heap → CR) (k4 : AV → AV → AV → AV → AV → AV → AV → AV → Heap → CR) (t0 t1 t5 t6 t7 t8 t9 t10 t23 t24 : AV) (H : Heap) : CR :=
 obR (convR H t10 .strBytes) fun t70 H =>
 ob (lookupR .str (.int .i64 0) H t7 t70 true) fun t71 =>
 ob (extractA 0 t71) fun t72 =>
 ob (extractA 1 t71) fun t73 =>
 ob (unA .not t73) fun t75 =>
 ifK (obR (convR H t10 .strBytes) fun t78 H =>
 ob (lenR H t7 .map) fun t80 =>
 ob (mapUpdR .str H t78 t80 t7) fun H =>
 j34_9 ev L k0 k4 t0 t1 t5 t6 t7 t8 t9 t10 t23 t24 H)
 (j34_9 ev L k0 k4 t0 t1 t5 t6 t7 t8 t9 t10 t23 t24 H) t75
def j34_14 (ev : Ev) (L : Nat) (k0 : AV → AV → AV → AV → Heap → CR) (k4 : AV → AV → AV → AV → AV → AV → AV → AV → Heap → CR) (k12 : AV → AV → AV → AV → AV → AV → AV → AV → AV → AV → AV → AV → Heap → CR) (t0 t1 t5 t6 t7 t8 t9 t10 t23 t24 t41 t42 : AV) (H : Heap) : CR :=
 ob (binR (some .other) none .add t42 (.int .i64 1)) fun t66 =>
 k12 t0 t1 t5 t6 t7 t8 t9 t10 t23 t24 t41 t66 H
def j34_16 (ev : Ev) (L : Nat) (k0 : AV → AV → AV → AV → Heap → CR) (k4 : AV → AV → AV → AV → AV → AV → AV → AV → Heap → CR) (k12 : AV → AV → AV → AV → AV → AV → AV → AV → AV → AV → AV → AV → Heap → CR) (t0 t1 t5 t6 t7 t8 t9 t10 t12 t23 t24 t41 t42 : AV) (H : Heap) : CR :=
 obR ((fillR [(.int .u8 0)] [(0, 1, (.int .u8 32))]).map fun cs => (.sl H.next 0 1 1 (some 1), H.new (.row cs))) fun t62 H =>
 obR (appendR 1 1 [(.int .u8 0)] false H t10 t62) fun t63 H =>
 ck (ev 53 [t63, t12, (.int .i64 10)] H) fun t65 H =>
 j34_14 ev L k0 k4 k12 t0 t1 t5 t6 t7 t8 t9 t65 t23 t24 t41 t42 H
def j34_18 (ev : Ev) (L : Nat) (k0 : AV → AV → AV → AV → Heap → CR) (k4 : AV → AV → AV → AV → AV → AV → AV → AV → Heap → CR) (k12 : AV → AV → AV → AV → AV → AV → AV → AV → AV → AV → AV → AV → Heap → CR) (t0 t1 t5 t6 t7 t8 t9 t10 t12 t23 t24 t41 t42 t56 : AV) (H : Heap) : CR :=
 ifK (ob (indexSl 1 t5 t12) fun t59 =>
 ob (loadR false 1 noG H t59) fun t60 =>
 j34_16 ev L k0 k4 k12 t0 t1 t5 t6 t7 t8 t9 t10 t60 t23 t24 t41 t42 H)
 (j34_16 ev L k0 k4 k12 t0 t1 t5 t6 t7 t8 t9 t10 (.int .i64 (.negSucc 0)) t23 t24 t41 t42 H) t56
def j34_25 (ev : Ev) (L : Nat) (k0 : AV → AV → AV → AV → Heap → CR) (k4 : AV → AV → AV → AV → AV → AV → AV → AV → Heap → CR) (k12 : AV → AV → AV → AV → AV → AV → AV → AV → AV → AV → AV → AV → Heap → CR) (t0 t1 t5 t6 t7 t8 t9 t10 t12 t23 t24 t41 t42 t51 t55 : AV) (H : Heap) : CR :=
 ob (pickF t55 (.bool false) t51) fun t56 =>
 j34_18 ev L k0 k4 k12 t0 t1 t5 t6 t7 t8 t9 t10 t12 t23 t24 t41 t42 t56 H
def j34_24 (ev : Ev) (L : Nat) (k0 : AV → AV → AV → AV → Heap → CR) (k4 : AV → AV → AV → AV → AV → AV → AV → AV → Heap → CR) (k12 : AV → AV → AV → AV → AV → AV → AV → AV → AV → AV → AV → AV → Heap → CR) (t0 t1 t5 t6 t7 t8 t9 t10 t12 t23 t24 t41 t42 t51 t54 : AV) (H : Heap) : CR :=
 gd (isBool true t51) (j34_25 ev L k0 k4 k12 t0 t1 t5 t6 t7 t8 t9 t10 t12 t23 t24 t41 t42 t51 undefA H)
 (ob (loadR false 1 noG H t54) fun t55 =>
 j34_25 ev L k0 k4 k12 t0 t1 t5 t6 t7 t8 t9 t10 t12 t23 t24 t41 t42 t51 t55 H)
def j34_23 (ev : Ev) (L : Nat) (k0 : AV → AV → AV → AV → Heap → CR) (k4 : AV → AV → AV → AV → AV → AV → AV → AV → Heap → CR) (k12 : AV → AV → AV → AV → AV → AV → AV → AV → AV → AV → AV → AV → Heap → CR) (t0 t1 t5 t6 t7 t8 t9 t10 t12 t23 t24 t41 t42 t51 t52 t53 : AV) (H : Heap) : CR :=
 gd (isBool true t51) (j34_24 ev L k0 k4 k12 t0 t1 t5 t6 t7 t8 t9 t10 t12 t23 t24 t41 t42 t51 undefA H)
 (ob (indexSl 1 t52 t53) fun t54 =>
 j34_24 ev L k0 k4 k12 t0 t1 t5 t6 t7 t8 t9 t10 t12 t23 t24 t41 t42 t51 t54 H)
def j34_22 (ev : Ev) (L : Nat) (k0 : AV → AV → AV → AV → Heap → CR) (k4 : AV → AV → AV → AV → AV → AV → AV → AV → Heap → CR) (k12 : AV → AV → AV → AV → AV → AV → AV → AV → AV → AV → AV → AV → Heap → CR) (t0 t1 t5 t6 t7 t8 t9 t10 t12 t23 t24 t41 t42 t51 t52 : AV) (H : Heap) : CR :=
 gd (isBool true t51) (j34_23 ev L k0 k4 k12 t0 t1 t5 t6 t7 t8 t9 t10 t12 t23 t24 t41 t42 t51 t52 undefA H)
 (j34_23 ev L k0 k4 k12 t0 t1 t5 t6 t7 t8 t9 t10 t12 t23 t24 t41 t42 t51 t52 t12 H)
def j34_13 (ev : Ev) (L : Nat) (k0 : AV → AV → AV → AV → Heap → CR) (k4 : AV → AV → AV → AV → AV → AV → AV → AV → Heap → CR) (k12 : AV → AV → AV → AV → AV → AV → AV → AV → AV → AV → AV → AV → Heap → CR) (t0 t1 t5 t6 t7 t8 t9 t10 t23 t24 t41 t42 : AV) (H : Heap) : CR :=
 ck (ev 35 [t0, t9, t42] H) fun t48 H =>
 ob (binR (some .other) none .geq t48 (.int .i64 0)) fun t50 =>
 gd (isBool true t50) (j34_22 ev L k0 k4 k12 t0 t1 t5 t6 t7 t8 t9 t10 t48 t23 t24 t41 t42 t50 undefA H)
 (j34_22 ev L k0 k4 k12 t0 t1 t5 t6 t7 t8 t9 t10 t48 t23 t24 t41 t42 t50 t1 H)
def j34_12 (ev : Ev) (L : Nat) (k0 : AV → AV → AV → AV → Heap → CR) (k4 : AV → AV → AV → AV → AV → AV → AV → AV → Heap → CR) (k12 : AV → AV → AV → AV → AV → AV → AV → AV → AV → AV → AV → AV → Heap → CR) (t0 t1 t5 t6 t7 t8 t9 t10 t23 t24 t41 t42 : AV) (H : Heap) : CR :=
 ob (binR (some .other) none .lss t42 t41) fun t43 =>
 ifK (j34_13 ev L k0 k4 k12 t0 t1 t5 t6 t7 t8 t9 t10 t23 t24 t41 t42 H)
 (j34_8 ev L k0 k4 t0 t1 t5 t6 t7 t8 t9 t10 t23 t24 H) t43
def l34_12 (ev : Ev) (L : Nat) (k0 : AV → AV → AV → AV → Heap → CR) (k4 : AV → AV → AV → AV → AV → AV → AV → AV → Heap → CR) : Nat → AV → AV → AV → AV → AV → AV → AV → AV → AV → AV → AV → AV → Heap → CR
  | 0, _, _, _, _, _, _, _, _, _, _, _, _, _ => .fail
  | m + 1, t0, t1, t5, t6, t7, t8, t9, t10, t23, t24, t41, t42, H => j34_12 ev L k0 k4 (l34_12 ev L k0 k4 m) t0 t1 t5 t6 t7 t8 t9 t10 t23 t24 t41 t42 H
def j34_5 (ev : Ev) (L : Nat) (k0 : AV → AV → AV → AV → Heap → CR) (k4 : AV → AV → AV → AV → AV → AV → AV → AV → Heap → CR) (t0 t1 t5 t6 t7 t8 t23 t24 : AV) (H : Heap) : CR :=
 ob (indexSl 1 t5 t24) fun t29 =>
 ob (loadR false 1 noG H t29) fun t30 =>
 ck (ev 53 [.nils, t30, (.int .i64 10)] H) fun t31 H =>
 obR ((fillR [(.int .u8 0)] [(0, 1, (.int .u8 58))]).map fun cs => (.sl H.next 0 1 1 (some 1), H.new (.row cs))) fun t33 H =>
 obR (appendR 1 1 [(.int .u8 0)] false H t31 t33) fun t34 H =>
 ck (ev 36 [t0, t24] H) fun t37 H =>
 ck (ev 53 [t34, t37, (.int .i64 10)] H) fun t38 H =>
 ck (ev 32 [t0] H) fun t40 H =>
 ob (lenR H t40 .sl) fun t41 =>
 l34_12 ev L k0 k4 L t0 t1 t5 t6 t7 t8 t24 t38 t23 t24 t41 (.int .i64 0) H
def j34_4 (ev : Ev) (L : Nat) (k0 : AV → AV → AV → AV → Heap → CR) (k4 : AV → AV → AV → AV → AV → AV → AV → AV → Heap → CR) (t0 t1 t5 t6 t7 t8 t23 t24 : AV) (H : Heap) : CR :=
 ob (binR (some .other) none .lss t24 t23) fun t25 =>
 ifK (j34_5 ev L k0 k4 t0 t1 t5 t6 t7 t8 t23 t24 H)
 (j34_1 ev L k0 t0 t1 t6 t7 t8 H) t25
def l34_4 (ev : Ev) (L : Nat) (k0 : AV → AV → AV → AV → Heap → CR) : Nat → AV → AV → AV → AV → AV → AV → AV → AV → Heap → CR
  | 0, _, _, _, _, _, _, _, _, _ => .fail
  | m + 1, t0, t1, t5, t6, t7, t8, t23, t24, H => j34_4 ev L k0 (l34_4 ev L k0 m) t0 t1 t5 t6 t7 t8 t23 t24 H
def j34_0 (ev : Ev) (L : Nat) (k0 : AV → AV → AV → AV → Heap → CR) (t0 t1 t5 t6 : AV) (H : Heap) : CR :=
 nm H fun t18 H =>
 ob (lenR H t5 .sl) fun t20 =>
 obR (makeSliceR 1 [(.int .i64 0)] 8 H t20 t20) fun t21 H =>
 ob (lenR H t5 .sl) fun t23 =>
 l34_4 ev L k0 L t0 t1 t5 t6 t18 t21 t23 (.int .i64 0) H
def l34_0 (ev : Ev) (L : Nat) : Nat → AV → AV → AV → AV → Heap → CR
  | 0, _, _, _, _, _ => .fail
  | m + 1, t0, t1, t5, t6, H => j34_0 ev L (l34_0 ev L m) t0 t1 t5 t6 H
def f34 (ev : Ev) (L : Nat) (t0 t1 : AV) (H : Heap) : CR :=
 ck (ev 58 [t0] H) fun t16 H =>
 obR (makeSliceR 1 [(.int .i64 0)] 8 H t16 t16) fun t17 H =>
 l34_0 ev L L t0 t1 t17 (.int .i64 1) H
def q34 : CRun := fun ev L args H => match args with
  | [t0, t1] => f34 ev L t0 t1 H
  | _ => .fail
def j35_0 (ev : Ev) (L : Nat) (t0 t1 t2 : AV) (H : Heap) : CR :=
 ob (nilCheckA t0) fun t36 =>
 ob (moveP 1 t36) fun t37 =>
 ob (loadR false 1 noG H t37) fun t38 =>
 ob (indexSl 1 t38 t1) fun t40 =>
 ob (loadR false 1 noG H t40) fun t41 =>
 ob (indexSl 1 t41 t2) fun t43 =>
 ob (loadR false 1 noG H t43) fun t44 =>
 .ret t44 H
def j35_1 (ev : Ev) (L : Nat) (t0 t1 t2 t34 : AV) (H : Heap) : CR :=
 ifK (.ret (.int .i64 (.negSucc 0)) H)
 (j35_0 ev L t0 t1 t2 H) t34
def j35_20 (ev : Ev) (L : Nat) (t0 t1 t2 t26 t33 : AV) (H : Heap) : CR :=
 ob (pickF (.bool true) t33 t26) fun t34 =>
 j35_1 ev L t0 t1 t2 t34 H
def j35_19 (ev : Ev) (L : Nat) (t0 t1 t2 t26 t27 t32 : AV) (H : Heap) : CR :=
 gd (isBool false t26) (j35_20 ev L t0 t1 t2 t26 undefA H)
 (ob (binR (some .other) none .geq t27 t32) fun t33 =>
 j35_20 ev L t0 t1 t2 t26 t33 H)
def j35_18 (ev : Ev) (L : Nat) (t0 t1 t2 t26 t27 t31 : AV) (H : Heap) : CR :=
 gd (isBool false t26) (j35_19 ev L t0 t1 t2 t26 t27 undefA H)
 (ob (lenR H t31 .sl) fun t32 =>
 j35_19 ev L t0 t1 t2 t26 t27 t32 H)
def j35_17 (ev : Ev) (L : Nat) (t0 t1 t2 t26 t27 t30 : AV) (H : Heap) : CR :=
 gd (isBool false t26) (j35_18 ev L t0 t1 t2 t26 t27 undefA H)
 (ob (loadR false 1 noG H t30) fun t31 =>
 j35_18 ev L t0 t1 t2 t26 t27 t31 H)
def j35_16 (ev : Ev) (L : Nat) (t0 t1 t2 t26 t27 t29 : AV) (H : Heap) : CR :=
 gd (isBool false t26) (j35_17 ev L t0 t1 t2 t26 t27 undefA H)
 (ob (moveP 0 t29) fun t30 =>
 j35_17 ev L t0 t1 t2 t26 t27 t30 H)
def j35_15 (ev : Ev) (L : Nat) (t0 t1 t2 t26 t27 t28 : AV) (H : Heap) : CR :=
 gd (isBool false t26) (j35_16 ev L t0 t1 t2 t26 t27 undefA H)
 (ob (nilCheckA t28) fun t29 =>
 j35_16 ev L t0 t1 t2 t26 t27 t29 H)
def j35_14 (ev : Ev) (L : Nat) (t0 t1 t2 t26 t27 : AV) (H : Heap) : CR :=
 gd (isBool false t26) (j35_15 ev L t0 t1 t2 t26 t27 undefA H)
 (j35_15 ev L t0 t1 t2 t26 t27 t0 H)
def j35_13 (ev : Ev) (L : Nat) (t0 t1 t2 t22 t24 : AV) (H : Heap) : CR :=
 ob (pickF (.bool true) t24 t22) fun t25 =>
 gd (isBool false t25) (j35_14 ev L t0 t1 t2 t25 undefA H)
 (j35_14 ev L t0 t1 t2 t25 t2 H)
def j35_12 (ev : Ev) (L : Nat) (t0 t1 t2 t22 t23 : AV) (H : Heap) : CR :=
 gd (isBool false t22) (j35_13 ev L t0 t1 t2 t22 undefA H)
 (ob (binR (some .other) none .lss t23 (.int .i64 0)) fun t24 =>
 j35_13 ev L t0 t1 t2 t22 t24 H)
def j35_11 (ev : Ev) (L : Nat) (t0 t1 t2 t13 t20 : AV) (H : Heap) : CR :=
 ob (pickF (.bool true) t20 t13) fun t21 =>
 gd (isBool false t21) (j35_12 ev L t0 t1 t2 t21 undefA H)
 (j35_12 ev L t0 t1 t2 t21 t2 H)
def j35_10 (ev : Ev) (L : Nat) (t0 t1 t2 t13 t14 t19 : AV) (H : Heap) : CR :=
 gd (isBool false t13) (j35_11 ev L t0 t1 t2 t13 undefA H)
 (ob (binR (some .other) none .geq t14 t19) fun t20 =>
 j35_11 ev L t0 t1 t2 t13 t20 H)
def j35_9 (ev : Ev) (L : Nat) (t0 t1 t2 t13 t14 t18 : AV) (H : Heap) : CR :=
 gd (isBool false t13) (j35_10 ev L t0 t1 t2 t13 t14 undefA H)
 (ob (lenR H t18 .sl) fun t19 =>
 j35_10 ev L t0 t1 t2 t13 t14 t19 H)
def j35_8 (ev : Ev) (L : Nat) (t0 t1 t2 t13 t14 t17 : AV) (H : Heap) : CR :=
 gd (isBool false t13) (j35_9 ev L t0 t1 t2 t13 t14 undefA H)
 (ob (loadR false 1 noG H t17) fun t18 =>
 j35_9 ev L t0 t1 t2 t13 t14 t18 H)
def j35_7 (ev : Ev) (L : Nat) (t0 t1 t2 t13 t14 t16 : AV) (H : Heap) : CR :=
 gd (isBool false t13) (j35_8 ev L t0 t1 t2 t13 t14 undefA H)
 (ob (moveP 1 t16) fun t17 =>
 j35_8 ev L t0 t1 t2 t13 t14 t17 H)
def j35_6 (ev : Ev) (L : Nat) (t0 t1 t2 t13 t14 t15 : AV) (H : Heap) : CR :=
 gd (isBool false t13) (j35_7 ev L t0 t1 t2 t13 t14 undefA H)
 (ob (nilCheckA t15) fun t16 =>
 j35_7 ev L t0 t1 t2 t13 t14 t16 H)
def j35_5 (ev : Ev) (L : Nat) (t0 t1 t2 t13 t14 : AV) (H : Heap) : CR :=
 gd (isBool false t13) (j35_6 ev L t0 t1 t2 t13 t14 undefA H)
 (j35_6 ev L t0 t1 t2 t13 t14 t0 H)
def j35_4 (ev : Ev) (L : Nat) (t0 t1 t2 t9 t11 : AV) (H : Heap) : CR :=
 ob (pickF (.bool true) t11 t9) fun t12 =>
 gd (isBool false t12) (j35_5 ev L t0 t1 t2 t12 undefA H)
 (j35_5 ev L t0 t1 t2 t12 t1 H)
def j35_3 (ev : Ev) (L : Nat) (t0 t1 t2 t9 t10 : AV) (H : Heap) : CR :=
 gd (isBool false t9) (j35_4 ev L t0 t1 t2 t9 undefA H)
 (ob (binR (some .other) none .lss t10 (.int .i64 0)) fun t11 =>
 j35_4 ev L t0 t1 t2 t9 t11 H)
def f35 (ev : Ev) (L : Nat) (t0 t1 t2 : AV) (H : Heap) : CR :=
 ob (binR (some .ptr) none .eql t0 .nilp) fun t8 =>
 gd (isBool false t8) (j35_3 ev L t0 t1 t2 t8 undefA H)
 (j35_3 ev L t0 t1 t2 t8 t1 H)
def q35 : CRun := fun ev L args H => match args with
  | [t0, t1, t2] => f35 ev L t0 t1 t2 H
  | _ => .fail
def j36_0 (ev : Ev) (L : Nat) (t0 t1 : AV) (H : Heap) : CR :=
 ob (nilCheckA t0) fun t21 =>
 ob (moveP 2 t21) fun t22 =>
 ob (loadR false 1 noG H t22) fun t23 =>
 ob (indexSl 1 t23 t1) fun t25 =>
 ob (loadR false 1 noG H t25) fun t26 =>
 .ret t26 H
def j36_1 (ev : Ev) (L : Nat) (t0 t1 t19 : AV) (H : Heap) : CR :=
 ifK (.ret (.int .i64 (.negSucc 0)) H)
 (j36_0 ev L t0 t1 H) t19
def j36_11 (ev : Ev) (L : Nat) (t0 t1 t11 t18 : AV) (H : Heap) : CR :=
 ob (pickF (.bool true) t18 t11) fun t19 =>
 j36_1 ev L t0 t1 t19 H
def j36_10 (ev : Ev) (L : Nat) (t0 t1 t11 t12 t17 : AV) (H : Heap) : CR :=
 gd (isBool false t11) (j36_11 ev L t0 t1 t11 undefA H)
 (ob (binR (some .other) none .geq t12 t17) fun t18 =>
 j36_11 ev L t0 t1 t11 t18 H)
def j36_9 (ev : Ev) (L : Nat) (t0 t1 t11 t12 t16 : AV) (H : Heap) : CR :=
 gd (isBool false t11) (j36_10 ev L t0 t1 t11 t12 undefA H)
 (ob (lenR H t16 .sl) fun t17 =>
 j36_10 ev L t0 t1 t11 t12 t17 H)
def j36_8 (ev : Ev) (L : Nat) (t0 t1 t11 t12 t15 : AV) (H : Heap) : CR :=
 gd (isBool false t11) (j36_9 ev L t0 t1 t11 t12 undefA H)
 (ob (loadR false 1 noG H t15) fun t16 =>
 j36_9 ev L t0 t1 t11 t12 t16 H)
def j36_7 (ev : Ev) (L : Nat) (t0 t1 t11 t12 t14 : AV) (H : Heap) : CR :=
 gd (isBool false t11) (j36_8 ev L t0 t1 t11 t12 undefA H)
 (ob (moveP 2 t14) fun t15 =>
 j36_8 ev L t0 t1 t11 t12 t15 H)
def j36_6 (ev : Ev) (L : Nat) (t0 t1 t11 t12 t13 : AV) (H : Heap) : CR :=
 gd (isBool false t11) (j36_7 ev L t0 t1 t11 t12 undefA H)
 (ob (nilCheckA t13) fun t14 =>
 j36_7 ev L t0 t1 t11 t12 t14 H)
def j36_5 (ev : Ev) (L : Nat) (t0 t1 t11 t12 : AV) (H : Heap) : CR :=
 gd (isBool false t11) (j36_6 ev L t0 t1 t11 t12 undefA H)
 (j36_6 ev L t0 t1 t11 t12 t0 H)
def j36_4 (ev : Ev) (L : Nat) (t0 t1 t7 t9 : AV) (H : Heap) : CR :=
 ob (pickF (.bool true) t9 t7) fun t10 =>
 gd (isBool false t10) (j36_5 ev L t0 t1 t10 undefA H)
 (j36_5 ev L t0 t1 t10 t1 H)
def j36_3 (ev : Ev) (L : Nat) (t0 t1 t7 t8 : AV) (H : Heap) : CR :=
 gd (isBool false t7) (j36_4 ev L t0 t1 t7 undefA H)
 (ob (binR (some .other) none .lss t8 (.int .i64 0)) fun t9 =>
 j36_4 ev L t0 t1 t7 t9 H)
def f36 (ev : Ev) (L : Nat) (t0 t1 : AV) (H : Heap) : CR :=
 ob (binR (some .ptr) none .eql t0 .nilp) fun t6 =>
 gd (isBool false t6) (j36_3 ev L t0 t1 t6 undefA H)
 (j36_3 ev L t0 t1 t6 t1 H)
def q36 : CRun := fun ev L args H => match args with
  | [t0, t1] => f36 ev L t0 t1 H
  | _ => .fail
def f37 (ev : Ev) (L : Nat) (H : Heap) : CR :=
 ob ((fillR [.nils, (.int .i64 0), (.bool false), .nils] []).map .agg) fun t1 =>
 na H (AV.cells t1) fun t2 H =>
 .ret t2 H
def q37 : CRun := fun ev L args H => match args with
  | [] => f37 ev L H
  | _ => .fail
def j38_1 (ev : Ev) (L : Nat) (t0 : AV) (H : Heap) : CR :=
 ck (ev 60 [t0] H) fun t26 H =>
 .ret t26 H
def j38_4 (ev : Ev) (L : Nat) (k2 : AV → AV → AV → AV → Heap → CR) (t0 t15 t16 t17 : AV) (H : Heap) : CR :=
 ob (binR (some .other) none .add t17 (.int .i64 1)) fun t24 =>
 k2 t0 t15 t16 t24 H
def j38_3 (ev : Ev) (L : Nat) (k2 : AV → AV → AV → AV → Heap → CR) (t0 t15 t16 t17 : AV) (H : Heap) : CR :=
 ob (indexSl 1 t15 t17) fun t19 =>
 ob (loadR false 1 noG H t19) fun t20 =>
 ck (ev 59 [t0, t20] H) fun t23 H =>
 j38_4 ev L k2 t0 t15 t16 t17 H
def j38_2 (ev : Ev) (L : Nat) (k2 : AV → AV → AV → AV → Heap → CR) (t0 t15 t16 t17 : AV) (H : Heap) : CR :=
 ob (binR (some .other) none .lss t17 t16) fun t18 =>
 ifK (j38_3 ev L k2 t0 t15 t16 t17 H)
 (j38_1 ev L t0 H) t18
def l38_2 (ev : Ev) (L : Nat) : Nat → AV → AV → AV → AV → Heap → CR
  | 0, _, _, _, _, _ => .fail
  | m + 1, t0, t15, t16, t17, H => j38_2 ev L (l38_2 ev L m) t0 t15 t16 t17 H
def j38_0 (ev : Ev) (L : Nat) (t0 t1 : AV) (H : Heap) : CR :=
 ob (lenR H t1 .sl) fun t16 =>
 l38_2 ev L L t0 t1 t16 (.int .i64 0) H
def j38_7 (ev : Ev) (L : Nat) (t0 t1 t14 : AV) (H : Heap) : CR :=
 ifK (.ret .nils H)
 (j38_0 ev L t0 t1 H) t14
def j38_12 (ev : Ev) (L : Nat) (t0 t1 t9 t13 : AV) (H : Heap) : CR :=
 ob (pickF (.bool true) t13 t9) fun t14 =>
 j38_7 ev L t0 t1 t14 H
def j38_11 (ev : Ev) (L : Nat) (t0 t1 t9 t12 : AV) (H : Heap) : CR :=
 gd (isBool false t9) (j38_12 ev L t0 t1 t9 undefA H)
 (ob (loadR false 1 noG H t12) fun t13 =>
 j38_12 ev L t0 t1 t9 t13 H)
def j38_10 (ev : Ev) (L : Nat) (t0 t1 t9 t11 : AV) (H : Heap) : CR :=
 gd (isBool false t9) (j38_11 ev L t0 t1 t9 undefA H)
 (ob (moveP 2 t11) fun t12 =>
 j38_11 ev L t0 t1 t9 t12 H)
def j38_9 (ev : Ev) (L : Nat) (t0 t1 t9 t10 : AV) (H : Heap) : CR :=
 gd (isBool false t9) (j38_10 ev L t0 t1 t9 undefA H)
 (ob (nilCheckA t10) fun t11 =>
 j38_10 ev L t0 t1 t9 t11 H)
def f38 (ev : Ev) (L : Nat) (t0 t1 : AV) (H : Heap) : CR :=
 ob (binR (some .ptr) none .eql t0 .nilp) fun t8 =>
 gd (isBool false t8) (j38_9 ev L t0 t1 t8 undefA H)
 (j38_9 ev L t0 t1 t8 t0 H)
def q38 : CRun := fun ev L args H => match args with
  | [t0, t1] => f38 ev L t0 t1 H
  | _ => .fail
def j39_1 (ev : Ev) (L : Nat) (t0 : AV) (H : Heap) : CR :=
 ck (ev 60 [t0] H) fun t23 H =>
 .ret t23 H
def j39_0 (ev : Ev) (L : Nat) (t0 : AV) (H : Heap) : CR :=
 ob (nilCheckA t0) fun t12 =>
 ob (moveP 2 t12) fun t13 =>
 ob (storeR 1 H t13 (.bool true)) fun H =>
 ob (nilCheckA t0) fun t15 =>
 ob (moveP 0 t15) fun t16 =>
 ob (loadR false 1 noG H t16) fun t17 =>
 ob (lenR H t17 .sl) fun t18 =>
 ob (binR (some .other) none .gtr t18 (.int .i64 0)) fun t19 =>
 ifK (ck (ev 61 [t0, (.bool true), (.bool true)] H) fun t21 H =>
 j39_1 ev L t0 H)
 (j39_1 ev L t0 H) t19
def j39_3 (ev : Ev) (L : Nat) (t0 t10 : AV) (H : Heap) : CR :=
 ifK (.ret .nils H)
 (j39_0 ev L t0 H) t10
def j39_8 (ev : Ev) (L : Nat) (t0 t5 t9 : AV) (H : Heap) : CR :=
 ob (pickF (.bool true) t9 t5) fun t10 =>
 j39_3 ev L t0 t10 H
def j39_7 (ev : Ev) (L : Nat) (t0 t5 t8 : AV) (H : Heap) : CR :=
 gd (isBool false t5) (j39_8 ev L t0 t5 undefA H)
 (ob (loadR false 1 noG H t8) fun t9 =>
 j39_8 ev L t0 t5 t9 H)
def j39_6 (ev : Ev) (L : Nat) (t0 t5 t7 : AV) (H : Heap) : CR :=
 gd (isBool false t5) (j39_7 ev L t0 t5 undefA H)
 (ob (moveP 2 t7) fun t8 =>
 j39_7 ev L t0 t5 t8 H)
def j39_5 (ev : Ev) (L : Nat) (t0 t5 t6 : AV) (H : Heap) : CR :=
 gd (isBool false t5) (j39_6 ev L t0 t5 undefA H)
 (ob (nilCheckA t6) fun t7 =>
 j39_6 ev L t0 t5 t7 H)
def f39 (ev : Ev) (L : Nat) (t0 : AV) (H : Heap) : CR :=
 ob (binR (some .ptr) none .eql t0 .nilp) fun t4 =>
 gd (isBool false t4) (j39_5 ev L t0 t4 undefA H)
 (j39_5 ev L t0 t4 t0 H)
def q39 : CRun := fun ev L args H => match args with
  | [t0] => f39 ev L t0 H
  | _ => .fail
def j40_0 (ev : Ev) (L : Nat) (t1 t2 t3 t6 : AV) (H : Heap) : CR :=
 na H [(.int .i64 0)] fun t9 H =>
 ob (storeR 1 H t9 (.int .i64 0)) fun H =>
 ck (ev 42 [t1, t2, (.fn 62 [] [t3, t9])] H) fun t16 H =>
 ob (extractA 0 t16) fun t17 =>
 ob (extractA 1 t16) fun t18 =>
 ob (extractA 2 t16) fun t19 =>
 ob (storeR 4 H t6 t17) fun H =>
 rt ((loadR true 4 noG H t6).bind fun r0 => some [r0, t18, t19]) H
def f40 (ev : Ev) (L : Nat) (t0 t1 t2 : AV) (H : Heap) : CR :=
 na H (AV.cells t0) fun t3 H =>
 na H [(.int .i64 0), (.int .i64 0), (.int .i64 0), (.int .i64 0)] fun t6 H =>
 ob (loadR false 1 noG H t3) fun t10 =>
 ob (binR (some .ptr) none .eql t10 .nilp) fun t11 =>
 ifK (ob ((fillR [(.int .i64 0), (.int .i64 0), (.int .i64 0), (.int .i64 0)] []).map .agg) fun t12 =>
 ob (storeR 4 H t6 t12) fun H =>
 rt ((loadR true 4 noG H t6).bind fun r0 => some [r0, (.int .i64 0), (.bool false)]) H)
 (j40_0 ev L t1 t2 t3 t6 H) t11
def q40 : CRun := fun ev L args H => match args with
  | [t0, t1, t2] => f40 ev L t0 t1 t2 H
  | _ => .fail
def j41_0 (ev : Ev) (L : Nat) (t3 : AV) (H : Heap) : CR :=
 ob (loadR false 1 noG H t3) fun t61 =>
 .ret t61 H
def j41_5 (ev : Ev) (L : Nat) (k1 : AV → AV → AV → AV → Heap → CR) (k3 : AV → AV → AV → AV → AV → AV → Heap → CR) (t0 t3 t4 t5 t17 t18 : AV) (H : Heap) : CR :=
 ob (binR (some .other) none .add t18 (.int .i64 1)) fun t60 =>
 k3 t0 t3 t4 t5 t17 t60 H
def j41_8 (ev : Ev) (L : Nat) (k1 : AV → AV → AV → AV → Heap → CR) (k3 : AV → AV → AV → AV → AV → AV → Heap → CR) (t0 t3 t4 t5 t6 t7 t17 t18 : AV) (H : Heap) : CR :=
 ob (loadR false 1 noG H t3) fun t56 =>
 ob (indexSl 1 t56 t6) fun t59 =>
 ob (storeR 1 H t59 t7) fun H =>
 j41_5 ev L k1 k3 t0 t3 t4 t5 t17 t18 H
def j41_18 (ev : Ev) (L : Nat) (k1 : AV → AV → AV → AV → Heap → CR) (k3 : AV → AV → AV → AV → AV → AV → Heap → CR) (t0 t3 t4 t6 t7 t17 t18 t46 t54 : AV) (H : Heap) : CR :=
 ob (pickF (.bool true) t54 t46) fun t55 =>
 j41_8 ev L k1 k3 t0 t3 t4 t55 t6 t7 t17 t18 H
def j41_17 (ev : Ev) (L : Nat) (k1 : AV → AV → AV → AV → Heap → CR) (k3 : AV → AV → AV → AV → AV → AV → Heap → CR) (t0 t3 t4 t6 t7 t17 t18 t46 t48 t53 : AV) (H : Heap) : CR :=
 gd (isBool false t46) (j41_18 ev L k1 k3 t0 t3 t4 t6 t7 t17 t18 t46 undefA H)
 (ob (pickF t53 (.bool false) t48) fun t54 =>
 j41_18 ev L k1 k3 t0 t3 t4 t6 t7 t17 t18 t46 t54 H)
def j41_16 (ev : Ev) (L : Nat) (k1 : AV → AV → AV → AV → Heap → CR) (k3 : AV → AV → AV → AV → AV → AV → Heap → CR) (t0 t3 t4 t6 t7 t17 t18 t46 t48 t52 : AV) (H : Heap) : CR :=
 gd (isBool true t48) (j41_17 ev L k1 k3 t0 t3 t4 t6 t7 t17 t18 t46 t48 undefA H)
 (ob (unA .not t52) fun t53 =>
 j41_17 ev L k1 k3 t0 t3 t4 t6 t7 t17 t18 t46 t48 t53 H)
def j41_15 (ev : Ev) (L : Nat) (k1 : AV → AV → AV → AV → Heap → CR) (k3 : AV → AV → AV → AV → AV → AV → Heap → CR) (t0 t3 t4 t6 t7 t17 t18 t46 t48 t51 : AV) (H : Heap) : CR :=
 gd (isBool true t48) (j41_16 ev L k1 k3 t0 t3 t4 t6 t7 t17 t18 t46 t48 undefA H)
 (ob (loadR false 1 noG H t51) fun t52 =>
 j41_16 ev L k1 k3 t0 t3 t4 t6 t7 t17 t18 t46 t48 t52 H)
def j41_14 (ev : Ev) (L : Nat) (k1 : AV → AV → AV → AV → Heap → CR) (k3 : AV → AV → AV → AV → AV → AV → Heap → CR) (t0 t3 t4 t6 t7 t17 t18 t46 t48 t49 t50 : AV) (H : Heap) : CR :=
 gd (isBool true t48) (j41_15 ev L k1 k3 t0 t3 t4 t6 t7 t17 t18 t46 t48 undefA H)
 (ob (indexSl 1 t49 t50) fun t51 =>
 j41_15 ev L k1 k3 t0 t3 t4 t6 t7 t17 t18 t46 t48 t51 H)
def j41_13 (ev : Ev) (L : Nat) (k1 : AV → AV → AV → AV → Heap → CR) (k3 : AV → AV → AV → AV → AV → AV → Heap → CR) (t0 t3 t4 t6 t7 t17 t18 t46 t48 t49 : AV) (H : Heap) : CR :=
 gd (isBool true t48) (j41_14 ev L k1 k3 t0 t3 t4 t6 t7 t17 t18 t46 t48 t49 undefA H)
 (j41_14 ev L k1 k3 t0 t3 t4 t6 t7 t17 t18 t46 t48 t49 t6 H)
def j41_12 (ev : Ev) (L : Nat) (k1 : AV → AV → AV → AV → Heap → CR) (k3 : AV → AV → AV → AV → AV → AV → Heap → CR) (t0 t3 t4 t6 t7 t17 t18 t46 t48 : AV) (H : Heap) : CR :=
 gd (isBool true t48) (j41_13 ev L k1 k3 t0 t3 t4 t6 t7 t17 t18 t46 t48 undefA H)
 (ob (loadR false 1 noG H t3) fun t49 =>
 j41_13 ev L k1 k3 t0 t3 t4 t6 t7 t17 t18 t46 t48 t49 H)
def j41_11 (ev : Ev) (L : Nat) (k1 : AV → AV → AV → AV → Heap → CR) (k3 : AV → AV → AV → AV → AV → AV → Heap → CR) (t0 t3 t4 t6 t7 t17 t18 t46 t47 : AV) (H : Heap) : CR :=
 gd (isBool false t46) (j41_12 ev L k1 k3 t0 t3 t4 t6 t7 t17 t18 t46 undefA H)
 (j41_12 ev L k1 k3 t0 t3 t4 t6 t7 t17 t18 t46 t47 H)
def j41_7 (ev : Ev) (L : Nat) (k1 : AV → AV → AV → AV → Heap → CR) (k3 : AV → AV → AV → AV → AV → AV → Heap → CR) (t0 t3 t4 t5 t6 t7 t17 t18 : AV) (H : Heap) : CR :=
 gd (isBool false t5) (j41_11 ev L k1 k3 t0 t3 t4 t6 t7 t17 t18 t5 undefA H)
 (j41_11 ev L k1 k3 t0 t3 t4 t6 t7 t17 t18 t5 t7 H)
def j41_21 (ev : Ev) (L : Nat) (k1 : AV → AV → AV → AV → Heap → CR) (k3 : AV → AV → AV → AV → AV → AV → Heap → CR) (k19 : AV → AV → AV → AV → AV → AV → AV → AV → AV → AV → AV → Heap → CR) (t0 t3 t4 t5 t6 t7 t17 t18 t27 t28 t29 : AV) (H : Heap) : CR :=
 ob (binR (some .other) none .add t29 (.int .i64 1)) fun t44 =>
 k19 t0 t3 t4 t5 t6 t7 t17 t18 t27 t28 t44 H
def j41_31 (ev : Ev) (L : Nat) (k1 : AV → AV → AV → AV → Heap → CR) (k3 : AV → AV → AV → AV → AV → AV → Heap → CR) (k19 : AV → AV → AV → AV → AV → AV → AV → AV → AV → AV → AV → Heap → CR) (t0 t3 t4 t5 t6 t17 t18 t27 t28 t29 t34 t42 : AV) (H : Heap) : CR :=
 ob (pickF (.bool true) t42 t34) fun t43 =>
 j41_21 ev L k1 k3 k19 t0 t3 t4 t5 t6 t43 t17 t18 t27 t28 t29 H
def j41_30 (ev : Ev) (L : Nat) (k1 : AV → AV → AV → AV → Heap → CR) (k3 : AV → AV → AV → AV → AV → AV → Heap → CR) (k19 : AV → AV → AV → AV → AV → AV → AV → AV → AV → AV → AV → Heap → CR) (t0 t3 t4 t5 t6 t17 t18 t27 t28 t29 t34 t40 t41 : AV) (H : Heap) : CR :=
 gd (isBool false t34) (j41_31 ev L k1 k3 k19 t0 t3 t4 t5 t6 t17 t18 t27 t28 t29 t34 undefA H)
 (ck (ev 66 [t40, t41] H) fun t42 H =>
 j41_31 ev L k1 k3 k19 t0 t3 t4 t5 t6 t17 t18 t27 t28 t29 t34 t42 H)
def j41_29 (ev : Ev) (L : Nat) (k1 : AV → AV → AV → AV → Heap → CR) (k3 : AV → AV → AV → AV → AV → AV → Heap → CR) (k19 : AV → AV → AV → AV → AV → AV → AV → AV → AV → AV → AV → Heap → CR) (t0 t3 t4 t5 t6 t17 t18 t27 t28 t29 t34 t40 : AV) (H : Heap) : CR :=
 gd (isBool false t34) (j41_30 ev L k1 k3 k19 t0 t3 t4 t5 t6 t17 t18 t27 t28 t29 t34 t40 undefA H)
 (j41_30 ev L k1 k3 k19 t0 t3 t4 t5 t6 t17 t18 t27 t28 t29 t34 t40 (.fn 67 [] [t3]) H)
def j41_28 (ev : Ev) (L : Nat) (k1 : AV → AV → AV → AV → Heap → CR) (k3 : AV → AV → AV → AV → AV → AV → Heap → CR) (k19 : AV → AV → AV → AV → AV → AV → AV → AV → AV → AV → AV → Heap → CR) (t0 t3 t4 t5 t6 t17 t18 t27 t28 t29 t34 t35 t37 t39 : AV) (H : Heap) : CR :=
 gd (isBool false t34) (j41_29 ev L k1 k3 k19 t0 t3 t4 t5 t6 t17 t18 t27 t28 t29 t34 undefA H)
 (ck (ev 29 [t35, t37, t39] H) fun t40 H =>
 j41_29 ev L k1 k3 k19 t0 t3 t4 t5 t6 t17 t18 t27 t28 t29 t34 t40 H)
def j41_27 (ev : Ev) (L : Nat) (k1 : AV → AV → AV → AV → Heap → CR) (k3 : AV → AV → AV → AV → AV → AV → Heap → CR) (k19 : AV → AV → AV → AV → AV → AV → AV → AV → AV → AV → AV → Heap → CR) (t0 t3 t4 t5 t6 t17 t18 t27 t28 t29 t34 t35 t37 t38 : AV) (H : Heap) : CR :=
 gd (isBool false t34) (j41_28 ev L k1 k3 k19 t0 t3 t4 t5 t6 t17 t18 t27 t28 t29 t34 t35 t37 undefA H)
 (ob (loadR false 1 noG H t38) fun t39 =>
 j41_28 ev L k1 k3 k19 t0 t3 t4 t5 t6 t17 t18 t27 t28 t29 t34 t35 t37 t39 H)
def j41_26 (ev : Ev) (L : Nat) (k1 : AV → AV → AV → AV → Heap → CR) (k3 : AV → AV → AV → AV → AV → AV → Heap → CR) (k19 : AV → AV → AV → AV → AV → AV → AV → AV → AV → AV → AV → Heap → CR) (t0 t3 t4 t5 t6 t9 t17 t18 t27 t28 t29 t34 t35 t37 : AV) (H : Heap) : CR :=
 gd (isBool false t34) (j41_27 ev L k1 k3 k19 t0 t3 t4 t5 t6 t17 t18 t27 t28 t29 t34 t35 t37 undefA H)
 (ob (moveP 0 t9) fun t38 =>
 j41_27 ev L k1 k3 k19 t0 t3 t4 t5 t6 t17 t18 t27 t28 t29 t34 t35 t37 t38 H)
def j41_25 (ev : Ev) (L : Nat) (k1 : AV → AV → AV → AV → Heap → CR) (k3 : AV → AV → AV → AV → AV → AV → Heap → CR) (k19 : AV → AV → AV → AV → AV → AV → AV → AV → AV → AV → AV → Heap → CR) (t0 t3 t4 t5 t6 t9 t17 t18 t27 t28 t29 t34 t35 t36 : AV) (H : Heap) : CR :=
 gd (isBool false t34) (j41_26 ev L k1 k3 k19 t0 t3 t4 t5 t6 t9 t17 t18 t27 t28 t29 t34 t35 undefA H)
 (obR ((fillR [(.int .i64 0)] [(0, 1, t36)]).map fun cs => (.sl H.next 0 1 1 (some 1), H.new (.row cs))) fun t37 H =>
 j41_26 ev L k1 k3 k19 t0 t3 t4 t5 t6 t9 t17 t18 t27 t28 t29 t34 t35 t37 H)
def j41_24 (ev : Ev) (L : Nat) (k1 : AV → AV → AV → AV → Heap → CR) (k3 : AV → AV → AV → AV → AV → AV → Heap → CR) (k19 : AV → AV → AV → AV → AV → AV → AV → AV → AV → AV → AV → Heap → CR) (t0 t3 t4 t5 t6 t9 t17 t18 t27 t28 t29 t34 t35 : AV) (H : Heap) : CR :=
 gd (isBool false t34) (j41_25 ev L k1 k3 k19 t0 t3 t4 t5 t6 t9 t17 t18 t27 t28 t29 t34 t35 undefA H)
 (j41_25 ev L k1 k3 k19 t0 t3 t4 t5 t6 t9 t17 t18 t27 t28 t29 t34 t35 t6 H)
def j41_20 (ev : Ev) (L : Nat) (k1 : AV → AV → AV → AV → Heap → CR) (k3 : AV → AV → AV → AV → AV → AV → Heap → CR) (k19 : AV → AV → AV → AV → AV → AV → AV → AV → AV → AV → AV → Heap → CR) (t0 t3 t4 t5 t6 t7 t17 t18 t27 t28 t29 : AV) (H : Heap) : CR :=
 ob (indexSl 2 t27 t29) fun t31 =>
 ob (loadR true 2 noG H t31) fun t32 =>
 na H [(.int .i32 0), (.int .i32 0)] fun t9 H =>
 ob (storeR 2 H t9 t32) fun H =>
 gd (isBool false t7) (j41_24 ev L k1 k3 k19 t0 t3 t4 t5 t6 t9 t17 t18 t27 t28 t29 t7 undefA H)
 (j41_24 ev L k1 k3 k19 t0 t3 t4 t5 t6 t9 t17 t18 t27 t28 t29 t7 t0 H)
def j41_19 (ev : Ev) (L : Nat) (k1 : AV → AV → AV → AV → Heap → CR) (k3 : AV → AV → AV → AV → AV → AV → Heap → CR) (k19 : AV → AV → AV → AV → AV → AV → AV → AV → AV → AV → AV → Heap → CR) (t0 t3 t4 t5 t6 t7 t17 t18 t27 t28 t29 : AV) (H : Heap) : CR :=
 ob (binR (some .other) none .lss t29 t28) fun t30 =>
 ifK (j41_20 ev L k1 k3 k19 t0 t3 t4 t5 t6 t7 t17 t18 t27 t28 t29 H)
 (j41_7 ev L k1 k3 t0 t3 t4 t5 t6 t7 t17 t18 H) t30
def l41_19 (ev : Ev) (L : Nat) (k1 : AV → AV → AV → AV → Heap → CR) (k3 : AV → AV → AV → AV → AV → AV → Heap → CR) : Nat → AV → AV → AV → AV → AV → AV → AV → AV → AV → AV → AV → Heap → CR
  | 0, _, _, _, _, _, _, _, _, _, _, _, _ => .fail
  | m + 1, t0, t3, t4, t5, t6, t7, t17, t18, t27, t28, t29, H => j41_19 ev L k1 k3 (l41_19 ev L k1 k3 m) t0 t3 t4 t5 t6 t7 t17 t18 t27 t28 t29 H
def j41_4 (ev : Ev) (L : Nat) (k1 : AV → AV → AV → AV → Heap → CR) (k3 : AV → AV → AV → AV → AV → AV → Heap → CR) (t0 t3 t4 t5 t17 t18 : AV) (H : Heap) : CR :=
 obR ((fillR [(.int .i64 0)] [(0, 1, t18)]).map fun cs => (.sl H.next 0 1 1 (some 1), H.new (.row cs))) fun t23 H =>
 ck (ev 30 [t0, t23] H) fun t24 H =>
 ob (lenR H t24 .sl) fun t25 =>
 ob (binR (some .other) none .gtr t25 (.int .i64 0)) fun t26 =>
 ob (lenR H t4 .sl) fun t28 =>
 l41_19 ev L k1 k3 L t0 t3 t4 t5 t18 t26 t17 t18 t4 t28 (.int .i64 0) H
def j41_3 (ev : Ev) (L : Nat) (k1 : AV → AV → AV → AV → Heap → CR) (k3 : AV → AV → AV → AV → AV → AV → Heap → CR) (t0 t3 t4 t5 t17 t18 : AV) (H : Heap) : CR :=
 ob (binR (some .other) none .lss t18 t17) fun t19 =>
 ifK (j41_4 ev L k1 k3 t0 t3 t4 t5 t17 t18 H)
 (k1 t0 t3 t4 t5 H) t19
def l41_3 (ev : Ev) (L : Nat) (k1 : AV → AV → AV → AV → Heap → CR) : Nat → AV → AV → AV → AV → AV → AV → Heap → CR
  | 0, _, _, _, _, _, _, _ => .fail
  | m + 1, t0, t3, t4, t5, t17, t18, H => j41_3 ev L k1 (l41_3 ev L k1 m) t0 t3 t4 t5 t17 t18 H
def j41_2 (ev : Ev) (L : Nat) (k1 : AV → AV → AV → AV → Heap → CR) (t0 t3 t4 : AV) (H : Heap) : CR :=
 ob (loadR false 1 noG H t3) fun t16 =>
 ob (lenR H t16 .sl) fun t17 =>
 l41_3 ev L k1 L t0 t3 t4 (.bool false) t17 (.int .i64 0) H
def j41_1 (ev : Ev) (L : Nat) (k1 : AV → AV → AV → AV → Heap → CR) (t0 t3 t4 t5 : AV) (H : Heap) : CR :=
 ifK (j41_2 ev L k1 t0 t3 t4 H)
 (j41_0 ev L t3 H) t5
def l41_1 (ev : Ev) (L : Nat) : Nat → AV → AV → AV → AV → Heap → CR
  | 0, _, _, _, _, _ => .fail
  | m + 1, t0, t3, t4, t5, H => j41_1 ev L (l41_1 ev L m) t0 t3 t4 t5 H
def f41 (ev : Ev) (L : Nat) (t0 : AV) (H : Heap) : CR :=
 ck (ev 65 [t0] H) fun t11 H =>
 obR (makeSliceR 1 [(.bool false)] 1 H t11 t11) fun t12 H =>
 na H [.nils] fun t3 H =>
 ob (storeR 1 H t3 t12) fun H =>
 ck (ev 27 [t0] H) fun t14 H =>
 l41_1 ev L L t0 t3 t14 (.bool true) H
def q41 : CRun := fun ev L args H => match args with
  | [t0] => f41 ev L t0 H
  | _ => .fail
def j42_2 (ev : Ev) (L : Nat) (t6 t9 t10 t11 : AV) (H : Heap) : CR :=
 ob (loadR true 4 noG H t9) fun t93 =>
 ob (storeR 4 H t6 t93) fun H =>
 rt ((loadR true 4 noG H t6).bind fun r0 => some [r0, t10, t11]) H
def j42_1 (ev : Ev) (L : Nat) (t0 t6 t9 t10 t11 : AV) (H : Heap) : CR :=
 ob (unA .not t11) fun t83 =>
 ifK (ob (lenR H t0 .sl) fun t86 =>
 ob (binR (some .other) none .sub t86 (.int .i64 1)) fun t87 =>
 ob (indexSl 5 t0 t87) fun t88 =>
 ob (moveP 2 t88) fun t89 =>
 ob (loadR false 1 noG H t89) fun t90 =>
 ob (binR (some .other) none .add t90 (.int .i64 1)) fun t91 =>
 ob (moveP 3 t9) fun t92 =>
 ob (storeR 1 H t92 t91) fun H =>
 j42_2 ev L t6 t9 t10 t11 H)
 (j42_2 ev L t6 t9 t10 t11 H) t83
def j42_6 (ev : Ev) (L : Nat) (k4 : AV → AV → AV → AV → AV → AV → AV → AV → Heap → CR) (t0 t1 t2 t6 t9 t10 t11 t12 : AV) (H : Heap) : CR :=
 ob (binR (some .other) none .add t12 (.int .i64 1)) fun t46 =>
 k4 t0 t1 t2 t6 t9 t10 t11 t46 H
def j42_9 (ev : Ev) (L : Nat) (k4 : AV → AV → AV → AV → AV → AV → AV → AV → Heap → CR) (t0 t1 t2 t6 t9 t10 t12 t13 t14 t15 : AV) (H : Heap) : CR :=
 ob (unA .not t14) fun t70 =>
 ob (binR (some .other) none .geq t15 (.int .i64 0)) fun t72 =>
 ifK (ob (moveP 2 t13) fun t74 =>
 ob (loadR false 1 noG H t74) fun t75 =>
 ob (binR (some .other) none .sub t12 t1) fun t78 =>
 ob (binR (some .other) none .add t78 (.int .i64 1)) fun t79 =>
 ob (moveP 0 t9) fun t80 =>
 ob (storeR 1 H t80 t15) fun H =>
 sure (againV (loadR false 1 noG H t74) t75)
 (ob (moveP 2 t9) fun t81 =>
 ob (storeR 1 H t81 t75) fun H =>
 j42_6 ev L k4 t0 t1 t2 t6 t9 t79 t70 t12 H))
 (j42_6 ev L k4 t0 t1 t2 t6 t9 t10 t70 t12 H) t72
def j42_8 (ev : Ev) (L : Nat) (k4 : AV → AV → AV → AV → AV → AV → AV → AV → Heap → CR) (t0 t1 t2 t6 t9 t10 t12 t13 : AV) (H : Heap) : CR :=
 ob (moveP 3 t13) fun t60 =>
 ob (loadR false 1 noG H t60) fun t61 =>
 ob (unA .not t61) fun t62 =>
 ifK (ob (loadR true 5 noG H t13) fun t65 =>
 ob (asCall [t65] t2) fun fa => ck (ev fa.1 fa.2 H) fun t66 H =>
 ob (extractA 0 t66) fun t67 =>
 ob (extractA 1 t66) fun t68 =>
 j42_9 ev L k4 t0 t1 t2 t6 t9 t10 t12 t13 t67 t68 H)
 (j42_9 ev L k4 t0 t1 t2 t6 t9 t10 t12 t13 (.bool false) (.int .i64 (.negSucc 0)) H) t62
def j42_5 (ev : Ev) (L : Nat) (k4 : AV → AV → AV → AV → AV → AV → AV → AV → Heap → CR) (t0 t1 t2 t6 t9 t10 t12 : AV) (H : Heap) : CR :=
 ob (indexSl 5 t0 t12) fun t49 =>
 ob (loadR true 5 noG H t49) fun t50 =>
 na H [(.int .i32 0), (.int .i64 0), (.int .i64 0), (.bool false), (.bool false)] fun t13 H =>
 ob (storeR 5 H t13 t50) fun H =>
 ob (moveP 2 t13) fun t51 =>
 ob (loadR false 1 noG H t51) fun t52 =>
 ob (moveP 3 t9) fun t53 =>
 ob (storeR 1 H t53 t52) fun H =>
 ob (moveP 4 t13) fun t54 =>
 ob (loadR false 1 noG H t54) fun t55 =>
 ifK (ob (moveP 3 t9) fun t56 =>
 ob (loadR false 1 noG H t56) fun t57 =>
 ob (binR (some .other) none .add t57 (.int .i64 1)) fun t58 =>
 ob (moveP 3 t9) fun t59 =>
 ob (storeR 1 H t59 t58) fun H =>
 j42_8 ev L k4 t0 t1 t2 t6 t9 t10 t12 t13 H)
 (j42_8 ev L k4 t0 t1 t2 t6 t9 t10 t12 t13 H) t55
def j42_13 (ev : Ev) (L : Nat) (k4 : AV → AV → AV → AV → AV → AV → AV → AV → Heap → CR) (t0 t1 t2 t6 t9 t10 t11 t12 t44 : AV) (H : Heap) : CR :=
 ifK (j42_5 ev L k4 t0 t1 t2 t6 t9 t10 t12 H)
 (j42_1 ev L t0 t6 t9 t10 t11 H) t44
def j42_16 (ev : Ev) (L : Nat) (k4 : AV → AV → AV → AV → AV → AV → AV → AV → Heap → CR) (t0 t1 t2 t6 t9 t10 t11 t12 t41 t43 : AV) (H : Heap) : CR :=
 ob (pickF t43 (.bool false) t41) fun t44 =>
 j42_13 ev L k4 t0 t1 t2 t6 t9 t10 t11 t12 t44 H
def j42_15 (ev : Ev) (L : Nat) (k4 : AV → AV → AV → AV → AV → AV → AV → AV → Heap → CR) (t0 t1 t2 t6 t9 t10 t11 t12 t41 t42 : AV) (H : Heap) : CR :=
 gd (isBool true t41) (j42_16 ev L k4 t0 t1 t2 t6 t9 t10 t11 t12 t41 undefA H)
 (ob (unA .not t42) fun t43 =>
 j42_16 ev L k4 t0 t1 t2 t6 t9 t10 t11 t12 t41 t43 H)
def j42_4 (ev : Ev) (L : Nat) (k4 : AV → AV → AV → AV → AV → AV → AV → AV → Heap → CR) (t0 t1 t2 t6 t9 t10 t11 t12 : AV) (H : Heap) : CR :=
 ob (lenR H t0 .sl) fun t39 =>
 ob (binR (some .other) none .lss t12 t39) fun t40 =>
 gd (isBool true t40) (j42_15 ev L k4 t0 t1 t2 t6 t9 t10 t11 t12 t40 undefA H)
 (j42_15 ev L k4 t0 t1 t2 t6 t9 t10 t11 t12 t40 t11 H)
def l42_4 (ev : Ev) (L : Nat) : Nat → AV → AV → AV → AV → AV → AV → AV → AV → Heap → CR
  | 0, _, _, _, _, _, _, _, _, _ => .fail
  | m + 1, t0, t1, t2, t6, t9, t10, t11, t12, H => j42_4 ev L (l42_4 ev L m) t0 t1 t2 t6 t9 t10 t11 t12 H
def j42_0 (ev : Ev) (L : Nat) (t0 t1 t2 t6 : AV) (H : Heap) : CR :=
 ob (indexSl 5 t0 t1) fun t27 =>
 ob (moveP 1 t27) fun t28 =>
 ob (loadR false 1 noG H t28) fun t29 =>
 ob (indexSl 5 t0 t1) fun t32 =>
 ob (moveP 2 t32) fun t33 =>
 ob (loadR false 1 noG H t33) fun t34 =>
 ob ((fillR [(.int .i64 0), (.int .i64 0), (.int .i64 0), (.int .i64 0)] [(0, 1, (.int .i64 (.negSucc 0))), (1, 1, t29), (2, 1, t34)]).map .agg) fun t35 =>
 na H [(.int .i64 0), (.int .i64 0), (.int .i64 0), (.int .i64 0)] fun t9 H =>
 sure (againV (loadR false 1 noG H t28) t29)
 (sure (againV (loadR false 1 noG H t33) t34)
 (ob (storeR 4 H t9 t35) fun H =>
 l42_4 ev L L t0 t1 t2 t6 t9 (.int .i64 1) (.bool false) t1 H))
def j42_17 (ev : Ev) (L : Nat) (t0 t1 t2 t6 t23 : AV) (H : Heap) : CR :=
 ifK (ob ((fillR [(.int .i64 0), (.int .i64 0), (.int .i64 0), (.int .i64 0)] []).map .agg) fun t24 =>
 ob (storeR 4 H t6 t24) fun H =>
 rt ((loadR true 4 noG H t6).bind fun r0 => some [r0, (.int .i64 0), (.bool false)]) H)
 (j42_0 ev L t0 t1 t2 t6 H) t23
def j42_22 (ev : Ev) (L : Nat) (t0 t1 t2 t6 t18 t22 : AV) (H : Heap) : CR :=
 ob (pickF (.bool true) t22 t18) fun t23 =>
 j42_17 ev L t0 t1 t2 t6 t23 H
def j42_21 (ev : Ev) (L : Nat) (t0 t1 t2 t6 t18 t19 t21 : AV) (H : Heap) : CR :=
 gd (isBool false t18) (j42_22 ev L t0 t1 t2 t6 t18 undefA H)
 (ob (binR (some .other) none .geq t19 t21) fun t22 =>
 j42_22 ev L t0 t1 t2 t6 t18 t22 H)
def j42_20 (ev : Ev) (L : Nat) (t0 t1 t2 t6 t18 t19 t20 : AV) (H : Heap) : CR :=
 gd (isBool false t18) (j42_21 ev L t0 t1 t2 t6 t18 t19 undefA H)
 (ob (lenR H t20 .sl) fun t21 =>
 j42_21 ev L t0 t1 t2 t6 t18 t19 t21 H)
def j42_19 (ev : Ev) (L : Nat) (t0 t1 t2 t6 t18 t19 : AV) (H : Heap) : CR :=
 gd (isBool false t18) (j42_20 ev L t0 t1 t2 t6 t18 t19 undefA H)
 (j42_20 ev L t0 t1 t2 t6 t18 t19 t0 H)
def f42 (ev : Ev) (L : Nat) (t0 t1 t2 : AV) (H : Heap) : CR :=
 na H [(.int .i64 0), (.int .i64 0), (.int .i64 0), (.int .i64 0)] fun t6 H =>
 ob (binR (some .other) none .lss t1 (.int .i64 0)) fun t17 =>
 gd (isBool false t17) (j42_19 ev L t0 t1 t2 t6 t17 undefA H)
 (j42_19 ev L t0 t1 t2 t6 t17 t1 H)
def q42 : CRun := fun ev L args H => match args with
  | [t0, t1, t2] => f42 ev L t0 t1 t2 H
  | _ => .fail
def j43_0 (ev : Ev) (L : Nat) (t2 : AV) (H : Heap) : CR :=
 ob (loadR false 1 noG H t2) fun t24 =>
 ob (lenR H t24 .sl) fun t25 =>
 ob (binR (some .other) none .gtr t25 (.int .i64 0)) fun t26 =>
 .ret (.tup [t26, (.int .i64 (.negSucc 0))]) H
def f43 (ev : Ev) (L : Nat) (t0 t1 t2 t3 : AV) (H : Heap) : CR :=
 na H (AV.cells t0) fun t4 H =>
 ob (loadR false 1 noG H t1) fun t8 =>
 ob (loadR false 1 noG H t2) fun t9 =>
 ob (moveP 0 t4) fun t10 =>
 ob (loadR false 1 noG H t10) fun t11 =>
 ck (ev 29 [t8, t9, t11] H) fun t12 H =>
 ck (ev 44 [t12, (.fn 45 [] [t3])] H) fun t14 H =>
 ob (storeR 1 H t2 t14) fun H =>
 ob (loadR false 1 noG H t1) fun t15 =>
 ob (loadR false 1 noG H t2) fun t16 =>
 ck (ev 30 [t15, t16] H) fun t17 H =>
 ob (lenR H t17 .sl) fun t19 =>
 ob (binR (some .other) none .gtr t19 (.int .i64 0)) fun t20 =>
 ifK (ob (indexSl 1 t17 (.int .i64 0)) fun t22 =>
 ob (loadR false 1 noG H t22) fun t23 =>
 .ret (.tup [(.bool true), t23]) H)
 (j43_0 ev L t2 H) t20
def q43 : CRun := fun ev L args H => match args with
  | [t0, t1, t2, t3] => f43 ev L t0 t1 t2 t3 H
  | _ => .fail
def j44_1 (ev : Ev) (L : Nat) (t0 t5 : AV) (H : Heap) : CR :=
 ob (sliceR noG H (.sl 1) t0 (some t5) none none) fun t38 =>
 obR (clearR 1 [(.int .i64 0)] H t38) fun t999 H =>
 ob (sliceR noG H (.sl 1) t0 none (some t5) none) fun t41 =>
 .ret t41 H
def j44_4 (ev : Ev) (L : Nat) (k2 : AV → AV → AV → AV → Heap → CR) (t0 t1 t5 t6 : AV) (H : Heap) : CR :=
 ob (binR (some .other) none .add t6 (.int .i64 1)) fun t21 =>
 k2 t0 t1 t5 t21 H
def j44_3 (ev : Ev) (L : Nat) (k2 : AV → AV → AV → AV → Heap → CR) (t0 t1 t5 t6 : AV) (H : Heap) : CR :=
 ob (indexSl 1 t0 t6) fun t24 =>
 ob (loadR false 1 noG H t24) fun t25 =>
 ob (asCall [t25] t1) fun fa => ck (ev fa.1 fa.2 H) fun t28 H =>
 ob (unA .not t28) fun t29 =>
 ifK (ob (indexSl 1 t0 t5) fun t33 =>
 ob (storeR 1 H t33 t25) fun H =>
 ob (binR (some .other) none .add t5 (.int .i64 1)) fun t35 =>
 j44_4 ev L k2 t0 t1 t35 t6 H)
 (j44_4 ev L k2 t0 t1 t5 t6 H) t29
def j44_2 (ev : Ev) (L : Nat) (k2 : AV → AV → AV → AV → Heap → CR) (t0 t1 t5 t6 : AV) (H : Heap) : CR :=
 ob (lenR H t0 .sl) fun t18 =>
 ob (binR (some .other) none .lss t6 t18) fun t19 =>
 ifK (j44_3 ev L k2 t0 t1 t5 t6 H)
 (j44_1 ev L t0 t5 H) t19
def l44_2 (ev : Ev) (L : Nat) : Nat → AV → AV → AV → AV → Heap → CR
  | 0, _, _, _, _, _ => .fail
  | m + 1, t0, t1, t5, t6, H => j44_2 ev L (l44_2 ev L m) t0 t1 t5 t6 H
def j44_0 (ev : Ev) (L : Nat) (t0 t1 t5 : AV) (H : Heap) : CR :=
 ob (binR (some .other) none .add t5 (.int .i64 1)) fun t15 =>
 l44_2 ev L L t0 t1 t5 t15 H
def f44 (ev : Ev) (L : Nat) (t0 t1 : AV) (H : Heap) : CR :=
 ck (ev 68 [t0, t1] H) fun t10 H =>
 ob (binR (some .other) none .eql t10 (.int .i64 (.negSucc 0))) fun t12 =>
 ifK (.ret t0 H)
 (j44_0 ev L t0 t1 t10 H) t12
def q44 : CRun := fun ev L args H => match args with
  | [t0, t1] => f44 ev L t0 t1 H
  | _ => .fail
def f45 (ev : Ev) (L : Nat) (t0 t1 : AV) (H : Heap) : CR :=
 ob (loadR false 1 noG H t1) fun t4 =>
 ob (indexSl 1 t4 t0) fun t6 =>
 ob (loadR false 1 noG H t6) fun t7 =>
 ob (unA .not t7) fun t8 =>
 .ret t8 H
def q45 : CRun := fun ev L args H => match args with
  | [t0, t1] => f45 ev L t0 t1 H
  | _ => .fail
end
end Go.AM.Ly
