import Derived.Test.YthgloebmfcdhoaaGreatDoorVc
import Derived.Test.YthgloebmfcdhoaaGreatDoorLyJa
set_option maxRecDepth 100000
set_option linter.unusedVariables false
set_option linter.unusedSimpArgs false
namespace Go.AM.Ly
open Go
noncomputable section
def j46_0 (ev : Ev) (L : Nat) (H : Heap) : CR :=
 .ret (.int .i64 (.negSucc 0)) H
def j46_3 (ev : Ev) (L : Nat) (k1 : AV → AV → AV → AV → Heap → CR) (t0 t1 t7 t8 : AV) (H : Heap) : CR :=
 ob (binR (some .other) none .add t8 (.int .i64 1)) fun t18 =>
 k1 t0 t1 t7 t18 H
def j46_2 (ev : Ev) (L : Nat) (k1 : AV → AV → AV → AV → Heap → CR) (t0 t1 t7 t8 : AV) (H : Heap) : CR :=
 ob (indexSl 3 t0 t8) fun t14 =>
 ob (loadR true 3 noG H t14) fun t15 =>
 ob (asCall [t15] t1) fun fa => ck (ev fa.1 fa.2 H) fun t16 H =>
 ifK (.ret t8 H)
 (j46_3 ev L k1 t0 t1 t7 t8 H) t16
def j46_1 (ev : Ev) (L : Nat) (k1 : AV → AV → AV → AV → Heap → CR) (t0 t1 t7 t8 : AV) (H : Heap) : CR :=
 ob (binR (some .other) none .lss t8 t7) fun t9 =>
 ifK (j46_2 ev L k1 t0 t1 t7 t8 H)
 (j46_0 ev L H) t9
def l46_1 (ev : Ev) (L : Nat) : Nat → AV → AV → AV → AV → Heap → CR
  | 0, _, _, _, _, _ => .fail
  | m + 1, t0, t1, t7, t8, H => j46_1 ev L (l46_1 ev L m) t0 t1 t7 t8 H
def f46 (ev : Ev) (L : Nat) (t0 t1 : AV) (H : Heap) : CR :=
 ob (lenR H t0 .sl) fun t7 =>
 l46_1 ev L L t0 t1 t7 (.int .i64 0) H
def q46 : CRun := fun ev L args H => match args with
  | [t0, t1] => f46 ev L t0 t1 H
  | _ => .fail
def f47 (ev : Ev) (L : Nat) (t0 : AV) (H : Heap) : CR :=
 na H (AV.cells t0) fun t1 H =>
 na H [(.int .i64 0)] fun t3 H =>
 ob (storeR 1 H t3 (.int .i64 60)) fun H =>
 na H [.nilf] fun t4 H =>
 ob (storeR 1 H t4 (.fn 69 [] [t3, t4])) fun H =>
 ob (loadR false 1 noG H t4) fun t6 =>
 ob (loadR true 3 noG H t1) fun t7 =>
 ob (asCall [t7, (.int .i64 1)] t6) fun fa => ck (ev fa.1 fa.2 H) fun t8 H =>
 .ret t8 H
def q47 : CRun := fun ev L args H => match args with
  | [t0] => f47 ev L t0 H
  | _ => .fail
def j48_2 (ev : Ev) (L : Nat) (t2 : AV) (H : Heap) : CR :=
 .ret t2 H
def j48_10 (ev : Ev) (L : Nat) (t32 t35 : AV) (H : Heap) : CR :=
 ob (pickF t35 (.bool false) t32) fun t36 =>
 j48_2 ev L t36 H
def j48_9 (ev : Ev) (L : Nat) (t32 t34 : AV) (H : Heap) : CR :=
 gd (isBool true t32) (j48_10 ev L t32 undefA H)
 (ck (ev 73 [t34] H) fun t35 H =>
 j48_10 ev L t32 t35 H)
def j48_8 (ev : Ev) (L : Nat) (t32 t33 : AV) (H : Heap) : CR :=
 gd (isBool true t32) (j48_9 ev L t32 undefA H)
 (ob (loadR false 1 noG H t33) fun t34 =>
 j48_9 ev L t32 t34 H)
def j48_7 (ev : Ev) (L : Nat) (t1 t26 t30 : AV) (H : Heap) : CR :=
 ob (pickF t30 (.bool false) t26) fun t31 =>
 gd (isBool true t31) (j48_8 ev L t31 undefA H)
 (ob (moveP 1 t1) fun t33 =>
 j48_8 ev L t31 t33 H)
def j48_6 (ev : Ev) (L : Nat) (t1 t26 t29 : AV) (H : Heap) : CR :=
 gd (isBool true t26) (j48_7 ev L t1 t26 undefA H)
 (ob (binR (some .other) none .leq t29 (.int .i64 20)) fun t30 =>
 j48_7 ev L t1 t26 t30 H)
def j48_5 (ev : Ev) (L : Nat) (t1 t26 t28 : AV) (H : Heap) : CR :=
 gd (isBool true t26) (j48_6 ev L t1 t26 undefA H)
 (ob (lenR H t28 .sl) fun t29 =>
 j48_6 ev L t1 t26 t29 H)
def j48_4 (ev : Ev) (L : Nat) (t1 t26 t27 : AV) (H : Heap) : CR :=
 gd (isBool true t26) (j48_5 ev L t1 t26 undefA H)
 (ob (loadR false 1 noG H t27) fun t28 =>
 j48_5 ev L t1 t26 t28 H)
def j48_1 (ev : Ev) (L : Nat) (t1 : AV) (H : Heap) : CR :=
 ob (moveP 1 t1) fun t22 =>
 ob (loadR false 1 noG H t22) fun t23 =>
 ob (lenR H t23 .sl) fun t24 =>
 ob (binR (some .other) none .geq t24 (.int .i64 1)) fun t25 =>
 gd (isBool true t25) (j48_4 ev L t1 t25 undefA H)
 (ob (moveP 1 t1) fun t27 =>
 j48_4 ev L t1 t25 t27 H)
def j48_0 (ev : Ev) (L : Nat) (t1 : AV) (H : Heap) : CR :=
 ob (moveP 0 t1) fun t15 =>
 ob (loadR false 1 noG H t15) fun t16 =>
 ob (binR (some .other) none .neq t16 (.int .i64 2)) fun t17 =>
 ifK (ob (moveP 1 t1) fun t18 =>
 ob (loadR false 1 noG H t18) fun t19 =>
 ob (lenR H t19 .sl) fun t20 =>
 ob (binR (some .other) none .eql t20 (.int .i64 0)) fun t21 =>
 .ret t21 H)
 (j48_1 ev L t1 H) t17
def j48_11 (ev : Ev) (L : Nat) (t1 t14 : AV) (H : Heap) : CR :=
 ifK (.ret (.bool false) H)
 (j48_0 ev L t1 H) t14
def j48_15 (ev : Ev) (L : Nat) (t1 t10 t13 : AV) (H : Heap) : CR :=
 ob (pickF (.bool true) t13 t10) fun t14 =>
 j48_11 ev L t1 t14 H
def j48_14 (ev : Ev) (L : Nat) (t1 t10 t12 : AV) (H : Heap) : CR :=
 gd (isBool false t10) (j48_15 ev L t1 t10 undefA H)
 (ck ((noPan ev) 21 [t12, (.fn 72 [] [])] H) fun t13 H =>
 j48_15 ev L t1 t10 t13 H)
def j48_13 (ev : Ev) (L : Nat) (t1 t10 t11 : AV) (H : Heap) : CR :=
 gd (isBool false t10) (j48_14 ev L t1 t10 undefA H)
 (ob (loadR false 1 noG H t11) fun t12 =>
 j48_14 ev L t1 t10 t12 H)
def f48 (ev : Ev) (L : Nat) (t0 : AV) (H : Heap) : CR :=
 na H (AV.cells t0) fun t1 H =>
 ob (moveP 2 t1) fun t3 =>
 ob (loadR false 1 noG H t3) fun t4 =>
 ob (lenR H t4 .sl) fun t5 =>
 ob (moveP 0 t1) fun t6 =>
 ob (loadR false 1 noG H t6) fun t7 =>
 ck ((noPan ev) 71 [t7] H) fun t8 H =>
 sure (againV (loadR false 1 noG H t3) t4)
 (sure (againV (lenR H t4 .sl) t5)
 (ob (binR (some .other) none .neq t5 t8) fun t9 =>
 gd (isBool false t9) (j48_13 ev L t1 t9 undefA H)
 (ob (moveP 2 t1) fun t11 =>
 j48_13 ev L t1 t9 t11 H)))
def q48 : CRun := fun ev L args H => match args with
  | [t0] => f48 ev L t0 H
  | _ => .fail
def j49_1 (ev : Ev) (L : Nat) (t6 : AV) (H : Heap) : CR :=
 .ret t6 H
def j49_4 (ev : Ev) (L : Nat) (k2 : AV → AV → AV → AV → Heap → CR) (t6 t25 t26 t27 : AV) (H : Heap) : CR :=
 ob (binR (some .other) none .add t27 (.int .i64 1)) fun t34 =>
 k2 t6 t25 t26 t34 H
def j49_3 (ev : Ev) (L : Nat) (k2 : AV → AV → AV → AV → Heap → CR) (t6 t25 t26 t27 : AV) (H : Heap) : CR :=
 ob (indexSl 1 t25 t27) fun t29 =>
 ob (loadR false 1 noG H t29) fun t30 =>
 obR (appendR 1 8 [(.int .i64 0)] false H t6 t30) fun t33 H =>
 j49_4 ev L k2 t33 t25 t26 t27 H
def j49_2 (ev : Ev) (L : Nat) (k2 : AV → AV → AV → AV → Heap → CR) (t6 t25 t26 t27 : AV) (H : Heap) : CR :=
 ob (binR (some .other) none .lss t27 t26) fun t28 =>
 ifK (j49_3 ev L k2 t6 t25 t26 t27 H)
 (j49_1 ev L t6 H) t28
def l49_2 (ev : Ev) (L : Nat) : Nat → AV → AV → AV → AV → Heap → CR
  | 0, _, _, _, _, _ => .fail
  | m + 1, t6, t25, t26, t27, H => j49_2 ev L (l49_2 ev L m) t6 t25 t26 t27 H
def j49_0 (ev : Ev) (L : Nat) (t0 t3 : AV) (H : Heap) : CR :=
 ck (ev 74 [.nils, t3] H) fun t24 H =>
 ob (lenR H t0 .sl) fun t26 =>
 l49_2 ev L L t24 t0 t26 (.int .i64 0) H
def j49_9 (ev : Ev) (L : Nat) (k7 : AV → AV → AV → AV → AV → Heap → CR) (t0 t3 t9 t10 t11 : AV) (H : Heap) : CR :=
 ob (binR (some .other) none .add t11 (.int .i64 1)) fun t22 =>
 k7 t0 t3 t9 t10 t22 H
def j49_8 (ev : Ev) (L : Nat) (k7 : AV → AV → AV → AV → AV → Heap → CR) (t0 t3 t9 t10 t11 : AV) (H : Heap) : CR :=
 ob (indexSl 1 t9 t11) fun t13 =>
 ob (loadR false 1 noG H t13) fun t14 =>
 ob (lenR H t14 .sl) fun t17 =>
 ob (binR (some .other) none .add t3 t17) fun t18 =>
 ob (binR (some .other) none .lss t18 (.int .i64 0)) fun t20 =>
 ifK (thr H (.iface 9 (.str ⟨#[108, 101, 110, 32, 111, 117, 116, 32, 111, 102, 32, 114, 97, 110, 103, 101]⟩)))
 (j49_9 ev L k7 t0 t18 t9 t10 t11 H) t20
def j49_7 (ev : Ev) (L : Nat) (k7 : AV → AV → AV → AV → AV → Heap → CR) (t0 t3 t9 t10 t11 : AV) (H : Heap) : CR :=
 ob (binR (some .other) none .lss t11 t10) fun t12 =>
 ifK (j49_8 ev L k7 t0 t3 t9 t10 t11 H)
 (j49_0 ev L t0 t3 H) t12
def l49_7 (ev : Ev) (L : Nat) : Nat → AV → AV → AV → AV → AV → Heap → CR
  | 0, _, _, _, _, _, _ => .fail
  | m + 1, t0, t3, t9, t10, t11, H => j49_7 ev L (l49_7 ev L m) t0 t3 t9 t10 t11 H
def f49 (ev : Ev) (L : Nat) (t0 : AV) (H : Heap) : CR :=
 ob (lenR H t0 .sl) fun t10 =>
 l49_7 ev L L t0 (.int .i64 0) t0 t10 (.int .i64 0) H
def q49 : CRun := fun ev L args H => match args with
  | [t0] => f49 ev L t0 H
  | _ => .fail
def f50 (ev : Ev) (L : Nat) (t0 : AV) (H : Heap) : CR :=
 ob (lenR H t0 .sl) fun t4 =>
 obR (convR H t4 (.int .u64)) fun t8 H =>
 ck (ev 76 [t8] H) fun t9 H =>
 ck (ev 75 [t0, (.int .i64 0), t4, t9] H) fun t10 H =>
 .ret (.tup []) H
def q50 : CRun := fun ev L args H => match args with
  | [t0] => f50 ev L t0 H
  | _ => .fail
def j51_1 (ev : Ev) (L : Nat) (t0 : AV) (H : Heap) : CR :=
 .ret t0 H
def j51_4 (ev : Ev) (L : Nat) (k2 : AV → AV → Heap → CR) (t0 t3 : AV) (H : Heap) : CR :=
 ob (binR (some .other) none .add t3 (.int .i64 1)) fun t15 =>
 k2 t0 t15 H
def j51_6 (ev : Ev) (L : Nat) (k2 : AV → AV → Heap → CR) (t0 t3 : AV) (H : Heap) : CR :=
 ob (sliceR noG H (.sl 1) t0 (some t3) none none) fun t56 =>
 obR (clearR 1 [(.int .i64 0)] H t56) fun t999 H =>
 ob (sliceR noG H (.sl 1) t0 none (some t3) none) fun t59 =>
 .ret t59 H
def j51_9 (ev : Ev) (L : Nat) (k2 : AV → AV → Heap → CR) (k7 : AV → AV → AV → AV → Heap → CR) (t0 t3 t4 t5 : AV) (H : Heap) : CR :=
 ob (binR (some .other) none .add t5 (.int .i64 1)) fun t34 =>
 k7 t0 t3 t4 t34 H
def j51_8 (ev : Ev) (L : Nat) (k2 : AV → AV → Heap → CR) (k7 : AV → AV → AV → AV → Heap → CR) (t0 t3 t4 t5 : AV) (H : Heap) : CR :=
 ob (indexSl 1 t4 t5) fun t37 =>
 ob (loadR false 1 noG H t37) fun t38 =>
 ob (binR (some .other) none .sub t5 (.int .i64 1)) fun t41 =>
 ob (indexSl 1 t4 t41) fun t42 =>
 ob (loadR false 1 noG H t42) fun t43 =>
 ob (binR (some .other) none .neq t38 t43) fun t44 =>
 ifK (ob (indexSl 1 t4 t5) fun t49 =>
 ob (loadR false 1 noG H t49) fun t50 =>
 ob (indexSl 1 t0 t3) fun t51 =>
 ob (storeR 1 H t51 t50) fun H =>
 ob (binR (some .other) none .add t3 (.int .i64 1)) fun t53 =>
 j51_9 ev L k2 k7 t0 t53 t4 t5 H)
 (j51_9 ev L k2 k7 t0 t3 t4 t5 H) t44
def j51_7 (ev : Ev) (L : Nat) (k2 : AV → AV → Heap → CR) (k7 : AV → AV → AV → AV → Heap → CR) (t0 t3 t4 t5 : AV) (H : Heap) : CR :=
 ob (lenR H t4 .sl) fun t31 =>
 ob (binR (some .other) none .lss t5 t31) fun t32 =>
 ifK (j51_8 ev L k2 k7 t0 t3 t4 t5 H)
 (j51_6 ev L k2 t0 t3 H) t32
def l51_7 (ev : Ev) (L : Nat) (k2 : AV → AV → Heap → CR) : Nat → AV → AV → AV → AV → Heap → CR
  | 0, _, _, _, _, _ => .fail
  | m + 1, t0, t3, t4, t5, H => j51_7 ev L k2 (l51_7 ev L k2 m) t0 t3 t4 t5 H
def j51_3 (ev : Ev) (L : Nat) (k2 : AV → AV → Heap → CR) (t0 t3 : AV) (H : Heap) : CR :=
 ob (indexSl 1 t0 t3) fun t18 =>
 ob (loadR false 1 noG H t18) fun t19 =>
 ob (binR (some .other) none .sub t3 (.int .i64 1)) fun t22 =>
 ob (indexSl 1 t0 t22) fun t23 =>
 ob (loadR false 1 noG H t23) fun t24 =>
 ob (binR (some .other) none .eql t19 t24) fun t25 =>
 ifK (ob (sliceR noG H (.sl 1) t0 (some t3) none none) fun t28 =>
 l51_7 ev L k2 L t0 t3 t28 (.int .i64 1) H)
 (j51_4 ev L k2 t0 t3 H) t25
def j51_2 (ev : Ev) (L : Nat) (k2 : AV → AV → Heap → CR) (t0 t3 : AV) (H : Heap) : CR :=
 ob (lenR H t0 .sl) fun t12 =>
 ob (binR (some .other) none .lss t3 t12) fun t13 =>
 ifK (j51_3 ev L k2 t0 t3 H)
 (j51_1 ev L t0 H) t13
def l51_2 (ev : Ev) (L : Nat) : Nat → AV → AV → Heap → CR
  | 0, _, _, _ => .fail
  | m + 1, t0, t3, H => j51_2 ev L (l51_2 ev L m) t0 t3 H
def j51_0 (ev : Ev) (L : Nat) (t0 : AV) (H : Heap) : CR :=
 l51_2 ev L L t0 (.int .i64 1) H
def f51 (ev : Ev) (L : Nat) (t0 : AV) (H : Heap) : CR :=
 ob (lenR H t0 .sl) fun t7 =>
 ob (binR (some .other) none .lss t7 (.int .i64 2)) fun t8 =>
 ifK (.ret t0 H)
 (j51_0 ev L t0 H) t8
def q51 : CRun := fun ev L args H => match args with
  | [t0] => f51 ev L t0 H
  | _ => .fail
def j52_1 (ev : Ev) (L : Nat) (t9 : AV) (H : Heap) : CR :=
 ck (ev 78 [t9] H) fun t78 H =>
 .ret t78 H
def j52_4 (ev : Ev) (L : Nat) (k2 : AV → AV → AV → AV → AV → Heap → CR) (t3 t9 t44 t45 t46 : AV) (H : Heap) : CR :=
 ob (binR (some .other) none .add t46 (.int .i64 1)) fun t76 =>
 k2 t3 t9 t44 t45 t76 H
def j52_8 (ev : Ev) (L : Nat) (k2 : AV → AV → AV → AV → AV → Heap → CR) (k6 : AV → AV → AV → AV → AV → AV → AV → AV → AV → Heap → CR) (t3 t9 t11 t44 t45 t46 t50 t51 t52 : AV) (H : Heap) : CR :=
 ob (binR (some .other) none .add t52 (.int .i64 1)) fun t75 =>
 k6 t3 t9 t11 t44 t45 t46 t50 t51 t75 H
def j52_10 (ev : Ev) (L : Nat) (k2 : AV → AV → AV → AV → AV → Heap → CR) (k6 : AV → AV → AV → AV → AV → AV → AV → AV → AV → Heap → CR) (t3 t9 t11 t13 t44 t45 t46 t50 t51 t52 t65 : AV) (H : Heap) : CR :=
 ifK (ob (moveP 0 t11) fun t67 =>
 ob (loadR false 1 noG H t67) fun t68 =>
 ob ((fillR [(.int .i64 0), (.int .i64 0)] [(0, 1, t68), (1, 1, t13)]).map .agg) fun t70 =>
 obR ((fillR [(.int .i64 0), (.int .i64 0)] [(0, 2, t70)]).map fun cs => (.sl H.next 0 1 2 (some 1), H.new (.row cs))) fun t71 H =>
 obR (appendR 2 16 [(.int .i64 0), (.int .i64 0)] false H t9 t71) fun t72 H =>
 ob (moveP 0 t11) fun t74 =>
 ob (storeR 1 H t74 t13) fun H =>
 j52_8 ev L k2 k6 t3 t72 t11 t44 t45 t46 t50 t51 t52 H)
 (j52_8 ev L k2 k6 t3 t9 t11 t44 t45 t46 t50 t51 t52 H) t65
def j52_16 (ev : Ev) (L : Nat) (k2 : AV → AV → AV → AV → AV → Heap → CR) (k6 : AV → AV → AV → AV → AV → AV → AV → AV → AV → Heap → CR) (t3 t9 t11 t13 t44 t45 t46 t50 t51 t52 t60 t64 : AV) (H : Heap) : CR :=
 ob (pickF t64 (.bool false) t60) fun t65 =>
 j52_10 ev L k2 k6 t3 t9 t11 t13 t44 t45 t46 t50 t51 t52 t65 H
def j52_15 (ev : Ev) (L : Nat) (k2 : AV → AV → AV → AV → AV → Heap → CR) (k6 : AV → AV → AV → AV → AV → AV → AV → AV → AV → Heap → CR) (t3 t9 t11 t13 t44 t45 t46 t50 t51 t52 t60 t61 t63 : AV) (H : Heap) : CR :=
 gd (isBool true t60) (j52_16 ev L k2 k6 t3 t9 t11 t13 t44 t45 t46 t50 t51 t52 t60 undefA H)
 (ob (binR (some .other) none .leq t61 t63) fun t64 =>
 j52_16 ev L k2 k6 t3 t9 t11 t13 t44 t45 t46 t50 t51 t52 t60 t64 H)
def j52_14 (ev : Ev) (L : Nat) (k2 : AV → AV → AV → AV → AV → Heap → CR) (k6 : AV → AV → AV → AV → AV → AV → AV → AV → AV → Heap → CR) (t3 t9 t11 t13 t44 t45 t46 t50 t51 t52 t60 t61 t62 : AV) (H : Heap) : CR :=
 gd (isBool true t60) (j52_15 ev L k2 k6 t3 t9 t11 t13 t44 t45 t46 t50 t51 t52 t60 t61 undefA H)
 (ob (loadR false 1 noG H t62) fun t63 =>
 j52_15 ev L k2 k6 t3 t9 t11 t13 t44 t45 t46 t50 t51 t52 t60 t61 t63 H)
def j52_13 (ev : Ev) (L : Nat) (k2 : AV → AV → AV → AV → AV → Heap → CR) (k6 : AV → AV → AV → AV → AV → AV → AV → AV → AV → Heap → CR) (t3 t9 t11 t13 t44 t45 t46 t50 t51 t52 t60 t61 : AV) (H : Heap) : CR :=
 gd (isBool true t60) (j52_14 ev L k2 k6 t3 t9 t11 t13 t44 t45 t46 t50 t51 t52 t60 t61 undefA H)
 (ob (moveP 1 t11) fun t62 =>
 j52_14 ev L k2 k6 t3 t9 t11 t13 t44 t45 t46 t50 t51 t52 t60 t61 t62 H)
def j52_7 (ev : Ev) (L : Nat) (k2 : AV → AV → AV → AV → AV → Heap → CR) (k6 : AV → AV → AV → AV → AV → AV → AV → AV → AV → Heap → CR) (t3 t9 t11 t44 t45 t46 t50 t51 t52 : AV) (H : Heap) : CR :=
 ob (indexSl 1 t50 t52) fun t54 =>
 ob (loadR false 1 noG H t54) fun t55 =>
 ob (moveP 0 t11) fun t56 =>
 ob (loadR false 1 noG H t56) fun t57 =>
 ob (binR (some .other) none .lss t57 t55) fun t59 =>
 gd (isBool true t59) (j52_13 ev L k2 k6 t3 t9 t11 t55 t44 t45 t46 t50 t51 t52 t59 undefA H)
 (j52_13 ev L k2 k6 t3 t9 t11 t55 t44 t45 t46 t50 t51 t52 t59 t55 H)
def j52_6 (ev : Ev) (L : Nat) (k2 : AV → AV → AV → AV → AV → Heap → CR) (k6 : AV → AV → AV → AV → AV → AV → AV → AV → AV → Heap → CR) (t3 t9 t11 t44 t45 t46 t50 t51 t52 : AV) (H : Heap) : CR :=
 ob (binR (some .other) none .lss t52 t51) fun t53 =>
 ifK (j52_7 ev L k2 k6 t3 t9 t11 t44 t45 t46 t50 t51 t52 H)
 (j52_4 ev L k2 t3 t9 t44 t45 t46 H) t53
def l52_6 (ev : Ev) (L : Nat) (k2 : AV → AV → AV → AV → AV → Heap → CR) : Nat → AV → AV → AV → AV → AV → AV → AV → AV → AV → Heap → CR
  | 0, _, _, _, _, _, _, _, _, _, _ => .fail
  | m + 1, t3, t9, t11, t44, t45, t46, t50, t51, t52, H => j52_6 ev L k2 (l52_6 ev L k2 m) t3 t9 t11 t44 t45 t46 t50 t51 t52 H
def j52_3 (ev : Ev) (L : Nat) (k2 : AV → AV → AV → AV → AV → Heap → CR) (t3 t9 t44 t45 t46 : AV) (H : Heap) : CR :=
 ob (indexSl 2 t44 t46) fun t48 =>
 ob (loadR true 2 noG H t48) fun t49 =>
 na H [(.int .i64 0), (.int .i64 0)] fun t11 H =>
 ob (storeR 2 H t11 t49) fun H =>
 ob (lenR H t3 .sl) fun t51 =>
 l52_6 ev L k2 L t3 t9 t11 t44 t45 t46 t3 t51 (.int .i64 0) H
def j52_2 (ev : Ev) (L : Nat) (k2 : AV → AV → AV → AV → AV → Heap → CR) (t3 t9 t44 t45 t46 : AV) (H : Heap) : CR :=
 ob (binR (some .other) none .lss t46 t45) fun t47 =>
 ifK (j52_3 ev L k2 t3 t9 t44 t45 t46 H)
 (j52_1 ev L t9 H) t47
def l52_2 (ev : Ev) (L : Nat) : Nat → AV → AV → AV → AV → AV → Heap → CR
  | 0, _, _, _, _, _, _ => .fail
  | m + 1, t3, t9, t44, t45, t46, H => j52_2 ev L (l52_2 ev L m) t3 t9 t44 t45 t46 H
def j52_0 (ev : Ev) (L : Nat) (t3 t4 : AV) (H : Heap) : CR :=
 ck (ev 50 [t3] H) fun t40 H =>
 ck (ev 51 [t3] H) fun t42 H =>
 ck (ev 77 [t4] H) fun t44 H =>
 ob (lenR H t44 .sl) fun t45 =>
 l52_2 ev L L t42 .nils t44 t45 (.int .i64 0) H
def j52_19 (ev : Ev) (L : Nat) (k17 : AV → AV → AV → AV → AV → Heap → CR) (t3 t4 t14 t15 t16 : AV) (H : Heap) : CR :=
 ob (binR (some .other) none .add t16 (.int .i64 1)) fun t38 =>
 k17 t3 t4 t14 t15 t38 H
def j52_21 (ev : Ev) (L : Nat) (k17 : AV → AV → AV → AV → AV → Heap → CR) (t3 t4 t6 t14 t15 t16 : AV) (H : Heap) : CR :=
 obR (appendR 2 8 [(.int .i32 0), (.int .i32 0)] false H t4 t6) fun t37 H =>
 j52_19 ev L k17 t3 t37 t14 t15 t16 H
def j52_25 (ev : Ev) (L : Nat) (k17 : AV → AV → AV → AV → AV → Heap → CR) (k23 : AV → AV → AV → AV → AV → AV → AV → AV → AV → Heap → CR) (t3 t4 t6 t14 t15 t16 t21 t22 t23 : AV) (H : Heap) : CR :=
 ob (binR (some .other) none .add t23 (.int .i64 1)) fun t34 =>
 k23 t3 t4 t6 t14 t15 t16 t21 t22 t34 H
def j52_24 (ev : Ev) (L : Nat) (k17 : AV → AV → AV → AV → AV → Heap → CR) (k23 : AV → AV → AV → AV → AV → AV → AV → AV → AV → Heap → CR) (t3 t4 t6 t14 t15 t16 t21 t22 t23 : AV) (H : Heap) : CR :=
 ob (indexSl 2 t21 t23) fun t25 =>
 ob (loadR true 2 noG H t25) fun t26 =>
 na H [(.int .i64 0), (.int .i64 0)] fun t8 H =>
 ob (storeR 2 H t8 t26) fun H =>
 ob (moveP 0 t8) fun t28 =>
 ob (loadR false 1 noG H t28) fun t29 =>
 ob (moveP 1 t8) fun t30 =>
 ob (loadR false 1 noG H t30) fun t31 =>
 obR ((fillR [(.int .i64 0), (.int .i64 0)] [(0, 1, t29), (1, 1, t31)]).map fun cs => (.sl H.next 0 2 1 (some 2), H.new (.row cs))) fun t32 H =>
 obR (appendR 1 8 [(.int .i64 0)] false H t3 t32) fun t33 H =>
 j52_25 ev L k17 k23 t33 t4 t6 t14 t15 t16 t21 t22 t23 H
def j52_23 (ev : Ev) (L : Nat) (k17 : AV → AV → AV → AV → AV → Heap → CR) (k23 : AV → AV → AV → AV → AV → AV → AV → AV → AV → Heap → CR) (t3 t4 t6 t14 t15 t16 t21 t22 t23 : AV) (H : Heap) : CR :=
 ob (binR (some .other) none .lss t23 t22) fun t24 =>
 ifK (j52_24 ev L k17 k23 t3 t4 t6 t14 t15 t16 t21 t22 t23 H)
 (j52_21 ev L k17 t3 t4 t6 t14 t15 t16 H) t24
def l52_23 (ev : Ev) (L : Nat) (k17 : AV → AV → AV → AV → AV → Heap → CR) : Nat → AV → AV → AV → AV → AV → AV → AV → AV → AV → Heap → CR
  | 0, _, _, _, _, _, _, _, _, _, _ => .fail
  | m + 1, t3, t4, t6, t14, t15, t16, t21, t22, t23, H => j52_23 ev L k17 (l52_23 ev L k17 m) t3 t4 t6 t14 t15 t16 t21 t22 t23 H
def j52_18 (ev : Ev) (L : Nat) (k17 : AV → AV → AV → AV → AV → Heap → CR) (t3 t4 t14 t15 t16 : AV) (H : Heap) : CR :=
 ob (indexSl 1 t14 t16) fun t18 =>
 ob (loadR false 1 noG H t18) fun t19 =>
 ck (ev 77 [t19] H) fun t21 H =>
 ob (lenR H t21 .sl) fun t22 =>
 l52_23 ev L k17 L t3 t4 t19 t14 t15 t16 t21 t22 (.int .i64 0) H
def j52_17 (ev : Ev) (L : Nat) (k17 : AV → AV → AV → AV → AV → Heap → CR) (t3 t4 t14 t15 t16 : AV) (H : Heap) : CR :=
 ob (binR (some .other) none .lss t16 t15) fun t17 =>
 ifK (j52_18 ev L k17 t3 t4 t14 t15 t16 H)
 (j52_0 ev L t3 t4 H) t17
def l52_17 (ev : Ev) (L : Nat) : Nat → AV → AV → AV → AV → AV → Heap → CR
  | 0, _, _, _, _, _, _ => .fail
  | m + 1, t3, t4, t14, t15, t16, H => j52_17 ev L (l52_17 ev L m) t3 t4 t14 t15 t16 H
def f52 (ev : Ev) (L : Nat) (t0 : AV) (H : Heap) : CR :=
 ob (lenR H t0 .sl) fun t15 =>
 l52_17 ev L L .nils .nils t0 t15 (.int .i64 0) H
def q52 : CRun := fun ev L args H => match args with
  | [t0] => f52 ev L t0 H
  | _ => .fail
def f53 (ev : Ev) (L : Nat) (t0 t1 t2 : AV) (H : Heap) : CR :=
 ck (ev 79 [t0, t1, t2] H) fun t10 H =>
 .ret t10 H
def q53 : CRun := fun ev L args H => match args with
  | [t0, t1, t2] => f53 ev L t0 t1 t2 H
  | _ => .fail
def j54_0 (ev : Ev) (L : Nat) (t4 : AV) (H : Heap) : CR :=
 .ret t4 H
def j54_8 (ev : Ev) (L : Nat) (t7 t14 : AV) (H : Heap) : CR :=
 ob (pickF t14 (.bool false) t7) fun t15 =>
 j54_0 ev L t15 H
def j54_7 (ev : Ev) (L : Nat) (t7 t8 t13 : AV) (H : Heap) : CR :=
 gd (isBool true t7) (j54_8 ev L t7 undefA H)
 (ob (binR (some .other) none .lss t8 t13) fun t14 =>
 j54_8 ev L t7 t14 H)
def j54_6 (ev : Ev) (L : Nat) (t7 t8 t12 : AV) (H : Heap) : CR :=
 gd (isBool true t7) (j54_7 ev L t7 t8 undefA H)
 (ob (lenR H t12 .sl) fun t13 =>
 j54_7 ev L t7 t8 t13 H)
def j54_5 (ev : Ev) (L : Nat) (t7 t8 t11 : AV) (H : Heap) : CR :=
 gd (isBool true t7) (j54_6 ev L t7 t8 undefA H)
 (ob (loadR false 1 noG H t11) fun t12 =>
 j54_6 ev L t7 t8 t12 H)
def j54_4 (ev : Ev) (L : Nat) (t7 t8 t10 : AV) (H : Heap) : CR :=
 gd (isBool true t7) (j54_5 ev L t7 t8 undefA H)
 (ob (moveP 0 t10) fun t11 =>
 j54_5 ev L t7 t8 t11 H)
def j54_3 (ev : Ev) (L : Nat) (t7 t8 t9 : AV) (H : Heap) : CR :=
 gd (isBool true t7) (j54_4 ev L t7 t8 undefA H)
 (ob (nilCheckA t9) fun t10 =>
 j54_4 ev L t7 t8 t10 H)
def j54_2 (ev : Ev) (L : Nat) (t0 t7 t8 : AV) (H : Heap) : CR :=
 gd (isBool true t7) (j54_3 ev L t7 t8 undefA H)
 (j54_3 ev L t7 t8 t0 H)
def f54 (ev : Ev) (L : Nat) (t0 t1 : AV) (H : Heap) : CR :=
 ob (binR (some .other) none .geq t1 (.int .i64 0)) fun t6 =>
 gd (isBool true t6) (j54_2 ev L t0 t6 undefA H)
 (j54_2 ev L t0 t6 t1 H)
def q54 : CRun := fun ev L args H => match args with
  | [t0, t1] => f54 ev L t0 t1 H
  | _ => .fail
def j55_0 (ev : Ev) (L : Nat) (t4 : AV) (H : Heap) : CR :=
 .ret t4 H
def j55_4 (ev : Ev) (L : Nat) (t7 t10 : AV) (H : Heap) : CR :=
 ob (pickF t10 (.bool false) t7) fun t11 =>
 j55_0 ev L t11 H
def j55_3 (ev : Ev) (L : Nat) (t7 t8 t9 : AV) (H : Heap) : CR :=
 gd (isBool true t7) (j55_4 ev L t7 undefA H)
 (ck (ev 81 [t8, t9] H) fun t10 H =>
 j55_4 ev L t7 t10 H)
def j55_2 (ev : Ev) (L : Nat) (t3 t7 t8 : AV) (H : Heap) : CR :=
 gd (isBool true t7) (j55_3 ev L t7 t8 undefA H)
 (j55_3 ev L t7 t8 (.fn 82 [] [t3]) H)
def f55 (ev : Ev) (L : Nat) (t0 t1 : AV) (H : Heap) : CR :=
 na H (AV.cells t1) fun t3 H =>
 ob (loadR false 1 noG H t3) fun t5 =>
 ck (ev 80 [t5] H) fun t6 H =>
 gd (isBool true t6) (j55_2 ev L t3 t6 undefA H)
 (j55_2 ev L t3 t6 t0 H)
def q55 : CRun := fun ev L args H => match args with
  | [t0, t1] => f55 ev L t0 t1 H
  | _ => .fail
def j56_0 (ev : Ev) (L : Nat) (H : Heap) : CR :=
 .ret (.bool false) H
def j56_2 (ev : Ev) (L : Nat) (t2 : AV) (H : Heap) : CR :=
 .ret t2 H
def j56_8 (ev : Ev) (L : Nat) (t15 t20 : AV) (H : Heap) : CR :=
 ob (pickF t20 (.bool false) t15) fun t21 =>
 j56_2 ev L t21 H
def j56_7 (ev : Ev) (L : Nat) (t15 t19 : AV) (H : Heap) : CR :=
 gd (isBool true t15) (j56_8 ev L t15 undefA H)
 (ck (ev 56 [t19] H) fun t20 H =>
 j56_8 ev L t15 t20 H)
def j56_6 (ev : Ev) (L : Nat) (t15 t18 : AV) (H : Heap) : CR :=
 gd (isBool true t15) (j56_7 ev L t15 undefA H)
 (ob (loadR true 3 noG H t18) fun t19 =>
 j56_7 ev L t15 t19 H)
def j56_5 (ev : Ev) (L : Nat) (t15 t17 : AV) (H : Heap) : CR :=
 gd (isBool true t15) (j56_6 ev L t15 undefA H)
 (ob (indexSl 3 t17 (.int .i64 1)) fun t18 =>
 j56_6 ev L t15 t18 H)
def j56_4 (ev : Ev) (L : Nat) (t15 t16 : AV) (H : Heap) : CR :=
 gd (isBool true t15) (j56_5 ev L t15 undefA H)
 (ob (loadR false 1 noG H t16) fun t17 =>
 j56_5 ev L t15 t17 H)
def j56_9 (ev : Ev) (L : Nat) (t2 : AV) (H : Heap) : CR :=
 .ret t2 H
def j56_15 (ev : Ev) (L : Nat) (t29 t34 : AV) (H : Heap) : CR :=
 ob (pickF (.bool true) t34 t29) fun t35 =>
 j56_9 ev L t35 H
def j56_14 (ev : Ev) (L : Nat) (t29 t33 : AV) (H : Heap) : CR :=
 gd (isBool false t29) (j56_15 ev L t29 undefA H)
 (ck (ev 56 [t33] H) fun t34 H =>
 j56_15 ev L t29 t34 H)
def j56_13 (ev : Ev) (L : Nat) (t29 t32 : AV) (H : Heap) : CR :=
 gd (isBool false t29) (j56_14 ev L t29 undefA H)
 (ob (loadR true 3 noG H t32) fun t33 =>
 j56_14 ev L t29 t33 H)
def j56_12 (ev : Ev) (L : Nat) (t29 t31 : AV) (H : Heap) : CR :=
 gd (isBool false t29) (j56_13 ev L t29 undefA H)
 (ob (indexSl 3 t31 (.int .i64 1)) fun t32 =>
 j56_13 ev L t29 t32 H)
def j56_11 (ev : Ev) (L : Nat) (t29 t30 : AV) (H : Heap) : CR :=
 gd (isBool false t29) (j56_12 ev L t29 undefA H)
 (ob (loadR false 1 noG H t30) fun t31 =>
 j56_12 ev L t29 t31 H)
def j56_1 (ev : Ev) (L : Nat) (t1 t4 t5 : AV) (H : Heap) : CR :=
 ifK (.ret (.bool true) H)
 (ob (binR (some .other) none .eql t4 (.int .i64 3)) fun t9 =>
 ifK (ob (moveP 2 t1) fun t10 =>
 ob (loadR false 1 noG H t10) fun t11 =>
 ob (indexSl 3 t11 (.int .i64 0)) fun t12 =>
 ob (loadR true 3 noG H t12) fun t13 =>
 ck (ev 56 [t13] H) fun t14 H =>
 gd (isBool true t14) (j56_4 ev L t14 undefA H)
 (ob (moveP 2 t1) fun t16 =>
 j56_4 ev L t14 t16 H))
 (ob (binR (some .other) none .eql t4 (.int .i64 4)) fun t23 =>
 ifK (ob (moveP 2 t1) fun t24 =>
 ob (loadR false 1 noG H t24) fun t25 =>
 ob (indexSl 3 t25 (.int .i64 0)) fun t26 =>
 ob (loadR true 3 noG H t26) fun t27 =>
 ck (ev 56 [t27] H) fun t28 H =>
 gd (isBool false t28) (j56_11 ev L t28 undefA H)
 (ob (moveP 2 t1) fun t30 =>
 j56_11 ev L t28 t30 H))
 (j56_0 ev L H) t23) t9) t5
def f56 (ev : Ev) (L : Nat) (t0 : AV) (H : Heap) : CR :=
 na H (AV.cells t0) fun t1 H =>
 ob (moveP 0 t1) fun t3 =>
 ob (loadR false 1 noG H t3) fun t4 =>
 ob (binR (some .other) none .eql t4 (.int .i64 1)) fun t6 =>
 ifK (j56_1 ev L t1 t4 t6 H)
 (ob (binR (some .other) none .eql t4 (.int .i64 5)) fun t7 =>
 j56_1 ev L t1 t4 t7 H) t6
def q56 : CRun := fun ev L args H => match args with
  | [t0] => f56 ev L t0 H
  | _ => .fail
def j57_0 (ev : Ev) (L : Nat) (t0 : AV) (H : Heap) : CR :=
 obR ((fillR [] []).map fun cs => (.sl H.next 0 0 2 (some 0), H.new (.row cs))) fun t5 H =>
 obR (appendR 2 8 [(.int .i32 0), (.int .i32 0)] false H t5 t0) fun t7 H =>
 .ret t7 H
def f57 (ev : Ev) (L : Nat) (t0 : AV) (H : Heap) : CR :=
 ob (binR (some .slice) none .eql t0 .nils) fun t4 =>
 ifK (.ret .nils H)
 (j57_0 ev L t0 H) t4
def q57 : CRun := fun ev L args H => match args with
  | [t0] => f57 ev L t0 H
  | _ => .fail
def j58_0 (ev : Ev) (L : Nat) (t0 : AV) (H : Heap) : CR :=
 ob (nilCheckA t0) fun t6 =>
 ob (moveP 1 t6) fun t7 =>
 ob (loadR false 1 noG H t7) fun t8 =>
 ob (lenR H t8 .sl) fun t9 =>
 .ret t9 H
def f58 (ev : Ev) (L : Nat) (t0 : AV) (H : Heap) : CR :=
 ob (binR (some .ptr) none .eql t0 .nilp) fun t4 =>
 ifK (.ret (.int .i64 0) H)
 (j58_0 ev L t0 H) t4
def q58 : CRun := fun ev L args H => match args with
  | [t0] => f58 ev L t0 H
  | _ => .fail
def j59_1 (ev : Ev) (L : Nat) (t0 t1 : AV) (H : Heap) : CR :=
 obR ((fillR [(.int .u8 0)] [(0, 1, t1)]).map fun cs => (.sl H.next 0 1 1 (some 1), H.new (.row cs))) fun t20 H =>
 ob (nilCheckA t0) fun t21 =>
 ob (moveP 0 t21) fun t22 =>
 ob (storeR 1 H t22 t20) fun H =>
 ck (ev 61 [t0, (.bool true), (.bool false)] H) fun t24 H =>
 .ret (.tup []) H
def j59_0 (ev : Ev) (L : Nat) (t0 t1 : AV) (H : Heap) : CR :=
 ob (nilCheckA t0) fun t8 =>
 ob (moveP 0 t8) fun t9 =>
 ob (loadR false 1 noG H t9) fun t10 =>
 ob (lenR H t10 .sl) fun t11 =>
 ob (binR (some .other) none .gtr t11 (.int .i64 0)) fun t12 =>
 ifK (ck (ev 61 [t0, (.bool true), (.bool true)] H) fun t14 H =>
 ck (ev 59 [t0, t1] H) fun t17 H =>
 .ret (.tup []) H)
 (j59_1 ev L t0 t1 H) t12
def f59 (ev : Ev) (L : Nat) (t0 t1 : AV) (H : Heap) : CR :=
 ck (ev 83 [t0, t1] H) fun t6 H =>
 ifK (.ret (.tup []) H)
 (j59_0 ev L t0 t1 H) t6
def q59 : CRun := fun ev L args H => match args with
  | [t0, t1] => f59 ev L t0 t1 H
  | _ => .fail
def f60 (ev : Ev) (L : Nat) (t0 : AV) (H : Heap) : CR :=
 ob (nilCheckA t0) fun t5 =>
 ob (moveP 3 t5) fun t6 =>
 ob (loadR false 1 noG H t6) fun t7 =>
 ob (nilCheckA t0) fun t9 =>
 ob (moveP 3 t9) fun t10 =>
 ob (storeR 1 H t10 .nils) fun H =>
 .ret t7 H
def q60 : CRun := fun ev L args H => match args with
  | [t0] => f60 ev L t0 H
  | _ => .fail
def j61_0 (ev : Ev) (L : Nat) (t0 t6 : AV) (H : Heap) : CR :=
 ob (nilCheckA t0) fun t37 =>
 ob (moveP 3 t37) fun t38 =>
 ob (loadR false 1 noG H t38) fun t39 =>
 ob (loadR true 5 noG H t6) fun t40 =>
 ob ((fillR [(.int .i32 0), (.int .i64 0), (.int .i64 0), (.bool false), (.bool false)] [(0, 5, t40)]).map fun cs => .ds 1 cs (some 1)) fun t41 =>
 obR (appendR 5 32 [(.int .i32 0), (.int .i64 0), (.int .i64 0), (.bool false), (.bool false)] false H t39 t41) fun t42 H =>
 ob (nilCheckA t0) fun t43 =>
 ob (moveP 3 t43) fun t44 =>
 ob (storeR 1 H t44 t42) fun H =>
 ob (moveP 2 t6) fun t47 =>
 ob (loadR false 1 noG H t47) fun t48 =>
 ob (nilCheckA t0) fun t49 =>
 ob (moveP 0 t49) fun t50 =>
 ob (storeR 1 H t50 .nils) fun H =>
 sure (againV (loadR false 1 noG H t47) t48)
 (ob (nilCheckA t0) fun t51 =>
 ob (moveP 1 t51) fun t52 =>
 ob (storeR 1 H t52 t48) fun H =>
 .ret (.tup []) H)
def f61 (ev : Ev) (L : Nat) (t0 t1 t2 : AV) (H : Heap) : CR :=
 ob (nilCheckA t0) fun t8 =>
 ob (moveP 1 t8) fun t9 =>
 ob (loadR false 1 noG H t9) fun t10 =>
 ob (nilCheckA t0) fun t12 =>
 ob (moveP 1 t12) fun t13 =>
 ob (loadR false 1 noG H t13) fun t14 =>
 ob (nilCheckA t0) fun t16 =>
 ob (moveP 0 t16) fun t17 =>
 ob (loadR false 1 noG H t17) fun t18 =>
 ob (lenR H t18 .sl) fun t19 =>
 ob (binR (some .other) none .add t14 t19) fun t20 =>
 ob ((fillR [(.int .i32 0), (.int .i64 0), (.int .i64 0), (.bool false), (.bool false)] [(0, 1, (.int .i32 65533)), (1, 1, t10), (2, 1, t20), (3, 1, t1), (4, 1, t2)]).map .agg) fun t23 =>
 na H [(.int .i32 0), (.int .i64 0), (.int .i64 0), (.bool false), (.bool false)] fun t6 H =>
 sure (againV (loadR false 1 noG H t9) t10)
 (sure (againV (loadR false 1 noG H t13) t14)
 (sure (againV (loadR false 1 noG H t17) t18)
 (sure (againV (lenR H t18 .sl) t19)
 (ob (storeR 5 H t6 t23) fun H =>
 ob (unA .not t1) fun t25 =>
 ifK (ob (nilCheckA t0) fun t28 =>
 ob (moveP 0 t28) fun t29 =>
 ob (loadR false 1 noG H t29) fun t30 =>
 ck (ev 84 [t30] H) fun t31 H =>
 ob (extractA 0 t31) fun t32 =>
 ob (extractA 1 t31) fun t33 =>
 ob (moveP 0 t6) fun t34 =>
 ob (storeR 1 H t34 t32) fun H =>
 j61_0 ev L t0 t6 H)
 (j61_0 ev L t0 t6 H) t25))))
def q61 : CRun := fun ev L args H => match args with
  | [t0, t1, t2] => f61 ev L t0 t1 t2 H
  | _ => .fail
def f62 (ev : Ev) (L : Nat) (t0 t1 t2 : AV) (H : Heap) : CR :=
 na H (AV.cells t0) fun t3 H =>
 ob (loadR false 1 noG H t1) fun t6 =>
 ob (loadR false 1 noG H t2) fun t7 =>
 ob (moveP 0 t3) fun t8 =>
 ob (loadR false 1 noG H t8) fun t9 =>
 ck (ev 63 [t6, t7, t9] H) fun t10 H =>
 ob (storeR 1 H t2 t10) fun H =>
 ob (loadR false 1 noG H t2) fun t11 =>
 ob (binR (some .other) none .geq t11 (.int .i64 0)) fun t12 =>
 ob (loadR false 1 noG H t1) fun t13 =>
 ob (loadR false 1 noG H t2) fun t14 =>
 ck ((noPan ev) 64 [t13, t14] H) fun t15 H =>
 sure (againV (loadR false 1 noG H t2) t11)
 (.ret (.tup [t12, t15]) H)
def q62 : CRun := fun ev L args H => match args with
  | [t0, t1, t2] => f62 ev L t0 t1 t2 H
  | _ => .fail
def j63_0 (ev : Ev) (L : Nat) (t0 t1 t2 : AV) (H : Heap) : CR :=
 ob (nilCheckA t0) fun t12 =>
 ob (moveP 0 t12) fun t13 =>
 ob (loadR false 1 noG H t13) fun t14 =>
 ck (ev 86 [t14, t2] H) fun t16 H =>
 ck (ev 85 [t0, t1, t16] H) fun t17 H =>
 .ret t17 H
def f63 (ev : Ev) (L : Nat) (t0 t1 t2 : AV) (H : Heap) : CR :=
 ob (binR (some .ptr) none .eql t0 .nilp) fun t8 =>
 ifK (.ret (.int .i64 (.negSucc 0)) H)
 (j63_0 ev L t0 t1 t2 H) t8
def q63 : CRun := fun ev L args H => match args with
  | [t0, t1, t2] => f63 ev L t0 t1 t2 H
  | _ => .fail
def j64_0 (ev : Ev) (L : Nat) (t0 t1 : AV) (H : Heap) : CR :=
 ob (nilCheckA t0) fun t21 =>
 ob (moveP 2 t21) fun t22 =>
 ob (loadR false 1 noG H t22) fun t23 =>
 ob (indexSl 1 t23 t1) fun t25 =>
 ob (loadR false 1 noG H t25) fun t26 =>
 .ret t26 H
def j64_1 (ev : Ev) (L : Nat) (t0 t1 t19 : AV) (H : Heap) : CR :=
 ifK (.ret (.int .i64 (.negSucc 0)) H)
 (j64_0 ev L t0 t1 H) t19
def j64_11 (ev : Ev) (L : Nat) (t0 t1 t11 t18 : AV) (H : Heap) : CR :=
 ob (pickF (.bool true) t18 t11) fun t19 =>
 j64_1 ev L t0 t1 t19 H
def j64_10 (ev : Ev) (L : Nat) (t0 t1 t11 t12 t17 : AV) (H : Heap) : CR :=
 gd (isBool false t11) (j64_11 ev L t0 t1 t11 undefA H)
 (ob (binR (some .other) none .geq t12 t17) fun t18 =>
 j64_11 ev L t0 t1 t11 t18 H)
def j64_9 (ev : Ev) (L : Nat) (t0 t1 t11 t12 t16 : AV) (H : Heap) : CR :=
 gd (isBool false t11) (j64_10 ev L t0 t1 t11 t12 undefA H)
 (ob (lenR H t16 .sl) fun t17 =>
 j64_10 ev L t0 t1 t11 t12 t17 H)
def j64_8 (ev : Ev) (L : Nat) (t0 t1 t11 t12 t15 : AV) (H : Heap) : CR :=
 gd (isBool false t11) (j64_9 ev L t0 t1 t11 t12 undefA H)
 (ob (loadR false 1 noG H t15) fun t16 =>
 j64_9 ev L t0 t1 t11 t12 t16 H)
def j64_7 (ev : Ev) (L : Nat) (t0 t1 t11 t12 t14 : AV) (H : Heap) : CR :=
 gd (isBool false t11) (j64_8 ev L t0 t1 t11 t12 undefA H)
 (ob (moveP 2 t14) fun t15 =>
 j64_8 ev L t0 t1 t11 t12 t15 H)
def j64_6 (ev : Ev) (L : Nat) (t0 t1 t11 t12 t13 : AV) (H : Heap) : CR :=
 gd (isBool false t11) (j64_7 ev L t0 t1 t11 t12 undefA H)
 (ob (nilCheckA t13) fun t14 =>
 j64_7 ev L t0 t1 t11 t12 t14 H)
def j64_5 (ev : Ev) (L : Nat) (t0 t1 t11 t12 : AV) (H : Heap) : CR :=
 gd (isBool false t11) (j64_6 ev L t0 t1 t11 t12 undefA H)
 (j64_6 ev L t0 t1 t11 t12 t0 H)
def j64_4 (ev : Ev) (L : Nat) (t0 t1 t7 t9 : AV) (H : Heap) : CR :=
 ob (pickF (.bool true) t9 t7) fun t10 =>
 gd (isBool false t10) (j64_5 ev L t0 t1 t10 undefA H)
 (j64_5 ev L t0 t1 t10 t1 H)
def j64_3 (ev : Ev) (L : Nat) (t0 t1 t7 t8 : AV) (H : Heap) : CR :=
 gd (isBool false t7) (j64_4 ev L t0 t1 t7 undefA H)
 (ob (binR (some .other) none .lss t8 (.int .i64 0)) fun t9 =>
 j64_4 ev L t0 t1 t7 t9 H)
def f64 (ev : Ev) (L : Nat) (t0 t1 : AV) (H : Heap) : CR :=
 ob (binR (some .ptr) none .eql t0 .nilp) fun t6 =>
 gd (isBool false t6) (j64_3 ev L t0 t1 t6 undefA H)
 (j64_3 ev L t0 t1 t6 t1 H)
def q64 : CRun := fun ev L args H => match args with
  | [t0, t1] => f64 ev L t0 t1 H
  | _ => .fail
def j65_0 (ev : Ev) (L : Nat) (t0 : AV) (H : Heap) : CR :=
 ob (nilCheckA t0) fun t6 =>
 ob (moveP 0 t6) fun t7 =>
 ob (loadR false 1 noG H t7) fun t8 =>
 ob (lenR H t8 .sl) fun t9 =>
 .ret t9 H
def f65 (ev : Ev) (L : Nat) (t0 : AV) (H : Heap) : CR :=
 ob (binR (some .ptr) none .eql t0 .nilp) fun t4 =>
 ifK (.ret (.int .i64 0) H)
 (j65_0 ev L t0 H) t4
def q65 : CRun := fun ev L args H => match args with
  | [t0] => f65 ev L t0 H
  | _ => .fail
def f66 (ev : Ev) (L : Nat) (t0 t1 : AV) (H : Heap) : CR :=
 ck (ev 68 [t0, t1] H) fun t7 H =>
 ob (binR (some .other) none .geq t7 (.int .i64 0)) fun t8 =>
 .ret t8 H
def q66 : CRun := fun ev L args H => match args with
  | [t0, t1] => f66 ev L t0 t1 H
  | _ => .fail
def f67 (ev : Ev) (L : Nat) (t0 t1 : AV) (H : Heap) : CR :=
 ob (loadR false 1 noG H t1) fun t4 =>
 ob (indexSl 1 t4 t0) fun t6 =>
 ob (loadR false 1 noG H t6) fun t7 =>
 .ret t7 H
def q67 : CRun := fun ev L args H => match args with
  | [t0, t1] => f67 ev L t0 t1 H
  | _ => .fail
def j68_0 (ev : Ev) (L : Nat) (H : Heap) : CR :=
 .ret (.int .i64 (.negSucc 0)) H
def j68_3 (ev : Ev) (L : Nat) (k1 : AV → AV → AV → AV → Heap → CR) (t0 t1 t7 t8 : AV) (H : Heap) : CR :=
 ob (binR (some .other) none .add t8 (.int .i64 1)) fun t18 =>
 k1 t0 t1 t7 t18 H
def j68_2 (ev : Ev) (L : Nat) (k1 : AV → AV → AV → AV → Heap → CR) (t0 t1 t7 t8 : AV) (H : Heap) : CR :=
 ob (indexSl 1 t0 t8) fun t14 =>
 ob (loadR false 1 noG H t14) fun t15 =>
 ob (asCall [t15] t1) fun fa => ck (ev fa.1 fa.2 H) fun t16 H =>
 ifK (.ret t8 H)
 (j68_3 ev L k1 t0 t1 t7 t8 H) t16
def j68_1 (ev : Ev) (L : Nat) (k1 : AV → AV → AV → AV → Heap → CR) (t0 t1 t7 t8 : AV) (H : Heap) : CR :=
 ob (binR (some .other) none .lss t8 t7) fun t9 =>
 ifK (j68_2 ev L k1 t0 t1 t7 t8 H)
 (j68_0 ev L H) t9
def l68_1 (ev : Ev) (L : Nat) : Nat → AV → AV → AV → AV → Heap → CR
  | 0, _, _, _, _, _ => .fail
  | m + 1, t0, t1, t7, t8, H => j68_1 ev L (l68_1 ev L m) t0 t1 t7 t8 H
def f68 (ev : Ev) (L : Nat) (t0 t1 : AV) (H : Heap) : CR :=
 ob (lenR H t0 .sl) fun t7 =>
 l68_1 ev L L t0 t1 t7 (.int .i64 0) H
def q68 : CRun := fun ev L args H => match args with
  | [t0, t1] => f68 ev L t0 t1 H
  | _ => .fail
def j69_0 (ev : Ev) (L : Nat) (t6 : AV) (H : Heap) : CR :=
 .ret t6 H
def j69_8 (ev : Ev) (L : Nat) (t15 t20 : AV) (H : Heap) : CR :=
 ob (pickF t20 (.bool false) t15) fun t21 =>
 j69_0 ev L t21 H
def j69_7 (ev : Ev) (L : Nat) (t15 t19 : AV) (H : Heap) : CR :=
 gd (isBool true t15) (j69_8 ev L t15 undefA H)
 (ob (unA .not t19) fun t20 =>
 j69_8 ev L t15 t20 H)
def j69_6 (ev : Ev) (L : Nat) (t15 t17 t18 : AV) (H : Heap) : CR :=
 gd (isBool true t15) (j69_7 ev L t15 undefA H)
 (ck (ev 21 [t17, t18] H) fun t19 H =>
 j69_7 ev L t15 t19 H)
def j69_5 (ev : Ev) (L : Nat) (t3 t5 t15 t17 : AV) (H : Heap) : CR :=
 gd (isBool true t15) (j69_6 ev L t15 t17 undefA H)
 (j69_6 ev L t15 t17 (.fn 70 [] [t3, t5]) H)
def j69_4 (ev : Ev) (L : Nat) (t3 t5 t15 t16 : AV) (H : Heap) : CR :=
 gd (isBool true t15) (j69_5 ev L t3 t5 t15 undefA H)
 (ob (loadR false 1 noG H t16) fun t17 =>
 j69_5 ev L t3 t5 t15 t17 H)
def j69_3 (ev : Ev) (L : Nat) (t3 t4 t5 t11 t13 : AV) (H : Heap) : CR :=
 ob (pickF t13 (.bool false) t11) fun t14 =>
 gd (isBool true t14) (j69_4 ev L t3 t5 t14 undefA H)
 (ob (moveP 2 t4) fun t16 =>
 j69_4 ev L t3 t5 t14 t16 H)
def j69_2 (ev : Ev) (L : Nat) (t3 t4 t5 t11 t12 : AV) (H : Heap) : CR :=
 gd (isBool true t11) (j69_3 ev L t3 t4 t5 t11 undefA H)
 (ob (binR (some .other) none .leq t12 (.int .i64 12)) fun t13 =>
 j69_3 ev L t3 t4 t5 t11 t13 H)
def f69 (ev : Ev) (L : Nat) (t0 t1 t2 t3 : AV) (H : Heap) : CR :=
 na H (AV.cells t0) fun t4 H =>
 na H (AV.cells t1) fun t5 H =>
 ob (loadR false 1 noG H t2) fun t7 =>
 ob (binR (some .other) none .sub t7 (.int .i64 1)) fun t8 =>
 ob (storeR 1 H t2 t8) fun H =>
 ob (loadR false 1 noG H t2) fun t9 =>
 ob (binR (some .other) none .geq t9 (.int .i64 0)) fun t10 =>
 gd (isBool true t10) (j69_2 ev L t3 t4 t5 t10 undefA H)
 (ob (loadR false 1 noG H t5) fun t12 =>
 j69_2 ev L t3 t4 t5 t10 t12 H)
def q69 : CRun := fun ev L args H => match args with
  | [t0, t1, t2, t3] => f69 ev L t0 t1 t2 t3 H
  | _ => .fail
def f70 (ev : Ev) (L : Nat) (t0 t1 t2 : AV) (H : Heap) : CR :=
 na H (AV.cells t0) fun t3 H =>
 ob (loadR false 1 noG H t1) fun t5 =>
 ob (loadR true 3 noG H t3) fun t6 =>
 ob (loadR false 1 noG H t2) fun t7 =>
 ob (binR (some .other) none .add t7 (.int .i64 1)) fun t8 =>
 ob (asCall [t6, t8] t5) fun fa => ck (ev fa.1 fa.2 H) fun t9 H =>
 ob (unA .not t9) fun t10 =>
 .ret t10 H
def q70 : CRun := fun ev L args H => match args with
  | [t0, t1, t2] => f70 ev L t0 t1 t2 H
  | _ => .fail
def j71_0 (ev : Ev) (L : Nat) (H : Heap) : CR :=
 .ret (.int .i64 (.negSucc 0)) H
def j71_2 (ev : Ev) (L : Nat) (t3 t8 : AV) (H : Heap) : CR :=
 ifK (.ret (.int .i64 2) H)
 (ob (binR (some .other) none .eql t3 (.int .i64 5)) fun t12 =>
 ifK (.ret (.int .i64 1) H)
 (j71_0 ev L H) t12) t8
def j71_1 (ev : Ev) (L : Nat) (t3 t4 : AV) (H : Heap) : CR :=
 ifK (.ret (.int .i64 0) H)
 (ob (binR (some .other) none .eql t3 (.int .i64 3)) fun t9 =>
 ifK (j71_2 ev L t3 t9 H)
 (ob (binR (some .other) none .eql t3 (.int .i64 4)) fun t10 =>
 j71_2 ev L t3 t10 H) t9) t4
def f71 (ev : Ev) (L : Nat) (t0 : AV) (H : Heap) : CR :=
 ob (binR (some .other) none .eql t0 (.int .i64 0)) fun t5 =>
 ifK (j71_1 ev L t0 t5 H)
 (ob (binR (some .other) none .eql t0 (.int .i64 1)) fun t6 =>
 ifK (j71_1 ev L t0 t6 H)
 (ob (binR (some .other) none .eql t0 (.int .i64 2)) fun t7 =>
 j71_1 ev L t0 t7 H) t6) t5
def q71 : CRun := fun ev L args H => match args with
  | [t0] => f71 ev L t0 H
  | _ => .fail
def f72 (ev : Ev) (L : Nat) (t0 : AV) (H : Heap) : CR :=
 na H (AV.cells t0) fun t1 H =>
 ob (loadR true 3 noG H t1) fun t3 =>
 ck (ev 48 [t3] H) fun t4 H =>
 ob (unA .not t4) fun t5 =>
 .ret t5 H
def q72 : CRun := fun ev L args H => match args with
  | [t0] => f72 ev L t0 H
  | _ => .fail
def f73 (ev : Ev) (L : Nat) (t0 : AV) (H : Heap) : CR :=
 ck (ev 88 [t0] H) fun t5 H =>
 ck (ev 87 [t0, t5] H) fun t6 H =>
 .ret t6 H
def q73 : CRun := fun ev L args H => match args with
  | [t0] => f73 ev L t0 H
  | _ => .fail
def j74_1 (ev : Ev) (L : Nat) (t0 : AV) (H : Heap) : CR :=
 .ret t0 H
def j74_0 (ev : Ev) (L : Nat) (t0 t1 : AV) (H : Heap) : CR :=
 ob ((capOf t0).map fun c => .int .i64 (.ofNat c)) fun t10 =>
 ob (lenR H t0 .sl) fun t12 =>
 ob (binR (some .other) none .sub t10 t12) fun t13 =>
 ob (binR (some .other) none .sub t1 t13) fun t14 =>
 ob (binR (some .other) none .gtr t14 (.int .i64 0)) fun t16 =>
 ifK (ob ((capOf t0).map fun c => .int .i64 (.ofNat c)) fun t19 =>
 ob (sliceR noG H (.sl 1) t0 none (some t19) none) fun t20 =>
 obR (appendR 1 8 [(.int .i64 0)] true H t20 t14) fun t22 H =>
 ob (lenR H t0 .sl) fun t24 =>
 ob (sliceR noG H (.sl 1) t22 none (some t24) none) fun t25 =>
 j74_1 ev L t25 H)
 (j74_1 ev L t0 H) t16
def f74 (ev : Ev) (L : Nat) (t0 t1 : AV) (H : Heap) : CR :=
 ob (binR (some .other) none .lss t1 (.int .i64 0)) fun t6 =>
 ifK (thr H (.iface 9 (.str ⟨#[99, 97, 110, 110, 111, 116, 32, 98, 101, 32, 110, 101, 103, 97, 116, 105, 118, 101]⟩)))
 (j74_0 ev L t0 t1 H) t6
def q74 : CRun := fun ev L args H => match args with
  | [t0, t1] => f74 ev L t0 t1 H
  | _ => .fail
def j75_6 (ev : Ev) (L : Nat) (k0 : AV → AV → AV → AV → AV → AV → Heap → CR) (t0 t1 t2 t3 t10 t11 : AV) (H : Heap) : CR :=
 ck (ev 97 [t0, t1, t2, t11] H) fun t99 H =>
 ob (extractA 0 t99) fun t100 =>
 ob (extractA 1 t99) fun t101 =>
 ob (binR (some .other) none .sub t100 t1) fun t105 =>
 ob (binR (some .other) none .sub t2 t100) fun t108 =>
 ob (binR (some .other) none .quo t10 (.int .i64 8)) fun t110 =>
 ob (binR (some .other) none .lss t105 t108) fun t113 =>
 ifK (ob (binR (some .other) none .geq t105 t110) fun t116 =>
 ck (ev 75 [t0, t1, t100, t3] H) fun t121 H =>
 ob (binR (some .other) none .add t100 (.int .i64 1)) fun t123 =>
 k0 t0 t123 t2 t3 t116 t101 H)
 (ob (binR (some .other) none .geq t108 t110) fun t126 =>
 ob (binR (some .other) none .add t100 (.int .i64 1)) fun t129 =>
 ck (ev 75 [t0, t129, t2, t3] H) fun t132 H =>
 k0 t0 t1 t100 t3 t126 t101 H) t113
def j75_9 (ev : Ev) (L : Nat) (k0 : AV → AV → AV → AV → AV → AV → Heap → CR) (t0 t1 t2 t3 t8 t9 t10 t11 t87 : AV) (H : Heap) : CR :=
 ifK (ck (ev 96 [t0, t1, t2, t11] H) fun t92 H =>
 k0 t0 t92 t2 t3 t8 t9 H)
 (j75_6 ev L k0 t0 t1 t2 t3 t10 t11 H) t87
def j75_21 (ev : Ev) (L : Nat) (k0 : AV → AV → AV → AV → AV → AV → Heap → CR) (t0 t1 t2 t3 t8 t9 t10 t11 t75 t86 : AV) (H : Heap) : CR :=
 ob (pickF t86 (.bool false) t75) fun t87 =>
 j75_9 ev L k0 t0 t1 t2 t3 t8 t9 t10 t11 t87 H
def j75_20 (ev : Ev) (L : Nat) (k0 : AV → AV → AV → AV → AV → AV → Heap → CR) (t0 t1 t2 t3 t8 t9 t10 t11 t75 t85 : AV) (H : Heap) : CR :=
 gd (isBool true t75) (j75_21 ev L k0 t0 t1 t2 t3 t8 t9 t10 t11 t75 undefA H)
 (ob (unA .not t85) fun t86 =>
 j75_21 ev L k0 t0 t1 t2 t3 t8 t9 t10 t11 t75 t86 H)
def j75_19 (ev : Ev) (L : Nat) (k0 : AV → AV → AV → AV → AV → AV → Heap → CR) (t0 t1 t2 t3 t8 t9 t10 t11 t75 t80 t84 : AV) (H : Heap) : CR :=
 gd (isBool true t75) (j75_20 ev L k0 t0 t1 t2 t3 t8 t9 t10 t11 t75 undefA H)
 (ck ((noPan ev) 95 [t80, t84] H) fun t85 H =>
 j75_20 ev L k0 t0 t1 t2 t3 t8 t9 t10 t11 t75 t85 H)
def j75_18 (ev : Ev) (L : Nat) (k0 : AV → AV → AV → AV → AV → AV → Heap → CR) (t0 t1 t2 t3 t8 t9 t10 t11 t75 t80 t83 : AV) (H : Heap) : CR :=
 gd (isBool true t75) (j75_19 ev L k0 t0 t1 t2 t3 t8 t9 t10 t11 t75 t80 undefA H)
 (ob (loadR false 1 noG H t83) fun t84 =>
 j75_19 ev L k0 t0 t1 t2 t3 t8 t9 t10 t11 t75 t80 t84 H)
def j75_17 (ev : Ev) (L : Nat) (k0 : AV → AV → AV → AV → AV → AV → Heap → CR) (t0 t1 t2 t3 t8 t9 t10 t11 t75 t80 t81 t82 : AV) (H : Heap) : CR :=
 gd (isBool true t75) (j75_18 ev L k0 t0 t1 t2 t3 t8 t9 t10 t11 t75 t80 undefA H)
 (ob (indexSl 1 t81 t82) fun t83 =>
 j75_18 ev L k0 t0 t1 t2 t3 t8 t9 t10 t11 t75 t80 t83 H)
def j75_16 (ev : Ev) (L : Nat) (k0 : AV → AV → AV → AV → AV → AV → Heap → CR) (t0 t1 t2 t3 t8 t9 t10 t11 t75 t80 t81 : AV) (H : Heap) : CR :=
 gd (isBool true t75) (j75_17 ev L k0 t0 t1 t2 t3 t8 t9 t10 t11 t75 t80 t81 undefA H)
 (j75_17 ev L k0 t0 t1 t2 t3 t8 t9 t10 t11 t75 t80 t81 t11 H)
def j75_15 (ev : Ev) (L : Nat) (k0 : AV → AV → AV → AV → AV → AV → Heap → CR) (t0 t1 t2 t3 t8 t9 t10 t11 t75 t80 : AV) (H : Heap) : CR :=
 gd (isBool true t75) (j75_16 ev L k0 t0 t1 t2 t3 t8 t9 t10 t11 t75 t80 undefA H)
 (j75_16 ev L k0 t0 t1 t2 t3 t8 t9 t10 t11 t75 t80 t0 H)
def j75_14 (ev : Ev) (L : Nat) (k0 : AV → AV → AV → AV → AV → AV → Heap → CR) (t0 t1 t2 t3 t8 t9 t10 t11 t75 t79 : AV) (H : Heap) : CR :=
 gd (isBool true t75) (j75_15 ev L k0 t0 t1 t2 t3 t8 t9 t10 t11 t75 undefA H)
 (ob (loadR false 1 noG H t79) fun t80 =>
 j75_15 ev L k0 t0 t1 t2 t3 t8 t9 t10 t11 t75 t80 H)
def j75_13 (ev : Ev) (L : Nat) (k0 : AV → AV → AV → AV → AV → AV → Heap → CR) (t0 t1 t2 t3 t8 t9 t10 t11 t75 t76 t78 : AV) (H : Heap) : CR :=
 gd (isBool true t75) (j75_14 ev L k0 t0 t1 t2 t3 t8 t9 t10 t11 t75 undefA H)
 (ob (indexSl 1 t76 t78) fun t79 =>
 j75_14 ev L k0 t0 t1 t2 t3 t8 t9 t10 t11 t75 t79 H)
def j75_12 (ev : Ev) (L : Nat) (k0 : AV → AV → AV → AV → AV → AV → Heap → CR) (t0 t1 t2 t3 t8 t9 t10 t11 t75 t76 t77 : AV) (H : Heap) : CR :=
 gd (isBool true t75) (j75_13 ev L k0 t0 t1 t2 t3 t8 t9 t10 t11 t75 t76 undefA H)
 (ob (binR (some .other) none .sub t77 (.int .i64 1)) fun t78 =>
 j75_13 ev L k0 t0 t1 t2 t3 t8 t9 t10 t11 t75 t76 t78 H)
def j75_11 (ev : Ev) (L : Nat) (k0 : AV → AV → AV → AV → AV → AV → Heap → CR) (t0 t1 t2 t3 t8 t9 t10 t11 t75 t76 : AV) (H : Heap) : CR :=
 gd (isBool true t75) (j75_12 ev L k0 t0 t1 t2 t3 t8 t9 t10 t11 t75 t76 undefA H)
 (j75_12 ev L k0 t0 t1 t2 t3 t8 t9 t10 t11 t75 t76 t1 H)
def j75_5 (ev : Ev) (L : Nat) (k0 : AV → AV → AV → AV → AV → AV → Heap → CR) (t0 t1 t2 t3 t8 t9 t10 t11 : AV) (H : Heap) : CR :=
 ob (binR (some .other) none .gtr t1 (.int .i64 0)) fun t74 =>
 gd (isBool true t74) (j75_11 ev L k0 t0 t1 t2 t3 t8 t9 t10 t11 t74 undefA H)
 (j75_11 ev L k0 t0 t1 t2 t3 t8 t9 t10 t11 t74 t0 H)
def j75_22 (ev : Ev) (L : Nat) (k0 : AV → AV → AV → AV → AV → AV → Heap → CR) (t0 t1 t2 t3 t8 t9 t10 t11 t68 : AV) (H : Heap) : CR :=
 ifK (ck (ev 94 [t0, t1, t2] H) fun t72 H =>
 ifK (.ret (.tup []) H)
 (j75_5 ev L k0 t0 t1 t2 t3 t8 t9 t10 t11 H) t72)
 (j75_5 ev L k0 t0 t1 t2 t3 t8 t9 t10 t11 H) t68
def j75_26 (ev : Ev) (L : Nat) (k0 : AV → AV → AV → AV → AV → AV → Heap → CR) (t0 t1 t2 t3 t8 t9 t10 t11 t65 t67 : AV) (H : Heap) : CR :=
 ob (pickF t67 (.bool false) t65) fun t68 =>
 j75_22 ev L k0 t0 t1 t2 t3 t8 t9 t10 t11 t68 H
def j75_25 (ev : Ev) (L : Nat) (k0 : AV → AV → AV → AV → AV → AV → Heap → CR) (t0 t1 t2 t3 t8 t9 t10 t11 t65 t66 : AV) (H : Heap) : CR :=
 gd (isBool true t65) (j75_26 ev L k0 t0 t1 t2 t3 t8 t9 t10 t11 t65 undefA H)
 (ob (binR (some .other) none .eql t66 (.int .i64 1)) fun t67 =>
 j75_26 ev L k0 t0 t1 t2 t3 t8 t9 t10 t11 t65 t67 H)
def j75_24 (ev : Ev) (L : Nat) (k0 : AV → AV → AV → AV → AV → AV → Heap → CR) (t0 t1 t2 t3 t8 t9 t10 t11 t12 t62 t63 : AV) (H : Heap) : CR :=
 ob (pickF t63 (.bool false) t62) fun t64 =>
 gd (isBool true t64) (j75_25 ev L k0 t0 t1 t2 t3 t8 t9 t10 t11 t64 undefA H)
 (j75_25 ev L k0 t0 t1 t2 t3 t8 t9 t10 t11 t64 t12 H)
def j75_4 (ev : Ev) (L : Nat) (k0 : AV → AV → AV → AV → AV → AV → Heap → CR) (t0 t1 t2 t3 t8 t9 t10 t11 t12 : AV) (H : Heap) : CR :=
 gd (isBool true t8) (j75_24 ev L k0 t0 t1 t2 t3 t8 t9 t10 t11 t12 t8 undefA H)
 (j75_24 ev L k0 t0 t1 t2 t3 t8 t9 t10 t11 t12 t8 t9 H)
def j75_3 (ev : Ev) (L : Nat) (k0 : AV → AV → AV → AV → AV → AV → Heap → CR) (t0 t1 t2 t3 t8 t9 t10 : AV) (H : Heap) : CR :=
 ck (ev 92 [t0, t1, t2] H) fun t46 H =>
 ob (extractA 0 t46) fun t47 =>
 ob (extractA 1 t46) fun t48 =>
 ob (binR (some .other) none .eql t48 (.int .i64 2)) fun t50 =>
 ifK (ck (ev 93 [t0, t1, t2] H) fun t54 H =>
 ob (binR (some .other) none .sub t2 (.int .i64 1)) fun t56 =>
 ob (binR (some .other) none .sub t47 t1) fun t59 =>
 ob (binR (some .other) none .sub t56 t59) fun t60 =>
 j75_4 ev L k0 t0 t1 t2 t3 t8 t9 t10 t60 (.int .i64 1) H)
 (j75_4 ev L k0 t0 t1 t2 t3 t8 t9 t10 t47 t48 H) t50
def j75_2 (ev : Ev) (L : Nat) (k0 : AV → AV → AV → AV → AV → AV → Heap → CR) (t0 t1 t2 t3 t8 t9 t10 : AV) (H : Heap) : CR :=
 ob (unA .not t8) fun t35 =>
 ifK (ck (ev 91 [t0, t1, t2] H) fun t39 H =>
 ob (binR (some .other) none .sub t3 (.int .i64 1)) fun t41 =>
 j75_3 ev L k0 t0 t1 t2 t41 t8 t9 t10 H)
 (j75_3 ev L k0 t0 t1 t2 t3 t8 t9 t10 H) t35
def j75_1 (ev : Ev) (L : Nat) (k0 : AV → AV → AV → AV → AV → AV → Heap → CR) (t0 t1 t2 t3 t8 t9 t10 : AV) (H : Heap) : CR :=
 ob (binR (some .other) none .eql t3 (.int .i64 0)) fun t29 =>
 ifK (ck (ev 90 [t0, t1, t2] H) fun t33 H =>
 .ret (.tup []) H)
 (j75_2 ev L k0 t0 t1 t2 t3 t8 t9 t10 H) t29
def j75_0 (ev : Ev) (L : Nat) (k0 : AV → AV → AV → AV → AV → AV → Heap → CR) (t0 t1 t2 t3 t8 t9 : AV) (H : Heap) : CR :=
 ob (binR (some .other) none .sub t2 t1) fun t21 =>
 ob (binR (some .other) none .leq t21 (.int .i64 12)) fun t23 =>
 ifK (ck (ev 89 [t0, t1, t2] H) fun t27 H =>
 .ret (.tup []) H)
 (j75_1 ev L k0 t0 t1 t2 t3 t8 t9 t21 H) t23
def l75_0 (ev : Ev) (L : Nat) : Nat → AV → AV → AV → AV → AV → AV → Heap → CR
  | 0, _, _, _, _, _, _, _ => .fail
  | m + 1, t0, t1, t2, t3, t8, t9, H => j75_0 ev L (l75_0 ev L m) t0 t1 t2 t3 t8 t9 H
def f75 (ev : Ev) (L : Nat) (t0 t1 t2 t3 : AV) (H : Heap) : CR :=
 l75_0 ev L L t0 t1 t2 t3 (.bool true) (.bool true) H
def q75 : CRun := fun ev L args H => match args with
  | [t0, t1, t2, t3] => f75 ev L t0 t1 t2 t3 H
  | _ => .fail
def j76_0 (ev : Ev) (L : Nat) (t0 : AV) (H : Heap) : CR :=
 ck (ev 99 [t0] H) fun t7 H =>
 .ret t7 H
def f76 (ev : Ev) (L : Nat) (t0 : AV) (H : Heap) : CR :=
 ifK (obR (convR H t0 (.int .u32)) fun t4 H =>
 ck (ev 98 [t4] H) fun t5 H =>
 .ret t5 H)
 (j76_0 ev L t0 H) (.bool false)
def q76 : CRun := fun ev L args H => match args with
  | [t0] => f76 ev L t0 H
  | _ => .fail
def j77_1 (ev : Ev) (L : Nat) (t7 : AV) (H : Heap) : CR :=
 .ret t7 H
def j77_4 (ev : Ev) (L : Nat) (k2 : AV → AV → AV → AV → Heap → CR) (t7 t43 t44 t45 : AV) (H : Heap) : CR :=
 ob (binR (some .other) none .add t45 (.int .i64 1)) fun t82 =>
 k2 t7 t43 t44 t82 H
def j77_6 (ev : Ev) (L : Nat) (k2 : AV → AV → AV → AV → Heap → CR) (t7 t9 t10 t43 t44 t45 t63 : AV) (H : Heap) : CR :=
 ifK (ob (binR (some .other) none .sub t10 (.int .i64 1)) fun t66 =>
 ob (binR (some .other) none .sub t10 (.int .i64 1)) fun t69 =>
 ob (indexSl 2 t7 t69) fun t70 =>
 ob (moveP 1 t70) fun t71 =>
 ob (loadR false 1 noG H t71) fun t72 =>
 ob (moveP 1 t9) fun t73 =>
 ob (loadR false 1 noG H t73) fun t74 =>
 ob (maxA t72 t74) fun t75 =>
 ob (indexSl 2 t7 t66) fun t76 =>
 ob (moveP 1 t76) fun t77 =>
 ob (storeR 1 H t77 t75) fun H =>
 j77_4 ev L k2 t7 t43 t44 t45 H)
 (ob (loadR true 2 noG H t9) fun t79 =>
 obR ((fillR [(.int .i64 0), (.int .i64 0)] [(0, 2, t79)]).map fun cs => (.sl H.next 0 1 2 (some 1), H.new (.row cs))) fun t80 H =>
 obR (appendR 2 16 [(.int .i64 0), (.int .i64 0)] false H t7 t80) fun t81 H =>
 j77_4 ev L k2 t81 t43 t44 t45 H) t63
def j77_18 (ev : Ev) (L : Nat) (k2 : AV → AV → AV → AV → Heap → CR) (t7 t9 t10 t43 t44 t45 t53 t62 : AV) (H : Heap) : CR :=
 ob (pickF t62 (.bool false) t53) fun t63 =>
 j77_6 ev L k2 t7 t9 t10 t43 t44 t45 t63 H
def j77_17 (ev : Ev) (L : Nat) (k2 : AV → AV → AV → AV → Heap → CR) (t7 t9 t10 t43 t44 t45 t53 t55 t61 : AV) (H : Heap) : CR :=
 gd (isBool true t53) (j77_18 ev L k2 t7 t9 t10 t43 t44 t45 t53 undefA H)
 (ob (binR (some .other) none .leq t55 t61) fun t62 =>
 j77_18 ev L k2 t7 t9 t10 t43 t44 t45 t53 t62 H)
def j77_16 (ev : Ev) (L : Nat) (k2 : AV → AV → AV → AV → Heap → CR) (t7 t9 t10 t43 t44 t45 t53 t55 t60 : AV) (H : Heap) : CR :=
 gd (isBool true t53) (j77_17 ev L k2 t7 t9 t10 t43 t44 t45 t53 t55 undefA H)
 (ob (loadR false 1 noG H t60) fun t61 =>
 j77_17 ev L k2 t7 t9 t10 t43 t44 t45 t53 t55 t61 H)
def j77_15 (ev : Ev) (L : Nat) (k2 : AV → AV → AV → AV → Heap → CR) (t7 t9 t10 t43 t44 t45 t53 t55 t59 : AV) (H : Heap) : CR :=
 gd (isBool true t53) (j77_16 ev L k2 t7 t9 t10 t43 t44 t45 t53 t55 undefA H)
 (ob (moveP 1 t59) fun t60 =>
 j77_16 ev L k2 t7 t9 t10 t43 t44 t45 t53 t55 t60 H)
def j77_14 (ev : Ev) (L : Nat) (k2 : AV → AV → AV → AV → Heap → CR) (t7 t9 t10 t43 t44 t45 t53 t55 t56 t58 : AV) (H : Heap) : CR :=
 gd (isBool true t53) (j77_15 ev L k2 t7 t9 t10 t43 t44 t45 t53 t55 undefA H)
 (ob (indexSl 2 t56 t58) fun t59 =>
 j77_15 ev L k2 t7 t9 t10 t43 t44 t45 t53 t55 t59 H)
def j77_13 (ev : Ev) (L : Nat) (k2 : AV → AV → AV → AV → Heap → CR) (t7 t9 t10 t43 t44 t45 t53 t55 t56 t57 : AV) (H : Heap) : CR :=
 gd (isBool true t53) (j77_14 ev L k2 t7 t9 t10 t43 t44 t45 t53 t55 t56 undefA H)
 (ob (binR (some .other) none .sub t57 (.int .i64 1)) fun t58 =>
 j77_14 ev L k2 t7 t9 t10 t43 t44 t45 t53 t55 t56 t58 H)
def j77_12 (ev : Ev) (L : Nat) (k2 : AV → AV → AV → AV → Heap → CR) (t7 t9 t10 t43 t44 t45 t53 t55 t56 : AV) (H : Heap) : CR :=
 gd (isBool true t53) (j77_13 ev L k2 t7 t9 t10 t43 t44 t45 t53 t55 t56 undefA H)
 (j77_13 ev L k2 t7 t9 t10 t43 t44 t45 t53 t55 t56 t10 H)
def j77_11 (ev : Ev) (L : Nat) (k2 : AV → AV → AV → AV → Heap → CR) (t7 t9 t10 t43 t44 t45 t53 t55 : AV) (H : Heap) : CR :=
 gd (isBool true t53) (j77_12 ev L k2 t7 t9 t10 t43 t44 t45 t53 t55 undefA H)
 (j77_12 ev L k2 t7 t9 t10 t43 t44 t45 t53 t55 t7 H)
def j77_10 (ev : Ev) (L : Nat) (k2 : AV → AV → AV → AV → Heap → CR) (t7 t9 t10 t43 t44 t45 t53 t54 : AV) (H : Heap) : CR :=
 gd (isBool true t53) (j77_11 ev L k2 t7 t9 t10 t43 t44 t45 t53 undefA H)
 (ob (loadR false 1 noG H t54) fun t55 =>
 j77_11 ev L k2 t7 t9 t10 t43 t44 t45 t53 t55 H)
def j77_3 (ev : Ev) (L : Nat) (k2 : AV → AV → AV → AV → Heap → CR) (t7 t43 t44 t45 : AV) (H : Heap) : CR :=
 ob (indexSl 2 t43 t45) fun t47 =>
 ob (loadR true 2 noG H t47) fun t48 =>
 na H [(.int .i64 0), (.int .i64 0)] fun t9 H =>
 ob (storeR 2 H t9 t48) fun H =>
 ob (lenR H t7 .sl) fun t50 =>
 ob (binR (some .other) none .gtr t50 (.int .i64 0)) fun t52 =>
 gd (isBool true t52) (j77_10 ev L k2 t7 t9 t50 t43 t44 t45 t52 undefA H)
 (ob (moveP 0 t9) fun t54 =>
 j77_10 ev L k2 t7 t9 t50 t43 t44 t45 t52 t54 H)
def j77_2 (ev : Ev) (L : Nat) (k2 : AV → AV → AV → AV → Heap → CR) (t7 t43 t44 t45 : AV) (H : Heap) : CR :=
 ob (binR (some .other) none .lss t45 t44) fun t46 =>
 ifK (j77_3 ev L k2 t7 t43 t44 t45 H)
 (j77_1 ev L t7 H) t46
def l77_2 (ev : Ev) (L : Nat) : Nat → AV → AV → AV → AV → Heap → CR
  | 0, _, _, _, _, _ => .fail
  | m + 1, t7, t43, t44, t45, H => j77_2 ev L (l77_2 ev L m) t7 t43 t44 t45 H
def j77_0 (ev : Ev) (L : Nat) (t3 : AV) (H : Heap) : CR :=
 ck (ev 102 [t3, (.fn 103 [] [])] H) fun t42 H =>
 ob (lenR H t3 .sl) fun t44 =>
 l77_2 ev L L .nils t3 t44 (.int .i64 0) H
def j77_21 (ev : Ev) (L : Nat) (k19 : AV → AV → AV → AV → Heap → CR) (t3 t11 t12 t13 : AV) (H : Heap) : CR :=
 ob (binR (some .other) none .add t13 (.int .i64 1)) fun t40 =>
 k19 t3 t11 t12 t40 H
def j77_23 (ev : Ev) (L : Nat) (k19 : AV → AV → AV → AV → Heap → CR) (t3 t6 t11 t12 t13 t35 : AV) (H : Heap) : CR :=
 ifK (ob (loadR true 2 noG H t6) fun t37 =>
 obR ((fillR [(.int .i64 0), (.int .i64 0)] [(0, 2, t37)]).map fun cs => (.sl H.next 0 1 2 (some 1), H.new (.row cs))) fun t38 H =>
 obR (appendR 2 16 [(.int .i64 0), (.int .i64 0)] false H t3 t38) fun t39 H =>
 j77_21 ev L k19 t39 t11 t12 t13 H)
 (j77_21 ev L k19 t3 t11 t12 t13 H) t35
def j77_30 (ev : Ev) (L : Nat) (k19 : AV → AV → AV → AV → Heap → CR) (t3 t6 t11 t12 t13 t29 t34 : AV) (H : Heap) : CR :=
 ob (pickF t34 (.bool false) t29) fun t35 =>
 j77_23 ev L k19 t3 t6 t11 t12 t13 t35 H
def j77_29 (ev : Ev) (L : Nat) (k19 : AV → AV → AV → AV → Heap → CR) (t3 t6 t11 t12 t13 t29 t31 t33 : AV) (H : Heap) : CR :=
 gd (isBool true t29) (j77_30 ev L k19 t3 t6 t11 t12 t13 t29 undefA H)
 (ob (binR (some .other) none .lss t31 t33) fun t34 =>
 j77_30 ev L k19 t3 t6 t11 t12 t13 t29 t34 H)
def j77_28 (ev : Ev) (L : Nat) (k19 : AV → AV → AV → AV → Heap → CR) (t3 t6 t11 t12 t13 t29 t31 t32 : AV) (H : Heap) : CR :=
 gd (isBool true t29) (j77_29 ev L k19 t3 t6 t11 t12 t13 t29 t31 undefA H)
 (ob (loadR false 1 noG H t32) fun t33 =>
 j77_29 ev L k19 t3 t6 t11 t12 t13 t29 t31 t33 H)
def j77_27 (ev : Ev) (L : Nat) (k19 : AV → AV → AV → AV → Heap → CR) (t3 t6 t11 t12 t13 t29 t31 : AV) (H : Heap) : CR :=
 gd (isBool true t29) (j77_28 ev L k19 t3 t6 t11 t12 t13 t29 t31 undefA H)
 (ob (moveP 1 t6) fun t32 =>
 j77_28 ev L k19 t3 t6 t11 t12 t13 t29 t31 t32 H)
def j77_26 (ev : Ev) (L : Nat) (k19 : AV → AV → AV → AV → Heap → CR) (t3 t6 t11 t12 t13 t29 t30 : AV) (H : Heap) : CR :=
 gd (isBool true t29) (j77_27 ev L k19 t3 t6 t11 t12 t13 t29 undefA H)
 (ob (loadR false 1 noG H t30) fun t31 =>
 j77_27 ev L k19 t3 t6 t11 t12 t13 t29 t31 H)
def j77_20 (ev : Ev) (L : Nat) (k19 : AV → AV → AV → AV → Heap → CR) (t3 t11 t12 t13 : AV) (H : Heap) : CR :=
 ob (indexSl 2 t11 t13) fun t15 =>
 ob (loadR true 2 noG H t15) fun t16 =>
 na H [(.int .i32 0), (.int .i32 0)] fun t5 H =>
 ob (storeR 2 H t5 t16) fun H =>
 ob (moveP 0 t5) fun t17 =>
 ob (loadR false 1 noG H t17) fun t18 =>
 ob (moveP 1 t5) fun t20 =>
 ob (loadR false 1 noG H t20) fun t21 =>
 ck ((noPan ev) 100 [t18] H) fun t19 H =>
 sure (againV (loadR false 1 noG H t20) t21)
 (ck ((noPan ev) 101 [t21] H) fun t22 H =>
 ob ((fillR [(.int .i64 0), (.int .i64 0)] [(0, 1, t19), (1, 1, t22)]).map .agg) fun t23 =>
 na H [(.int .i64 0), (.int .i64 0)] fun t6 H =>
 sure (againV (loadR false 1 noG H t17) t18)
 (sure (againV (loadR false 1 noG H t20) t21)
 (ob (storeR 2 H t6 t23) fun H =>
 ob (moveP 0 t5) fun t24 =>
 ob (loadR false 1 noG H t24) fun t25 =>
 ob (moveP 1 t5) fun t26 =>
 ob (loadR false 1 noG H t26) fun t27 =>
 ob (binR (some .other) none .leq t25 t27) fun t28 =>
 gd (isBool true t28) (j77_26 ev L k19 t3 t6 t11 t12 t13 t28 undefA H)
 (ob (moveP 0 t6) fun t30 =>
 j77_26 ev L k19 t3 t6 t11 t12 t13 t28 t30 H))))
def j77_19 (ev : Ev) (L : Nat) (k19 : AV → AV → AV → AV → Heap → CR) (t3 t11 t12 t13 : AV) (H : Heap) : CR :=
 ob (binR (some .other) none .lss t13 t12) fun t14 =>
 ifK (j77_20 ev L k19 t3 t11 t12 t13 H)
 (j77_0 ev L t3 H) t14
def l77_19 (ev : Ev) (L : Nat) : Nat → AV → AV → AV → AV → Heap → CR
  | 0, _, _, _, _, _ => .fail
  | m + 1, t3, t11, t12, t13, H => j77_19 ev L (l77_19 ev L m) t3 t11 t12 t13 H
def f77 (ev : Ev) (L : Nat) (t0 : AV) (H : Heap) : CR :=
 ob (lenR H t0 .sl) fun t12 =>
 l77_19 ev L L .nils t0 t12 (.int .i64 0) H
def q77 : CRun := fun ev L args H => match args with
  | [t0] => f77 ev L t0 H
  | _ => .fail
def j78_0 (ev : Ev) (L : Nat) (t3 : AV) (H : Heap) : CR :=
 .ret t3 H
def j78_3 (ev : Ev) (L : Nat) (k1 : AV → AV → AV → AV → Heap → CR) (t3 t6 t7 t8 : AV) (H : Heap) : CR :=
 ob (binR (some .other) none .add t8 (.int .i64 1)) fun t23 =>
 k1 t3 t6 t7 t23 H
def j78_2 (ev : Ev) (L : Nat) (k1 : AV → AV → AV → AV → Heap → CR) (t3 t6 t7 t8 : AV) (H : Heap) : CR :=
 ob (indexSl 2 t6 t8) fun t10 =>
 ob (loadR true 2 noG H t10) fun t11 =>
 na H [(.int .i64 0), (.int .i64 0)] fun t5 H =>
 ob (storeR 2 H t5 t11) fun H =>
 ob (moveP 0 t5) fun t13 =>
 ob (loadR false 1 noG H t13) fun t14 =>
 ob (moveP 1 t5) fun t16 =>
 ob (loadR false 1 noG H t16) fun t17 =>
 ob (binR (some .other) none .sub t17 (.int .i64 1)) fun t18 =>
 ck ((noPan ev) 105 [t14] H) fun t15 H =>
 sure (againV (loadR false 1 noG H t16) t17)
 (ck ((noPan ev) 105 [t18] H) fun t19 H =>
 ob ((fillR [(.int .i32 0), (.int .i32 0)] [(0, 1, t15), (1, 1, t19)]).map .agg) fun t20 =>
 ob ((fillR [(.int .i32 0), (.int .i32 0)] [(0, 2, t20)]).map fun cs => .ds 1 cs (some 1)) fun t21 =>
 obR (appendR 2 8 [(.int .i32 0), (.int .i32 0)] false H t3 t21) fun t22 H =>
 j78_3 ev L k1 t22 t6 t7 t8 H)
def j78_1 (ev : Ev) (L : Nat) (k1 : AV → AV → AV → AV → Heap → CR) (t3 t6 t7 t8 : AV) (H : Heap) : CR :=
 ob (binR (some .other) none .lss t8 t7) fun t9 =>
 ifK (j78_2 ev L k1 t3 t6 t7 t8 H)
 (j78_0 ev L t3 H) t9
def l78_1 (ev : Ev) (L : Nat) : Nat → AV → AV → AV → AV → Heap → CR
  | 0, _, _, _, _, _ => .fail
  | m + 1, t3, t6, t7, t8, H => j78_1 ev L (l78_1 ev L m) t3 t6 t7 t8 H
def f78 (ev : Ev) (L : Nat) (t0 : AV) (H : Heap) : CR :=
 ob (lenR H t0 .sl) fun t7 =>
 l78_1 ev L L .nils t0 t7 (.int .i64 0) H
def q78 : CRun := fun ev L args H => match args with
  | [t0] => f78 ev L t0 H
  | _ => .fail
def j79_0 (ev : Ev) (L : Nat) (t0 t2 t7 : AV) (H : Heap) : CR :=
 ck (ev 106 [t0, t7, t2] H) fun t20 H =>
 .ret t20 H
def f79 (ev : Ev) (L : Nat) (t0 t1 t2 : AV) (H : Heap) : CR :=
 obR (convR H t1 (.int .u64)) fun t9 H =>
 ob (binR (some .other) none .lss t1 (.int .i64 0)) fun t11 =>
 ifK (obR ((fillR [(.int .u8 0)] [(0, 1, (.int .u8 45))]).map fun cs => (.sl H.next 0 1 1 (some 1), H.new (.row cs))) fun t13 H =>
 obR (appendR 1 1 [(.int .u8 0)] false H t0 t13) fun t14 H =>
 ob (unA .neg t9) fun t16 =>
 j79_0 ev L t14 t2 t16 H)
 (j79_0 ev L t0 t2 t9 H) t11
def q79 : CRun := fun ev L args H => match args with
  | [t0, t1, t2] => f79 ev L t0 t1 t2 H
  | _ => .fail
def j80_0 (ev : Ev) (L : Nat) (t2 : AV) (H : Heap) : CR :=
 .ret t2 H
def j80_9 (ev : Ev) (L : Nat) (t9 t15 : AV) (H : Heap) : CR :=
 ob (pickF (.bool true) t15 t9) fun t16 =>
 j80_0 ev L t16 H
def j80_8 (ev : Ev) (L : Nat) (t9 t12 t14 : AV) (H : Heap) : CR :=
 gd (isBool false t9) (j80_9 ev L t9 undefA H)
 (ob (pickF t14 (.bool false) t12) fun t15 =>
 j80_9 ev L t9 t15 H)
def j80_7 (ev : Ev) (L : Nat) (t9 t12 t13 : AV) (H : Heap) : CR :=
 gd (isBool true t12) (j80_8 ev L t9 t12 undefA H)
 (ob (binR (some .other) none .leq t13 (.int .i32 1114111)) fun t14 =>
 j80_8 ev L t9 t12 t14 H)
def j80_6 (ev : Ev) (L : Nat) (t0 t9 t12 : AV) (H : Heap) : CR :=
 gd (isBool true t12) (j80_7 ev L t9 t12 undefA H)
 (j80_7 ev L t9 t12 t0 H)
def j80_5 (ev : Ev) (L : Nat) (t0 t9 t11 : AV) (H : Heap) : CR :=
 gd (isBool false t9) (j80_6 ev L t0 t9 undefA H)
 (j80_6 ev L t0 t9 t11 H)
def j80_4 (ev : Ev) (L : Nat) (t0 t9 t10 : AV) (H : Heap) : CR :=
 gd (isBool false t9) (j80_5 ev L t0 t9 undefA H)
 (ob (binR (some .other) none .gtr t10 (.int .i32 57343)) fun t11 =>
 j80_5 ev L t0 t9 t11 H)
def j80_3 (ev : Ev) (L : Nat) (t0 t5 t7 : AV) (H : Heap) : CR :=
 ob (pickF t7 (.bool false) t5) fun t8 =>
 gd (isBool false t8) (j80_4 ev L t0 t8 undefA H)
 (j80_4 ev L t0 t8 t0 H)
def j80_2 (ev : Ev) (L : Nat) (t0 t5 t6 : AV) (H : Heap) : CR :=
 gd (isBool true t5) (j80_3 ev L t0 t5 undefA H)
 (ob (binR (some .other) none .lss t6 (.int .i32 55296)) fun t7 =>
 j80_3 ev L t0 t5 t7 H)
def f80 (ev : Ev) (L : Nat) (t0 : AV) (H : Heap) : CR :=
 ob (binR (some .other) none .geq t0 (.int .i32 0)) fun t4 =>
 gd (isBool true t4) (j80_2 ev L t0 t4 undefA H)
 (j80_2 ev L t0 t4 t0 H)
def q80 : CRun := fun ev L args H => match args with
  | [t0] => f80 ev L t0 H
  | _ => .fail
def f81 (ev : Ev) (L : Nat) (t0 t1 : AV) (H : Heap) : CR :=
 ck (ev 107 [t0, t1] H) fun t7 H =>
 ob (binR (some .other) none .geq t7 (.int .i64 0)) fun t8 =>
 .ret t8 H
def q81 : CRun := fun ev L args H => match args with
  | [t0, t1] => f81 ev L t0 t1 H
  | _ => .fail
def j82_0 (ev : Ev) (L : Nat) (t3 : AV) (H : Heap) : CR :=
 .ret t3 H
def j82_5 (ev : Ev) (L : Nat) (t8 t12 : AV) (H : Heap) : CR :=
 ob (pickF t12 (.bool false) t8) fun t13 =>
 j82_0 ev L t13 H
def j82_4 (ev : Ev) (L : Nat) (t8 t9 t11 : AV) (H : Heap) : CR :=
 gd (isBool true t8) (j82_5 ev L t8 undefA H)
 (ob (binR (some .other) none .leq t9 t11) fun t12 =>
 j82_5 ev L t8 t12 H)
def j82_3 (ev : Ev) (L : Nat) (t8 t9 t10 : AV) (H : Heap) : CR :=
 gd (isBool true t8) (j82_4 ev L t8 t9 undefA H)
 (ob (loadR false 1 noG H t10) fun t11 =>
 j82_4 ev L t8 t9 t11 H)
def j82_2 (ev : Ev) (L : Nat) (t2 t8 t9 : AV) (H : Heap) : CR :=
 gd (isBool true t8) (j82_3 ev L t8 t9 undefA H)
 (ob (moveP 1 t2) fun t10 =>
 j82_3 ev L t8 t9 t10 H)
def f82 (ev : Ev) (L : Nat) (t0 t1 : AV) (H : Heap) : CR :=
 na H (AV.cells t0) fun t2 H =>
 ob (moveP 0 t2) fun t4 =>
 ob (loadR false 1 noG H t4) fun t5 =>
 ob (loadR false 1 noG H t1) fun t6 =>
 ob (binR (some .other) none .leq t5 t6) fun t7 =>
 gd (isBool true t7) (j82_2 ev L t2 t7 undefA H)
 (ob (loadR false 1 noG H t1) fun t9 =>
 j82_2 ev L t2 t7 t9 H)
def q82 : CRun := fun ev L args H => match args with
  | [t0, t1] => f82 ev L t0 t1 H
  | _ => .fail
end
end Go.AM.Ly
set_option maxRecDepth 100000
namespace Go.AM.Ly
open Go
noncomputable section
def j84_0 (ev : Ev) (L : Nat) (t0 : AV) (H : Heap) : CR :=
 ck (ev 111 [t0] H) fun t19 H =>
 ob (extractA 0 t19) fun t20 =>
 ob (extractA 1 t19) fun t21 =>
 .ret (.tup [t20, t21]) H
def j84_3 (ev : Ev) (L : Nat) (k1 : AV → AV → AV → AV → Heap → CR) (t0 t6 t7 t8 : AV) (H : Heap) : CR :=
 ob (binR (some .other) none .add t8 (.int .i64 1)) fun t16 =>
 k1 t0 t6 t7 t16 H
def j84_5 (ev : Ev) (L : Nat) (k1 : AV → AV → AV → AV → Heap → CR) (t0 : AV) (H : Heap) : CR :=
 j84_0 ev L t0 H
def j84_2 (ev : Ev) (L : Nat) (k1 : AV → AV → AV → AV → Heap → CR) (t0 t6 t8 : AV) (H : Heap) : CR :=
 ob (indexSl 1 t6 t8) fun t10 =>
 ob (loadR false 1 noG H t10) fun t11 =>
 ob (binR (some .other) none .lss t11 (.int .u8 128)) fun t13 =>
 ifK (obR (convR H t11 (.int .i32)) fun t15 H =>
 .ret (.tup [t15, (.int .i64 1)]) H)
 (j84_5 ev L k1 t0 H) t13
def j84_1 (ev : Ev) (L : Nat) (k1 : AV → AV → AV → AV → Heap → CR) (t0 t6 t7 t8 : AV) (H : Heap) : CR :=
 ob (binR (some .other) none .lss t8 t7) fun t9 =>
 ifK (j84_2 ev L k1 t0 t6 t8 H)
 (j84_0 ev L t0 H) t9
def l84_1 (ev : Ev) (L : Nat) : Nat → AV → AV → AV → AV → Heap → CR
  | 0, _, _, _, _, _ => .fail
  | m + 1, t0, t6, t7, t8, H => j84_1 ev L (l84_1 ev L m) t0 t6 t7 t8 H
def f84 (ev : Ev) (L : Nat) (t0 : AV) (H : Heap) : CR :=
 ob (lenR H t0 .sl) fun t7 =>
 l84_1 ev L L t0 t0 t7 (.int .i64 0) H
def q84 : CRun := fun ev L args H => match args with
  | [t0] => f84 ev L t0 H
  | _ => .fail
def j85_0 (ev : Ev) (L : Nat) (t0 t1 t2 : AV) (H : Heap) : CR :=
 ob (nilCheckA t0) fun t36 =>
 ob (moveP 1 t36) fun t37 =>
 ob (loadR false 1 noG H t37) fun t38 =>
 ob (indexSl 1 t38 t1) fun t40 =>
 ob (loadR false 1 noG H t40) fun t41 =>
 ob (indexSl 1 t41 t2) fun t43 =>
 ob (loadR false 1 noG H t43) fun t44 =>
 .ret t44 H
def j85_1 (ev : Ev) (L : Nat) (t0 t1 t2 t34 : AV) (H : Heap) : CR :=
 ifK (.ret (.int .i64 (.negSucc 0)) H)
 (j85_0 ev L t0 t1 t2 H) t34
def j85_20 (ev : Ev) (L : Nat) (t0 t1 t2 t26 t33 : AV) (H : Heap) : CR :=
 ob (pickF (.bool true) t33 t26) fun t34 =>
 j85_1 ev L t0 t1 t2 t34 H
def j85_19 (ev : Ev) (L : Nat) (t0 t1 t2 t26 t27 t32 : AV) (H : Heap) : CR :=
 gd (isBool false t26) (j85_20 ev L t0 t1 t2 t26 undefA H)
 (ob (binR (some .other) none .geq t27 t32) fun t33 =>
 j85_20 ev L t0 t1 t2 t26 t33 H)
def j85_18 (ev : Ev) (L : Nat) (t0 t1 t2 t26 t27 t31 : AV) (H : Heap) : CR :=
 gd (isBool false t26) (j85_19 ev L t0 t1 t2 t26 t27 undefA H)
 (ob (lenR H t31 .sl) fun t32 =>
 j85_19 ev L t0 t1 t2 t26 t27 t32 H)
def j85_17 (ev : Ev) (L : Nat) (t0 t1 t2 t26 t27 t30 : AV) (H : Heap) : CR :=
 gd (isBool false t26) (j85_18 ev L t0 t1 t2 t26 t27 undefA H)
 (ob (loadR false 1 noG H t30) fun t31 =>
 j85_18 ev L t0 t1 t2 t26 t27 t31 H)
def j85_16 (ev : Ev) (L : Nat) (t0 t1 t2 t26 t27 t29 : AV) (H : Heap) : CR :=
 gd (isBool false t26) (j85_17 ev L t0 t1 t2 t26 t27 undefA H)
 (ob (moveP 0 t29) fun t30 =>
 j85_17 ev L t0 t1 t2 t26 t27 t30 H)
def j85_15 (ev : Ev) (L : Nat) (t0 t1 t2 t26 t27 t28 : AV) (H : Heap) : CR :=
 gd (isBool false t26) (j85_16 ev L t0 t1 t2 t26 t27 undefA H)
 (ob (nilCheckA t28) fun t29 =>
 j85_16 ev L t0 t1 t2 t26 t27 t29 H)
def j85_14 (ev : Ev) (L : Nat) (t0 t1 t2 t26 t27 : AV) (H : Heap) : CR :=
 gd (isBool false t26) (j85_15 ev L t0 t1 t2 t26 t27 undefA H)
 (j85_15 ev L t0 t1 t2 t26 t27 t0 H)
def j85_13 (ev : Ev) (L : Nat) (t0 t1 t2 t22 t24 : AV) (H : Heap) : CR :=
 ob (pickF (.bool true) t24 t22) fun t25 =>
 gd (isBool false t25) (j85_14 ev L t0 t1 t2 t25 undefA H)
 (j85_14 ev L t0 t1 t2 t25 t2 H)
def j85_12 (ev : Ev) (L : Nat) (t0 t1 t2 t22 t23 : AV) (H : Heap) : CR :=
 gd (isBool false t22) (j85_13 ev L t0 t1 t2 t22 undefA H)
 (ob (binR (some .other) none .lss t23 (.int .i64 0)) fun t24 =>
 j85_13 ev L t0 t1 t2 t22 t24 H)
def j85_11 (ev : Ev) (L : Nat) (t0 t1 t2 t13 t20 : AV) (H : Heap) : CR :=
 ob (pickF (.bool true) t20 t13) fun t21 =>
 gd (isBool false t21) (j85_12 ev L t0 t1 t2 t21 undefA H)
 (j85_12 ev L t0 t1 t2 t21 t2 H)
def j85_10 (ev : Ev) (L : Nat) (t0 t1 t2 t13 t14 t19 : AV) (H : Heap) : CR :=
 gd (isBool false t13) (j85_11 ev L t0 t1 t2 t13 undefA H)
 (ob (binR (some .other) none .geq t14 t19) fun t20 =>
 j85_11 ev L t0 t1 t2 t13 t20 H)
def j85_9 (ev : Ev) (L : Nat) (t0 t1 t2 t13 t14 t18 : AV) (H : Heap) : CR :=
 gd (isBool false t13) (j85_10 ev L t0 t1 t2 t13 t14 undefA H)
 (ob (lenR H t18 .sl) fun t19 =>
 j85_10 ev L t0 t1 t2 t13 t14 t19 H)
def j85_8 (ev : Ev) (L : Nat) (t0 t1 t2 t13 t14 t17 : AV) (H : Heap) : CR :=
 gd (isBool false t13) (j85_9 ev L t0 t1 t2 t13 t14 undefA H)
 (ob (loadR false 1 noG H t17) fun t18 =>
 j85_9 ev L t0 t1 t2 t13 t14 t18 H)
def j85_7 (ev : Ev) (L : Nat) (t0 t1 t2 t13 t14 t16 : AV) (H : Heap) : CR :=
 gd (isBool false t13) (j85_8 ev L t0 t1 t2 t13 t14 undefA H)
 (ob (moveP 1 t16) fun t17 =>
 j85_8 ev L t0 t1 t2 t13 t14 t17 H)
def j85_6 (ev : Ev) (L : Nat) (t0 t1 t2 t13 t14 t15 : AV) (H : Heap) : CR :=
 gd (isBool false t13) (j85_7 ev L t0 t1 t2 t13 t14 undefA H)
 (ob (nilCheckA t15) fun t16 =>
 j85_7 ev L t0 t1 t2 t13 t14 t16 H)
def j85_5 (ev : Ev) (L : Nat) (t0 t1 t2 t13 t14 : AV) (H : Heap) : CR :=
 gd (isBool false t13) (j85_6 ev L t0 t1 t2 t13 t14 undefA H)
 (j85_6 ev L t0 t1 t2 t13 t14 t0 H)
def j85_4 (ev : Ev) (L : Nat) (t0 t1 t2 t9 t11 : AV) (H : Heap) : CR :=
 ob (pickF (.bool true) t11 t9) fun t12 =>
 gd (isBool false t12) (j85_5 ev L t0 t1 t2 t12 undefA H)
 (j85_5 ev L t0 t1 t2 t12 t1 H)
def j85_3 (ev : Ev) (L : Nat) (t0 t1 t2 t9 t10 : AV) (H : Heap) : CR :=
 gd (isBool false t9) (j85_4 ev L t0 t1 t2 t9 undefA H)
 (ob (binR (some .other) none .lss t10 (.int .i64 0)) fun t11 =>
 j85_4 ev L t0 t1 t2 t9 t11 H)
def f85 (ev : Ev) (L : Nat) (t0 t1 t2 : AV) (H : Heap) : CR :=
 ob (binR (some .ptr) none .eql t0 .nilp) fun t8 =>
 gd (isBool false t8) (j85_3 ev L t0 t1 t2 t8 undefA H)
 (j85_3 ev L t0 t1 t2 t8 t1 H)
def q85 : CRun := fun ev L args H => match args with
  | [t0, t1, t2] => f85 ev L t0 t1 t2 H
  | _ => .fail
def f86 (ev : Ev) (L : Nat) (t0 t1 : AV) (H : Heap) : CR :=
 na H (AV.cells t1) fun t3 H =>
 ck (ev 107 [t0, (.fn 112 [] [t3])] H) fun t7 H =>
 .ret t7 H
def q86 : CRun := fun ev L args H => match args with
  | [t0, t1] => f86 ev L t0 t1 H
  | _ => .fail
def j87_1 (ev : Ev) (L : Nat) (H : Heap) : CR :=
 .ret (.bool true) H
def j87_4 (ev : Ev) (L : Nat) (k2 : AV → AV → AV → AV → Heap → CR) (t0 t1 t12 t13 : AV) (H : Heap) : CR :=
 ob (binR (some .other) none .add t13 (.int .i64 1)) fun t25 =>
 k2 t0 t1 t12 t25 H
def j87_3 (ev : Ev) (L : Nat) (k2 : AV → AV → AV → AV → Heap → CR) (t0 t1 t12 t13 : AV) (H : Heap) : CR :=
 ob (indexSl 2 t0 t13) fun t18 =>
 ob (loadR true 2 noG H t18) fun t19 =>
 ob (indexSl 2 t1 t13) fun t22 =>
 ob (loadR true 2 noG H t22) fun t23 =>
 ob (binR (some .other) (some [.int, .int]) .neq t19 t23) fun t24 =>
 ifK (.ret (.bool false) H)
 (j87_4 ev L k2 t0 t1 t12 t13 H) t24
def j87_2 (ev : Ev) (L : Nat) (k2 : AV → AV → AV → AV → Heap → CR) (t0 t1 t12 t13 : AV) (H : Heap) : CR :=
 ob (binR (some .other) none .lss t13 t12) fun t14 =>
 ifK (j87_3 ev L k2 t0 t1 t12 t13 H)
 (j87_1 ev L H) t14
def l87_2 (ev : Ev) (L : Nat) : Nat → AV → AV → AV → AV → Heap → CR
  | 0, _, _, _, _, _ => .fail
  | m + 1, t0, t1, t12, t13, H => j87_2 ev L (l87_2 ev L m) t0 t1 t12 t13 H
def j87_0 (ev : Ev) (L : Nat) (t0 t1 : AV) (H : Heap) : CR :=
 ob (lenR H t0 .sl) fun t12 =>
 l87_2 ev L L t0 t1 t12 (.int .i64 0) H
def f87 (ev : Ev) (L : Nat) (t0 t1 : AV) (H : Heap) : CR :=
 ob (lenR H t0 .sl) fun t7 =>
 ob (lenR H t1 .sl) fun t9 =>
 ob (binR (some .other) none .neq t7 t9) fun t10 =>
 ifK (.ret (.bool false) H)
 (j87_0 ev L t0 t1 H) t10
def q87 : CRun := fun ev L args H => match args with
  | [t0, t1] => f87 ev L t0 t1 H
  | _ => .fail
def f88 (ev : Ev) (L : Nat) (t0 : AV) (H : Heap) : CR :=
 ck (ev 77 [t0] H) fun t4 H =>
 ck (ev 78 [t4] H) fun t5 H =>
 .ret t5 H
def q88 : CRun := fun ev L args H => match args with
  | [t0] => f88 ev L t0 H
  | _ => .fail
def j89_2 (ev : Ev) (L : Nat) (k0 : AV → AV → AV → AV → Heap → CR) (t0 t1 t2 t6 : AV) (H : Heap) : CR :=
 ob (binR (some .other) none .add t6 (.int .i64 1)) fun t14 =>
 k0 t0 t1 t2 t14 H
def j89_6 (ev : Ev) (L : Nat) (k0 : AV → AV → AV → AV → Heap → CR) (k4 : AV → AV → AV → AV → AV → Heap → CR) (t0 t1 t2 t6 t7 : AV) (H : Heap) : CR :=
 ob (binR (some .other) none .sub t7 (.int .i64 1)) fun t32 =>
 k4 t0 t1 t2 t6 t32 H
def j89_5 (ev : Ev) (L : Nat) (k0 : AV → AV → AV → AV → Heap → CR) (k4 : AV → AV → AV → AV → AV → Heap → CR) (t0 t1 t2 t6 t7 : AV) (H : Heap) : CR :=
 ob (binR (some .other) none .sub t7 (.int .i64 1)) fun t37 =>
 ob (binR (some .other) none .sub t7 (.int .i64 1)) fun t40 =>
 ob (indexSl 1 t0 t40) fun t41 =>
 ob (loadR false 1 noG H t41) fun t42 =>
 ob (indexSl 1 t0 t7) fun t45 =>
 ob (loadR false 1 noG H t45) fun t46 =>
 ob (indexSl 1 t0 t7) fun t47 =>
 ob (storeR 1 H t47 t42) fun H =>
 ob (indexSl 1 t0 t37) fun t48 =>
 ob (storeR 1 H t48 t46) fun H =>
 j89_6 ev L k0 k4 t0 t1 t2 t6 t7 H
def j89_9 (ev : Ev) (L : Nat) (k0 : AV → AV → AV → AV → Heap → CR) (k4 : AV → AV → AV → AV → AV → Heap → CR) (t0 t1 t2 t6 t7 t30 : AV) (H : Heap) : CR :=
 ifK (j89_5 ev L k0 k4 t0 t1 t2 t6 t7 H)
 (j89_2 ev L k0 t0 t1 t2 t6 H) t30
def j89_20 (ev : Ev) (L : Nat) (k0 : AV → AV → AV → AV → Heap → CR) (k4 : AV → AV → AV → AV → AV → Heap → CR) (t0 t1 t2 t6 t7 t19 t29 : AV) (H : Heap) : CR :=
 ob (pickF t29 (.bool false) t19) fun t30 =>
 j89_9 ev L k0 k4 t0 t1 t2 t6 t7 t30 H
def j89_19 (ev : Ev) (L : Nat) (k0 : AV → AV → AV → AV → Heap → CR) (k4 : AV → AV → AV → AV → AV → Heap → CR) (t0 t1 t2 t6 t7 t19 t23 t28 : AV) (H : Heap) : CR :=
 gd (isBool true t19) (j89_20 ev L k0 k4 t0 t1 t2 t6 t7 t19 undefA H)
 (ck ((noPan ev) 95 [t23, t28] H) fun t29 H =>
 j89_20 ev L k0 k4 t0 t1 t2 t6 t7 t19 t29 H)
def j89_18 (ev : Ev) (L : Nat) (k0 : AV → AV → AV → AV → Heap → CR) (k4 : AV → AV → AV → AV → AV → Heap → CR) (t0 t1 t2 t6 t7 t19 t23 t27 : AV) (H : Heap) : CR :=
 gd (isBool true t19) (j89_19 ev L k0 k4 t0 t1 t2 t6 t7 t19 t23 undefA H)
 (ob (loadR false 1 noG H t27) fun t28 =>
 j89_19 ev L k0 k4 t0 t1 t2 t6 t7 t19 t23 t28 H)
def j89_17 (ev : Ev) (L : Nat) (k0 : AV → AV → AV → AV → Heap → CR) (k4 : AV → AV → AV → AV → AV → Heap → CR) (t0 t1 t2 t6 t7 t19 t23 t24 t26 : AV) (H : Heap) : CR :=
 gd (isBool true t19) (j89_18 ev L k0 k4 t0 t1 t2 t6 t7 t19 t23 undefA H)
 (ob (indexSl 1 t24 t26) fun t27 =>
 j89_18 ev L k0 k4 t0 t1 t2 t6 t7 t19 t23 t27 H)
def j89_16 (ev : Ev) (L : Nat) (k0 : AV → AV → AV → AV → Heap → CR) (k4 : AV → AV → AV → AV → AV → Heap → CR) (t0 t1 t2 t6 t7 t19 t23 t24 t25 : AV) (H : Heap) : CR :=
 gd (isBool true t19) (j89_17 ev L k0 k4 t0 t1 t2 t6 t7 t19 t23 t24 undefA H)
 (ob (binR (some .other) none .sub t25 (.int .i64 1)) fun t26 =>
 j89_17 ev L k0 k4 t0 t1 t2 t6 t7 t19 t23 t24 t26 H)
def j89_15 (ev : Ev) (L : Nat) (k0 : AV → AV → AV → AV → Heap → CR) (k4 : AV → AV → AV → AV → AV → Heap → CR) (t0 t1 t2 t6 t7 t19 t23 t24 : AV) (H : Heap) : CR :=
 gd (isBool true t19) (j89_16 ev L k0 k4 t0 t1 t2 t6 t7 t19 t23 t24 undefA H)
 (j89_16 ev L k0 k4 t0 t1 t2 t6 t7 t19 t23 t24 t7 H)
def j89_14 (ev : Ev) (L : Nat) (k0 : AV → AV → AV → AV → Heap → CR) (k4 : AV → AV → AV → AV → AV → Heap → CR) (t0 t1 t2 t6 t7 t19 t23 : AV) (H : Heap) : CR :=
 gd (isBool true t19) (j89_15 ev L k0 k4 t0 t1 t2 t6 t7 t19 t23 undefA H)
 (j89_15 ev L k0 k4 t0 t1 t2 t6 t7 t19 t23 t0 H)
def j89_13 (ev : Ev) (L : Nat) (k0 : AV → AV → AV → AV → Heap → CR) (k4 : AV → AV → AV → AV → AV → Heap → CR) (t0 t1 t2 t6 t7 t19 t22 : AV) (H : Heap) : CR :=
 gd (isBool true t19) (j89_14 ev L k0 k4 t0 t1 t2 t6 t7 t19 undefA H)
 (ob (loadR false 1 noG H t22) fun t23 =>
 j89_14 ev L k0 k4 t0 t1 t2 t6 t7 t19 t23 H)
def j89_12 (ev : Ev) (L : Nat) (k0 : AV → AV → AV → AV → Heap → CR) (k4 : AV → AV → AV → AV → AV → Heap → CR) (t0 t1 t2 t6 t7 t19 t20 t21 : AV) (H : Heap) : CR :=
 gd (isBool true t19) (j89_13 ev L k0 k4 t0 t1 t2 t6 t7 t19 undefA H)
 (ob (indexSl 1 t20 t21) fun t22 =>
 j89_13 ev L k0 k4 t0 t1 t2 t6 t7 t19 t22 H)
def j89_11 (ev : Ev) (L : Nat) (k0 : AV → AV → AV → AV → Heap → CR) (k4 : AV → AV → AV → AV → AV → Heap → CR) (t0 t1 t2 t6 t7 t19 t20 : AV) (H : Heap) : CR :=
 gd (isBool true t19) (j89_12 ev L k0 k4 t0 t1 t2 t6 t7 t19 t20 undefA H)
 (j89_12 ev L k0 k4 t0 t1 t2 t6 t7 t19 t20 t7 H)
def j89_4 (ev : Ev) (L : Nat) (k0 : AV → AV → AV → AV → Heap → CR) (k4 : AV → AV → AV → AV → AV → Heap → CR) (t0 t1 t2 t6 t7 : AV) (H : Heap) : CR :=
 ob (binR (some .other) none .gtr t7 t1) fun t18 =>
 gd (isBool true t18) (j89_11 ev L k0 k4 t0 t1 t2 t6 t7 t18 undefA H)
 (j89_11 ev L k0 k4 t0 t1 t2 t6 t7 t18 t0 H)
def l89_4 (ev : Ev) (L : Nat) (k0 : AV → AV → AV → AV → Heap → CR) : Nat → AV → AV → AV → AV → AV → Heap → CR
  | 0, _, _, _, _, _, _ => .fail
  | m + 1, t0, t1, t2, t6, t7, H => j89_4 ev L k0 (l89_4 ev L k0 m) t0 t1 t2 t6 t7 H
def j89_1 (ev : Ev) (L : Nat) (k0 : AV → AV → AV → AV → Heap → CR) (t0 t1 t2 t6 : AV) (H : Heap) : CR :=
 l89_4 ev L k0 L t0 t1 t2 t6 t6 H
def j89_0 (ev : Ev) (L : Nat) (k0 : AV → AV → AV → AV → Heap → CR) (t0 t1 t2 t6 : AV) (H : Heap) : CR :=
 ob (binR (some .other) none .lss t6 t2) fun t12 =>
 ifK (j89_1 ev L k0 t0 t1 t2 t6 H)
 (.ret (.tup []) H) t12
def l89_0 (ev : Ev) (L : Nat) : Nat → AV → AV → AV → AV → Heap → CR
  | 0, _, _, _, _, _ => .fail
  | m + 1, t0, t1, t2, t6, H => j89_0 ev L (l89_0 ev L m) t0 t1 t2 t6 H
def f89 (ev : Ev) (L : Nat) (t0 t1 t2 : AV) (H : Heap) : CR :=
 ob (binR (some .other) none .add t1 (.int .i64 1)) fun t9 =>
 l89_0 ev L L t0 t1 t2 t9 H
def q89 : CRun := fun ev L args H => match args with
  | [t0, t1, t2] => f89 ev L t0 t1 t2 H
  | _ => .fail
def j95_0 (ev : Ev) (L : Nat) (t4 : AV) (H : Heap) : CR :=
 .ret t4 H
def j95_7 (ev : Ev) (L : Nat) (t12 t15 : AV) (H : Heap) : CR :=
 ob (pickF (.bool true) t15 t12) fun t16 =>
 j95_0 ev L t16 H
def j95_6 (ev : Ev) (L : Nat) (t12 t13 t14 : AV) (H : Heap) : CR :=
 gd (isBool false t12) (j95_7 ev L t12 undefA H)
 (ob (binR (some .other) none .lss t13 t14) fun t15 =>
 j95_7 ev L t12 t15 H)
def j95_5 (ev : Ev) (L : Nat) (t1 t12 t13 : AV) (H : Heap) : CR :=
 gd (isBool false t12) (j95_6 ev L t12 t13 undefA H)
 (j95_6 ev L t12 t13 t1 H)
def j95_4 (ev : Ev) (L : Nat) (t0 t1 t7 t10 : AV) (H : Heap) : CR :=
 ob (pickF t10 (.bool false) t7) fun t11 =>
 gd (isBool false t11) (j95_5 ev L t1 t11 undefA H)
 (j95_5 ev L t1 t11 t0 H)
def j95_3 (ev : Ev) (L : Nat) (t0 t1 t7 t9 : AV) (H : Heap) : CR :=
 gd (isBool true t7) (j95_4 ev L t0 t1 t7 undefA H)
 (ob (unA .not t9) fun t10 =>
 j95_4 ev L t0 t1 t7 t10 H)
def j95_2 (ev : Ev) (L : Nat) (t0 t1 t7 t8 : AV) (H : Heap) : CR :=
 gd (isBool true t7) (j95_3 ev L t0 t1 t7 undefA H)
 (ck (ev 118 [t8] H) fun t9 H =>
 j95_3 ev L t0 t1 t7 t9 H)
def f95 (ev : Ev) (L : Nat) (t0 t1 : AV) (H : Heap) : CR :=
 ck (ev 118 [t0] H) fun t6 H =>
 gd (isBool true t6) (j95_2 ev L t0 t1 t6 undefA H)
 (j95_2 ev L t0 t1 t6 t1 H)
def q95 : CRun := fun ev L args H => match args with
  | [t0, t1] => f95 ev L t0 t1 H
  | _ => .fail
def j99_2 (ev : Ev) (L : Nat) (t0 t2 : AV) (H : Heap) : CR :=
 obR (convR H t0 (.int .u8)) fun t21 H =>
 ob (indexStr (.str ⟨#[0, 1, 2, 2, 3, 3, 3, 3, 4, 4, 4, 4, 4, 4, 4, 4, 5, 5, 5, 5, 5, 5, 5, 5, 5, 5, 5, 5, 5, 5, 5, 5, 6, 6, 6, 6, 6, 6, 6, 6, 6, 6, 6, 6, 6, 6, 6, 6, 6, 6, 6, 6, 6, 6, 6, 6, 6, 6, 6, 6, 6, 6, 6, 6, 7, 7, 7, 7, 7, 7, 7, 7, 7, 7, 7, 7, 7, 7, 7, 7, 7, 7, 7, 7, 7, 7, 7, 7, 7, 7, 7, 7, 7, 7, 7, 7, 7, 7, 7, 7, 7, 7, 7, 7, 7, 7, 7, 7, 7, 7, 7, 7, 7, 7, 7, 7, 7, 7, 7, 7, 7, 7, 7, 7, 7, 7, 7, 7, 8, 8, 8, 8, 8, 8, 8, 8, 8, 8, 8, 8, 8, 8, 8, 8, 8, 8, 8, 8, 8, 8, 8, 8, 8, 8, 8, 8, 8, 8, 8, 8, 8, 8, 8, 8, 8, 8, 8, 8, 8, 8, 8, 8, 8, 8, 8, 8, 8, 8, 8, 8, 8, 8, 8, 8, 8, 8, 8, 8, 8, 8, 8, 8, 8, 8, 8, 8, 8, 8, 8, 8, 8, 8, 8, 8, 8, 8, 8, 8, 8, 8, 8, 8, 8, 8, 8, 8, 8, 8, 8, 8, 8, 8, 8, 8, 8, 8, 8, 8, 8, 8, 8, 8, 8, 8, 8, 8, 8, 8, 8, 8, 8, 8, 8, 8, 8, 8, 8, 8, 8, 8, 8, 8, 8, 8, 8, 8]⟩) t21) fun t22 =>
 obR (convR H t22 (.int .i64)) fun t23 H =>
 ob (binR (some .other) none .add t2 t23) fun t24 =>
 .ret t24 H
def j99_1 (ev : Ev) (L : Nat) (t0 t2 : AV) (H : Heap) : CR :=
 ob (binR (some .other) none .geq t0 (.int .u64 256)) fun t14 =>
 ifK (ob (binR (some .other) none .shr t0 (.int .u64 8)) fun t16 =>
 ob (binR (some .other) none .add t2 (.int .i64 8)) fun t18 =>
 j99_2 ev L t16 t18 H)
 (j99_2 ev L t0 t2 H) t14
def j99_0 (ev : Ev) (L : Nat) (t0 t2 : AV) (H : Heap) : CR :=
 ob (binR (some .other) none .geq t0 (.int .u64 65536)) fun t8 =>
 ifK (ob (binR (some .other) none .shr t0 (.int .u64 16)) fun t10 =>
 ob (binR (some .other) none .add t2 (.int .i64 16)) fun t12 =>
 j99_1 ev L t10 t12 H)
 (j99_1 ev L t0 t2 H) t8
def f99 (ev : Ev) (L : Nat) (t0 : AV) (H : Heap) : CR :=
 ob (binR (some .other) none .geq t0 (.int .u64 4294967296)) fun t4 =>
 ifK (ob (binR (some .other) none .shr t0 (.int .u64 32)) fun t6 =>
 j99_0 ev L t6 (.int .i64 32) H)
 (j99_0 ev L t0 (.int .i64 0) H) t4
def q99 : CRun := fun ev L args H => match args with
  | [t0] => f99 ev L t0 H
  | _ => .fail
def j100_0 (ev : Ev) (L : Nat) (t0 : AV) (H : Heap) : CR :=
 obR (convR H t0 (.int .i64)) fun t15 H =>
 ob (minA t15 (.int .i64 1114112)) fun t16 =>
 ob (binR (some .other) none .sub t16 (.int .i64 2048)) fun t17 =>
 .ret t17 H
def f100 (ev : Ev) (L : Nat) (t0 : AV) (H : Heap) : CR :=
 ob (binR (some .other) none .lss t0 (.int .i32 0)) fun t5 =>
 ifK (.ret (.int .i64 0) H)
 (ob (binR (some .other) none .lss t0 (.int .i32 55296)) fun t8 =>
 ifK (obR (convR H t0 (.int .i64)) fun t10 H =>
 .ret t10 H)
 (ob (binR (some .other) none .leq t0 (.int .i32 57343)) fun t13 =>
 ifK (.ret (.int .i64 55296) H)
 (j100_0 ev L t0 H) t13) t8) t5
def q100 : CRun := fun ev L args H => match args with
  | [t0] => f100 ev L t0 H
  | _ => .fail
def j101_0 (ev : Ev) (L : Nat) (t3 : AV) (H : Heap) : CR :=
 .ret t3 H
def f101 (ev : Ev) (L : Nat) (t0 : AV) (H : Heap) : CR :=
 ck (ev 100 [t0] H) fun t5 H =>
 ck (ev 80 [t0] H) fun t7 H =>
 ifK (ob (binR (some .other) none .add t5 (.int .i64 1)) fun t9 =>
 j101_0 ev L t9 H)
 (j101_0 ev L t5 H) t7
def q101 : CRun := fun ev L args H => match args with
  | [t0] => f101 ev L t0 H
  | _ => .fail
def f102 (ev : Ev) (L : Nat) (t0 t1 : AV) (H : Heap) : CR :=
 ob (lenR H t0 .sl) fun t6 =>
 obR (convR H t6 (.int .u64)) fun t10 H =>
 ck (ev 76 [t10] H) fun t11 H =>
 ck (ev 119 [t0, (.int .i64 0), t6, t11, t1] H) fun t13 H =>
 .ret (.tup []) H
def q102 : CRun := fun ev L args H => match args with
  | [t0, t1] => f102 ev L t0 t1 H
  | _ => .fail
def f103 (ev : Ev) (L : Nat) (t0 t1 : AV) (H : Heap) : CR :=
 na H (AV.cells t0) fun t2 H =>
 na H (AV.cells t1) fun t3 H =>
 ob (moveP 0 t2) fun t5 =>
 ob (loadR false 1 noG H t5) fun t6 =>
 ob (moveP 0 t3) fun t7 =>
 ob (loadR false 1 noG H t7) fun t8 =>
 ck (ev 104 [t6, t8] H) fun t9 H =>
 .ret t9 H
def q103 : CRun := fun ev L args H => match args with
  | [t0, t1] => f103 ev L t0 t1 H
  | _ => .fail
def j104_3 (ev : Ev) (L : Nat) (H : Heap) : CR :=
 .ret (.int .i64 0) H
def j104_2 (ev : Ev) (L : Nat) (t0 t1 : AV) (H : Heap) : CR :=
 ob (binR (some .other) none .gtr t0 t1) fun t19 =>
 ifK (.ret (.int .i64 1) H)
 (j104_3 ev L H) t19
def j104_1 (ev : Ev) (L : Nat) (t0 t1 : AV) (H : Heap) : CR :=
 ob (binR (some .other) none .lss t0 t1) fun t16 =>
 ifK (.ret (.int .i64 (.negSucc 0)) H)
 (j104_2 ev L t0 t1 H) t16
def j104_0 (ev : Ev) (L : Nat) (t0 t1 t6 : AV) (H : Heap) : CR :=
 ifK (.ret (.int .i64 1) H)
 (j104_1 ev L t0 t1 H) t6
def j104_4 (ev : Ev) (L : Nat) (H : Heap) : CR :=
 .ret (.int .i64 (.negSucc 0)) H
def f104 (ev : Ev) (L : Nat) (t0 t1 : AV) (H : Heap) : CR :=
 ck (ev 118 [t0] H) fun t8 H =>
 ck (ev 118 [t1] H) fun t10 H =>
 ifK (ifK (.ret (.int .i64 0) H)
 (j104_4 ev L H) t10)
 (j104_0 ev L t0 t1 t10 H) t8
def q104 : CRun := fun ev L args H => match args with
  | [t0, t1] => f104 ev L t0 t1 H
  | _ => .fail
def j105_0 (ev : Ev) (L : Nat) (t0 : AV) (H : Heap) : CR :=
 ob (binR (some .other) none .add t0 (.int .i64 2048)) fun t8 =>
 obR (convR H t8 (.int .i32)) fun t9 H =>
 .ret t9 H
def f105 (ev : Ev) (L : Nat) (t0 : AV) (H : Heap) : CR :=
 ob (binR (some .other) none .lss t0 (.int .i64 55296)) fun t4 =>
 ifK (obR (convR H t0 (.int .i32)) fun t6 H =>
 .ret t6 H)
 (j105_0 ev L t0 H) t4
def q105 : CRun := fun ev L args H => match args with
  | [t0] => f105 ev L t0 H
  | _ => .fail
def j106_0 (ev : Ev) (L : Nat) (t0 t1 t2 : AV) (H : Heap) : CR :=
 ck (ev 123 [t0, t1, t2, (.bool false), (.bool true)] H) fun t32 H =>
 ob (extractA 0 t32) fun t33 =>
 ob (extractA 1 t32) fun t34 =>
 .ret t33 H
def j106_1 (ev : Ev) (L : Nat) (t0 t1 : AV) (H : Heap) : CR :=
 na H [(.int .u8 0), (.int .u8 0), (.int .u8 0), (.int .u8 0), (.int .u8 0), (.int .u8 0), (.int .u8 0), (.int .u8 0), (.int .u8 0), (.int .u8 0), (.int .u8 0), (.int .u8 0), (.int .u8 0), (.int .u8 0), (.int .u8 0), (.int .u8 0), (.int .u8 0), (.int .u8 0), (.int .u8 0), (.int .u8 0), (.int .u8 0), (.int .u8 0), (.int .u8 0), (.int .u8 0)] fun t7 H =>
 ck (ev 121 [t1] H) fun t19 H =>
 ob (sliceR noG H (.arr 24 1) t7 none (some t19) none) fun t21 =>
 ck (ev 122 [t21, t1] H) fun t23 H =>
 ob (sliceR noG H (.arr 24 1) t7 none (some t19) none) fun t26 =>
 obR (appendR 1 1 [(.int .u8 0)] false H t0 t26) fun t27 H =>
 .ret t27 H
def f106 (ev : Ev) (L : Nat) (t0 t1 t2 : AV) (H : Heap) : CR :=
 ob (binR (some .other) none .eql t2 (.int .i64 10)) fun t10 =>
 ifK (ob (binR (some .other) none .lss t1 (.int .u64 100)) fun t12 =>
 ifK (obR (convR H t1 (.int .i64)) fun t15 H =>
 ck (ev 120 [t15] H) fun t16 H =>
 obR (appendR 1 1 [(.int .u8 0)] false H t0 t16) fun t17 H =>
 .ret t17 H)
 (j106_1 ev L t0 t1 H) t12)
 (j106_0 ev L t0 t1 t2 H) t10
def q106 : CRun := fun ev L args H => match args with
  | [t0, t1, t2] => f106 ev L t0 t1 t2 H
  | _ => .fail
def j107_0 (ev : Ev) (L : Nat) (H : Heap) : CR :=
 .ret (.int .i64 (.negSucc 0)) H
def j107_3 (ev : Ev) (L : Nat) (k1 : AV → AV → AV → AV → Heap → CR) (t0 t1 t7 t8 : AV) (H : Heap) : CR :=
 ob (binR (some .other) none .add t8 (.int .i64 1)) fun t18 =>
 k1 t0 t1 t7 t18 H
def j107_2 (ev : Ev) (L : Nat) (k1 : AV → AV → AV → AV → Heap → CR) (t0 t1 t7 t8 : AV) (H : Heap) : CR :=
 ob (indexSl 2 t0 t8) fun t14 =>
 ob (loadR true 2 noG H t14) fun t15 =>
 ob (asCall [t15] t1) fun fa => ck (ev fa.1 fa.2 H) fun t16 H =>
 ifK (.ret t8 H)
 (j107_3 ev L k1 t0 t1 t7 t8 H) t16
def j107_1 (ev : Ev) (L : Nat) (k1 : AV → AV → AV → AV → Heap → CR) (t0 t1 t7 t8 : AV) (H : Heap) : CR :=
 ob (binR (some .other) none .lss t8 t7) fun t9 =>
 ifK (j107_2 ev L k1 t0 t1 t7 t8 H)
 (j107_0 ev L H) t9
def l107_1 (ev : Ev) (L : Nat) : Nat → AV → AV → AV → AV → Heap → CR
  | 0, _, _, _, _, _ => .fail
  | m + 1, t0, t1, t7, t8, H => j107_1 ev L (l107_1 ev L m) t0 t1 t7 t8 H
def f107 (ev : Ev) (L : Nat) (t0 t1 : AV) (H : Heap) : CR :=
 ob (lenR H t0 .sl) fun t7 =>
 l107_1 ev L L t0 t1 t7 (.int .i64 0) H
def q107 : CRun := fun ev L args H => match args with
  | [t0, t1] => f107 ev L t0 t1 H
  | _ => .fail
def j109_1 (ev : Ev) (L : Nat) (t0 t1 : AV) (H : Heap) : CR :=
 ck (ev 125 [t0] H) fun t43 H =>
 obR ((fillR [(.int .u8 0)] [(0, 1, t1)]).map fun cs => (.sl H.next 0 1 1 (some 1), H.new (.row cs))) fun t45 H =>
 obR (appendR 1 1 [(.int .u8 0)] false H t43 t45) fun t46 H =>
 .ret t46 H
def j109_2 (ev : Ev) (L : Nat) (t0 t1 t39 : AV) (H : Heap) : CR :=
 ifK (ob ((fillR [] []).map .agg) fun t40 =>
 thr H (.iface 153 t40))
 (j109_1 ev L t0 t1 H) t39
def j109_20 (ev : Ev) (L : Nat) (t0 t1 t25 t38 : AV) (H : Heap) : CR :=
 ob (pickF (.bool true) t38 t25) fun t39 =>
 j109_2 ev L t0 t1 t39 H
def j109_19 (ev : Ev) (L : Nat) (t0 t1 t25 t29 t37 : AV) (H : Heap) : CR :=
 gd (isBool false t25) (j109_20 ev L t0 t1 t25 undefA H)
 (ob (pickF t37 (.bool false) t29) fun t38 =>
 j109_20 ev L t0 t1 t25 t38 H)
def j109_18 (ev : Ev) (L : Nat) (t0 t1 t25 t29 t33 t36 : AV) (H : Heap) : CR :=
 gd (isBool true t29) (j109_19 ev L t0 t1 t25 t29 undefA H)
 (ob (pickF (.bool true) t36 t33) fun t37 =>
 j109_19 ev L t0 t1 t25 t29 t37 H)
def j109_17 (ev : Ev) (L : Nat) (t0 t1 t25 t29 t33 t34 t35 : AV) (H : Heap) : CR :=
 gd (isBool false t33) (j109_18 ev L t0 t1 t25 t29 t33 undefA H)
 (ob (binR (some .other) none .gtr t34 t35) fun t36 =>
 j109_18 ev L t0 t1 t25 t29 t33 t36 H)
def j109_16 (ev : Ev) (L : Nat) (t0 t1 t6 t25 t29 t33 t34 : AV) (H : Heap) : CR :=
 gd (isBool false t33) (j109_17 ev L t0 t1 t25 t29 t33 t34 undefA H)
 (j109_17 ev L t0 t1 t25 t29 t33 t34 t6 H)
def j109_15 (ev : Ev) (L : Nat) (t0 t1 t6 t25 t29 t33 : AV) (H : Heap) : CR :=
 gd (isBool false t33) (j109_16 ev L t0 t1 t6 t25 t29 t33 undefA H)
 (j109_16 ev L t0 t1 t6 t25 t29 t33 t1 H)
def j109_14 (ev : Ev) (L : Nat) (t0 t1 t6 t25 t29 t32 : AV) (H : Heap) : CR :=
 gd (isBool true t29) (j109_15 ev L t0 t1 t6 t25 t29 undefA H)
 (j109_15 ev L t0 t1 t6 t25 t29 t32 H)
def j109_13 (ev : Ev) (L : Nat) (t0 t1 t6 t25 t29 t30 t31 : AV) (H : Heap) : CR :=
 gd (isBool true t29) (j109_14 ev L t0 t1 t6 t25 t29 undefA H)
 (ob (binR (some .other) none .lss t30 t31) fun t32 =>
 j109_14 ev L t0 t1 t6 t25 t29 t32 H)
def j109_12 (ev : Ev) (L : Nat) (t0 t1 t5 t6 t25 t29 t30 : AV) (H : Heap) : CR :=
 gd (isBool true t29) (j109_13 ev L t0 t1 t6 t25 t29 t30 undefA H)
 (j109_13 ev L t0 t1 t6 t25 t29 t30 t5 H)
def j109_11 (ev : Ev) (L : Nat) (t0 t1 t5 t6 t25 t29 : AV) (H : Heap) : CR :=
 gd (isBool true t29) (j109_12 ev L t0 t1 t5 t6 t25 t29 undefA H)
 (j109_12 ev L t0 t1 t5 t6 t25 t29 t1 H)
def j109_10 (ev : Ev) (L : Nat) (t0 t1 t5 t6 t25 t28 : AV) (H : Heap) : CR :=
 gd (isBool false t25) (j109_11 ev L t0 t1 t5 t6 t25 undefA H)
 (j109_11 ev L t0 t1 t5 t6 t25 t28 H)
def j109_9 (ev : Ev) (L : Nat) (t0 t1 t5 t6 t25 t27 : AV) (H : Heap) : CR :=
 gd (isBool false t25) (j109_10 ev L t0 t1 t5 t6 t25 undefA H)
 (ob (binR (some .other) none .gtr t27 (.int .i64 0)) fun t28 =>
 j109_10 ev L t0 t1 t5 t6 t25 t28 H)
def j109_8 (ev : Ev) (L : Nat) (t0 t1 t5 t6 t25 t26 : AV) (H : Heap) : CR :=
 gd (isBool false t25) (j109_9 ev L t0 t1 t5 t6 t25 undefA H)
 (ob (lenR H t26 .sl) fun t27 =>
 j109_9 ev L t0 t1 t5 t6 t25 t27 H)
def j109_7 (ev : Ev) (L : Nat) (t0 t1 t5 t6 t20 t23 : AV) (H : Heap) : CR :=
 ob (pickF t23 (.bool false) t20) fun t24 =>
 gd (isBool false t24) (j109_8 ev L t0 t1 t5 t6 t24 undefA H)
 (j109_8 ev L t0 t1 t5 t6 t24 t0 H)
def j109_6 (ev : Ev) (L : Nat) (t0 t1 t5 t6 t20 t22 : AV) (H : Heap) : CR :=
 gd (isBool true t20) (j109_7 ev L t0 t1 t5 t6 t20 undefA H)
 (ob (binR (some .other) none .eql t22 (.int .i64 0)) fun t23 =>
 j109_7 ev L t0 t1 t5 t6 t20 t23 H)
def j109_5 (ev : Ev) (L : Nat) (t0 t1 t5 t6 t20 t21 : AV) (H : Heap) : CR :=
 gd (isBool true t20) (j109_6 ev L t0 t1 t5 t6 t20 undefA H)
 (ck (ev 110 [t21] H) fun t22 H =>
 j109_6 ev L t0 t1 t5 t6 t20 t22 H)
def j109_0 (ev : Ev) (L : Nat) (t0 t1 t5 t6 : AV) (H : Heap) : CR :=
 ob (lenR H t0 .sl) fun t18 =>
 ob (binR (some .other) none .eql t18 (.int .i64 0)) fun t19 =>
 gd (isBool true t19) (j109_5 ev L t0 t1 t5 t6 t19 undefA H)
 (j109_5 ev L t0 t1 t5 t6 t19 t1 H)
def f109 (ev : Ev) (L : Nat) (t0 t1 : AV) (H : Heap) : CR :=
 ob (lenR H t0 .sl) fun t8 =>
 ob (binR (some .other) none .eql t8 (.int .i64 1)) fun t9 =>
 ifK (ob (indexSl 1 t0 (.int .i64 0)) fun t12 =>
 ob (loadR false 1 noG H t12) fun t13 =>
 ck (ev 124 [t13] H) fun t14 H =>
 ob (extractA 0 t14) fun t15 =>
 ob (extractA 1 t14) fun t16 =>
 j109_0 ev L t0 t1 t15 t16 H)
 (j109_0 ev L t0 t1 (.int .u8 128) (.int .u8 191) H) t9
def q109 : CRun := fun ev L args H => match args with
  | [t0, t1] => f109 ev L t0 t1 H
  | _ => .fail
def j110_0 (ev : Ev) (L : Nat) (H : Heap) : CR :=
 .ret (.int .i64 0) H
def j110_3 (ev : Ev) (L : Nat) (t20 : AV) (H : Heap) : CR :=
 ifK (.ret (.int .i64 4) H)
 (j110_0 ev L H) t20
def j110_6 (ev : Ev) (L : Nat) (t23 t25 : AV) (H : Heap) : CR :=
 ob (pickF t25 (.bool false) t23) fun t26 =>
 j110_3 ev L t26 H
def j110_5 (ev : Ev) (L : Nat) (t23 t24 : AV) (H : Heap) : CR :=
 gd (isBool true t23) (j110_6 ev L t23 undefA H)
 (ob (binR (some .other) none .leq t24 (.int .u8 244)) fun t25 =>
 j110_6 ev L t23 t25 H)
def j110_2 (ev : Ev) (L : Nat) (t0 t13 : AV) (H : Heap) : CR :=
 ifK (.ret (.int .i64 3) H)
 (ob (binR (some .other) none .geq t0 (.int .u8 240)) fun t22 =>
 gd (isBool true t22) (j110_5 ev L t22 undefA H)
 (j110_5 ev L t22 t0 H)) t13
def j110_9 (ev : Ev) (L : Nat) (t0 t16 t18 : AV) (H : Heap) : CR :=
 ob (pickF t18 (.bool false) t16) fun t19 =>
 j110_2 ev L t0 t19 H
def j110_8 (ev : Ev) (L : Nat) (t0 t16 t17 : AV) (H : Heap) : CR :=
 gd (isBool true t16) (j110_9 ev L t0 t16 undefA H)
 (ob (binR (some .other) none .leq t17 (.int .u8 239)) fun t18 =>
 j110_9 ev L t0 t16 t18 H)
def j110_1 (ev : Ev) (L : Nat) (t0 t6 : AV) (H : Heap) : CR :=
 ifK (.ret (.int .i64 2) H)
 (ob (binR (some .other) none .geq t0 (.int .u8 224)) fun t15 =>
 gd (isBool true t15) (j110_8 ev L t0 t15 undefA H)
 (j110_8 ev L t0 t15 t0 H)) t6
def j110_12 (ev : Ev) (L : Nat) (t0 t9 t11 : AV) (H : Heap) : CR :=
 ob (pickF t11 (.bool false) t9) fun t12 =>
 j110_1 ev L t0 t12 H
def j110_11 (ev : Ev) (L : Nat) (t0 t9 t10 : AV) (H : Heap) : CR :=
 gd (isBool true t9) (j110_12 ev L t0 t9 undefA H)
 (ob (binR (some .other) none .leq t10 (.int .u8 223)) fun t11 =>
 j110_12 ev L t0 t9 t11 H)
def f110 (ev : Ev) (L : Nat) (t0 : AV) (H : Heap) : CR :=
 ob (binR (some .other) none .lss t0 (.int .u8 128)) fun t5 =>
 ifK (.ret (.int .i64 1) H)
 (ob (binR (some .other) none .geq t0 (.int .u8 194)) fun t8 =>
 gd (isBool true t8) (j110_11 ev L t0 t8 undefA H)
 (j110_11 ev L t0 t8 t0 H)) t5
def q110 : CRun := fun ev L args H => match args with
  | [t0] => f110 ev L t0 H
  | _ => .fail
def f112 (ev : Ev) (L : Nat) (t0 t1 : AV) (H : Heap) : CR :=
 na H (AV.cells t0) fun t2 H =>
 ob (loadR true 2 noG H t2) fun t4 =>
 obR ((fillR [(.int .i32 0), (.int .i32 0)] [(0, 2, t4)]).map fun cs => (.sl H.next 0 1 2 (some 1), H.new (.row cs))) fun t5 H =>
 ob (loadR false 1 noG H t1) fun t6 =>
 ck (ev 55 [t5, t6] H) fun t7 H =>
 .ret t7 H
def q112 : CRun := fun ev L args H => match args with
  | [t0, t1] => f112 ev L t0 t1 H
  | _ => .fail
def f118 (ev : Ev) (L : Nat) (t0 : AV) (H : Heap) : CR :=
 ob (binR (some .other) none .neq t0 t0) fun t5 =>
 .ret t5 H
def q118 : CRun := fun ev L args H => match args with
  | [t0] => f118 ev L t0 H
  | _ => .fail
def j119_6 (ev : Ev) (L : Nat) (k0 : AV → AV → AV → AV → AV → AV → AV → Heap → CR) (t0 t1 t2 t3 t4 t12 t13 : AV) (H : Heap) : CR :=
 ck (ev 134 [t0, t1, t2, t13, t4] H) fun t111 H =>
 ob (extractA 0 t111) fun t112 =>
 ob (extractA 1 t111) fun t113 =>
 ob (binR (some .other) none .sub t112 t1) fun t117 =>
 ob (binR (some .other) none .sub t2 t112) fun t120 =>
 ob (binR (some .other) none .quo t12 (.int .i64 8)) fun t122 =>
 ob (binR (some .other) none .lss t117 t120) fun t125 =>
 ifK (ob (binR (some .other) none .geq t117 t122) fun t128 =>
 ck (ev 119 [t0, t1, t112, t3, t4] H) fun t134 H =>
 ob (binR (some .other) none .add t112 (.int .i64 1)) fun t136 =>
 k0 t0 t136 t2 t3 t4 t128 t113 H)
 (ob (binR (some .other) none .geq t120 t122) fun t139 =>
 ob (binR (some .other) none .add t112 (.int .i64 1)) fun t142 =>
 ck (ev 119 [t0, t142, t2, t3, t4] H) fun t146 H =>
 k0 t0 t1 t112 t3 t4 t139 t113 H) t125
def j119_9 (ev : Ev) (L : Nat) (k0 : AV → AV → AV → AV → AV → AV → AV → Heap → CR) (t0 t1 t2 t3 t4 t10 t11 t12 t13 t97 : AV) (H : Heap) : CR :=
 ifK (ck (ev 133 [t0, t1, t2, t13, t4] H) fun t103 H =>
 k0 t0 t103 t2 t3 t4 t10 t11 H)
 (j119_6 ev L k0 t0 t1 t2 t3 t4 t12 t13 H) t97
def j119_23 (ev : Ev) (L : Nat) (k0 : AV → AV → AV → AV → AV → AV → AV → Heap → CR) (t0 t1 t2 t3 t4 t10 t11 t12 t13 t83 t96 : AV) (H : Heap) : CR :=
 ob (pickF t96 (.bool false) t83) fun t97 =>
 j119_9 ev L k0 t0 t1 t2 t3 t4 t10 t11 t12 t13 t97 H
def j119_22 (ev : Ev) (L : Nat) (k0 : AV → AV → AV → AV → AV → AV → AV → Heap → CR) (t0 t1 t2 t3 t4 t10 t11 t12 t13 t83 t95 : AV) (H : Heap) : CR :=
 gd (isBool true t83) (j119_23 ev L k0 t0 t1 t2 t3 t4 t10 t11 t12 t13 t83 undefA H)
 (ob (unA .not t95) fun t96 =>
 j119_23 ev L k0 t0 t1 t2 t3 t4 t10 t11 t12 t13 t83 t96 H)
def j119_21 (ev : Ev) (L : Nat) (k0 : AV → AV → AV → AV → AV → AV → AV → Heap → CR) (t0 t1 t2 t3 t4 t10 t11 t12 t13 t83 t94 : AV) (H : Heap) : CR :=
 gd (isBool true t83) (j119_22 ev L k0 t0 t1 t2 t3 t4 t10 t11 t12 t13 t83 undefA H)
 (ob (binR (some .other) none .lss t94 (.int .i64 0)) fun t95 =>
 j119_22 ev L k0 t0 t1 t2 t3 t4 t10 t11 t12 t13 t83 t95 H)
def j119_20 (ev : Ev) (L : Nat) (k0 : AV → AV → AV → AV → AV → AV → AV → Heap → CR) (t0 t1 t2 t3 t4 t10 t11 t12 t13 t83 t84 t89 t93 : AV) (H : Heap) : CR :=
 gd (isBool true t83) (j119_21 ev L k0 t0 t1 t2 t3 t4 t10 t11 t12 t13 t83 undefA H)
 (ob (asCall [t89, t93] t84) fun fa => ck ((noPan ev) fa.1 fa.2 H) fun t94 H =>
 j119_21 ev L k0 t0 t1 t2 t3 t4 t10 t11 t12 t13 t83 t94 H)
def j119_19 (ev : Ev) (L : Nat) (k0 : AV → AV → AV → AV → AV → AV → AV → Heap → CR) (t0 t1 t2 t3 t4 t10 t11 t12 t13 t83 t84 t89 t92 : AV) (H : Heap) : CR :=
 gd (isBool true t83) (j119_20 ev L k0 t0 t1 t2 t3 t4 t10 t11 t12 t13 t83 t84 t89 undefA H)
 (ob (loadR true 2 noG H t92) fun t93 =>
 j119_20 ev L k0 t0 t1 t2 t3 t4 t10 t11 t12 t13 t83 t84 t89 t93 H)
def j119_18 (ev : Ev) (L : Nat) (k0 : AV → AV → AV → AV → AV → AV → AV → Heap → CR) (t0 t1 t2 t3 t4 t10 t11 t12 t13 t83 t84 t89 t90 t91 : AV) (H : Heap) : CR :=
 gd (isBool true t83) (j119_19 ev L k0 t0 t1 t2 t3 t4 t10 t11 t12 t13 t83 t84 t89 undefA H)
 (ob (indexSl 2 t90 t91) fun t92 =>
 j119_19 ev L k0 t0 t1 t2 t3 t4 t10 t11 t12 t13 t83 t84 t89 t92 H)
def j119_17 (ev : Ev) (L : Nat) (k0 : AV → AV → AV → AV → AV → AV → AV → Heap → CR) (t0 t1 t2 t3 t4 t10 t11 t12 t13 t83 t84 t89 t90 : AV) (H : Heap) : CR :=
 gd (isBool true t83) (j119_18 ev L k0 t0 t1 t2 t3 t4 t10 t11 t12 t13 t83 t84 t89 t90 undefA H)
 (j119_18 ev L k0 t0 t1 t2 t3 t4 t10 t11 t12 t13 t83 t84 t89 t90 t13 H)
def j119_16 (ev : Ev) (L : Nat) (k0 : AV → AV → AV → AV → AV → AV → AV → Heap → CR) (t0 t1 t2 t3 t4 t10 t11 t12 t13 t83 t84 t89 : AV) (H : Heap) : CR :=
 gd (isBool true t83) (j119_17 ev L k0 t0 t1 t2 t3 t4 t10 t11 t12 t13 t83 t84 t89 undefA H)
 (j119_17 ev L k0 t0 t1 t2 t3 t4 t10 t11 t12 t13 t83 t84 t89 t0 H)
def j119_15 (ev : Ev) (L : Nat) (k0 : AV → AV → AV → AV → AV → AV → AV → Heap → CR) (t0 t1 t2 t3 t4 t10 t11 t12 t13 t83 t84 t88 : AV) (H : Heap) : CR :=
 gd (isBool true t83) (j119_16 ev L k0 t0 t1 t2 t3 t4 t10 t11 t12 t13 t83 t84 undefA H)
 (ob (loadR true 2 noG H t88) fun t89 =>
 j119_16 ev L k0 t0 t1 t2 t3 t4 t10 t11 t12 t13 t83 t84 t89 H)
def j119_14 (ev : Ev) (L : Nat) (k0 : AV → AV → AV → AV → AV → AV → AV → Heap → CR) (t0 t1 t2 t3 t4 t10 t11 t12 t13 t83 t84 t85 t87 : AV) (H : Heap) : CR :=
 gd (isBool true t83) (j119_15 ev L k0 t0 t1 t2 t3 t4 t10 t11 t12 t13 t83 t84 undefA H)
 (ob (indexSl 2 t85 t87) fun t88 =>
 j119_15 ev L k0 t0 t1 t2 t3 t4 t10 t11 t12 t13 t83 t84 t88 H)
def j119_13 (ev : Ev) (L : Nat) (k0 : AV → AV → AV → AV → AV → AV → AV → Heap → CR) (t0 t1 t2 t3 t4 t10 t11 t12 t13 t83 t84 t85 t86 : AV) (H : Heap) : CR :=
 gd (isBool true t83) (j119_14 ev L k0 t0 t1 t2 t3 t4 t10 t11 t12 t13 t83 t84 t85 undefA H)
 (ob (binR (some .other) none .sub t86 (.int .i64 1)) fun t87 =>
 j119_14 ev L k0 t0 t1 t2 t3 t4 t10 t11 t12 t13 t83 t84 t85 t87 H)
def j119_12 (ev : Ev) (L : Nat) (k0 : AV → AV → AV → AV → AV → AV → AV → Heap → CR) (t0 t1 t2 t3 t4 t10 t11 t12 t13 t83 t84 t85 : AV) (H : Heap) : CR :=
 gd (isBool true t83) (j119_13 ev L k0 t0 t1 t2 t3 t4 t10 t11 t12 t13 t83 t84 t85 undefA H)
 (j119_13 ev L k0 t0 t1 t2 t3 t4 t10 t11 t12 t13 t83 t84 t85 t1 H)
def j119_11 (ev : Ev) (L : Nat) (k0 : AV → AV → AV → AV → AV → AV → AV → Heap → CR) (t0 t1 t2 t3 t4 t10 t11 t12 t13 t83 t84 : AV) (H : Heap) : CR :=
 gd (isBool true t83) (j119_12 ev L k0 t0 t1 t2 t3 t4 t10 t11 t12 t13 t83 t84 undefA H)
 (j119_12 ev L k0 t0 t1 t2 t3 t4 t10 t11 t12 t13 t83 t84 t0 H)
def j119_5 (ev : Ev) (L : Nat) (k0 : AV → AV → AV → AV → AV → AV → AV → Heap → CR) (t0 t1 t2 t3 t4 t10 t11 t12 t13 : AV) (H : Heap) : CR :=
 ob (binR (some .other) none .gtr t1 (.int .i64 0)) fun t82 =>
 gd (isBool true t82) (j119_11 ev L k0 t0 t1 t2 t3 t4 t10 t11 t12 t13 t82 undefA H)
 (j119_11 ev L k0 t0 t1 t2 t3 t4 t10 t11 t12 t13 t82 t4 H)
def j119_24 (ev : Ev) (L : Nat) (k0 : AV → AV → AV → AV → AV → AV → AV → Heap → CR) (t0 t1 t2 t3 t4 t10 t11 t12 t13 t75 : AV) (H : Heap) : CR :=
 ifK (ck (ev 132 [t0, t1, t2, t4] H) fun t80 H =>
 ifK (.ret (.tup []) H)
 (j119_5 ev L k0 t0 t1 t2 t3 t4 t10 t11 t12 t13 H) t80)
 (j119_5 ev L k0 t0 t1 t2 t3 t4 t10 t11 t12 t13 H) t75
def j119_28 (ev : Ev) (L : Nat) (k0 : AV → AV → AV → AV → AV → AV → AV → Heap → CR) (t0 t1 t2 t3 t4 t10 t11 t12 t13 t72 t74 : AV) (H : Heap) : CR :=
 ob (pickF t74 (.bool false) t72) fun t75 =>
 j119_24 ev L k0 t0 t1 t2 t3 t4 t10 t11 t12 t13 t75 H
def j119_27 (ev : Ev) (L : Nat) (k0 : AV → AV → AV → AV → AV → AV → AV → Heap → CR) (t0 t1 t2 t3 t4 t10 t11 t12 t13 t72 t73 : AV) (H : Heap) : CR :=
 gd (isBool true t72) (j119_28 ev L k0 t0 t1 t2 t3 t4 t10 t11 t12 t13 t72 undefA H)
 (ob (binR (some .other) none .eql t73 (.int .i64 1)) fun t74 =>
 j119_28 ev L k0 t0 t1 t2 t3 t4 t10 t11 t12 t13 t72 t74 H)
def j119_26 (ev : Ev) (L : Nat) (k0 : AV → AV → AV → AV → AV → AV → AV → Heap → CR) (t0 t1 t2 t3 t4 t10 t11 t12 t13 t14 t69 t70 : AV) (H : Heap) : CR :=
 ob (pickF t70 (.bool false) t69) fun t71 =>
 gd (isBool true t71) (j119_27 ev L k0 t0 t1 t2 t3 t4 t10 t11 t12 t13 t71 undefA H)
 (j119_27 ev L k0 t0 t1 t2 t3 t4 t10 t11 t12 t13 t71 t14 H)
def j119_4 (ev : Ev) (L : Nat) (k0 : AV → AV → AV → AV → AV → AV → AV → Heap → CR) (t0 t1 t2 t3 t4 t10 t11 t12 t13 t14 : AV) (H : Heap) : CR :=
 gd (isBool true t10) (j119_26 ev L k0 t0 t1 t2 t3 t4 t10 t11 t12 t13 t14 t10 undefA H)
 (j119_26 ev L k0 t0 t1 t2 t3 t4 t10 t11 t12 t13 t14 t10 t11 H)
def j119_3 (ev : Ev) (L : Nat) (k0 : AV → AV → AV → AV → AV → AV → AV → Heap → CR) (t0 t1 t2 t3 t4 t10 t11 t12 : AV) (H : Heap) : CR :=
 ck (ev 130 [t0, t1, t2, t4] H) fun t52 H =>
 ob (extractA 0 t52) fun t53 =>
 ob (extractA 1 t52) fun t54 =>
 ob (binR (some .other) none .eql t54 (.int .i64 2)) fun t56 =>
 ifK (ck (ev 131 [t0, t1, t2, t4] H) fun t61 H =>
 ob (binR (some .other) none .sub t2 (.int .i64 1)) fun t63 =>
 ob (binR (some .other) none .sub t53 t1) fun t66 =>
 ob (binR (some .other) none .sub t63 t66) fun t67 =>
 j119_4 ev L k0 t0 t1 t2 t3 t4 t10 t11 t12 t67 (.int .i64 1) H)
 (j119_4 ev L k0 t0 t1 t2 t3 t4 t10 t11 t12 t53 t54 H) t56
def j119_2 (ev : Ev) (L : Nat) (k0 : AV → AV → AV → AV → AV → AV → AV → Heap → CR) (t0 t1 t2 t3 t4 t10 t11 t12 : AV) (H : Heap) : CR :=
 ob (unA .not t10) fun t39 =>
 ifK (ck (ev 129 [t0, t1, t2, t4] H) fun t44 H =>
 ob (binR (some .other) none .sub t3 (.int .i64 1)) fun t46 =>
 j119_3 ev L k0 t0 t1 t2 t46 t4 t10 t11 t12 H)
 (j119_3 ev L k0 t0 t1 t2 t3 t4 t10 t11 t12 H) t39
def j119_1 (ev : Ev) (L : Nat) (k0 : AV → AV → AV → AV → AV → AV → AV → Heap → CR) (t0 t1 t2 t3 t4 t10 t11 t12 : AV) (H : Heap) : CR :=
 ob (binR (some .other) none .eql t3 (.int .i64 0)) fun t32 =>
 ifK (ck (ev 128 [t0, t1, t2, t4] H) fun t37 H =>
 .ret (.tup []) H)
 (j119_2 ev L k0 t0 t1 t2 t3 t4 t10 t11 t12 H) t32
def j119_0 (ev : Ev) (L : Nat) (k0 : AV → AV → AV → AV → AV → AV → AV → Heap → CR) (t0 t1 t2 t3 t4 t10 t11 : AV) (H : Heap) : CR :=
 ob (binR (some .other) none .sub t2 t1) fun t23 =>
 ob (binR (some .other) none .leq t23 (.int .i64 12)) fun t25 =>
 ifK (ck (ev 127 [t0, t1, t2, t4] H) fun t30 H =>
 .ret (.tup []) H)
 (j119_1 ev L k0 t0 t1 t2 t3 t4 t10 t11 t23 H) t25
def l119_0 (ev : Ev) (L : Nat) : Nat → AV → AV → AV → AV → AV → AV → AV → Heap → CR
  | 0, _, _, _, _, _, _, _, _ => .fail
  | m + 1, t0, t1, t2, t3, t4, t10, t11, H => j119_0 ev L (l119_0 ev L m) t0 t1 t2 t3 t4 t10 t11 H
def f119 (ev : Ev) (L : Nat) (t0 t1 t2 t3 t4 : AV) (H : Heap) : CR :=
 l119_0 ev L L t0 t1 t2 t3 t4 (.bool true) (.bool true) H
def q119 : CRun := fun ev L args H => match args with
  | [t0, t1, t2, t3, t4] => f119 ev L t0 t1 t2 t3 t4 H
  | _ => .fail
def j120_0 (ev : Ev) (L : Nat) (t0 : AV) (H : Heap) : CR :=
 ob (binR (some .other) none .mul t0 (.int .i64 2)) fun t10 =>
 ob (binR (some .other) none .mul t0 (.int .i64 2)) fun t12 =>
 ob (binR (some .other) none .add t12 (.int .i64 2)) fun t13 =>
 ob (sliceR noG H .str (.str ⟨#[48, 48, 48, 49, 48, 50, 48, 51, 48, 52, 48, 53, 48, 54, 48, 55, 48, 56, 48, 57, 49, 48, 49, 49, 49, 50, 49, 51, 49, 52, 49, 53, 49, 54, 49, 55, 49, 56, 49, 57, 50, 48, 50, 49, 50, 50, 50, 51, 50, 52, 50, 53, 50, 54, 50, 55, 50, 56, 50, 57, 51, 48, 51, 49, 51, 50, 51, 51, 51, 52, 51, 53, 51, 54, 51, 55, 51, 56, 51, 57, 52, 48, 52, 49, 52, 50, 52, 51, 52, 52, 52, 53, 52, 54, 52, 55, 52, 56, 52, 57, 53, 48, 53, 49, 53, 50, 53, 51, 53, 52, 53, 53, 53, 54, 53, 55, 53, 56, 53, 57, 54, 48, 54, 49, 54, 50, 54, 51, 54, 52, 54, 53, 54, 54, 54, 55, 54, 56, 54, 57, 55, 48, 55, 49, 55, 50, 55, 51, 55, 52, 55, 53, 55, 54, 55, 55, 55, 56, 55, 57, 56, 48, 56, 49, 56, 50, 56, 51, 56, 52, 56, 53, 56, 54, 56, 55, 56, 56, 56, 57, 57, 48, 57, 49, 57, 50, 57, 51, 57, 52, 57, 53, 57, 54, 57, 55, 57, 56, 57, 57]⟩) (some t10) (some t13) none) fun t14 =>
 .ret t14 H
def f120 (ev : Ev) (L : Nat) (t0 : AV) (H : Heap) : CR :=
 ob (binR (some .other) none .lss t0 (.int .i64 10)) fun t4 =>
 ifK (ob (binR (some .other) none .add t0 (.int .i64 1)) fun t7 =>
 ob (sliceR noG H .str (.str ⟨#[48, 49, 50, 51, 52, 53, 54, 55, 56, 57, 97, 98, 99, 100, 101, 102, 103, 104, 105, 106, 107, 108, 109, 110, 111, 112, 113, 114, 115, 116, 117, 118, 119, 120, 121, 122]⟩) (some t0) (some t7) none) fun t8 =>
 .ret t8 H)
 (j120_0 ev L t0 H) t4
def q120 : CRun := fun ev L args H => match args with
  | [t0] => f120 ev L t0 H
  | _ => .fail
def j125_0 (ev : Ev) (L : Nat) (t0 : AV) (H : Heap) : CR :=
 obR ((fillR [] []).map fun cs => (.sl H.next 0 0 1 (some 0), H.new (.row cs))) fun t5 H =>
 obR (appendR 1 1 [(.int .u8 0)] false H t5 t0) fun t7 H =>
 .ret t7 H
def f125 (ev : Ev) (L : Nat) (t0 : AV) (H : Heap) : CR :=
 ob (binR (some .slice) none .eql t0 .nils) fun t4 =>
 ifK (.ret .nils H)
 (j125_0 ev L t0 H) t4
def q125 : CRun := fun ev L args H => match args with
  | [t0] => f125 ev L t0 H
  | _ => .fail
def j127_2 (ev : Ev) (L : Nat) (k0 : AV → AV → AV → AV → AV → Heap → CR) (t0 t1 t2 t3 t8 : AV) (H : Heap) : CR :=
 ob (binR (some .other) none .add t8 (.int .i64 1)) fun t16 =>
 k0 t0 t1 t2 t3 t16 H
def j127_6 (ev : Ev) (L : Nat) (k0 : AV → AV → AV → AV → AV → Heap → CR) (k4 : AV → AV → AV → AV → AV → AV → Heap → CR) (t0 t1 t2 t3 t8 t9 : AV) (H : Heap) : CR :=
 ob (binR (some .other) none .sub t9 (.int .i64 1)) fun t36 =>
 k4 t0 t1 t2 t3 t8 t36 H
def j127_5 (ev : Ev) (L : Nat) (k0 : AV → AV → AV → AV → AV → Heap → CR) (k4 : AV → AV → AV → AV → AV → AV → Heap → CR) (t0 t1 t2 t3 t8 t9 : AV) (H : Heap) : CR :=
 ob (binR (some .other) none .sub t9 (.int .i64 1)) fun t41 =>
 ob (binR (some .other) none .sub t9 (.int .i64 1)) fun t44 =>
 ob (indexSl 2 t0 t44) fun t45 =>
 ob (loadR true 2 noG H t45) fun t46 =>
 ob (indexSl 2 t0 t9) fun t49 =>
 ob (loadR true 2 noG H t49) fun t50 =>
 ob (indexSl 2 t0 t9) fun t51 =>
 ob (storeR 2 H t51 t46) fun H =>
 ob (indexSl 2 t0 t41) fun t52 =>
 ob (storeR 2 H t52 t50) fun H =>
 j127_6 ev L k0 k4 t0 t1 t2 t3 t8 t9 H
def j127_9 (ev : Ev) (L : Nat) (k0 : AV → AV → AV → AV → AV → Heap → CR) (k4 : AV → AV → AV → AV → AV → AV → Heap → CR) (t0 t1 t2 t3 t8 t9 t34 : AV) (H : Heap) : CR :=
 ifK (j127_5 ev L k0 k4 t0 t1 t2 t3 t8 t9 H)
 (j127_2 ev L k0 t0 t1 t2 t3 t8 H) t34
def j127_22 (ev : Ev) (L : Nat) (k0 : AV → AV → AV → AV → AV → Heap → CR) (k4 : AV → AV → AV → AV → AV → AV → Heap → CR) (t0 t1 t2 t3 t8 t9 t21 t33 : AV) (H : Heap) : CR :=
 ob (pickF t33 (.bool false) t21) fun t34 =>
 j127_9 ev L k0 k4 t0 t1 t2 t3 t8 t9 t34 H
def j127_21 (ev : Ev) (L : Nat) (k0 : AV → AV → AV → AV → AV → Heap → CR) (k4 : AV → AV → AV → AV → AV → AV → Heap → CR) (t0 t1 t2 t3 t8 t9 t21 t32 : AV) (H : Heap) : CR :=
 gd (isBool true t21) (j127_22 ev L k0 k4 t0 t1 t2 t3 t8 t9 t21 undefA H)
 (ob (binR (some .other) none .lss t32 (.int .i64 0)) fun t33 =>
 j127_22 ev L k0 k4 t0 t1 t2 t3 t8 t9 t21 t33 H)
def j127_20 (ev : Ev) (L : Nat) (k0 : AV → AV → AV → AV → AV → Heap → CR) (k4 : AV → AV → AV → AV → AV → AV → Heap → CR) (t0 t1 t2 t3 t8 t9 t21 t22 t26 t31 : AV) (H : Heap) : CR :=
 gd (isBool true t21) (j127_21 ev L k0 k4 t0 t1 t2 t3 t8 t9 t21 undefA H)
 (ob (asCall [t26, t31] t22) fun fa => ck ((noPan ev) fa.1 fa.2 H) fun t32 H =>
 j127_21 ev L k0 k4 t0 t1 t2 t3 t8 t9 t21 t32 H)
def j127_19 (ev : Ev) (L : Nat) (k0 : AV → AV → AV → AV → AV → Heap → CR) (k4 : AV → AV → AV → AV → AV → AV → Heap → CR) (t0 t1 t2 t3 t8 t9 t21 t22 t26 t30 : AV) (H : Heap) : CR :=
 gd (isBool true t21) (j127_20 ev L k0 k4 t0 t1 t2 t3 t8 t9 t21 t22 t26 undefA H)
 (ob (loadR true 2 noG H t30) fun t31 =>
 j127_20 ev L k0 k4 t0 t1 t2 t3 t8 t9 t21 t22 t26 t31 H)
def j127_18 (ev : Ev) (L : Nat) (k0 : AV → AV → AV → AV → AV → Heap → CR) (k4 : AV → AV → AV → AV → AV → AV → Heap → CR) (t0 t1 t2 t3 t8 t9 t21 t22 t26 t27 t29 : AV) (H : Heap) : CR :=
 gd (isBool true t21) (j127_19 ev L k0 k4 t0 t1 t2 t3 t8 t9 t21 t22 t26 undefA H)
 (ob (indexSl 2 t27 t29) fun t30 =>
 j127_19 ev L k0 k4 t0 t1 t2 t3 t8 t9 t21 t22 t26 t30 H)
def j127_17 (ev : Ev) (L : Nat) (k0 : AV → AV → AV → AV → AV → Heap → CR) (k4 : AV → AV → AV → AV → AV → AV → Heap → CR) (t0 t1 t2 t3 t8 t9 t21 t22 t26 t27 t28 : AV) (H : Heap) : CR :=
 gd (isBool true t21) (j127_18 ev L k0 k4 t0 t1 t2 t3 t8 t9 t21 t22 t26 t27 undefA H)
 (ob (binR (some .other) none .sub t28 (.int .i64 1)) fun t29 =>
 j127_18 ev L k0 k4 t0 t1 t2 t3 t8 t9 t21 t22 t26 t27 t29 H)
def j127_16 (ev : Ev) (L : Nat) (k0 : AV → AV → AV → AV → AV → Heap → CR) (k4 : AV → AV → AV → AV → AV → AV → Heap → CR) (t0 t1 t2 t3 t8 t9 t21 t22 t26 t27 : AV) (H : Heap) : CR :=
 gd (isBool true t21) (j127_17 ev L k0 k4 t0 t1 t2 t3 t8 t9 t21 t22 t26 t27 undefA H)
 (j127_17 ev L k0 k4 t0 t1 t2 t3 t8 t9 t21 t22 t26 t27 t9 H)
def j127_15 (ev : Ev) (L : Nat) (k0 : AV → AV → AV → AV → AV → Heap → CR) (k4 : AV → AV → AV → AV → AV → AV → Heap → CR) (t0 t1 t2 t3 t8 t9 t21 t22 t26 : AV) (H : Heap) : CR :=
 gd (isBool true t21) (j127_16 ev L k0 k4 t0 t1 t2 t3 t8 t9 t21 t22 t26 undefA H)
 (j127_16 ev L k0 k4 t0 t1 t2 t3 t8 t9 t21 t22 t26 t0 H)
def j127_14 (ev : Ev) (L : Nat) (k0 : AV → AV → AV → AV → AV → Heap → CR) (k4 : AV → AV → AV → AV → AV → AV → Heap → CR) (t0 t1 t2 t3 t8 t9 t21 t22 t25 : AV) (H : Heap) : CR :=
 gd (isBool true t21) (j127_15 ev L k0 k4 t0 t1 t2 t3 t8 t9 t21 t22 undefA H)
 (ob (loadR true 2 noG H t25) fun t26 =>
 j127_15 ev L k0 k4 t0 t1 t2 t3 t8 t9 t21 t22 t26 H)
def j127_13 (ev : Ev) (L : Nat) (k0 : AV → AV → AV → AV → AV → Heap → CR) (k4 : AV → AV → AV → AV → AV → AV → Heap → CR) (t0 t1 t2 t3 t8 t9 t21 t22 t23 t24 : AV) (H : Heap) : CR :=
 gd (isBool true t21) (j127_14 ev L k0 k4 t0 t1 t2 t3 t8 t9 t21 t22 undefA H)
 (ob (indexSl 2 t23 t24) fun t25 =>
 j127_14 ev L k0 k4 t0 t1 t2 t3 t8 t9 t21 t22 t25 H)
def j127_12 (ev : Ev) (L : Nat) (k0 : AV → AV → AV → AV → AV → Heap → CR) (k4 : AV → AV → AV → AV → AV → AV → Heap → CR) (t0 t1 t2 t3 t8 t9 t21 t22 t23 : AV) (H : Heap) : CR :=
 gd (isBool true t21) (j127_13 ev L k0 k4 t0 t1 t2 t3 t8 t9 t21 t22 t23 undefA H)
 (j127_13 ev L k0 k4 t0 t1 t2 t3 t8 t9 t21 t22 t23 t9 H)
def j127_11 (ev : Ev) (L : Nat) (k0 : AV → AV → AV → AV → AV → Heap → CR) (k4 : AV → AV → AV → AV → AV → AV → Heap → CR) (t0 t1 t2 t3 t8 t9 t21 t22 : AV) (H : Heap) : CR :=
 gd (isBool true t21) (j127_12 ev L k0 k4 t0 t1 t2 t3 t8 t9 t21 t22 undefA H)
 (j127_12 ev L k0 k4 t0 t1 t2 t3 t8 t9 t21 t22 t0 H)
def j127_4 (ev : Ev) (L : Nat) (k0 : AV → AV → AV → AV → AV → Heap → CR) (k4 : AV → AV → AV → AV → AV → AV → Heap → CR) (t0 t1 t2 t3 t8 t9 : AV) (H : Heap) : CR :=
 ob (binR (some .other) none .gtr t9 t1) fun t20 =>
 gd (isBool true t20) (j127_11 ev L k0 k4 t0 t1 t2 t3 t8 t9 t20 undefA H)
 (j127_11 ev L k0 k4 t0 t1 t2 t3 t8 t9 t20 t3 H)
def l127_4 (ev : Ev) (L : Nat) (k0 : AV → AV → AV → AV → AV → Heap → CR) : Nat → AV → AV → AV → AV → AV → AV → Heap → CR
  | 0, _, _, _, _, _, _, _ => .fail
  | m + 1, t0, t1, t2, t3, t8, t9, H => j127_4 ev L k0 (l127_4 ev L k0 m) t0 t1 t2 t3 t8 t9 H
def j127_1 (ev : Ev) (L : Nat) (k0 : AV → AV → AV → AV → AV → Heap → CR) (t0 t1 t2 t3 t8 : AV) (H : Heap) : CR :=
 l127_4 ev L k0 L t0 t1 t2 t3 t8 t8 H
def j127_0 (ev : Ev) (L : Nat) (k0 : AV → AV → AV → AV → AV → Heap → CR) (t0 t1 t2 t3 t8 : AV) (H : Heap) : CR :=
 ob (binR (some .other) none .lss t8 t2) fun t14 =>
 ifK (j127_1 ev L k0 t0 t1 t2 t3 t8 H)
 (.ret (.tup []) H) t14
def l127_0 (ev : Ev) (L : Nat) : Nat → AV → AV → AV → AV → AV → Heap → CR
  | 0, _, _, _, _, _, _ => .fail
  | m + 1, t0, t1, t2, t3, t8, H => j127_0 ev L (l127_0 ev L m) t0 t1 t2 t3 t8 H
def f127 (ev : Ev) (L : Nat) (t0 t1 t2 t3 : AV) (H : Heap) : CR :=
 ob (binR (some .other) none .add t1 (.int .i64 1)) fun t11 =>
 l127_0 ev L L t0 t1 t2 t3 t11 H
def q127 : CRun := fun ev L args H => match args with
  | [t0, t1, t2, t3] => f127 ev L t0 t1 t2 t3 H
  | _ => .fail
end
end Go.AM.Ly
