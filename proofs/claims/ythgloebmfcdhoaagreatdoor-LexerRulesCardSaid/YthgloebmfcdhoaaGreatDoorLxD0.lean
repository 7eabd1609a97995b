import Derived.Test.YthgloebmfcdhoaaGreatDoorLxSch
import Derived.Test.YthgloebmfcdhoaaGreatDoorLxC0
set_option maxRecDepth 100000
set_option linter.unusedVariables false
namespace Go.AM
open Go
theorem Lx.r3 : (Proofs.Tryz.prog.funcs[3]?).bind (resFunc Proofs.Tryz.prog (schOf Lx.sch 3)) = some Lx.c3 := by kernel_rfl
theorem Lx.r4 : (Proofs.Tryz.prog.funcs[4]?).bind (resFunc Proofs.Tryz.prog (schOf Lx.sch 4)) = some Lx.c4 := by kernel_rfl
theorem Lx.r5 : (Proofs.Tryz.prog.funcs[5]?).bind (resFunc Proofs.Tryz.prog (schOf Lx.sch 5)) = some Lx.c5 := by kernel_rfl
theorem Lx.r6 : (Proofs.Tryz.prog.funcs[6]?).bind (resFunc Proofs.Tryz.prog (schOf Lx.sch 6)) = some Lx.c6 := by kernel_rfl
theorem Lx.r7 : (Proofs.Tryz.prog.funcs[7]?).bind (resFunc Proofs.Tryz.prog (schOf Lx.sch 7)) = some Lx.c7 := by kernel_rfl
theorem Lx.r8 : (Proofs.Tryz.prog.funcs[8]?).bind (resFunc Proofs.Tryz.prog (schOf Lx.sch 8)) = some Lx.c8 := by kernel_rfl
theorem Lx.r9 : (Proofs.Tryz.prog.funcs[9]?).bind (resFunc Proofs.Tryz.prog (schOf Lx.sch 9)) = some Lx.c9 := by kernel_rfl
theorem Lx.r10 : (Proofs.Tryz.prog.funcs[10]?).bind (resFunc Proofs.Tryz.prog (schOf Lx.sch 10)) = some Lx.c10 := by kernel_rfl
theorem Lx.r11 : (Proofs.Tryz.prog.funcs[11]?).bind (resFunc Proofs.Tryz.prog (schOf Lx.sch 11)) = some Lx.c11 := by kernel_rfl
theorem Lx.r12 : (Proofs.Tryz.prog.funcs[12]?).bind (resFunc Proofs.Tryz.prog (schOf Lx.sch 12)) = some Lx.c12 := by kernel_rfl
theorem Lx.r13 : (Proofs.Tryz.prog.funcs[13]?).bind (resFunc Proofs.Tryz.prog (schOf Lx.sch 13)) = some Lx.c13 := by kernel_rfl
theorem Lx.r14 : (Proofs.Tryz.prog.funcs[14]?).bind (resFunc Proofs.Tryz.prog (schOf Lx.sch 14)) = some Lx.c14 := by kernel_rfl
theorem Lx.r15 : (Proofs.Tryz.prog.funcs[15]?).bind (resFunc Proofs.Tryz.prog (schOf Lx.sch 15)) = some Lx.c15 := by kernel_rfl
theorem Lx.r16 : (Proofs.Tryz.prog.funcs[16]?).bind (resFunc Proofs.Tryz.prog (schOf Lx.sch 16)) = some Lx.c16 := by kernel_rfl
theorem Lx.r17 : (Proofs.Tryz.prog.funcs[17]?).bind (resFunc Proofs.Tryz.prog (schOf Lx.sch 17)) = some Lx.c17 := by kernel_rfl
theorem Lx.r18 : (Proofs.Tryz.prog.funcs[18]?).bind (resFunc Proofs.Tryz.prog (schOf Lx.sch 18)) = some Lx.c18 := by kernel_rfl
theorem Lx.r19 : (Proofs.Tryz.prog.funcs[19]?).bind (resFunc Proofs.Tryz.prog (schOf Lx.sch 19)) = some Lx.c19 := by kernel_rfl
theorem Lx.r20 : (Proofs.Tryz.prog.funcs[20]?).bind (resFunc Proofs.Tryz.prog (schOf Lx.sch 20)) = some Lx.c20 := by kernel_rfl
theorem Lx.r21 : (Proofs.Tryz.prog.funcs[21]?).bind (resFunc Proofs.Tryz.prog (schOf Lx.sch 21)) = some Lx.c21 := by kernel_rfl
theorem Lx.r22 : (Proofs.Tryz.prog.funcs[22]?).bind (resFunc Proofs.Tryz.prog (schOf Lx.sch 22)) = some Lx.c22 := by kernel_rfl
theorem Lx.r23 : (Proofs.Tryz.prog.funcs[23]?).bind (resFunc Proofs.Tryz.prog (schOf Lx.sch 23)) = some Lx.c23 := by kernel_rfl
theorem Lx.r24 : (Proofs.Tryz.prog.funcs[24]?).bind (resFunc Proofs.Tryz.prog (schOf Lx.sch 24)) = some Lx.c24 := by kernel_rfl
theorem Lx.r25 : (Proofs.Tryz.prog.funcs[25]?).bind (resFunc Proofs.Tryz.prog (schOf Lx.sch 25)) = some Lx.c25 := by kernel_rfl
theorem Lx.r26 : (Proofs.Tryz.prog.funcs[26]?).bind (resFunc Proofs.Tryz.prog (schOf Lx.sch 26)) = some Lx.c26 := by kernel_rfl
theorem Lx.r27 : (Proofs.Tryz.prog.funcs[27]?).bind (resFunc Proofs.Tryz.prog (schOf Lx.sch 27)) = some Lx.c27 := by kernel_rfl
theorem Lx.r28 : (Proofs.Tryz.prog.funcs[28]?).bind (resFunc Proofs.Tryz.prog (schOf Lx.sch 28)) = some Lx.c28 := by kernel_rfl
theorem Lx.r29 : (Proofs.Tryz.prog.funcs[29]?).bind (resFunc Proofs.Tryz.prog (schOf Lx.sch 29)) = some Lx.c29 := by kernel_rfl
theorem Lx.r30 : (Proofs.Tryz.prog.funcs[30]?).bind (resFunc Proofs.Tryz.prog (schOf Lx.sch 30)) = some Lx.c30 := by kernel_rfl
theorem Lx.r31 : (Proofs.Tryz.prog.funcs[31]?).bind (resFunc Proofs.Tryz.prog (schOf Lx.sch 31)) = some Lx.c31 := by kernel_rfl
theorem Lx.r32 : (Proofs.Tryz.prog.funcs[32]?).bind (resFunc Proofs.Tryz.prog (schOf Lx.sch 32)) = some Lx.c32 := by kernel_rfl
theorem Lx.r33 : (Proofs.Tryz.prog.funcs[33]?).bind (resFunc Proofs.Tryz.prog (schOf Lx.sch 33)) = some Lx.c33 := by kernel_rfl
theorem Lx.r34 : (Proofs.Tryz.prog.funcs[34]?).bind (resFunc Proofs.Tryz.prog (schOf Lx.sch 34)) = some Lx.c34 := by kernel_rfl
theorem Lx.r35 : (Proofs.Tryz.prog.funcs[35]?).bind (resFunc Proofs.Tryz.prog (schOf Lx.sch 35)) = some Lx.c35 := by kernel_rfl
theorem Lx.r36 : (Proofs.Tryz.prog.funcs[36]?).bind (resFunc Proofs.Tryz.prog (schOf Lx.sch 36)) = some Lx.c36 := by kernel_rfl
theorem Lx.r37 : (Proofs.Tryz.prog.funcs[37]?).bind (resFunc Proofs.Tryz.prog (schOf Lx.sch 37)) = some Lx.c37 := by kernel_rfl
theorem Lx.r38 : (Proofs.Tryz.prog.funcs[38]?).bind (resFunc Proofs.Tryz.prog (schOf Lx.sch 38)) = some Lx.c38 := by kernel_rfl
theorem Lx.r39 : (Proofs.Tryz.prog.funcs[39]?).bind (resFunc Proofs.Tryz.prog (schOf Lx.sch 39)) = some Lx.c39 := by kernel_rfl
theorem Lx.r40 : (Proofs.Tryz.prog.funcs[40]?).bind (resFunc Proofs.Tryz.prog (schOf Lx.sch 40)) = some Lx.c40 := by kernel_rfl
theorem Lx.r41 : (Proofs.Tryz.prog.funcs[41]?).bind (resFunc Proofs.Tryz.prog (schOf Lx.sch 41)) = some Lx.c41 := by kernel_rfl
theorem Lx.r42 : (Proofs.Tryz.prog.funcs[42]?).bind (resFunc Proofs.Tryz.prog (schOf Lx.sch 42)) = some Lx.c42 := by kernel_rfl
theorem Lx.r43 : (Proofs.Tryz.prog.funcs[43]?).bind (resFunc Proofs.Tryz.prog (schOf Lx.sch 43)) = some Lx.c43 := by kernel_rfl
end Go.AM
