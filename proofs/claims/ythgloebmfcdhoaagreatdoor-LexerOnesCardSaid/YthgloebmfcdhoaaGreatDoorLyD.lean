import Derived.Test.YthgloebmfcdhoaaGreatDoorLySch
import Derived.Test.YthgloebmfcdhoaaGreatDoorLyCa
import Derived.Test.YthgloebmfcdhoaaGreatDoorLyCb
set_option maxRecDepth 100000
set_option linter.unusedVariables false
set_option linter.unusedSimpArgs false
namespace Go.AM.Ly
open Go
noncomputable section
theorem r3 : (Proofs.Tryz.prog.funcs[3]?).bind (resFunc Proofs.Tryz.prog (schOf sch 3)) = some c3 := by kernel_rfl
theorem o3 : okFunc c3 = true := by kernel_rfl
theorem r4 : (Proofs.Tryz.prog.funcs[4]?).bind (resFunc Proofs.Tryz.prog (schOf sch 4)) = some c4 := by kernel_rfl
theorem o4 : okFunc c4 = true := by kernel_rfl
theorem r5 : (Proofs.Tryz.prog.funcs[5]?).bind (resFunc Proofs.Tryz.prog (schOf sch 5)) = some c5 := by kernel_rfl
theorem o5 : okFunc c5 = true := by kernel_rfl
theorem r6 : (Proofs.Tryz.prog.funcs[6]?).bind (resFunc Proofs.Tryz.prog (schOf sch 6)) = some c6 := by kernel_rfl
theorem o6 : okFunc c6 = true := by kernel_rfl
theorem r7 : (Proofs.Tryz.prog.funcs[7]?).bind (resFunc Proofs.Tryz.prog (schOf sch 7)) = some c7 := by kernel_rfl
theorem o7 : okFunc c7 = true := by kernel_rfl
theorem r8 : (Proofs.Tryz.prog.funcs[8]?).bind (resFunc Proofs.Tryz.prog (schOf sch 8)) = some c8 := by kernel_rfl
theorem o8 : okFunc c8 = true := by kernel_rfl
theorem r9 : (Proofs.Tryz.prog.funcs[9]?).bind (resFunc Proofs.Tryz.prog (schOf sch 9)) = some c9 := by kernel_rfl
theorem o9 : okFunc c9 = true := by kernel_rfl
theorem r10 : (Proofs.Tryz.prog.funcs[10]?).bind (resFunc Proofs.Tryz.prog (schOf sch 10)) = some c10 := by kernel_rfl
theorem o10 : okFunc c10 = true := by kernel_rfl
theorem r11 : (Proofs.Tryz.prog.funcs[11]?).bind (resFunc Proofs.Tryz.prog (schOf sch 11)) = some c11 := by kernel_rfl
theorem o11 : okFunc c11 = true := by kernel_rfl
theorem r12 : (Proofs.Tryz.prog.funcs[12]?).bind (resFunc Proofs.Tryz.prog (schOf sch 12)) = some c12 := by kernel_rfl
theorem o12 : okFunc c12 = true := by kernel_rfl
theorem r13 : (Proofs.Tryz.prog.funcs[13]?).bind (resFunc Proofs.Tryz.prog (schOf sch 13)) = some c13 := by kernel_rfl
theorem o13 : okFunc c13 = true := by kernel_rfl
theorem r14 : (Proofs.Tryz.prog.funcs[14]?).bind (resFunc Proofs.Tryz.prog (schOf sch 14)) = some c14 := by kernel_rfl
theorem o14 : okFunc c14 = true := by kernel_rfl
theorem r15 : (Proofs.Tryz.prog.funcs[15]?).bind (resFunc Proofs.Tryz.prog (schOf sch 15)) = some c15 := by kernel_rfl
theorem o15 : okFunc c15 = true := by kernel_rfl
theorem r16 : (Proofs.Tryz.prog.funcs[16]?).bind (resFunc Proofs.Tryz.prog (schOf sch 16)) = some c16 := by kernel_rfl
theorem o16 : okFunc c16 = true := by kernel_rfl
theorem r17 : (Proofs.Tryz.prog.funcs[17]?).bind (resFunc Proofs.Tryz.prog (schOf sch 17)) = some c17 := by kernel_rfl
theorem o17 : okFunc c17 = true := by kernel_rfl
theorem r18 : (Proofs.Tryz.prog.funcs[18]?).bind (resFunc Proofs.Tryz.prog (schOf sch 18)) = some c18 := by kernel_rfl
theorem o18 : okFunc c18 = true := by kernel_rfl
theorem r19 : (Proofs.Tryz.prog.funcs[19]?).bind (resFunc Proofs.Tryz.prog (schOf sch 19)) = some c19 := by kernel_rfl
theorem o19 : okFunc c19 = true := by kernel_rfl
theorem r20 : (Proofs.Tryz.prog.funcs[20]?).bind (resFunc Proofs.Tryz.prog (schOf sch 20)) = some c20 := by kernel_rfl
theorem o20 : okFunc c20 = true := by kernel_rfl
theorem r21 : (Proofs.Tryz.prog.funcs[21]?).bind (resFunc Proofs.Tryz.prog (schOf sch 21)) = some c21 := by kernel_rfl
theorem o21 : okFunc c21 = true := by kernel_rfl
theorem r22 : (Proofs.Tryz.prog.funcs[22]?).bind (resFunc Proofs.Tryz.prog (schOf sch 22)) = some c22 := by kernel_rfl
theorem o22 : okFunc c22 = true := by kernel_rfl
theorem r23 : (Proofs.Tryz.prog.funcs[23]?).bind (resFunc Proofs.Tryz.prog (schOf sch 23)) = some c23 := by kernel_rfl
theorem o23 : okFunc c23 = true := by kernel_rfl
theorem r24 : (Proofs.Tryz.prog.funcs[24]?).bind (resFunc Proofs.Tryz.prog (schOf sch 24)) = some c24 := by kernel_rfl
theorem o24 : okFunc c24 = true := by kernel_rfl
theorem r25 : (Proofs.Tryz.prog.funcs[25]?).bind (resFunc Proofs.Tryz.prog (schOf sch 25)) = some c25 := by kernel_rfl
theorem o25 : okFunc c25 = true := by kernel_rfl
end
end Go.AM.Ly
set_option maxRecDepth 100000
namespace Go.AM.Ly
open Go
noncomputable section
theorem r26 : (Proofs.Tryz.prog.funcs[26]?).bind (resFunc Proofs.Tryz.prog (schOf sch 26)) = some c26 := by kernel_rfl
theorem o26 : okFunc c26 = true := by kernel_rfl
theorem r27 : (Proofs.Tryz.prog.funcs[27]?).bind (resFunc Proofs.Tryz.prog (schOf sch 27)) = some c27 := by kernel_rfl
theorem o27 : okFunc c27 = true := by kernel_rfl
theorem r28 : (Proofs.Tryz.prog.funcs[28]?).bind (resFunc Proofs.Tryz.prog (schOf sch 28)) = some c28 := by kernel_rfl
theorem o28 : okFunc c28 = true := by kernel_rfl
theorem r29 : (Proofs.Tryz.prog.funcs[29]?).bind (resFunc Proofs.Tryz.prog (schOf sch 29)) = some c29 := by kernel_rfl
theorem o29 : okFunc c29 = true := by kernel_rfl
theorem r30 : (Proofs.Tryz.prog.funcs[30]?).bind (resFunc Proofs.Tryz.prog (schOf sch 30)) = some c30 := by kernel_rfl
theorem o30 : okFunc c30 = true := by kernel_rfl
theorem r31 : (Proofs.Tryz.prog.funcs[31]?).bind (resFunc Proofs.Tryz.prog (schOf sch 31)) = some c31 := by kernel_rfl
theorem o31 : okFunc c31 = true := by kernel_rfl
theorem r32 : (Proofs.Tryz.prog.funcs[32]?).bind (resFunc Proofs.Tryz.prog (schOf sch 32)) = some c32 := by kernel_rfl
theorem o32 : okFunc c32 = true := by kernel_rfl
theorem r33 : (Proofs.Tryz.prog.funcs[33]?).bind (resFunc Proofs.Tryz.prog (schOf sch 33)) = some c33 := by kernel_rfl
theorem o33 : okFunc c33 = true := by kernel_rfl
theorem r34 : (Proofs.Tryz.prog.funcs[34]?).bind (resFunc Proofs.Tryz.prog (schOf sch 34)) = some c34 := by kernel_rfl
theorem o34 : okFunc c34 = true := by kernel_rfl
theorem r35 : (Proofs.Tryz.prog.funcs[35]?).bind (resFunc Proofs.Tryz.prog (schOf sch 35)) = some c35 := by kernel_rfl
theorem o35 : okFunc c35 = true := by kernel_rfl
theorem r36 : (Proofs.Tryz.prog.funcs[36]?).bind (resFunc Proofs.Tryz.prog (schOf sch 36)) = some c36 := by kernel_rfl
theorem o36 : okFunc c36 = true := by kernel_rfl
theorem r37 : (Proofs.Tryz.prog.funcs[37]?).bind (resFunc Proofs.Tryz.prog (schOf sch 37)) = some c37 := by kernel_rfl
theorem o37 : okFunc c37 = true := by kernel_rfl
theorem r38 : (Proofs.Tryz.prog.funcs[38]?).bind (resFunc Proofs.Tryz.prog (schOf sch 38)) = some c38 := by kernel_rfl
theorem o38 : okFunc c38 = true := by kernel_rfl
theorem r39 : (Proofs.Tryz.prog.funcs[39]?).bind (resFunc Proofs.Tryz.prog (schOf sch 39)) = some c39 := by kernel_rfl
theorem o39 : okFunc c39 = true := by kernel_rfl
theorem r40 : (Proofs.Tryz.prog.funcs[40]?).bind (resFunc Proofs.Tryz.prog (schOf sch 40)) = some c40 := by kernel_rfl
theorem o40 : okFunc c40 = true := by kernel_rfl
theorem r41 : (Proofs.Tryz.prog.funcs[41]?).bind (resFunc Proofs.Tryz.prog (schOf sch 41)) = some c41 := by kernel_rfl
theorem o41 : okFunc c41 = true := by kernel_rfl
theorem r42 : (Proofs.Tryz.prog.funcs[42]?).bind (resFunc Proofs.Tryz.prog (schOf sch 42)) = some c42 := by kernel_rfl
theorem o42 : okFunc c42 = true := by kernel_rfl
theorem r43 : (Proofs.Tryz.prog.funcs[43]?).bind (resFunc Proofs.Tryz.prog (schOf sch 43)) = some c43 := by kernel_rfl
theorem o43 : okFunc c43 = true := by kernel_rfl
theorem r44 : (Proofs.Tryz.prog.funcs[44]?).bind (resFunc Proofs.Tryz.prog (schOf sch 44)) = some c44 := by kernel_rfl
theorem o44 : okFunc c44 = true := by kernel_rfl
theorem r45 : (Proofs.Tryz.prog.funcs[45]?).bind (resFunc Proofs.Tryz.prog (schOf sch 45)) = some c45 := by kernel_rfl
theorem o45 : okFunc c45 = true := by kernel_rfl
end
end Go.AM.Ly
set_option maxRecDepth 100000
namespace Go.AM.Ly
open Go
noncomputable section
theorem r46 : (Proofs.Tryz.prog.funcs[46]?).bind (resFunc Proofs.Tryz.prog (schOf sch 46)) = some c46 := by kernel_rfl
theorem o46 : okFunc c46 = true := by kernel_rfl
theorem r47 : (Proofs.Tryz.prog.funcs[47]?).bind (resFunc Proofs.Tryz.prog (schOf sch 47)) = some c47 := by kernel_rfl
theorem o47 : okFunc c47 = true := by kernel_rfl
theorem r48 : (Proofs.Tryz.prog.funcs[48]?).bind (resFunc Proofs.Tryz.prog (schOf sch 48)) = some c48 := by kernel_rfl
theorem o48 : okFunc c48 = true := by kernel_rfl
theorem r49 : (Proofs.Tryz.prog.funcs[49]?).bind (resFunc Proofs.Tryz.prog (schOf sch 49)) = some c49 := by kernel_rfl
theorem o49 : okFunc c49 = true := by kernel_rfl
theorem r50 : (Proofs.Tryz.prog.funcs[50]?).bind (resFunc Proofs.Tryz.prog (schOf sch 50)) = some c50 := by kernel_rfl
theorem o50 : okFunc c50 = true := by kernel_rfl
theorem r51 : (Proofs.Tryz.prog.funcs[51]?).bind (resFunc Proofs.Tryz.prog (schOf sch 51)) = some c51 := by kernel_rfl
theorem o51 : okFunc c51 = true := by kernel_rfl
theorem r52 : (Proofs.Tryz.prog.funcs[52]?).bind (resFunc Proofs.Tryz.prog (schOf sch 52)) = some c52 := by kernel_rfl
theorem o52 : okFunc c52 = true := by kernel_rfl
theorem r53 : (Proofs.Tryz.prog.funcs[53]?).bind (resFunc Proofs.Tryz.prog (schOf sch 53)) = some c53 := by kernel_rfl
theorem o53 : okFunc c53 = true := by kernel_rfl
theorem r54 : (Proofs.Tryz.prog.funcs[54]?).bind (resFunc Proofs.Tryz.prog (schOf sch 54)) = some c54 := by kernel_rfl
theorem o54 : okFunc c54 = true := by kernel_rfl
theorem r55 : (Proofs.Tryz.prog.funcs[55]?).bind (resFunc Proofs.Tryz.prog (schOf sch 55)) = some c55 := by kernel_rfl
theorem o55 : okFunc c55 = true := by kernel_rfl
theorem r56 : (Proofs.Tryz.prog.funcs[56]?).bind (resFunc Proofs.Tryz.prog (schOf sch 56)) = some c56 := by kernel_rfl
theorem o56 : okFunc c56 = true := by kernel_rfl
theorem r57 : (Proofs.Tryz.prog.funcs[57]?).bind (resFunc Proofs.Tryz.prog (schOf sch 57)) = some c57 := by kernel_rfl
theorem o57 : okFunc c57 = true := by kernel_rfl
theorem r58 : (Proofs.Tryz.prog.funcs[58]?).bind (resFunc Proofs.Tryz.prog (schOf sch 58)) = some c58 := by kernel_rfl
theorem o58 : okFunc c58 = true := by kernel_rfl
theorem r59 : (Proofs.Tryz.prog.funcs[59]?).bind (resFunc Proofs.Tryz.prog (schOf sch 59)) = some c59 := by kernel_rfl
theorem o59 : okFunc c59 = true := by kernel_rfl
theorem r60 : (Proofs.Tryz.prog.funcs[60]?).bind (resFunc Proofs.Tryz.prog (schOf sch 60)) = some c60 := by kernel_rfl
theorem o60 : okFunc c60 = true := by kernel_rfl
theorem r61 : (Proofs.Tryz.prog.funcs[61]?).bind (resFunc Proofs.Tryz.prog (schOf sch 61)) = some c61 := by kernel_rfl
theorem o61 : okFunc c61 = true := by kernel_rfl
theorem r62 : (Proofs.Tryz.prog.funcs[62]?).bind (resFunc Proofs.Tryz.prog (schOf sch 62)) = some c62 := by kernel_rfl
theorem o62 : okFunc c62 = true := by kernel_rfl
theorem r63 : (Proofs.Tryz.prog.funcs[63]?).bind (resFunc Proofs.Tryz.prog (schOf sch 63)) = some c63 := by kernel_rfl
theorem o63 : okFunc c63 = true := by kernel_rfl
theorem r64 : (Proofs.Tryz.prog.funcs[64]?).bind (resFunc Proofs.Tryz.prog (schOf sch 64)) = some c64 := by kernel_rfl
theorem o64 : okFunc c64 = true := by kernel_rfl
theorem r65 : (Proofs.Tryz.prog.funcs[65]?).bind (resFunc Proofs.Tryz.prog (schOf sch 65)) = some c65 := by kernel_rfl
theorem o65 : okFunc c65 = true := by kernel_rfl
theorem r66 : (Proofs.Tryz.prog.funcs[66]?).bind (resFunc Proofs.Tryz.prog (schOf sch 66)) = some c66 := by kernel_rfl
theorem o66 : okFunc c66 = true := by kernel_rfl
theorem r67 : (Proofs.Tryz.prog.funcs[67]?).bind (resFunc Proofs.Tryz.prog (schOf sch 67)) = some c67 := by kernel_rfl
theorem o67 : okFunc c67 = true := by kernel_rfl
theorem r68 : (Proofs.Tryz.prog.funcs[68]?).bind (resFunc Proofs.Tryz.prog (schOf sch 68)) = some c68 := by kernel_rfl
theorem o68 : okFunc c68 = true := by kernel_rfl
theorem r69 : (Proofs.Tryz.prog.funcs[69]?).bind (resFunc Proofs.Tryz.prog (schOf sch 69)) = some c69 := by kernel_rfl
theorem o69 : okFunc c69 = true := by kernel_rfl
theorem r70 : (Proofs.Tryz.prog.funcs[70]?).bind (resFunc Proofs.Tryz.prog (schOf sch 70)) = some c70 := by kernel_rfl
theorem o70 : okFunc c70 = true := by kernel_rfl
theorem r71 : (Proofs.Tryz.prog.funcs[71]?).bind (resFunc Proofs.Tryz.prog (schOf sch 71)) = some c71 := by kernel_rfl
theorem o71 : okFunc c71 = true := by kernel_rfl
theorem r72 : (Proofs.Tryz.prog.funcs[72]?).bind (resFunc Proofs.Tryz.prog (schOf sch 72)) = some c72 := by kernel_rfl
theorem o72 : okFunc c72 = true := by kernel_rfl
theorem r73 : (Proofs.Tryz.prog.funcs[73]?).bind (resFunc Proofs.Tryz.prog (schOf sch 73)) = some c73 := by kernel_rfl
theorem o73 : okFunc c73 = true := by kernel_rfl
theorem r74 : (Proofs.Tryz.prog.funcs[74]?).bind (resFunc Proofs.Tryz.prog (schOf sch 74)) = some c74 := by kernel_rfl
theorem o74 : okFunc c74 = true := by kernel_rfl
theorem r75 : (Proofs.Tryz.prog.funcs[75]?).bind (resFunc Proofs.Tryz.prog (schOf sch 75)) = some c75 := by kernel_rfl
theorem o75 : okFunc c75 = true := by kernel_rfl
theorem r76 : (Proofs.Tryz.prog.funcs[76]?).bind (resFunc Proofs.Tryz.prog (schOf sch 76)) = some c76 := by kernel_rfl
theorem o76 : okFunc c76 = true := by kernel_rfl
theorem r77 : (Proofs.Tryz.prog.funcs[77]?).bind (resFunc Proofs.Tryz.prog (schOf sch 77)) = some c77 := by kernel_rfl
theorem o77 : okFunc c77 = true := by kernel_rfl
theorem r78 : (Proofs.Tryz.prog.funcs[78]?).bind (resFunc Proofs.Tryz.prog (schOf sch 78)) = some c78 := by kernel_rfl
theorem o78 : okFunc c78 = true := by kernel_rfl
theorem r79 : (Proofs.Tryz.prog.funcs[79]?).bind (resFunc Proofs.Tryz.prog (schOf sch 79)) = some c79 := by kernel_rfl
theorem o79 : okFunc c79 = true := by kernel_rfl
theorem r80 : (Proofs.Tryz.prog.funcs[80]?).bind (resFunc Proofs.Tryz.prog (schOf sch 80)) = some c80 := by kernel_rfl
theorem o80 : okFunc c80 = true := by kernel_rfl
theorem r81 : (Proofs.Tryz.prog.funcs[81]?).bind (resFunc Proofs.Tryz.prog (schOf sch 81)) = some c81 := by kernel_rfl
theorem o81 : okFunc c81 = true := by kernel_rfl
theorem r82 : (Proofs.Tryz.prog.funcs[82]?).bind (resFunc Proofs.Tryz.prog (schOf sch 82)) = some c82 := by kernel_rfl
theorem o82 : okFunc c82 = true := by kernel_rfl
theorem r83 : (Proofs.Tryz.prog.funcs[83]?).bind (resFunc Proofs.Tryz.prog (schOf sch 83)) = some c83 := by kernel_rfl
theorem o83 : okFunc c83 = true := by kernel_rfl
end
end Go.AM.Ly
set_option maxRecDepth 100000
namespace Go.AM.Ly
open Go
noncomputable section
theorem r84 : (Proofs.Tryz.prog.funcs[84]?).bind (resFunc Proofs.Tryz.prog (schOf sch 84)) = some c84 := by kernel_rfl
theorem o84 : okFunc c84 = true := by kernel_rfl
theorem r85 : (Proofs.Tryz.prog.funcs[85]?).bind (resFunc Proofs.Tryz.prog (schOf sch 85)) = some c85 := by kernel_rfl
theorem o85 : okFunc c85 = true := by kernel_rfl
theorem r86 : (Proofs.Tryz.prog.funcs[86]?).bind (resFunc Proofs.Tryz.prog (schOf sch 86)) = some c86 := by kernel_rfl
theorem o86 : okFunc c86 = true := by kernel_rfl
theorem r87 : (Proofs.Tryz.prog.funcs[87]?).bind (resFunc Proofs.Tryz.prog (schOf sch 87)) = some c87 := by kernel_rfl
theorem o87 : okFunc c87 = true := by kernel_rfl
theorem r88 : (Proofs.Tryz.prog.funcs[88]?).bind (resFunc Proofs.Tryz.prog (schOf sch 88)) = some c88 := by kernel_rfl
theorem o88 : okFunc c88 = true := by kernel_rfl
theorem r89 : (Proofs.Tryz.prog.funcs[89]?).bind (resFunc Proofs.Tryz.prog (schOf sch 89)) = some c89 := by kernel_rfl
theorem o89 : okFunc c89 = true := by kernel_rfl
theorem r95 : (Proofs.Tryz.prog.funcs[95]?).bind (resFunc Proofs.Tryz.prog (schOf sch 95)) = some c95 := by kernel_rfl
theorem o95 : okFunc c95 = true := by kernel_rfl
theorem r99 : (Proofs.Tryz.prog.funcs[99]?).bind (resFunc Proofs.Tryz.prog (schOf sch 99)) = some c99 := by kernel_rfl
theorem o99 : okFunc c99 = true := by kernel_rfl
theorem r100 : (Proofs.Tryz.prog.funcs[100]?).bind (resFunc Proofs.Tryz.prog (schOf sch 100)) = some c100 := by kernel_rfl
theorem o100 : okFunc c100 = true := by kernel_rfl
theorem r101 : (Proofs.Tryz.prog.funcs[101]?).bind (resFunc Proofs.Tryz.prog (schOf sch 101)) = some c101 := by kernel_rfl
theorem o101 : okFunc c101 = true := by kernel_rfl
theorem r102 : (Proofs.Tryz.prog.funcs[102]?).bind (resFunc Proofs.Tryz.prog (schOf sch 102)) = some c102 := by kernel_rfl
theorem o102 : okFunc c102 = true := by kernel_rfl
theorem r103 : (Proofs.Tryz.prog.funcs[103]?).bind (resFunc Proofs.Tryz.prog (schOf sch 103)) = some c103 := by kernel_rfl
theorem o103 : okFunc c103 = true := by kernel_rfl
theorem r104 : (Proofs.Tryz.prog.funcs[104]?).bind (resFunc Proofs.Tryz.prog (schOf sch 104)) = some c104 := by kernel_rfl
theorem o104 : okFunc c104 = true := by kernel_rfl
theorem r105 : (Proofs.Tryz.prog.funcs[105]?).bind (resFunc Proofs.Tryz.prog (schOf sch 105)) = some c105 := by kernel_rfl
theorem o105 : okFunc c105 = true := by kernel_rfl
theorem r106 : (Proofs.Tryz.prog.funcs[106]?).bind (resFunc Proofs.Tryz.prog (schOf sch 106)) = some c106 := by kernel_rfl
theorem o106 : okFunc c106 = true := by kernel_rfl
theorem r107 : (Proofs.Tryz.prog.funcs[107]?).bind (resFunc Proofs.Tryz.prog (schOf sch 107)) = some c107 := by kernel_rfl
theorem o107 : okFunc c107 = true := by kernel_rfl
theorem r108 : (Proofs.Tryz.prog.funcs[108]?).bind (resFunc Proofs.Tryz.prog (schOf sch 108)) = some c108 := by kernel_rfl
theorem o108 : okFunc c108 = true := by kernel_rfl
theorem r109 : (Proofs.Tryz.prog.funcs[109]?).bind (resFunc Proofs.Tryz.prog (schOf sch 109)) = some c109 := by kernel_rfl
theorem o109 : okFunc c109 = true := by kernel_rfl
theorem r110 : (Proofs.Tryz.prog.funcs[110]?).bind (resFunc Proofs.Tryz.prog (schOf sch 110)) = some c110 := by kernel_rfl
theorem o110 : okFunc c110 = true := by kernel_rfl
theorem r112 : (Proofs.Tryz.prog.funcs[112]?).bind (resFunc Proofs.Tryz.prog (schOf sch 112)) = some c112 := by kernel_rfl
theorem o112 : okFunc c112 = true := by kernel_rfl
theorem r118 : (Proofs.Tryz.prog.funcs[118]?).bind (resFunc Proofs.Tryz.prog (schOf sch 118)) = some c118 := by kernel_rfl
theorem o118 : okFunc c118 = true := by kernel_rfl
theorem r119 : (Proofs.Tryz.prog.funcs[119]?).bind (resFunc Proofs.Tryz.prog (schOf sch 119)) = some c119 := by kernel_rfl
theorem o119 : okFunc c119 = true := by kernel_rfl
theorem r120 : (Proofs.Tryz.prog.funcs[120]?).bind (resFunc Proofs.Tryz.prog (schOf sch 120)) = some c120 := by kernel_rfl
theorem o120 : okFunc c120 = true := by kernel_rfl
theorem r125 : (Proofs.Tryz.prog.funcs[125]?).bind (resFunc Proofs.Tryz.prog (schOf sch 125)) = some c125 := by kernel_rfl
theorem o125 : okFunc c125 = true := by kernel_rfl
theorem r127 : (Proofs.Tryz.prog.funcs[127]?).bind (resFunc Proofs.Tryz.prog (schOf sch 127)) = some c127 := by kernel_rfl
theorem o127 : okFunc c127 = true := by kernel_rfl
end
end Go.AM.Ly
