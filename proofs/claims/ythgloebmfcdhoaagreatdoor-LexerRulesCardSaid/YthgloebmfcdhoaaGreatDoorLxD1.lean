import Derived.Test.YthgloebmfcdhoaaGreatDoorLxSch
import Derived.Test.YthgloebmfcdhoaaGreatDoorLxC1
set_option maxRecDepth 100000
set_option linter.unusedVariables false
namespace Go.AM
open Go
theorem Lx.r44 : (Proofs.Tryz.prog.funcs[44]?).bind (resFunc Proofs.Tryz.prog (schOf Lx.sch 44)) = some Lx.c44 := by kernel_rfl
theorem Lx.r45 : (Proofs.Tryz.prog.funcs[45]?).bind (resFunc Proofs.Tryz.prog (schOf Lx.sch 45)) = some Lx.c45 := by kernel_rfl
theorem Lx.r46 : (Proofs.Tryz.prog.funcs[46]?).bind (resFunc Proofs.Tryz.prog (schOf Lx.sch 46)) = some Lx.c46 := by kernel_rfl
theorem Lx.r47 : (Proofs.Tryz.prog.funcs[47]?).bind (resFunc Proofs.Tryz.prog (schOf Lx.sch 47)) = some Lx.c47 := by kernel_rfl
theorem Lx.r48 : (Proofs.Tryz.prog.funcs[48]?).bind (resFunc Proofs.Tryz.prog (schOf Lx.sch 48)) = some Lx.c48 := by kernel_rfl
theorem Lx.r49 : (Proofs.Tryz.prog.funcs[49]?).bind (resFunc Proofs.Tryz.prog (schOf Lx.sch 49)) = some Lx.c49 := by kernel_rfl
theorem Lx.r50 : (Proofs.Tryz.prog.funcs[50]?).bind (resFunc Proofs.Tryz.prog (schOf Lx.sch 50)) = some Lx.c50 := by kernel_rfl
theorem Lx.r51 : (Proofs.Tryz.prog.funcs[51]?).bind (resFunc Proofs.Tryz.prog (schOf Lx.sch 51)) = some Lx.c51 := by kernel_rfl
theorem Lx.r52 : (Proofs.Tryz.prog.funcs[52]?).bind (resFunc Proofs.Tryz.prog (schOf Lx.sch 52)) = some Lx.c52 := by kernel_rfl
theorem Lx.r53 : (Proofs.Tryz.prog.funcs[53]?).bind (resFunc Proofs.Tryz.prog (schOf Lx.sch 53)) = some Lx.c53 := by kernel_rfl
theorem Lx.r54 : (Proofs.Tryz.prog.funcs[54]?).bind (resFunc Proofs.Tryz.prog (schOf Lx.sch 54)) = some Lx.c54 := by kernel_rfl
theorem Lx.r55 : (Proofs.Tryz.prog.funcs[55]?).bind (resFunc Proofs.Tryz.prog (schOf Lx.sch 55)) = some Lx.c55 := by kernel_rfl
theorem Lx.r56 : (Proofs.Tryz.prog.funcs[56]?).bind (resFunc Proofs.Tryz.prog (schOf Lx.sch 56)) = some Lx.c56 := by kernel_rfl
theorem Lx.r57 : (Proofs.Tryz.prog.funcs[57]?).bind (resFunc Proofs.Tryz.prog (schOf Lx.sch 57)) = some Lx.c57 := by kernel_rfl
theorem Lx.r58 : (Proofs.Tryz.prog.funcs[58]?).bind (resFunc Proofs.Tryz.prog (schOf Lx.sch 58)) = some Lx.c58 := by kernel_rfl
theorem Lx.r59 : (Proofs.Tryz.prog.funcs[59]?).bind (resFunc Proofs.Tryz.prog (schOf Lx.sch 59)) = some Lx.c59 := by kernel_rfl
theorem Lx.r60 : (Proofs.Tryz.prog.funcs[60]?).bind (resFunc Proofs.Tryz.prog (schOf Lx.sch 60)) = some Lx.c60 := by kernel_rfl
theorem Lx.r61 : (Proofs.Tryz.prog.funcs[61]?).bind (resFunc Proofs.Tryz.prog (schOf Lx.sch 61)) = some Lx.c61 := by kernel_rfl
theorem Lx.r62 : (Proofs.Tryz.prog.funcs[62]?).bind (resFunc Proofs.Tryz.prog (schOf Lx.sch 62)) = some Lx.c62 := by kernel_rfl
theorem Lx.r63 : (Proofs.Tryz.prog.funcs[63]?).bind (resFunc Proofs.Tryz.prog (schOf Lx.sch 63)) = some Lx.c63 := by kernel_rfl
theorem Lx.r64 : (Proofs.Tryz.prog.funcs[64]?).bind (resFunc Proofs.Tryz.prog (schOf Lx.sch 64)) = some Lx.c64 := by kernel_rfl
theorem Lx.r65 : (Proofs.Tryz.prog.funcs[65]?).bind (resFunc Proofs.Tryz.prog (schOf Lx.sch 65)) = some Lx.c65 := by kernel_rfl
theorem Lx.r66 : (Proofs.Tryz.prog.funcs[66]?).bind (resFunc Proofs.Tryz.prog (schOf Lx.sch 66)) = some Lx.c66 := by kernel_rfl
theorem Lx.r67 : (Proofs.Tryz.prog.funcs[67]?).bind (resFunc Proofs.Tryz.prog (schOf Lx.sch 67)) = some Lx.c67 := by kernel_rfl
theorem Lx.r68 : (Proofs.Tryz.prog.funcs[68]?).bind (resFunc Proofs.Tryz.prog (schOf Lx.sch 68)) = some Lx.c68 := by kernel_rfl
theorem Lx.r69 : (Proofs.Tryz.prog.funcs[69]?).bind (resFunc Proofs.Tryz.prog (schOf Lx.sch 69)) = some Lx.c69 := by kernel_rfl
theorem Lx.r70 : (Proofs.Tryz.prog.funcs[70]?).bind (resFunc Proofs.Tryz.prog (schOf Lx.sch 70)) = some Lx.c70 := by kernel_rfl
theorem Lx.r71 : (Proofs.Tryz.prog.funcs[71]?).bind (resFunc Proofs.Tryz.prog (schOf Lx.sch 71)) = some Lx.c71 := by kernel_rfl
theorem Lx.r72 : (Proofs.Tryz.prog.funcs[72]?).bind (resFunc Proofs.Tryz.prog (schOf Lx.sch 72)) = some Lx.c72 := by kernel_rfl
theorem Lx.r73 : (Proofs.Tryz.prog.funcs[73]?).bind (resFunc Proofs.Tryz.prog (schOf Lx.sch 73)) = some Lx.c73 := by kernel_rfl
theorem Lx.r74 : (Proofs.Tryz.prog.funcs[74]?).bind (resFunc Proofs.Tryz.prog (schOf Lx.sch 74)) = some Lx.c74 := by kernel_rfl
theorem Lx.r75 : (Proofs.Tryz.prog.funcs[75]?).bind (resFunc Proofs.Tryz.prog (schOf Lx.sch 75)) = some Lx.c75 := by kernel_rfl
theorem Lx.r76 : (Proofs.Tryz.prog.funcs[76]?).bind (resFunc Proofs.Tryz.prog (schOf Lx.sch 76)) = some Lx.c76 := by kernel_rfl
theorem Lx.r77 : (Proofs.Tryz.prog.funcs[77]?).bind (resFunc Proofs.Tryz.prog (schOf Lx.sch 77)) = some Lx.c77 := by kernel_rfl
theorem Lx.r78 : (Proofs.Tryz.prog.funcs[78]?).bind (resFunc Proofs.Tryz.prog (schOf Lx.sch 78)) = some Lx.c78 := by kernel_rfl
theorem Lx.r79 : (Proofs.Tryz.prog.funcs[79]?).bind (resFunc Proofs.Tryz.prog (schOf Lx.sch 79)) = some Lx.c79 := by kernel_rfl
theorem Lx.r80 : (Proofs.Tryz.prog.funcs[80]?).bind (resFunc Proofs.Tryz.prog (schOf Lx.sch 80)) = some Lx.c80 := by kernel_rfl
theorem Lx.r81 : (Proofs.Tryz.prog.funcs[81]?).bind (resFunc Proofs.Tryz.prog (schOf Lx.sch 81)) = some Lx.c81 := by kernel_rfl
theorem Lx.r82 : (Proofs.Tryz.prog.funcs[82]?).bind (resFunc Proofs.Tryz.prog (schOf Lx.sch 82)) = some Lx.c82 := by kernel_rfl
theorem Lx.r83 : (Proofs.Tryz.prog.funcs[83]?).bind (resFunc Proofs.Tryz.prog (schOf Lx.sch 83)) = some Lx.c83 := by kernel_rfl
theorem Lx.r84 : (Proofs.Tryz.prog.funcs[84]?).bind (resFunc Proofs.Tryz.prog (schOf Lx.sch 84)) = some Lx.c84 := by kernel_rfl
theorem Lx.r85 : (Proofs.Tryz.prog.funcs[85]?).bind (resFunc Proofs.Tryz.prog (schOf Lx.sch 85)) = some Lx.c85 := by kernel_rfl
theorem Lx.r86 : (Proofs.Tryz.prog.funcs[86]?).bind (resFunc Proofs.Tryz.prog (schOf Lx.sch 86)) = some Lx.c86 := by kernel_rfl
theorem Lx.r87 : (Proofs.Tryz.prog.funcs[87]?).bind (resFunc Proofs.Tryz.prog (schOf Lx.sch 87)) = some Lx.c87 := by kernel_rfl
theorem Lx.r88 : (Proofs.Tryz.prog.funcs[88]?).bind (resFunc Proofs.Tryz.prog (schOf Lx.sch 88)) = some Lx.c88 := by kernel_rfl
theorem Lx.r89 : (Proofs.Tryz.prog.funcs[89]?).bind (resFunc Proofs.Tryz.prog (schOf Lx.sch 89)) = some Lx.c89 := by kernel_rfl
theorem Lx.r95 : (Proofs.Tryz.prog.funcs[95]?).bind (resFunc Proofs.Tryz.prog (schOf Lx.sch 95)) = some Lx.c95 := by kernel_rfl
theorem Lx.r99 : (Proofs.Tryz.prog.funcs[99]?).bind (resFunc Proofs.Tryz.prog (schOf Lx.sch 99)) = some Lx.c99 := by kernel_rfl
theorem Lx.r100 : (Proofs.Tryz.prog.funcs[100]?).bind (resFunc Proofs.Tryz.prog (schOf Lx.sch 100)) = some Lx.c100 := by kernel_rfl
theorem Lx.r101 : (Proofs.Tryz.prog.funcs[101]?).bind (resFunc Proofs.Tryz.prog (schOf Lx.sch 101)) = some Lx.c101 := by kernel_rfl
theorem Lx.r102 : (Proofs.Tryz.prog.funcs[102]?).bind (resFunc Proofs.Tryz.prog (schOf Lx.sch 102)) = some Lx.c102 := by kernel_rfl
theorem Lx.r103 : (Proofs.Tryz.prog.funcs[103]?).bind (resFunc Proofs.Tryz.prog (schOf Lx.sch 103)) = some Lx.c103 := by kernel_rfl
theorem Lx.r104 : (Proofs.Tryz.prog.funcs[104]?).bind (resFunc Proofs.Tryz.prog (schOf Lx.sch 104)) = some Lx.c104 := by kernel_rfl
theorem Lx.r105 : (Proofs.Tryz.prog.funcs[105]?).bind (resFunc Proofs.Tryz.prog (schOf Lx.sch 105)) = some Lx.c105 := by kernel_rfl
theorem Lx.r106 : (Proofs.Tryz.prog.funcs[106]?).bind (resFunc Proofs.Tryz.prog (schOf Lx.sch 106)) = some Lx.c106 := by kernel_rfl
theorem Lx.r107 : (Proofs.Tryz.prog.funcs[107]?).bind (resFunc Proofs.Tryz.prog (schOf Lx.sch 107)) = some Lx.c107 := by kernel_rfl
theorem Lx.r108 : (Proofs.Tryz.prog.funcs[108]?).bind (resFunc Proofs.Tryz.prog (schOf Lx.sch 108)) = some Lx.c108 := by kernel_rfl
theorem Lx.r109 : (Proofs.Tryz.prog.funcs[109]?).bind (resFunc Proofs.Tryz.prog (schOf Lx.sch 109)) = some Lx.c109 := by kernel_rfl
theorem Lx.r110 : (Proofs.Tryz.prog.funcs[110]?).bind (resFunc Proofs.Tryz.prog (schOf Lx.sch 110)) = some Lx.c110 := by kernel_rfl
theorem Lx.r112 : (Proofs.Tryz.prog.funcs[112]?).bind (resFunc Proofs.Tryz.prog (schOf Lx.sch 112)) = some Lx.c112 := by kernel_rfl
theorem Lx.r118 : (Proofs.Tryz.prog.funcs[118]?).bind (resFunc Proofs.Tryz.prog (schOf Lx.sch 118)) = some Lx.c118 := by kernel_rfl
theorem Lx.r119 : (Proofs.Tryz.prog.funcs[119]?).bind (resFunc Proofs.Tryz.prog (schOf Lx.sch 119)) = some Lx.c119 := by kernel_rfl
theorem Lx.r120 : (Proofs.Tryz.prog.funcs[120]?).bind (resFunc Proofs.Tryz.prog (schOf Lx.sch 120)) = some Lx.c120 := by kernel_rfl
theorem Lx.r125 : (Proofs.Tryz.prog.funcs[125]?).bind (resFunc Proofs.Tryz.prog (schOf Lx.sch 125)) = some Lx.c125 := by kernel_rfl
theorem Lx.r127 : (Proofs.Tryz.prog.funcs[127]?).bind (resFunc Proofs.Tryz.prog (schOf Lx.sch 127)) = some Lx.c127 := by kernel_rfl
end Go.AM
