import Derived.Test.YthgloebmfcdhoaaGreatDoorLxP
set_option maxRecDepth 100000
set_option linter.unusedVariables false
namespace Go.AM
open Go
noncomputable section
theorem Lx.e3 : Lx.q3 = cRun noG Lx.dk Lx.c3 := by kernel_rfl
theorem Lx.o3 : okFunc Lx.c3 = true := by kernel_rfl
theorem Lx.e4 : Lx.q4 = cRun noG Lx.dk Lx.c4 := by kernel_rfl
theorem Lx.o4 : okFunc Lx.c4 = true := by kernel_rfl
theorem Lx.e5 : Lx.q5 = cRun noG Lx.dk Lx.c5 := by kernel_rfl
theorem Lx.o5 : okFunc Lx.c5 = true := by kernel_rfl
theorem Lx.e6 : Lx.q6 = cRun noG Lx.dk Lx.c6 := by kernel_rfl
theorem Lx.o6 : okFunc Lx.c6 = true := by kernel_rfl
theorem Lx.e7 : Lx.q7 = cRun noG Lx.dk Lx.c7 := by kernel_rfl
theorem Lx.o7 : okFunc Lx.c7 = true := by kernel_rfl
theorem Lx.e8 : Lx.q8 = cRun noG Lx.dk Lx.c8 := by kernel_rfl
theorem Lx.o8 : okFunc Lx.c8 = true := by kernel_rfl
theorem Lx.e9 : Lx.q9 = cRun noG Lx.dk Lx.c9 := by kernel_rfl
theorem Lx.o9 : okFunc Lx.c9 = true := by kernel_rfl
theorem Lx.e10 : Lx.q10 = cRun noG Lx.dk Lx.c10 := by kernel_rfl
theorem Lx.o10 : okFunc Lx.c10 = true := by kernel_rfl
theorem Lx.e11 : Lx.q11 = cRun noG Lx.dk Lx.c11 := by kernel_rfl
theorem Lx.o11 : okFunc Lx.c11 = true := by kernel_rfl
theorem Lx.e12 : Lx.q12 = cRun noG Lx.dk Lx.c12 := by kernel_rfl
theorem Lx.o12 : okFunc Lx.c12 = true := by kernel_rfl
theorem Lx.e13 : Lx.q13 = cRun noG Lx.dk Lx.c13 := by kernel_rfl
theorem Lx.o13 : okFunc Lx.c13 = true := by kernel_rfl
theorem Lx.e14 : Lx.q14 = cRun noG Lx.dk Lx.c14 := by kernel_rfl
theorem Lx.o14 : okFunc Lx.c14 = true := by kernel_rfl
theorem Lx.e15 : Lx.q15 = cRun noG Lx.dk Lx.c15 := by kernel_rfl
theorem Lx.o15 : okFunc Lx.c15 = true := by kernel_rfl
theorem Lx.e16 : Lx.q16 = cRun noG Lx.dk Lx.c16 := by kernel_rfl
theorem Lx.o16 : okFunc Lx.c16 = true := by kernel_rfl
theorem Lx.e17 : Lx.q17 = cRun noG Lx.dk Lx.c17 := by kernel_rfl
theorem Lx.o17 : okFunc Lx.c17 = true := by kernel_rfl
theorem Lx.e18 : Lx.q18 = cRun noG Lx.dk Lx.c18 := by kernel_rfl
theorem Lx.o18 : okFunc Lx.c18 = true := by kernel_rfl
theorem Lx.e19 : Lx.q19 = cRun noG Lx.dk Lx.c19 := by kernel_rfl
theorem Lx.o19 : okFunc Lx.c19 = true := by kernel_rfl
theorem Lx.e21 : Lx.q21 = cRun noG Lx.dk Lx.c21 := by kernel_rfl
theorem Lx.o21 : okFunc Lx.c21 = true := by kernel_rfl
theorem Lx.e22 : Lx.q22 = cRun noG Lx.dk Lx.c22 := by kernel_rfl
theorem Lx.o22 : okFunc Lx.c22 = true := by kernel_rfl
theorem Lx.e23 : Lx.q23 = cRun noG Lx.dk Lx.c23 := by kernel_rfl
theorem Lx.o23 : okFunc Lx.c23 = true := by kernel_rfl
theorem Lx.e24 : Lx.q24 = cRun noG Lx.dk Lx.c24 := by kernel_rfl
theorem Lx.o24 : okFunc Lx.c24 = true := by kernel_rfl
theorem Lx.e25 : Lx.q25 = cRun noG Lx.dk Lx.c25 := by kernel_rfl
theorem Lx.o25 : okFunc Lx.c25 = true := by kernel_rfl
theorem Lx.e26 : Lx.q26 = cRun noG Lx.dk Lx.c26 := by kernel_rfl
theorem Lx.o26 : okFunc Lx.c26 = true := by kernel_rfl
theorem Lx.e27 : Lx.q27 = cRun noG Lx.dk Lx.c27 := by kernel_rfl
theorem Lx.o27 : okFunc Lx.c27 = true := by kernel_rfl
theorem Lx.e28 : Lx.q28 = cRun noG Lx.dk Lx.c28 := by kernel_rfl
theorem Lx.o28 : okFunc Lx.c28 = true := by kernel_rfl
theorem Lx.e29 : Lx.q29 = cRun noG Lx.dk Lx.c29 := by kernel_rfl
theorem Lx.o29 : okFunc Lx.c29 = true := by kernel_rfl
theorem Lx.e30 : Lx.q30 = cRun noG Lx.dk Lx.c30 := by kernel_rfl
theorem Lx.o30 : okFunc Lx.c30 = true := by kernel_rfl
theorem Lx.e31 : Lx.q31 = cRun noG Lx.dk Lx.c31 := by kernel_rfl
theorem Lx.o31 : okFunc Lx.c31 = true := by kernel_rfl
theorem Lx.e32 : Lx.q32 = cRun noG Lx.dk Lx.c32 := by kernel_rfl
theorem Lx.o32 : okFunc Lx.c32 = true := by kernel_rfl
theorem Lx.e33 : Lx.q33 = cRun noG Lx.dk Lx.c33 := by kernel_rfl
theorem Lx.o33 : okFunc Lx.c33 = true := by kernel_rfl
theorem Lx.e34 : Lx.q34 = cRun noG Lx.dk Lx.c34 := by kernel_rfl
theorem Lx.o34 : okFunc Lx.c34 = true := by kernel_rfl
theorem Lx.e35 : Lx.q35 = cRun noG Lx.dk Lx.c35 := by kernel_rfl
theorem Lx.o35 : okFunc Lx.c35 = true := by kernel_rfl
theorem Lx.e36 : Lx.q36 = cRun noG Lx.dk Lx.c36 := by kernel_rfl
theorem Lx.o36 : okFunc Lx.c36 = true := by kernel_rfl
theorem Lx.e37 : Lx.q37 = cRun noG Lx.dk Lx.c37 := by kernel_rfl
theorem Lx.o37 : okFunc Lx.c37 = true := by kernel_rfl
theorem Lx.e38 : Lx.q38 = cRun noG Lx.dk Lx.c38 := by kernel_rfl
theorem Lx.o38 : okFunc Lx.c38 = true := by kernel_rfl
theorem Lx.e39 : Lx.q39 = cRun noG Lx.dk Lx.c39 := by kernel_rfl
theorem Lx.o39 : okFunc Lx.c39 = true := by kernel_rfl
theorem Lx.e40 : Lx.q40 = cRun noG Lx.dk Lx.c40 := by kernel_rfl
theorem Lx.o40 : okFunc Lx.c40 = true := by kernel_rfl
theorem Lx.e41 : Lx.q41 = cRun noG Lx.dk Lx.c41 := by kernel_rfl
theorem Lx.o41 : okFunc Lx.c41 = true := by kernel_rfl
theorem Lx.e42 : Lx.q42 = cRun noG Lx.dk Lx.c42 := by kernel_rfl
theorem Lx.o42 : okFunc Lx.c42 = true := by kernel_rfl
theorem Lx.e43 : Lx.q43 = cRun noG Lx.dk Lx.c43 := by kernel_rfl
theorem Lx.o43 : okFunc Lx.c43 = true := by kernel_rfl
theorem Lx.e44 : Lx.q44 = cRun noG Lx.dk Lx.c44 := by kernel_rfl
theorem Lx.o44 : okFunc Lx.c44 = true := by kernel_rfl
theorem Lx.e45 : Lx.q45 = cRun noG Lx.dk Lx.c45 := by kernel_rfl
theorem Lx.o45 : okFunc Lx.c45 = true := by kernel_rfl
theorem Lx.e46 : Lx.q46 = cRun noG Lx.dk Lx.c46 := by kernel_rfl
theorem Lx.o46 : okFunc Lx.c46 = true := by kernel_rfl
theorem Lx.e47 : Lx.q47 = cRun noG Lx.dk Lx.c47 := by kernel_rfl
theorem Lx.o47 : okFunc Lx.c47 = true := by kernel_rfl
theorem Lx.e48 : Lx.q48 = cRun noG Lx.dk Lx.c48 := by kernel_rfl
theorem Lx.o48 : okFunc Lx.c48 = true := by kernel_rfl
theorem Lx.e49 : Lx.q49 = cRun noG Lx.dk Lx.c49 := by kernel_rfl
theorem Lx.o49 : okFunc Lx.c49 = true := by kernel_rfl
theorem Lx.e50 : Lx.q50 = cRun noG Lx.dk Lx.c50 := by kernel_rfl
theorem Lx.o50 : okFunc Lx.c50 = true := by kernel_rfl
theorem Lx.e51 : Lx.q51 = cRun noG Lx.dk Lx.c51 := by kernel_rfl
theorem Lx.o51 : okFunc Lx.c51 = true := by kernel_rfl
theorem Lx.e52 : Lx.q52 = cRun noG Lx.dk Lx.c52 := by kernel_rfl
theorem Lx.o52 : okFunc Lx.c52 = true := by kernel_rfl
theorem Lx.e53 : Lx.q53 = cRun noG Lx.dk Lx.c53 := by kernel_rfl
theorem Lx.o53 : okFunc Lx.c53 = true := by kernel_rfl
theorem Lx.e54 : Lx.q54 = cRun noG Lx.dk Lx.c54 := by kernel_rfl
theorem Lx.o54 : okFunc Lx.c54 = true := by kernel_rfl
theorem Lx.e55 : Lx.q55 = cRun noG Lx.dk Lx.c55 := by kernel_rfl
theorem Lx.o55 : okFunc Lx.c55 = true := by kernel_rfl
theorem Lx.e56 : Lx.q56 = cRun noG Lx.dk Lx.c56 := by kernel_rfl
theorem Lx.o56 : okFunc Lx.c56 = true := by kernel_rfl
theorem Lx.e57 : Lx.q57 = cRun noG Lx.dk Lx.c57 := by kernel_rfl
theorem Lx.o57 : okFunc Lx.c57 = true := by kernel_rfl
theorem Lx.e58 : Lx.q58 = cRun noG Lx.dk Lx.c58 := by kernel_rfl
theorem Lx.o58 : okFunc Lx.c58 = true := by kernel_rfl
theorem Lx.e59 : Lx.q59 = cRun noG Lx.dk Lx.c59 := by kernel_rfl
theorem Lx.o59 : okFunc Lx.c59 = true := by kernel_rfl
theorem Lx.e60 : Lx.q60 = cRun noG Lx.dk Lx.c60 := by kernel_rfl
theorem Lx.o60 : okFunc Lx.c60 = true := by kernel_rfl
theorem Lx.e61 : Lx.q61 = cRun noG Lx.dk Lx.c61 := by kernel_rfl
theorem Lx.o61 : okFunc Lx.c61 = true := by kernel_rfl
theorem Lx.e62 : Lx.q62 = cRun noG Lx.dk Lx.c62 := by kernel_rfl
theorem Lx.o62 : okFunc Lx.c62 = true := by kernel_rfl
theorem Lx.e63 : Lx.q63 = cRun noG Lx.dk Lx.c63 := by kernel_rfl
theorem Lx.o63 : okFunc Lx.c63 = true := by kernel_rfl
theorem Lx.e64 : Lx.q64 = cRun noG Lx.dk Lx.c64 := by kernel_rfl
theorem Lx.o64 : okFunc Lx.c64 = true := by kernel_rfl
theorem Lx.e65 : Lx.q65 = cRun noG Lx.dk Lx.c65 := by kernel_rfl
theorem Lx.o65 : okFunc Lx.c65 = true := by kernel_rfl
theorem Lx.e66 : Lx.q66 = cRun noG Lx.dk Lx.c66 := by kernel_rfl
theorem Lx.o66 : okFunc Lx.c66 = true := by kernel_rfl
theorem Lx.e67 : Lx.q67 = cRun noG Lx.dk Lx.c67 := by kernel_rfl
theorem Lx.o67 : okFunc Lx.c67 = true := by kernel_rfl
theorem Lx.e68 : Lx.q68 = cRun noG Lx.dk Lx.c68 := by kernel_rfl
theorem Lx.o68 : okFunc Lx.c68 = true := by kernel_rfl
theorem Lx.e69 : Lx.q69 = cRun noG Lx.dk Lx.c69 := by kernel_rfl
theorem Lx.o69 : okFunc Lx.c69 = true := by kernel_rfl
theorem Lx.e70 : Lx.q70 = cRun noG Lx.dk Lx.c70 := by kernel_rfl
theorem Lx.o70 : okFunc Lx.c70 = true := by kernel_rfl
theorem Lx.e71 : Lx.q71 = cRun noG Lx.dk Lx.c71 := by kernel_rfl
theorem Lx.o71 : okFunc Lx.c71 = true := by kernel_rfl
theorem Lx.e72 : Lx.q72 = cRun noG Lx.dk Lx.c72 := by kernel_rfl
theorem Lx.o72 : okFunc Lx.c72 = true := by kernel_rfl
theorem Lx.e73 : Lx.q73 = cRun noG Lx.dk Lx.c73 := by kernel_rfl
theorem Lx.o73 : okFunc Lx.c73 = true := by kernel_rfl
theorem Lx.e74 : Lx.q74 = cRun noG Lx.dk Lx.c74 := by kernel_rfl
theorem Lx.o74 : okFunc Lx.c74 = true := by kernel_rfl
theorem Lx.e75 : Lx.q75 = cRun noG Lx.dk Lx.c75 := by kernel_rfl
theorem Lx.o75 : okFunc Lx.c75 = true := by kernel_rfl
theorem Lx.e76 : Lx.q76 = cRun noG Lx.dk Lx.c76 := by kernel_rfl
theorem Lx.o76 : okFunc Lx.c76 = true := by kernel_rfl
theorem Lx.e77 : Lx.q77 = cRun noG Lx.dk Lx.c77 := by kernel_rfl
theorem Lx.o77 : okFunc Lx.c77 = true := by kernel_rfl
theorem Lx.e78 : Lx.q78 = cRun noG Lx.dk Lx.c78 := by kernel_rfl
theorem Lx.o78 : okFunc Lx.c78 = true := by kernel_rfl
theorem Lx.e79 : Lx.q79 = cRun noG Lx.dk Lx.c79 := by kernel_rfl
theorem Lx.o79 : okFunc Lx.c79 = true := by kernel_rfl
theorem Lx.e80 : Lx.q80 = cRun noG Lx.dk Lx.c80 := by kernel_rfl
theorem Lx.o80 : okFunc Lx.c80 = true := by kernel_rfl
theorem Lx.e81 : Lx.q81 = cRun noG Lx.dk Lx.c81 := by kernel_rfl
theorem Lx.o81 : okFunc Lx.c81 = true := by kernel_rfl
theorem Lx.e82 : Lx.q82 = cRun noG Lx.dk Lx.c82 := by kernel_rfl
theorem Lx.o82 : okFunc Lx.c82 = true := by kernel_rfl
theorem Lx.e83 : Lx.q83 = cRun noG Lx.dk Lx.c83 := by kernel_rfl
theorem Lx.o83 : okFunc Lx.c83 = true := by kernel_rfl
theorem Lx.e84 : Lx.q84 = cRun noG Lx.dk Lx.c84 := by kernel_rfl
theorem Lx.o84 : okFunc Lx.c84 = true := by kernel_rfl
theorem Lx.e85 : Lx.q85 = cRun noG Lx.dk Lx.c85 := by kernel_rfl
theorem Lx.o85 : okFunc Lx.c85 = true := by kernel_rfl
theorem Lx.e86 : Lx.q86 = cRun noG Lx.dk Lx.c86 := by kernel_rfl
theorem Lx.o86 : okFunc Lx.c86 = true := by kernel_rfl
theorem Lx.e87 : Lx.q87 = cRun noG Lx.dk Lx.c87 := by kernel_rfl
theorem Lx.o87 : okFunc Lx.c87 = true := by kernel_rfl
theorem Lx.e88 : Lx.q88 = cRun noG Lx.dk Lx.c88 := by kernel_rfl
theorem Lx.o88 : okFunc Lx.c88 = true := by kernel_rfl
end
end Go.AM
set_option maxRecDepth 100000
set_option linter.unusedVariables false
namespace Go.AM
open Go
noncomputable section
theorem Lx.e89 : Lx.q89 = cRun noG Lx.dk Lx.c89 := by kernel_rfl
theorem Lx.o89 : okFunc Lx.c89 = true := by kernel_rfl
theorem Lx.e95 : Lx.q95 = cRun noG Lx.dk Lx.c95 := by kernel_rfl
theorem Lx.o95 : okFunc Lx.c95 = true := by kernel_rfl
theorem Lx.e99 : Lx.q99 = cRun noG Lx.dk Lx.c99 := by kernel_rfl
theorem Lx.o99 : okFunc Lx.c99 = true := by kernel_rfl
theorem Lx.e100 : Lx.q100 = cRun noG Lx.dk Lx.c100 := by kernel_rfl
theorem Lx.o100 : okFunc Lx.c100 = true := by kernel_rfl
theorem Lx.e101 : Lx.q101 = cRun noG Lx.dk Lx.c101 := by kernel_rfl
theorem Lx.o101 : okFunc Lx.c101 = true := by kernel_rfl
theorem Lx.e102 : Lx.q102 = cRun noG Lx.dk Lx.c102 := by kernel_rfl
theorem Lx.o102 : okFunc Lx.c102 = true := by kernel_rfl
theorem Lx.e103 : Lx.q103 = cRun noG Lx.dk Lx.c103 := by kernel_rfl
theorem Lx.o103 : okFunc Lx.c103 = true := by kernel_rfl
theorem Lx.e104 : Lx.q104 = cRun noG Lx.dk Lx.c104 := by kernel_rfl
theorem Lx.o104 : okFunc Lx.c104 = true := by kernel_rfl
theorem Lx.e105 : Lx.q105 = cRun noG Lx.dk Lx.c105 := by kernel_rfl
theorem Lx.o105 : okFunc Lx.c105 = true := by kernel_rfl
theorem Lx.e106 : Lx.q106 = cRun noG Lx.dk Lx.c106 := by kernel_rfl
theorem Lx.o106 : okFunc Lx.c106 = true := by kernel_rfl
theorem Lx.e107 : Lx.q107 = cRun noG Lx.dk Lx.c107 := by kernel_rfl
theorem Lx.o107 : okFunc Lx.c107 = true := by kernel_rfl
theorem Lx.e109 : Lx.q109 = cRun noG Lx.dk Lx.c109 := by kernel_rfl
theorem Lx.o109 : okFunc Lx.c109 = true := by kernel_rfl
theorem Lx.e110 : Lx.q110 = cRun noG Lx.dk Lx.c110 := by kernel_rfl
theorem Lx.o110 : okFunc Lx.c110 = true := by kernel_rfl
theorem Lx.e112 : Lx.q112 = cRun noG Lx.dk Lx.c112 := by kernel_rfl
theorem Lx.o112 : okFunc Lx.c112 = true := by kernel_rfl
theorem Lx.e118 : Lx.q118 = cRun noG Lx.dk Lx.c118 := by kernel_rfl
theorem Lx.o118 : okFunc Lx.c118 = true := by kernel_rfl
theorem Lx.e119 : Lx.q119 = cRun noG Lx.dk Lx.c119 := by kernel_rfl
theorem Lx.o119 : okFunc Lx.c119 = true := by kernel_rfl
theorem Lx.e120 : Lx.q120 = cRun noG Lx.dk Lx.c120 := by kernel_rfl
theorem Lx.o120 : okFunc Lx.c120 = true := by kernel_rfl
theorem Lx.e125 : Lx.q125 = cRun noG Lx.dk Lx.c125 := by kernel_rfl
theorem Lx.o125 : okFunc Lx.c125 = true := by kernel_rfl
theorem Lx.e127 : Lx.q127 = cRun noG Lx.dk Lx.c127 := by kernel_rfl
theorem Lx.o127 : okFunc Lx.c127 = true := by kernel_rfl
end
end Go.AM
