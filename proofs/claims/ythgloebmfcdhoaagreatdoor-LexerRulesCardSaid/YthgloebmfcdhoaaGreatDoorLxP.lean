import Derived.Test.YthgloebmfcdhoaaGreatDoorLxK
set_option maxRecDepth 100000
set_option linter.unusedVariables false
namespace Go.AM
open Go
noncomputable section
/-- gobo/gobolaw10.LexerOnes -/
def Lx.p3 (ev : Ev) (fin : Fin) (L : Nat) : K :=
 kV (fun _ => (.bool false)) s2 (
 kV g0 s14 (
 kR (oConv (.int .u64) g14) s15 (
 kP (oBin (some .other) none .rem g15 (fun _ => (.int .u64 40))) s16 (
 kR (oConv (.int .i64) g16) s17 (
 kP (oBin (some .other) none .add (fun _ => (.int .i64 1)) g17) s18 (
 kV g18 s3 (
 kC ev fin (fun _ => (.fn 5 [] [])) (fun T => [(.int .i32 97)]) s19 (
 kN (oCells [(.int .i64 0), .nils, .nils]) s4 (
 kM (oStore 3 g4 g19) dN (
 kP (oLoad noG true 3 g4) s21 (
 kR (oLit 3 1 [(.int .i64 0), .nils, .nils] (fun T => [(0, 3, g21 T)])) s22 (
 kC ev fin (fun _ => (.fn 6 [] [])) (fun T => [g22 T, (.int .i64 9)]) s23 (
 kV g23 s20 (
 kP (oExtract 0 g20) s24 (
 kP (oExtract 1 g20) s25 (
 kV g24 s5 (
 kV g25 s6 (
 kP (oLoad noG true 3 g4) s27 (
 kP (oLoad noG true 3 g4) s28 (
 kR (oLit 3 1 [(.int .i64 0), .nils, .nils] (fun T => [(0, 3, g28 T)])) s29 (
 kP (oBuild [(.int .i64 0), .nils, .nils] (fun T => [(0, 1, (.int .i64 5)), (2, 1, g29 T)])) s30 (
 kR (oLit 3 2 [(.int .i64 0), .nils, .nils, (.int .i64 0), .nils, .nils] (fun T => [(0, 3, g27 T), (3, 3, g30 T)])) s31 (
 kP (oBuild [(.int .i64 0), .nils, .nils] (fun T => [(0, 1, (.int .i64 3)), (2, 1, g31 T)])) s32 (
 kR (oLit 3 1 [(.int .i64 0), .nils, .nils] (fun T => [(0, 3, g32 T)])) s33 (
 kC ev fin (fun _ => (.fn 6 [] [])) (fun T => [g33 T, (.int .i64 9)]) s34 (
 kV g34 s26 (
 kP (oExtract 0 g26) s35 (
 kP (oExtract 1 g26) s36 (
 kV g35 s7 (
 kV g36 s8 (
 kV g6 s37 (
 kP (oBin (some .other) none .neq g37 (fun _ => (.int .i64 0))) s38 (
 kV g38 s39 (
 kG g39 false (fun n => kV g8 s40 (n)) s40 (
 kG g39 false (fun n => kP (oBin (some .other) none .neq g40 (fun _ => (.int .i64 0))) s41 (n)) s41 (
 kP (oPick g39 (fun _ => (.bool true)) g41) s42 (
 (fun n4 : K =>
 kIf g42
 (kV (fun _ => (.bool false)) s2 (
 (fin none)))
 (n4))
 (kV (fun _ => .nils) s9 (
 kV (fun _ => (.int .i64 0)) s10 (
 (fun n0 : K =>
 kLoop (fun n1 : K =>
 kV g10 s43 (
 kV g3 s44 (
 kP (oBin (some .other) none .lss g43 g44) s45 (
 (fun n3 : K =>
 kIf g45
 (n3)
 (n0))
 ((fun n2 : K =>
 kV g9 s48 (
 kR (oLit 1 1 [(.int .u8 0)] (fun T => [(0, 1, (.int .u8 97))])) s49 (
 kR (oAppend 1 1 [(.int .u8 0)] false g48 g49) s50 (
 kV g50 s9 (
 n2)))))
 (kV g10 s46 (
 kP (oBin (some .other) none .add g46 (fun _ => (.int .i64 1))) s47 (
 kV g47 s10 (
 n1))))))))) L)
 (kV g5 s51 (
 kV g9 s52 (
 kC ev fin (fun _ => (.fn 7 [] [])) (fun T => [g51 T, g52 T]) s53 (
 kV g7 s54 (
 kV g9 s55 (
 kC ev fin (fun _ => (.fn 7 [] [])) (fun T => [g54 T, g55 T]) s56 (
 kV g7 s57 (
 kR (oLit 1 0 [] (fun T => [])) s58 (
 kV g9 s59 (
 kR (oAppend 1 1 [(.int .u8 0)] false g58 g59) s60 (
 kR (oLit 1 1 [(.int .u8 0)] (fun T => [(0, 1, (.int .u8 98))])) s61 (
 kR (oAppend 1 1 [(.int .u8 0)] false g60 g61) s62 (
 kC ev fin (fun _ => (.fn 7 [] [])) (fun T => [g57 T, g62 T]) s63 (
 kV g53 s11 (
 kV g56 s12 (
 kV g63 s13 (
 kC ev fin (fun _ => (.fn 8 [] [])) (fun T => []) s64 (
 kV g64 s65 (
 kG g65 true (fun n => kV g11 s66 (n)) s66 (
 kG g65 true (fun n => kP (oLen .sl g66) s67 (n)) s67 (
 kG g65 true (fun n => kV g3 s68 (n)) s68 (
 kG g65 true (fun n => kP (oBin (some .other) none .eql g67 g68) s69 (n)) s69 (
 kP (oPick g65 g69 (fun _ => (.bool false))) s70 (
 kV g70 s71 (
 kG g71 true (fun n => kV g11 s72 (n)) s72 (
 kG g71 true (fun n => kP (oIaddrS 4 g72 (fun _ => (.int .i64 0))) s73 (n)) s73 (
 kG g71 true (fun n => kP (oFaddr 2 g73) s74 (n)) s74 (
 kG g71 true (fun n => kP (oLoad noG false 1 g74) s75 (n)) s75 (
 kG g71 true (fun n => kP (oBin (some .other) none .eql g75 (fun _ => (.int .i64 1))) s76 (n)) s76 (
 kP (oPick g71 g76 (fun _ => (.bool false))) s77 (
 kV g77 s78 (
 kG g78 true (fun n => kV g11 s79 (n)) s79 (
 kG g78 true (fun n => kV g3 s80 (n)) s80 (
 kG g78 true (fun n => kP (oBin (some .other) none .sub g80 (fun _ => (.int .i64 1))) s81 (n)) s81 (
 kG g78 true (fun n => kP (oIaddrS 4 g79 g81) s82 (n)) s82 (
 kG g78 true (fun n => kP (oFaddr 3 g82) s83 (n)) s83 (
 kG g78 true (fun n => kP (oLoad noG false 1 g83) s84 (n)) s84 (
 kG g78 true (fun n => kV g3 s85 (n)) s85 (
 kG g78 true (fun n => kP (oBin (some .other) none .add g85 (fun _ => (.int .i64 1))) s86 (n)) s86 (
 kG g78 true (fun n => kP (oBin (some .other) none .eql g84 g86) s87 (n)) s87 (
 kP (oPick g78 g87 (fun _ => (.bool false))) s88 (
 kV g88 s89 (
 kG g89 true (fun n => kV g12 s90 (n)) s90 (
 kG g89 true (fun n => kP (oLen .sl g90) s91 (n)) s91 (
 kG g89 true (fun n => kP (oBin (some .other) none .eql g91 (fun _ => (.int .i64 1))) s92 (n)) s92 (
 kP (oPick g89 g92 (fun _ => (.bool false))) s93 (
 kV g93 s94 (
 kG g94 true (fun n => kV g12 s95 (n)) s95 (
 kG g94 true (fun n => kP (oIaddrS 4 g95 (fun _ => (.int .i64 0))) s96 (n)) s96 (
 kG g94 true (fun n => kP (oLoad noG true 4 g96) s97 (n)) s97 (
 kG g94 true (fun n => kV g3 s98 (n)) s98 (
 kG g94 true (fun n => kV g3 s99 (n)) s99 (
 kG g94 true (fun n => kP (oBin (some .other) none .add g99 (fun _ => (.int .i64 1))) s100 (n)) s100 (
 kG g94 true (fun n => kP (oBuild [(.int .i64 0), (.int .i64 0), (.int .i64 0), (.int .i64 0)] (fun T => [(2, 1, g98 T), (3, 1, g100 T)])) s101 (n)) s101 (
 kG g94 true (fun n => kP (oBin (some .other) (some [.int, .int, .int, .int]) .eql g97 g101) s102 (n)) s102 (
 kP (oPick g94 g102 (fun _ => (.bool false))) s103 (
 kV g103 s104 (
 kG g104 true (fun n => kV g13 s105 (n)) s105 (
 kG g104 true (fun n => kP (oLen .sl g105) s106 (n)) s106 (
 kG g104 true (fun n => kP (oBin (some .other) none .eql g106 (fun _ => (.int .i64 2))) s107 (n)) s107 (
 kP (oPick g104 g107 (fun _ => (.bool false))) s108 (
 kV g108 s109 (
 kG g109 true (fun n => kV g13 s110 (n)) s110 (
 kG g109 true (fun n => kP (oIaddrS 4 g110 (fun _ => (.int .i64 0))) s111 (n)) s111 (
 kG g109 true (fun n => kP (oLoad noG true 4 g111) s112 (n)) s112 (
 kG g109 true (fun n => kV g3 s113 (n)) s113 (
 kG g109 true (fun n => kV g3 s114 (n)) s114 (
 kG g109 true (fun n => kP (oBin (some .other) none .add g114 (fun _ => (.int .i64 1))) s115 (n)) s115 (
 kG g109 true (fun n => kP (oBuild [(.int .i64 0), (.int .i64 0), (.int .i64 0), (.int .i64 0)] (fun T => [(2, 1, g113 T), (3, 1, g115 T)])) s116 (n)) s116 (
 kG g109 true (fun n => kP (oBin (some .other) (some [.int, .int, .int, .int]) .eql g112 g116) s117 (n)) s117 (
 kP (oPick g109 g117 (fun _ => (.bool false))) s118 (
 kV g118 s119 (
 kG g119 true (fun n => kV g13 s120 (n)) s120 (
 kG g119 true (fun n => kP (oIaddrS 4 g120 (fun _ => (.int .i64 1))) s121 (n)) s121 (
 kG g119 true (fun n => kP (oFaddr 0 g121) s122 (n)) s122 (
 kG g119 true (fun n => kP (oLoad noG false 1 g122) s123 (n)) s123 (
 kG g119 true (fun n => kP (oBin (some .other) none .eql g123 (fun _ => (.int .i64 (.negSucc 0)))) s124 (n)) s124 (
 kP (oPick g119 g124 (fun _ => (.bool false))) s125 (
 kV g125 s2 (
 (fin none)))))))))))))))))))))))))))))))))))))))))))))))))))))))))))))))))))))))))))))))))))))))))))))))))))))))))))))))))))))))))
def Lx.q3 : CRun := fun ev L args H => @Option.rec Tm (fun _ => CR) .fail (fun T => (fun fin : Fin => Lx.p3 ev fin L T H []) (finK Lx.dk ev L (fun T _ => some [g2 T]))) (argsTm args)
/-- gobo/gobolaw10.LexerRules -/
def Lx.p4 (ev : Ev) (fin : Fin) (L : Nat) : K :=
 kV (fun _ => (.bool false)) s4 (
 kC ev fin (fun _ => (.fn 5 [] [])) (fun T => [(.int .i32 97)]) s12 (
 kN (oCells [(.int .i64 0), .nils, .nils]) s5 (
 kM (oStore 3 g5 g12) dN (
 kP (oLoad noG true 3 g5) s13 (
 kP (oLoad noG true 3 g5) s14 (
 kR (oLit 3 2 [(.int .i64 0), .nils, .nils, (.int .i64 0), .nils, .nils] (fun T => [(0, 3, g13 T), (3, 3, g14 T)])) s15 (
 kP (oBuild [(.int .i64 0), .nils, .nils] (fun T => [(0, 1, (.int .i64 3)), (2, 1, g15 T)])) s16 (
 kN (oCells [(.int .i64 0), .nils, .nils]) s6 (
 kM (oStore 3 g6 g16) dN (
 kP (oLoad noG true 3 g5) s17 (
 kP (oLoad noG true 3 g6) s18 (
 kR (oLit 3 2 [(.int .i64 0), .nils, .nils, (.int .i64 0), .nils, .nils] (fun T => [(0, 3, g17 T), (3, 3, g18 T)])) s19 (
 kV g19 s7 (
 kV (fun _ => (.int .i64 1)) s8 (
 kV g0 s20 (
 (fun n1 : K =>
 kIf g20
 (kP (oLoad noG true 3 g6) s21 (
 kP (oLoad noG true 3 g5) s22 (
 kR (oLit 3 2 [(.int .i64 0), .nils, .nils, (.int .i64 0), .nils, .nils] (fun T => [(0, 3, g21 T), (3, 3, g22 T)])) s23 (
 kV g23 s7 (
 kV (fun _ => (.int .i64 0)) s8 (
 n1))))))
 (n1))
 (kV g1 s24 (
 (fun n0 : K =>
 kIf g24
 (kP (oLoad noG true 3 g6) s25 (
 kP (oLoad noG true 3 g6) s26 (
 kR (oLit 3 2 [(.int .i64 0), .nils, .nils, (.int .i64 0), .nils, .nils] (fun T => [(0, 3, g25 T), (3, 3, g26 T)])) s27 (
 kV g27 s7 (
 kV (fun _ => (.int .i64 0)) s8 (
 n0))))))
 (n0))
 (kV g7 s29 (
 kC ev fin (fun _ => (.fn 6 [] [])) (fun T => [g29 T, (.int .i64 20)]) s30 (
 kV g30 s28 (
 kP (oExtract 0 g28) s31 (
 kP (oExtract 1 g28) s32 (
 kV g31 s9 (
 kV g32 s10 (
 kV g9 s33 (
 kR (oLit 1 2 [(.int .u8 0), (.int .u8 0)] (fun T => [(0, 1, (.int .u8 97)), (1, 1, (.int .u8 97))])) s34 (
 kR (oConv (.bytes true) g34) s35 (
 kC ev fin (fun _ => (.fn 7 [] [])) (fun T => [g33 T, g35 T]) s36 (
 kV g36 s11 (
 kC ev fin (fun _ => (.fn 8 [] [])) (fun T => []) s37 (
 kV g37 s38 (
 kG g38 true (fun n => kV g10 s39 (n)) s39 (
 kG g38 true (fun n => kP (oBin (some .other) none .eql g39 (fun _ => (.int .i64 0))) s40 (n)) s40 (
 kP (oPick g38 g40 (fun _ => (.bool false))) s41 (
 kV g41 s42 (
 kG g42 true (fun n => kV g11 s43 (n)) s43 (
 kG g42 true (fun n => kP (oLen .sl g43) s44 (n)) s44 (
 kG g42 true (fun n => kP (oBin (some .other) none .eql g44 (fun _ => (.int .i64 1))) s45 (n)) s45 (
 kP (oPick g42 g45 (fun _ => (.bool false))) s46 (
 kV g46 s47 (
 kG g47 true (fun n => kV g11 s48 (n)) s48 (
 kG g47 true (fun n => kP (oIaddrS 4 g48 (fun _ => (.int .i64 0))) s49 (n)) s49 (
 kG g47 true (fun n => kP (oFaddr 0 g49) s50 (n)) s50 (
 kG g47 true (fun n => kP (oLoad noG false 1 g50) s51 (n)) s51 (
 kG g47 true (fun n => kV g8 s52 (n)) s52 (
 kG g47 true (fun n => kP (oBin (some .other) none .eql g51 g52) s53 (n)) s53 (
 kP (oPick g47 g53 (fun _ => (.bool false))) s54 (
 kV g54 s55 (
 kG g55 true (fun n => kV g11 s56 (n)) s56 (
 kG g55 true (fun n => kP (oIaddrS 4 g56 (fun _ => (.int .i64 0))) s57 (n)) s57 (
 kG g55 true (fun n => kP (oFaddr 2 g57) s58 (n)) s58 (
 kG g55 true (fun n => kP (oLoad noG false 1 g58) s59 (n)) s59 (
 kG g55 true (fun n => kP (oBin (some .other) none .eql g59 (fun _ => (.int .i64 2))) s60 (n)) s60 (
 kP (oPick g55 g60 (fun _ => (.bool false))) s61 (
 kV g61 s4 (
 (fin none))))))))))))))))))))))))))))))))))))))))))))))))))))))))))
def Lx.q4 : CRun := fun ev L args H => @Option.rec Tm (fun _ => CR) .fail (fun T => (fun fin : Fin => Lx.p4 ev fin L T H []) (finK Lx.dk ev L (fun T _ => some [g4 T]))) (argsTm args)
/-- gobo/gobolaw6.One -/
def Lx.p5 (ev : Ev) (fin : Fin) (L : Nat) : K :=
 kN (oCells [(.int .i64 0), .nils, .nils]) s2 (
 kV g0 s3 (
 kV g0 s4 (
 kP (oBuild [(.int .i32 0), (.int .i32 0)] (fun T => [(0, 1, g3 T), (1, 1, g4 T)])) s5 (
 kR (oLit 2 1 [(.int .i32 0), (.int .i32 0)] (fun T => [(0, 2, g5 T)])) s6 (
 kP (oBuild [(.int .i64 0), .nils, .nils] (fun T => [(0, 1, (.int .i64 2)), (1, 1, g6 T)])) s7 (
 kM (oStore 3 g2 g7) dN (
 (fin none))))))))
def Lx.q5 : CRun := fun ev L args H => @Option.rec Tm (fun _ => CR) .fail (fun T => (fun fin : Fin => Lx.p5 ev fin L T H []) (finK Lx.dk ev L (cRess noG Lx.c5.results))) (argsTm args)
/-- gobo/lexer.Build -/
def Lx.p6 (ev : Ev) (fin : Fin) (L : Nat) : K :=
 kN (oBox g0) s2 (
 kN (oBox g1) s3 (
 kV (fun _ => .nilp) s4 (
 kV (fun _ => (.int .i64 0)) s5 (
 kN (oCells [.nilp]) s6 (
 kV (oFn 10 (fun T => []) (fun T => [g2 T, g3 T, g6 T])) s8 (
 kC ev fin (fun _ => (.fn 9 [] [])) (fun T => [g8 T]) s9 (
 kV g9 s7 (
 kP (oLoad noG false 1 g6) s10 (
 kV g7 s11 (
 kV g10 s4 (
 kV g11 s5 (
 (fin none)))))))))))))
def Lx.q6 : CRun := fun ev L args H => @Option.rec Tm (fun _ => CR) .fail (fun T => (fun fin : Fin => Lx.p6 ev fin L T H []) (finK Lx.dk ev L (fun T _ => some [g4 T, g5 T]))) (argsTm args)
/-- gobo/lexer.All -/
def Lx.p7 (ev : Ev) (fin : Fin) (L : Nat) : K :=
 kV (fun _ => .nils) s4 (
 kV (fun _ => .nils) s5 (
 kV g1 s10 (
 kC ev fin (fun _ => (.fn 16 [] [])) (fun T => [g10 T]) s11 (
 kV g11 s6 (
 kV (fun _ => (.int .i64 0)) s7 (
 (fun n0 : K =>
 kLoop (fun n1 : K =>
 kV g0 s12 (
 kP (oBin (some .ptr) none .neq g12 (fun _ => .nilp)) s13 (
 kV g13 s14 (
 kG g14 true (fun n => kV g7 s15 (n)) s15 (
 kG g14 true (fun n => kV g6 s16 (n)) s16 (
 kG g14 true (fun n => kP (oLen .sl g16) s17 (n)) s17 (
 kG g14 true (fun n => kP (oBin (some .other) none .lss g15 g17) s18 (n)) s18 (
 kP (oPick g14 g18 (fun _ => (.bool false))) s19 (
 (fun n2 : K =>
 kIf g19
 (n2)
 (n0))
 (kV g0 s21 (
 kV g6 s22 (
 kV g7 s23 (
 kC ev fin (fun _ => (.fn 17 [] [])) (fun T => [g21 T, g22 T, g23 T]) s24 (
 kV g24 s20 (
 kP (oExtract 0 g20) s25 (
 kP (oExtract 1 g20) s26 (
 kN (oCells [(.int .i64 0), (.int .i64 0), (.int .i64 0), (.int .i64 0)]) s8 (
 kM (oStore 4 g8 g25) dN (
 kV g26 s9 (
 kV g5 s27 (
 kP (oLoad noG true 4 g8) s28 (
 kR (oLit 4 1 [(.int .i64 0), (.int .i64 0), (.int .i64 0), (.int .i64 0)] (fun T => [(0, 4, g28 T)])) s29 (
 kR (oAppend 4 32 [(.int .i64 0), (.int .i64 0), (.int .i64 0), (.int .i64 0)] false g27 g29) s30 (
 kV g7 s31 (
 kV g9 s32 (
 kP (oBin (some .other) none .add g31 g32) s33 (
 kV g30 s5 (
 kV g33 s7 (
 n1))))))))))))))))))))))))))))) L)
 (kV g5 s34 (
 kV g34 s4 (
 (fin none))))))))))
def Lx.q7 : CRun := fun ev L args H => @Option.rec Tm (fun _ => CR) .fail (fun T => (fun fin : Fin => Lx.p7 ev fin L T H []) (finK Lx.dk ev L (fun T _ => some [g4 T]))) (argsTm args)
/-- gobo/gobolaw10.told -/
def Lx.p8 (ev : Ev) (fin : Fin) (L : Nat) : K :=
 kV (fun _ => (.bool false)) s0 (
 kC ev fin (fun _ => (.fn 5 [] [])) (fun T => [(.int .i32 97)]) s13 (
 kN (oCells [(.int .i64 0), .nils, .nils]) s1 (
 kM (oStore 3 g1 g13) dN (
 kP (oLoad noG true 3 g1) s14 (
 kP (oLoad noG true 3 g1) s15 (
 kP (oLoad noG true 3 g1) s16 (
 kC ev (fun _ => kFail) (fun _ => (.fn 5 [] [])) (fun T => [(.int .i32 98)]) s17 (
 kQ (oLoad noG true 3 g1) g14 (kQ (oLoad noG true 3 g1) g15 (kQ (oLoad noG true 3 g1) g16 (kP (oLitD 2 [(.int .i64 0), .nils, .nils, (.int .i64 0), .nils, .nils] (fun T => [(0, 3, g16 T), (3, 3, g17 T)])) s18 (
 kP (oBuild [(.int .i64 0), .nils, .nils] (fun T => [(0, 1, (.int .i64 3)), (2, 1, g18 T)])) s19 (
 kP (oLitD 2 [(.int .i64 0), .nils, .nils, (.int .i64 0), .nils, .nils] (fun T => [(0, 3, g15 T), (3, 3, g19 T)])) s20 (
 kP (oBuild [(.int .i64 0), .nils, .nils] (fun T => [(0, 1, (.int .i64 3)), (2, 1, g20 T)])) s21 (
 kP (oLitD 2 [(.int .i64 0), .nils, .nils, (.int .i64 0), .nils, .nils] (fun T => [(0, 3, g14 T), (3, 3, g21 T)])) s22 (
 kV g22 s2 (
 kV g2 s24 (
 kC ev fin (fun _ => (.fn 6 [] [])) (fun T => [g24 T, (.int .i64 50)]) s25 (
 kV g25 s23 (
 kP (oExtract 0 g23) s26 (
 kP (oExtract 1 g23) s27 (
 kV g26 s3 (
 kV g27 s4 (
 kP (oBuild [(.int .i64 0), .nils, .nils] (fun T => [(0, 1, (.int .i64 1))])) s29 (
 kR (oLit 3 1 [(.int .i64 0), .nils, .nils] (fun T => [(0, 3, g29 T)])) s30 (
 kC ev fin (fun _ => (.fn 6 [] [])) (fun T => [g30 T, (.int .i64 50)]) s31 (
 kV g31 s28 (
 kP (oExtract 0 g28) s32 (
 kP (oExtract 1 g28) s33 (
 kV g32 s5 (
 kV g33 s6 (
 kV g3 s34 (
 kR (oLit 1 3 [(.int .u8 0), (.int .u8 0), (.int .u8 0)] (fun T => [(0, 1, (.int .u8 97)), (1, 1, (.int .u8 97)), (2, 1, (.int .u8 99))])) s35 (
 kR (oConv (.bytes true) g35) s36 (
 kC ev fin (fun _ => (.fn 7 [] [])) (fun T => [g34 T, g36 T]) s37 (
 kV g37 s7 (
 kR (oLit 1 3 [(.int .u8 0), (.int .u8 0), (.int .u8 0)] (fun T => [(0, 1, (.int .u8 97)), (1, 1, (.int .u8 97)), (2, 1, (.int .u8 99))])) s38 (
 kR (oConv (.bytes true) g38) s39 (
 kC ev fin (fun _ => (.fn 16 [] [])) (fun T => [g39 T]) s40 (
 kV g40 s8 (
 kV g2 s42 (
 kV g8 s43 (
 kC ev fin (fun _ => (.fn 18 [] [])) (fun T => [g42 T, g43 T, (.int .i64 0)]) s44 (
 kV g44 s41 (
 kP (oExtract 0 g41) s45 (
 kP (oExtract 1 g41) s46 (
 kN (oCells [(.int .i64 0), (.int .i64 0), (.int .i64 0), (.int .i64 0)]) s9 (
 kM (oStore 4 g9 g45) dN (
 kV g46 s10 (
 kV g8 s48 (
 kC ev fin (fun _ => (.fn 17 [] [])) (fun T => [.nilp, g48 T, (.int .i64 0)]) s49 (
 kV g49 s47 (
 kP (oExtract 0 g47) s50 (
 kP (oExtract 1 g47) s51 (
 kN (oCells [(.int .i64 0), (.int .i64 0), (.int .i64 0), (.int .i64 0)]) s11 (
 kM (oStore 4 g11 g50) dN (
 kV g51 s12 (
 kV g4 s52 (
 kP (oBin (some .other) none .eql g52 (fun _ => (.int .i64 0))) s53 (
 kV g53 s54 (
 kG g54 true (fun n => kV g6 s55 (n)) s55 (
 kG g54 true (fun n => kP (oBin (some .other) none .eql g55 (fun _ => (.int .i64 11))) s56 (n)) s56 (
 kP (oPick g54 g56 (fun _ => (.bool false))) s57 (
 kV g57 s58 (
 kG g58 true (fun n => kV g7 s59 (n)) s59 (
 kG g58 true (fun n => kP (oLen .sl g59) s60 (n)) s60 (
 kG g58 true (fun n => kP (oBin (some .other) none .eql g60 (fun _ => (.int .i64 3))) s61 (n)) s61 (
 kP (oPick g58 g61 (fun _ => (.bool false))) s62 (
 kV g62 s63 (
 kG g63 true (fun n => kV g7 s64 (n)) s64 (
 kG g63 true (fun n => kP (oIaddrS 4 g64 (fun _ => (.int .i64 0))) s65 (n)) s65 (
 kG g63 true (fun n => kP (oLoad noG true 4 g65) s66 (n)) s66 (
 kG g63 true (fun n => kP (oBuild [(.int .i64 0), (.int .i64 0), (.int .i64 0), (.int .i64 0)] (fun T => [(0, 1, (.int .i64 0)), (2, 1, (.int .i64 1)), (3, 1, (.int .i64 3))])) s67 (n)) s67 (
 kG g63 true (fun n => kP (oBin (some .other) (some [.int, .int, .int, .int]) .eql g66 g67) s68 (n)) s68 (
 kP (oPick g63 g68 (fun _ => (.bool false))) s69 (
 kV g69 s70 (
 kG g70 true (fun n => kV g7 s71 (n)) s71 (
 kG g70 true (fun n => kP (oIaddrS 4 g71 (fun _ => (.int .i64 1))) s72 (n)) s72 (
 kG g70 true (fun n => kP (oLoad noG true 4 g72) s73 (n)) s73 (
 kG g70 true (fun n => kP (oBuild [(.int .i64 0), (.int .i64 0), (.int .i64 0), (.int .i64 0)] (fun T => [(0, 1, (.int .i64 0)), (1, 1, (.int .i64 1)), (2, 1, (.int .i64 2)), (3, 1, (.int .i64 3))])) s74 (n)) s74 (
 kG g70 true (fun n => kP (oBin (some .other) (some [.int, .int, .int, .int]) .eql g73 g74) s75 (n)) s75 (
 kP (oPick g70 g75 (fun _ => (.bool false))) s76 (
 kV g76 s77 (
 kG g77 true (fun n => kV g7 s78 (n)) s78 (
 kG g77 true (fun n => kP (oIaddrS 4 g78 (fun _ => (.int .i64 2))) s79 (n)) s79 (
 kG g77 true (fun n => kP (oLoad noG true 4 g79) s80 (n)) s80 (
 kG g77 true (fun n => kP (oBuild [(.int .i64 0), (.int .i64 0), (.int .i64 0), (.int .i64 0)] (fun T => [(0, 1, (.int .i64 (.negSucc 0))), (1, 1, (.int .i64 2)), (2, 1, (.int .i64 3)), (3, 1, (.int .i64 3))])) s81 (n)) s81 (
 kG g77 true (fun n => kP (oBin (some .other) (some [.int, .int, .int, .int]) .eql g80 g81) s82 (n)) s82 (
 kP (oPick g77 g82 (fun _ => (.bool false))) s83 (
 kV g83 s84 (
 kG g84 true (fun n => kP (oLoad noG true 4 g9) s85 (n)) s85 (
 kG g84 true (fun n => kV g7 s86 (n)) s86 (
 kG g84 true (fun n => kP (oIaddrS 4 g86 (fun _ => (.int .i64 0))) s87 (n)) s87 (
 kG g84 true (fun n => kP (oLoad noG true 4 g87) s88 (n)) s88 (
 kG g84 true (fun n => kP (oBin (some .other) (some [.int, .int, .int, .int]) .eql g85 g88) s89 (n)) s89 (
 kP (oPick g84 g89 (fun _ => (.bool false))) s90 (
 kV g90 s91 (
 kG g91 true (fun n => kV g10 s92 (n)) s92 (
 kG g91 true (fun n => kP (oBin (some .other) none .eql g92 (fun _ => (.int .i64 1))) s93 (n)) s93 (
 kP (oPick g91 g93 (fun _ => (.bool false))) s94 (
 kV g94 s95 (
 kG g95 true (fun n => kP (oLoad noG true 4 g11) s96 (n)) s96 (
 kG g95 true (fun n => kP (oBuild [(.int .i64 0), (.int .i64 0), (.int .i64 0), (.int .i64 0)] (fun T => [])) s97 (n)) s97 (
 kG g95 true (fun n => kP (oBin (some .other) (some [.int, .int, .int, .int]) .eql g96 g97) s98 (n)) s98 (
 kP (oPick g95 g98 (fun _ => (.bool false))) s99 (
 kV g99 s100 (
 kG g100 true (fun n => kV g12 s101 (n)) s101 (
 kG g100 true (fun n => kP (oBin (some .other) none .eql g101 (fun _ => (.int .i64 0))) s102 (n)) s102 (
 kP (oPick g100 g102 (fun _ => (.bool false))) s103 (
 kV g103 s104 (
 kG g104 true (fun n => kV g3 s105 (n)) s105 (
 kG g104 true (fun n => kV g8 s106 (n)) s106 (
 kG g104 true (fun n => kC ev (fun _ => kFail) (fun _ => (.fn 19 [] [])) (fun T => [g105 T, g106 T, (.int .i64 0)]) s107 (n)) s107 (
 kP (oPick g104 g107 (fun _ => (.bool false))) s108 (
 kV g108 s109 (
 kG g109 true (fun n => kV g3 s110 (n)) s110 (
 kG g109 true (fun n => kV g8 s111 (n)) s111 (
 kG g109 true (fun n => kP (oSlice noG (.sl 5) g111 (fun _ => none) (fun T => some ((.int .i64 2))) (fun _ => none)) s112 (n)) s112 (
 kG g109 true (fun n => kC ev (fun _ => kFail) (fun _ => (.fn 19 [] [])) (fun T => [g110 T, g112 T, (.int .i64 0)]) s113 (n)) s113 (
 kG g109 true (fun n => kP (oUn .not g113) s114 (n)) s114 (
 kP (oPick g109 g114 (fun _ => (.bool false))) s115 (
 kV g115 s0 (
 (fin none))))))))))))))))))))))))))))))))))))))))))))))))))))))))))))))))))))))))))))))))))))))))))))))))))))))))))))))))))))))))))))
def Lx.q8 : CRun := fun ev L args H => @Option.rec Tm (fun _ => CR) .fail (fun T => (fun fin : Fin => Lx.p8 ev fin L T H []) (finK Lx.dk ev L (fun T _ => some [g0 T]))) (argsTm args)
/-- gobo/lexer.caught -/
def Lx.p9 (ev : Ev) (fin : Fin) (L : Nat) : K :=
 kN (oCells [(.int .i64 0)]) s2 (
 kV (oFn 20 (fun T => []) (fun T => [g2 T])) s3 (
 kD g3 (fun T => []) dN (
 kV g0 s4 (
 kC ev fin g4 (fun T => []) s5 (
 kM (oStore 1 g2 (fun _ => (.int .i64 0))) dN (
 (fin none)))))))
def Lx.q9 : CRun := fun ev L args H => @Option.rec Tm (fun _ => CR) .fail (fun T => (fun fin : Fin => Lx.p9 ev fin L T H []) (finK Lx.dk ev L (cRess noG Lx.c9.results))) (argsTm args)
/-- gobo/lexer.Build$1 -/
def Lx.p10 (ev : Ev) (fin : Fin) (L : Nat) : K :=
 kP (oLoad noG false 1 g0) s7 (
 kC ev fin (fun _ => (.fn 11 [] [])) (fun T => [g7 T]) s8 (
 kV g8 s6 (
 kP (oExtract 0 g6) s9 (
 kP (oExtract 1 g6) s10 (
 kV g9 s3 (
 kV g10 s4 (
 kV g4 s11 (
 kP (oBin (some .other) none .eql g11 (fun _ => (.int .i64 0))) s12 (
 kV g4 s13 (
 kC ev fin (fun _ => (.fn 12 [] [])) (fun T => [g12 T, g13 T]) s14 (
 kV g3 s16 (
 kP (oLoad noG false 1 g1) s17 (
 kC ev fin (fun _ => (.fn 13 [] [])) (fun T => [g16 T, g17 T]) s18 (
 kV g18 s15 (
 kP (oExtract 0 g15) s19 (
 kP (oExtract 1 g15) s20 (
 kV g19 s5 (
 kV g20 s4 (
 kV g4 s21 (
 kP (oBin (some .other) none .eql g21 (fun _ => (.int .i64 0))) s22 (
 kV g4 s23 (
 kC ev fin (fun _ => (.fn 12 [] [])) (fun T => [g22 T, g23 T]) s24 (
 kP (oLoad noG false 1 g0) s25 (
 kC ev fin (fun _ => (.fn 14 [] [])) (fun T => [g25 T]) s26 (
 kP (oUn .not g26) s27 (
 kC ev fin (fun _ => (.fn 12 [] [])) (fun T => [g27 T, (.int .i64 11)]) s28 (
 kV g5 s29 (
 kC ev fin (fun _ => (.fn 15 [] [])) (fun T => [g29 T]) s30 (
 kM (oStore 1 g2 g30) dN (
 (fin none)))))))))))))))))))))))))))))))
def Lx.q10 : CRun := fun ev L args H => @Option.rec Tm (fun _ => CR) .fail (fun T => (fun fin : Fin => Lx.p10 ev fin L T H []) (finK Lx.dk ev L (fun T _ => some []))) (argsTm args)
/-- gobo/nfa.Build -/
def Lx.p11 (ev : Ev) (fin : Fin) (L : Nat) : K :=
 kV (fun _ => .nilp) s2 (
 kV (fun _ => (.int .i64 0)) s3 (
 kV g0 s12 (
 kP (oLen .sl g12) s13 (
 kP (oBin (some .other) none .lss g13 (fun _ => (.int .i64 1))) s14 (
 kV g14 s15 (
 kG g15 false (fun n => kV g0 s16 (n)) s16 (
 kG g15 false (fun n => kP (oLen .sl g16) s17 (n)) s17 (
 kG g15 false (fun n => kP (oBin (some .other) none .gtr g17 (fun _ => (.int .i64 16))) s18 (n)) s18 (
 kP (oPick g15 (fun _ => (.bool true)) g18) s19 (
 kV g19 s20 (
 kG g20 false (fun n => kV g0 s21 (n)) s21 (
 kG g20 false (fun n => kC ev fin (fun _ => (.fn 21 [] [])) (fun T => [g21 T, (.fn 22 [] [])]) s22 (n)) s22 (
 kP (oPick g20 (fun _ => (.bool true)) g22) s23 (
 (fun n8 : K =>
 kIf g23
 (kV (fun _ => .nilp) s2 (
 kV (fun _ => (.int .i64 1)) s3 (
 (fin none))))
 (n8))
 (kR (oLit 1 1 [.nils] (fun T => [(0, 1, .nils)])) s24 (
 kR (oLit 1 1 [.nils] (fun T => [(0, 1, .nils)])) s25 (
 kR (oLit 1 1 [.nils] (fun T => [(0, 1, .nils)])) s26 (
 kP (oBuild [.nils, .nils, .nils, .nils] (fun T => [(0, 1, g24 T), (1, 1, g25 T), (2, 1, g26 T)])) s27 (
 kN (oBox g27) s28 (
 kN (oCells [.nilp]) s4 (
 kM (oStore 1 g4 g28) dN (
 kV (oFn 24 (fun T => []) (fun T => [g4 T])) s29 (
 kN (oCells [.nilf]) s5 (
 kM (oStore 1 g5 g29) dN (
 kN (oCells [.nilf]) s6 (
 kV (oFn 26 (fun T => []) (fun T => [g6 T, g4 T, g5 T])) s30 (
 kM (oStore 1 g6 g30) dN (
 kV g0 s31 (
 kP (oLen .sl g31) s32 (
 kV (fun _ => (.int .i64 0)) s33 (
 (fun n0 : K =>
 kLoop (fun n1 : K =>
 kP (oBin (some .other) none .lss g33 g32) s34 (
 (fun n7 : K =>
 kIf g34
 (n7)
 (n0))
 ((fun n2 : K =>
 kV g33 s35 (
 kP (oIaddrS 3 g31 g33) s36 (
 kP (oLoad noG true 3 g36) s37 (
 kN (oCells [(.int .i64 0), .nils, .nils]) s8 (
 kV g35 s7 (
 kM (oStore 3 g8 g37) dN (
 kP (oLoad noG false 1 g6) s38 (
 kP (oLoad noG true 3 g8) s39 (
 kC ev fin g38 (fun T => [g39 T]) s40 (
 kN (oCells [.nils, .nils, (.bool false)]) s9 (
 kM (oStore 3 g9 g40) dN (
 kP (oLoad noG false 1 g4) s41 (
 kP (oNilc g41) s42 (
 kP (oFaddr 1 g42) s43 (
 kP (oLoad noG false 1 g43) s44 (
 kP (oLoad noG false 1 g4) s45 (
 kP (oNilc g45) s46 (
 kP (oFaddr 1 g46) s47 (
 kP (oLoad noG false 1 g47) s48 (
 kP (oIaddrS 1 g48 (fun _ => (.int .i64 0))) s49 (
 kP (oLoad noG false 1 g49) s50 (
 kP (oFaddr 0 g9) s51 (
 kP (oLoad noG false 1 g51) s52 (
 kC ev (fun _ => kFail) (fun _ => (.fn 25 [] [])) (fun T => [g50 T, g52 T]) s53 (
 kQ (oLoad noG false 1 g4) g41 (kQ (oLoad noG false 1 g43) g44 (kP (oIaddrS 1 g44 (fun _ => (.int .i64 0))) s54 (
 kM (oStore 1 g54 g53) dN (
 kP (oFaddr 1 g9) s55 (
 kP (oLoad noG false 1 g55) s56 (
 kP (oLen .sl g56) s57 (
 kV (fun _ => (.int .i64 0)) s58 (
 (fun n3 : K =>
 kLoop (fun n4 : K =>
 kP (oBin (some .other) none .lss g58 g57) s59 (
 (fun n6 : K =>
 kIf g59
 (n6)
 (n3))
 ((fun n5 : K =>
 kP (oIaddrS 1 g56 g58) s60 (
 kP (oLoad noG false 1 g60) s61 (
 kV g61 s11 (
 kP (oLoad noG false 1 g4) s62 (
 kP (oNilc g62) s63 (
 kP (oFaddr 2 g63) s64 (
 kP (oLoad noG false 1 g64) s65 (
 kV g11 s66 (
 kP (oLoad noG false 1 g4) s67 (
 kP (oNilc g67) s68 (
 kP (oFaddr 2 g68) s69 (
 kP (oLoad noG false 1 g69) s70 (
 kV g11 s71 (
 kP (oIaddrS 1 g70 g71) s72 (
 kP (oLoad noG false 1 g72) s73 (
 kV g7 s74 (
 kP (oLitD 1 [(.int .i64 0)] (fun T => [(0, 1, g74 T)])) s75 (
 kR (oAppend 1 8 [(.int .i64 0)] false g73 g75) s76 (
 kQ (oLoad noG false 1 g4) g62 (kQ (oLoad noG false 1 g64) g65 (kP (oIaddrS 1 g65 g66) s77 (
 kM (oStore 1 g77 g76) dN (
 n5)))))))))))))))))))))))
 (kP (oBin (some .other) none .add g58 (fun _ => (.int .i64 1))) s78 (
 kV g78 s58 (
 n4)))))) L)
 (kP (oFaddr 2 g9) s79 (
 kP (oLoad noG false 1 g79) s80 (
 kIf g80
 (kP (oLoad noG false 1 g4) s81 (
 kP (oLoad noG false 1 g4) s82 (
 kP (oNilc g82) s83 (
 kP (oFaddr 3 g83) s84 (
 kP (oLoad noG false 1 g84) s85 (
 kV g7 s86 (
 kP (oLitD 1 [(.int .i64 0)] (fun T => [(0, 1, g86 T)])) s87 (
 kR (oAppend 1 8 [(.int .i64 0)] false g85 g87) s88 (
 kQ (oLoad noG false 1 g4) g81 (kP (oNilc g81) s89 (
 kP (oFaddr 3 g89) s90 (
 kM (oStore 1 g90 g88) dN (
 n2)))))))))))))
 (n2)))))))))))))))))))))))))))))))))))))
 (kP (oBin (some .other) none .add g33 (fun _ => (.int .i64 1))) s91 (
 kV g91 s33 (
 n1)))))) L)
 (kP (oLoad noG false 1 g4) s92 (
 kV g92 s2 (
 kV (fun _ => (.int .i64 0)) s3 (
 (fin none))))))))))))))))))))))))))))))))))))
def Lx.q11 : CRun := fun ev L args H => @Option.rec Tm (fun _ => CR) .fail (fun T => (fun fin : Fin => Lx.p11 ev fin L T H []) (finK Lx.dk ev L (fun T _ => some [g2 T, g3 T]))) (argsTm args)
/-- gobo/lexer.must -/
def Lx.p12 (ev : Ev) (fin : Fin) (L : Nat) : K :=
 kV g0 s4 (
 kP (oUn .not g4) s5 (
 kIf g5
 (kV g1 s6 (
 kP (oBuild [(.int .i64 0)] (fun T => [(0, 1, g6 T)])) s7 (
 kV (oIface 58 g7) s8 (
 kX fin g8))))
 ((fin none))))
def Lx.q12 : CRun := fun ev L args H => @Option.rec Tm (fun _ => CR) .fail (fun T => (fun fin : Fin => Lx.p12 ev fin L T H []) (finK Lx.dk ev L (fun T _ => some []))) (argsTm args)
/-- gobo/dfa.Build -/
def Lx.p13 (ev : Ev) (fin : Fin) (L : Nat) : K :=
 kV (fun _ => .nilp) s4 (
 kV (fun _ => (.int .i64 0)) s5 (
 kV g0 s18 (
 kP (oBin (some .ptr) none .eql g18 (fun _ => .nilp)) s19 (
 kV g19 s20 (
 kG g20 false (fun n => kV g1 s21 (n)) s21 (
 kG g20 false (fun n => kP (oBin (some .other) none .lss g21 (fun _ => (.int .i64 1))) s22 (n)) s22 (
 kP (oPick g20 (fun _ => (.bool true)) g22) s23 (
 kV g23 s24 (
 kG g24 false (fun n => kV g1 s25 (n)) s25 (
 kG g24 false (fun n => kP (oBin (some .other) none .gtr g25 (fun _ => (.int .i64 400))) s26 (n)) s26 (
 kP (oPick g24 (fun _ => (.bool true)) g26) s27 (
 (fun n11 : K =>
 kIf g27
 (kV (fun _ => .nilp) s4 (
 kV (fun _ => (.int .i64 1)) s5 (
 (fin none))))
 (n11))
 (kV g0 s28 (
 kC ev fin (fun _ => (.fn 27 [] [])) (fun T => [g28 T]) s29 (
 kP (oBuild [.nils, .nils, .nils] (fun T => [(0, 1, g29 T)])) s30 (
 kN (oBox g30) s31 (
 kV g31 s6 (
 kR (oLit 1 1 [(.int .i64 0)] (fun T => [(0, 1, (.int .i64 0))])) s32 (
 kR (oLit 1 1 [.nils] (fun T => [(0, 1, g32 T)])) s33 (
 kV g33 s7 (
 kW s34 (
 kV g7 s35 (
 kP (oIaddrS 1 g35 (fun _ => (.int .i64 0))) s36 (
 kP (oLoad noG false 1 g36) s37 (
 kC ev fin (fun _ => (.fn 28 [] [])) (fun T => [g37 T]) s38 (
 kM (oMapupd .str g34 g38 (fun _ => (.int .i64 0))) dN (
 kV g34 s39 (
 kV g39 s8 (
 kV (fun _ => (.int .i64 0)) s9 (
 (fun n0 : K =>
 kLoop (fun n1 : K =>
 kV g9 s40 (
 kV g7 s41 (
 kP (oLen .sl g41) s42 (
 kP (oBin (some .other) none .lss g40 g42) s43 (
 (fun n10 : K =>
 kIf g43
 (n10)
 (n0))
 ((fun n2 : K =>
 kV g6 s46 (
 kP (oNilc g46) s47 (
 kP (oFaddr 0 g47) s48 (
 kP (oLoad noG false 1 g48) s49 (
 kP (oLen .sl g49) s50 (
 kR (oMkslice 1 [(.int .i64 0)] 8 g50 g50) s51 (
 kV g51 s10 (
 kV g6 s52 (
 kP (oNilc g52) s53 (
 kP (oFaddr 0 g53) s54 (
 kP (oLoad noG false 1 g54) s55 (
 kP (oLen .sl g55) s56 (
 kV (fun _ => (.int .i64 0)) s57 (
 (fun n4 : K =>
 kLoop (fun n5 : K =>
 kP (oBin (some .other) none .lss g57 g56) s58 (
 (fun n9 : K =>
 kIf g58
 (n9)
 (n4))
 ((fun n6 : K =>
 kV g57 s59 (
 kP (oIaddrS 2 g55 g57) s60 (
 kP (oLoad noG true 2 g60) s61 (
 kN (oCells [(.int .i32 0), (.int .i32 0)]) s12 (
 kV g59 s11 (
 kM (oStore 2 g12 g61) dN (
 kV g0 s62 (
 kV g7 s63 (
 kV g9 s64 (
 kP (oIaddrS 1 g63 g64) s65 (
 kP (oLoad noG false 1 g65) s66 (
 kP (oFaddr 0 g12) s67 (
 kP (oLoad noG false 1 g67) s68 (
 kC ev (fun _ => kFail) (fun _ => (.fn 29 [] [])) (fun T => [g62 T, g66 T, g68 T]) s69 (
 kV g69 s13 (
 kV g10 s70 (
 kV g11 s71 (
 kP (oIaddrS 1 g70 g71) s72 (
 kM (oStore 1 g72 (fun _ => (.int .i64 (.negSucc 0)))) dN (
 kV g13 s73 (
 kP (oLen .sl g73) s74 (
 kP (oBin (some .other) none .eql g74 (fun _ => (.int .i64 0))) s75 (
 (fun n8 : K =>
 kIf g75
 (n6)
 (n8))
 (kV g8 s77 (
 kV g13 s78 (
 kC ev fin (fun _ => (.fn 28 [] [])) (fun T => [g78 T]) s79 (
 kP (oLookup .str (.int .i64 0) g77 g79 true) s80 (
 kV g80 s76 (
 kP (oExtract 0 g76) s81 (
 kP (oExtract 1 g76) s82 (
 kV g81 s14 (
 kV g82 s15 (
 kV g15 s83 (
 kP (oUn .not g83) s84 (
 (fun n7 : K =>
 kIf g84
 (kV g7 s85 (
 kP (oLen .sl g85) s86 (
 kV g86 s14 (
 kV g8 s87 (
 kV g13 s88 (
 kC ev fin (fun _ => (.fn 28 [] [])) (fun T => [g88 T]) s89 (
 kV g14 s90 (
 kM (oMapupd .str g87 g89 g90) dN (
 kV g7 s91 (
 kV g13 s92 (
 kR (oLit 1 1 [.nils] (fun T => [(0, 1, g92 T)])) s93 (
 kR (oAppend 1 24 [.nils] false g91 g93) s94 (
 kV g94 s7 (
 kV g7 s95 (
 kP (oLen .sl g95) s96 (
 kV g1 s97 (
 kP (oBin (some .other) none .gtr g96 g97) s98 (
 kIf g98
 (kV (fun _ => .nilp) s4 (
 kV (fun _ => (.int .i64 8)) s5 (
 (fin none))))
 (n7)))))))))))))))))))
 (n7))
 (kV g10 s99 (
 kV g11 s100 (
 kV g14 s101 (
 kP (oIaddrS 1 g99 g100) s102 (
 kM (oStore 1 g102 g101) dN (
 n6)))))))))))))))))))))))))))))))))))))))))
 (kP (oBin (some .other) none .add g57 (fun _ => (.int .i64 1))) s103 (
 kV g103 s57 (
 n5)))))) L)
 (kV (fun _ => (.int .i64 (.negSucc 0))) s16 (
 kV g0 s104 (
 kV g7 s105 (
 kV g9 s106 (
 kP (oIaddrS 1 g105 g106) s107 (
 kP (oLoad noG false 1 g107) s108 (
 kC ev fin (fun _ => (.fn 30 [] [])) (fun T => [g104 T, g108 T]) s109 (
 kV g109 s17 (
 kV g17 s110 (
 kP (oLen .sl g110) s111 (
 kP (oBin (some .other) none .gtr g111 (fun _ => (.int .i64 0))) s112 (
 (fun n3 : K =>
 kIf g112
 (kV g17 s113 (
 kP (oIaddrS 1 g113 (fun _ => (.int .i64 0))) s114 (
 kP (oLoad noG false 1 g114) s115 (
 kV g115 s16 (
 n3)))))
 (n3))
 (kV g6 s116 (
 kV g6 s117 (
 kV g6 s118 (
 kP (oNilc g118) s119 (
 kP (oFaddr 1 g119) s120 (
 kP (oLoad noG false 1 g120) s121 (
 kV g10 s122 (
 kP (oLitD 1 [.nils] (fun T => [(0, 1, g122 T)])) s123 (
 kV g6 s125 (
 kP (oNilc g125) s126 (
 kP (oFaddr 2 g126) s127 (
 kP (oLoad noG false 1 g127) s128 (
 kV g16 s129 (
 kP (oLitD 1 [(.int .i64 0)] (fun T => [(0, 1, g129 T)])) s130 (
 kR (oAppend 1 24 [.nils] false g121 g123) s124 (
 kQ (oLoad noG false 1 g127) g128 (kR (oAppend 1 8 [(.int .i64 0)] false g128 g130) s131 (
 kP (oNilc g116) s132 (
 kP (oFaddr 1 g132) s133 (
 kM (oStore 1 g133 g124) dN (
 kP (oNilc g117) s134 (
 kP (oFaddr 2 g134) s135 (
 kM (oStore 1 g135 g131) dN (
 n2))))))))))))))))))))))))))))))))))))))))))))))))))
 (kV g9 s44 (
 kP (oBin (some .other) none .add g44 (fun _ => (.int .i64 1))) s45 (
 kV g45 s9 (
 n1)))))))))) L)
 (kV g6 s136 (
 kV g136 s4 (
 kV (fun _ => (.int .i64 0)) s5 (
 (fin none)))))))))))))))))))))))))))))))))))
def Lx.q13 : CRun := fun ev L args H => @Option.rec Tm (fun _ => CR) .fail (fun T => (fun fin : Fin => Lx.p13 ev fin L T H []) (finK Lx.dk ev L (fun T _ => some [g4 T, g5 T]))) (argsTm args)
/-- gobo/lexer.empty -/
def Lx.p14 (ev : Ev) (fin : Fin) (L : Nat) : K :=
 kV (fun _ => (.bool false)) s2 (
 kV g0 s3 (
 kC ev fin (fun _ => (.fn 21 [] [])) (fun T => [g3 T, (.fn 31 [] [])]) s4 (
 kV g4 s2 (
 (fin none)))))
def Lx.q14 : CRun := fun ev L args H => @Option.rec Tm (fun _ => CR) .fail (fun T => (fun fin : Fin => Lx.p14 ev fin L T H []) (finK Lx.dk ev L (fun T _ => some [g2 T]))) (argsTm args)
/-- gobo/mini.Build -/
def Lx.p15 (ev : Ev) (fin : Fin) (L : Nat) : K :=
 kV (fun _ => .nilp) s2 (
 kV g0 s14 (
 kP (oBin (some .ptr) none .eql g14 (fun _ => .nilp)) s15 (
 (fun n10 : K =>
 kIf g15
 (kV (fun _ => .nilp) s2 (
 (fin none)))
 (n10))
 (kV g0 s16 (
 kC ev fin (fun _ => (.fn 32 [] [])) (fun T => [g16 T]) s17 (
 kP (oBuild [.nils, .nils, .nils] (fun T => [(0, 1, g17 T)])) s18 (
 kN (oBox g18) s19 (
 kV g19 s3 (
 kV g0 s20 (
 kC ev fin (fun _ => (.fn 33 [] [])) (fun T => [g20 T]) s21 (
 kV g21 s4 (
 kV g0 s22 (
 kV g4 s23 (
 kC ev fin (fun _ => (.fn 34 [] [])) (fun T => [g22 T, g23 T]) s24 (
 kV g24 s5 (
 kW s25 (
 kV g5 s26 (
 kP (oIaddrS 1 g26 (fun _ => (.int .i64 0))) s27 (
 kP (oLoad noG false 1 g27) s28 (
 kM (oMapupd .int g25 g28 (fun _ => (.int .i64 0))) dN (
 kV g25 s29 (
 kV g29 s6 (
 kR (oLit 1 1 [(.int .i64 0)] (fun T => [(0, 1, (.int .i64 0))])) s30 (
 kV g30 s7 (
 kV (fun _ => (.int .i64 0)) s8 (
 (fun n0 : K =>
 kLoop (fun n1 : K =>
 kV g8 s31 (
 kV g7 s32 (
 kP (oLen .sl g32) s33 (
 kP (oBin (some .other) none .lss g31 g33) s34 (
 (fun n9 : K =>
 kIf g34
 (n9)
 (n0))
 ((fun n2 : K =>
 kV g3 s37 (
 kP (oNilc g37) s38 (
 kP (oFaddr 0 g38) s39 (
 kP (oLoad noG false 1 g39) s40 (
 kP (oLen .sl g40) s41 (
 kR (oMkslice 1 [(.int .i64 0)] 8 g41 g41) s42 (
 kV g42 s9 (
 kV g3 s43 (
 kP (oNilc g43) s44 (
 kP (oFaddr 0 g44) s45 (
 kP (oLoad noG false 1 g45) s46 (
 kP (oLen .sl g46) s47 (
 kV (fun _ => (.int .i64 0)) s48 (
 (fun n3 : K =>
 kLoop (fun n4 : K =>
 kP (oBin (some .other) none .lss g48 g47) s49 (
 (fun n8 : K =>
 kIf g49
 (n8)
 (n3))
 ((fun n5 : K =>
 kV g48 s50 (
 kV g50 s10 (
 kV g0 s51 (
 kV g7 s52 (
 kV g8 s53 (
 kP (oIaddrS 1 g52 g53) s54 (
 kP (oLoad noG false 1 g54) s55 (
 kV g10 s56 (
 kC ev fin (fun _ => (.fn 35 [] [])) (fun T => [g51 T, g55 T, g56 T]) s57 (
 kV g57 s11 (
 kV g9 s58 (
 kV g10 s59 (
 kP (oIaddrS 1 g58 g59) s60 (
 kM (oStore 1 g60 (fun _ => (.int .i64 (.negSucc 0)))) dN (
 kV g11 s61 (
 kP (oBin (some .other) none .lss g61 (fun _ => (.int .i64 0))) s62 (
 kV g62 s63 (
 kG g63 false (fun n => kV g4 s64 (n)) s64 (
 kG g63 false (fun n => kV g11 s65 (n)) s65 (
 kG g63 false (fun n => kP (oIaddrS 1 g64 g65) s66 (n)) s66 (
 kG g63 false (fun n => kP (oLoad noG false 1 g66) s67 (n)) s67 (
 kG g63 false (fun n => kP (oUn .not g67) s68 (n)) s68 (
 kP (oPick g63 (fun _ => (.bool true)) g68) s69 (
 (fun n7 : K =>
 kIf g69
 (n5)
 (n7))
 (kV g6 s71 (
 kV g5 s72 (
 kV g11 s73 (
 kP (oIaddrS 1 g72 g73) s74 (
 kP (oLoad noG false 1 g74) s75 (
 kP (oLookup .int (.int .i64 0) g71 g75 true) s76 (
 kV g76 s70 (
 kP (oExtract 0 g70) s77 (
 kP (oExtract 1 g70) s78 (
 kV g77 s12 (
 kV g78 s13 (
 kV g13 s79 (
 kP (oUn .not g79) s80 (
 (fun n6 : K =>
 kIf g80
 (kV g7 s81 (
 kP (oLen .sl g81) s82 (
 kV g82 s12 (
 kV g6 s83 (
 kV g5 s84 (
 kV g11 s85 (
 kP (oIaddrS 1 g84 g85) s86 (
 kP (oLoad noG false 1 g86) s87 (
 kV g12 s88 (
 kM (oMapupd .int g83 g87 g88) dN (
 kV g7 s89 (
 kV g11 s90 (
 kR (oLit 1 1 [(.int .i64 0)] (fun T => [(0, 1, g90 T)])) s91 (
 kR (oAppend 1 8 [(.int .i64 0)] false g89 g91) s92 (
 kV g92 s7 (
 n6))))))))))))))))
 (n6))
 (kV g9 s93 (
 kV g10 s94 (
 kV g12 s95 (
 kP (oIaddrS 1 g93 g94) s96 (
 kM (oStore 1 g96 g95) dN (
 n5))))))))))))))))))))))))))))))))))))))))))))
 (kP (oBin (some .other) none .add g48 (fun _ => (.int .i64 1))) s97 (
 kV g97 s48 (
 n4)))))) L)
 (kV g3 s98 (
 kV g3 s99 (
 kV g3 s100 (
 kP (oNilc g100) s101 (
 kP (oFaddr 1 g101) s102 (
 kP (oLoad noG false 1 g102) s103 (
 kV g9 s104 (
 kP (oLitD 1 [.nils] (fun T => [(0, 1, g104 T)])) s105 (
 kV g3 s107 (
 kP (oNilc g107) s108 (
 kP (oFaddr 2 g108) s109 (
 kP (oLoad noG false 1 g109) s110 (
 kV g0 s111 (
 kV g7 s112 (
 kV g8 s113 (
 kP (oIaddrS 1 g112 g113) s114 (
 kP (oLoad noG false 1 g114) s115 (
 kR (oAppend 1 24 [.nils] false g103 g105) s106 (
 kQ (oLoad noG false 1 g109) g110 (kQ (oLoad noG false 1 g114) g115 (kC ev (fun _ => kFail) (fun _ => (.fn 36 [] [])) (fun T => [g111 T, g115 T]) s116 (
 kQ (oLoad noG false 1 g109) g110 (kP (oLitD 1 [(.int .i64 0)] (fun T => [(0, 1, g116 T)])) s117 (
 kR (oAppend 1 8 [(.int .i64 0)] false g110 g117) s118 (
 kP (oNilc g98) s119 (
 kP (oFaddr 1 g119) s120 (
 kM (oStore 1 g120 g106) dN (
 kP (oNilc g99) s121 (
 kP (oFaddr 2 g121) s122 (
 kM (oStore 1 g122 g118) dN (
 n2)))))))))))))))))))))))))))))))))))))))))))))
 (kV g8 s35 (
 kP (oBin (some .other) none .add g35 (fun _ => (.int .i64 1))) s36 (
 kV g36 s8 (
 n1)))))))))) L)
 (kV g3 s123 (
 kV g123 s2 (
 (fin none))))))))))))))))))))))))))))))
def Lx.q15 : CRun := fun ev L args H => @Option.rec Tm (fun _ => CR) .fail (fun T => (fun fin : Fin => Lx.p15 ev fin L T H []) (finK Lx.dk ev L (fun T _ => some [g2 T]))) (argsTm args)
/-- gobo/decode.All -/
def Lx.p16 (ev : Ev) (fin : Fin) (L : Nat) : K :=
 kV (fun _ => .nils) s2 (
 kC ev fin (fun _ => (.fn 37 [] [])) (fun T => []) s4 (
 kV g4 s3 (
 kV g3 s5 (
 kV g0 s6 (
 kC ev fin (fun _ => (.fn 38 [] [])) (fun T => [g5 T, g6 T]) s7 (
 kV g3 s8 (
 kC ev fin (fun _ => (.fn 39 [] [])) (fun T => [g8 T]) s9 (
 kR (oAppend 5 32 [(.int .i32 0), (.int .i64 0), (.int .i64 0), (.bool false), (.bool false)] false g7 g9) s10 (
 kV g10 s2 (
 (fin none)))))))))))
def Lx.q16 : CRun := fun ev L args H => @Option.rec Tm (fun _ => CR) .fail (fun T => (fun fin : Fin => Lx.p16 ev fin L T H []) (finK Lx.dk ev L (fun T _ => some [g2 T]))) (argsTm args)
/-- gobo/lexer.One -/
def Lx.p17 (ev : Ev) (fin : Fin) (L : Nat) : K :=
 kN (oCells [(.int .i64 0), (.int .i64 0), (.int .i64 0), (.int .i64 0)]) s6 (
 kV (fun _ => (.int .i64 0)) s7 (
 kV g0 s12 (
 kV g1 s13 (
 kV g2 s14 (
 kC ev fin (fun _ => (.fn 40 [] [])) (fun T => [g12 T, g13 T, g14 T]) s15 (
 kV g15 s11 (
 kP (oExtract 0 g11) s16 (
 kP (oExtract 1 g11) s17 (
 kP (oExtract 2 g11) s18 (
 kN (oCells [(.int .i64 0), (.int .i64 0), (.int .i64 0), (.int .i64 0)]) s8 (
 kM (oStore 4 g8 g16) dN (
 kV g17 s9 (
 kV g18 s10 (
 kP (oLoad noG true 4 g8) s19 (
 kV g9 s20 (
 kM (oStore 4 g6 g19) dN (
 kV g20 s7 (
 (fin none)))))))))))))))))))
def Lx.q17 : CRun := fun ev L args H => @Option.rec Tm (fun _ => CR) .fail (fun T => (fun fin : Fin => Lx.p17 ev fin L T H []) (finK Lx.dk ev L (cRess noG Lx.c17.results))) (argsTm args)
/-- gobo/lexer.Model -/
def Lx.p18 (ev : Ev) (fin : Fin) (L : Nat) : K :=
 kN (oCells [(.int .i64 0), (.int .i64 0), (.int .i64 0), (.int .i64 0)]) s6 (
 kV (fun _ => (.int .i64 0)) s7 (
 kV g0 s16 (
 kC ev fin (fun _ => (.fn 11 [] [])) (fun T => [g16 T]) s17 (
 kV g17 s15 (
 kP (oExtract 0 g15) s18 (
 kP (oExtract 1 g15) s19 (
 kN (oCells [.nilp]) s8 (
 kM (oStore 1 g8 g18) dN (
 kV g19 s9 (
 kV g9 s20 (
 kP (oBin (some .other) none .neq g20 (fun _ => (.int .i64 0))) s21 (
 kV g21 s22 (
 kG g22 false (fun n => kV g0 s23 (n)) s23 (
 kG g22 false (fun n => kC ev fin (fun _ => (.fn 14 [] [])) (fun T => [g23 T]) s24 (n)) s24 (
 kP (oPick g22 (fun _ => (.bool true)) g24) s25 (
 (fun n0 : K =>
 kIf g25
 (kP (oBuild [(.int .i64 0), (.int .i64 0), (.int .i64 0), (.int .i64 0)] (fun T => [])) s26 (
 kM (oStore 4 g6 g26) dN (
 kV (fun _ => (.int .i64 0)) s7 (
 (fin none)))))
 (n0))
 (kP (oLoad noG false 1 g8) s27 (
 kC ev fin (fun _ => (.fn 41 [] [])) (fun T => [g27 T]) s28 (
 kN (oCells [.nils]) s10 (
 kM (oStore 1 g10 g28) dN (
 kR (oLit 1 1 [(.int .i64 0)] (fun T => [(0, 1, (.int .i64 0))])) s29 (
 kN (oCells [.nils]) s11 (
 kM (oStore 1 g11 g29) dN (
 kV g1 s31 (
 kV g2 s32 (
 kV (oFn 43 (fun T => []) (fun T => [g8 T, g11 T, g10 T])) s33 (
 kC ev fin (fun _ => (.fn 42 [] [])) (fun T => [g31 T, g32 T, g33 T]) s34 (
 kV g34 s30 (
 kP (oExtract 0 g30) s35 (
 kP (oExtract 1 g30) s36 (
 kP (oExtract 2 g30) s37 (
 kN (oCells [(.int .i64 0), (.int .i64 0), (.int .i64 0), (.int .i64 0)]) s12 (
 kM (oStore 4 g12 g35) dN (
 kV g36 s13 (
 kV g37 s14 (
 kP (oLoad noG true 4 g12) s38 (
 kV g13 s39 (
 kM (oStore 4 g6 g38) dN (
 kV g39 s7 (
 (fin none)))))))))))))))))))))))))))))))))))))))))
def Lx.q18 : CRun := fun ev L args H => @Option.rec Tm (fun _ => CR) .fail (fun T => (fun fin : Fin => Lx.p18 ev fin L T H []) (finK Lx.dk ev L (cRess noG Lx.c18.results))) (argsTm args)
/-- gobo/lexer.Sure -/
def Lx.p19 (ev : Ev) (fin : Fin) (L : Nat) : K :=
 kV (fun _ => (.bool false)) s6 (
 kV g0 s11 (
 kV g1 s12 (
 kV g2 s13 (
 kC ev fin (fun _ => (.fn 40 [] [])) (fun T => [g11 T, g12 T, g13 T]) s14 (
 kV g14 s10 (
 kP (oExtract 0 g10) s15 (
 kP (oExtract 1 g10) s16 (
 kP (oExtract 2 g10) s17 (
 kN (oCells [(.int .i64 0), (.int .i64 0), (.int .i64 0), (.int .i64 0)]) s7 (
 kM (oStore 4 g7 g15) dN (
 kV g16 s8 (
 kV g17 s9 (
 kV g9 s18 (
 kV g18 s6 (
 (fin none))))))))))))))))
def Lx.q19 : CRun := fun ev L args H => @Option.rec Tm (fun _ => CR) .fail (fun T => (fun fin : Fin => Lx.p19 ev fin L T H []) (finK Lx.dk ev L (fun T _ => some [g6 T]))) (argsTm args)
/-- slices.ContainsFunc[[]gobo/api.Re,gobo/api.Re] -/
def Lx.p21 (ev : Ev) (fin : Fin) (L : Nat) : K :=
 kV (fun _ => (.bool false)) s4 (
 kV g0 s5 (
 kV g1 s6 (
 kC ev fin (fun _ => (.fn 46 [] [])) (fun T => [g5 T, g6 T]) s7 (
 kP (oBin (some .other) none .geq g7 (fun _ => (.int .i64 0))) s8 (
 kV g8 s4 (
 (fin none)))))))
def Lx.q21 : CRun := fun ev L args H => @Option.rec Tm (fun _ => CR) .fail (fun T => (fun fin : Fin => Lx.p21 ev fin L T H []) (finK Lx.dk ev L (fun T _ => some [g4 T]))) (argsTm args)
/-- gobo/nfa.Build$1 -/
def Lx.p22 (ev : Ev) (fin : Fin) (L : Nat) : K :=
 kN (oBox g0) s1 (
 kV (fun _ => (.bool false)) s2 (
 kP (oLoad noG true 3 g1) s3 (
 kC ev fin (fun _ => (.fn 23 [] [])) (fun T => [g3 T]) s4 (
 kP (oUn .not g4) s5 (
 kV g5 s2 (
 (fin none)))))))
def Lx.q22 : CRun := fun ev L args H => @Option.rec Tm (fun _ => CR) .fail (fun T => (fun fin : Fin => Lx.p22 ev fin L T H []) (finK Lx.dk ev L (fun T _ => some [g2 T]))) (argsTm args)
/-- gobo/regex.May -/
def Lx.p23 (ev : Ev) (fin : Fin) (L : Nat) : K :=
 kN (oBox g0) s1 (
 kV (fun _ => (.bool false)) s2 (
 kP (oLoad noG true 3 g1) s3 (
 kC ev fin (fun _ => (.fn 47 [] [])) (fun T => [g3 T]) s4 (
 kV g4 s5 (
 kG g5 true (fun n => kP (oLoad noG true 3 g1) s6 (n)) s6 (
 kG g5 true (fun n => kC ev fin (fun _ => (.fn 48 [] [])) (fun T => [g6 T]) s7 (n)) s7 (
 kP (oPick g5 g7 (fun _ => (.bool false))) s8 (
 kV g8 s2 (
 (fin none))))))))))
def Lx.q23 : CRun := fun ev L args H => @Option.rec Tm (fun _ => CR) .fail (fun T => (fun fin : Fin => Lx.p23 ev fin L T H []) (finK Lx.dk ev L (fun T _ => some [g2 T]))) (argsTm args)
/-- gobo/nfa.Build$2 -/
def Lx.p24 (ev : Ev) (fin : Fin) (L : Nat) : K :=
 kV g0 s7 (
 kP (oLen .sl g7) s8 (
 kV (fun _ => (.int .i64 0)) s9 (
 kLoop (fun n0 : K =>
 kP (oBin (some .other) none .lss g9 g8) s10 (
 (fun n2 : K =>
 kIf g10
 (n2)
 ((fin none)))
 ((fun n1 : K =>
 kP (oIaddrS 1 g7 g9) s11 (
 kP (oLoad noG false 1 g11) s12 (
 kV g12 s6 (
 kP (oLoad noG false 1 g2) s13 (
 kP (oNilc g13) s14 (
 kP (oFaddr 1 g14) s15 (
 kP (oLoad noG false 1 g15) s16 (
 kV g6 s17 (
 kP (oLoad noG false 1 g2) s18 (
 kP (oNilc g18) s19 (
 kP (oFaddr 1 g19) s20 (
 kP (oLoad noG false 1 g20) s21 (
 kV g6 s22 (
 kP (oIaddrS 1 g21 g22) s23 (
 kP (oLoad noG false 1 g23) s24 (
 kV g1 s25 (
 kC ev (fun _ => kFail) (fun _ => (.fn 25 [] [])) (fun T => [g24 T, g25 T]) s26 (
 kQ (oLoad noG false 1 g2) g13 (kQ (oLoad noG false 1 g15) g16 (kP (oIaddrS 1 g16 g17) s27 (
 kM (oStore 1 g27 g26) dN (
 n1))))))))))))))))))))))
 (kP (oBin (some .other) none .add g9 (fun _ => (.int .i64 1))) s28 (
 kV g28 s9 (
 n0)))))) L)))
def Lx.q24 : CRun := fun ev L args H => @Option.rec Tm (fun _ => CR) .fail (fun T => (fun fin : Fin => Lx.p24 ev fin L T H []) (finK Lx.dk ev L (fun T _ => some []))) (argsTm args)
/-- gobo/nfa.both -/
def Lx.p25 (ev : Ev) (fin : Fin) (L : Nat) : K :=
 kV (fun _ => .nils) s4 (
 kV g0 s6 (
 kV g1 s7 (
 kR (oLit 1 2 [.nils, .nils] (fun T => [(0, 1, g6 T), (1, 1, g7 T)])) s8 (
 kC ev fin (fun _ => (.fn 49 [] [])) (fun T => [g8 T]) s9 (
 kV g9 s5 (
 kV g5 s10 (
 kC ev fin (fun _ => (.fn 50 [] [])) (fun T => [g10 T]) s11 (
 kV g5 s12 (
 kC ev fin (fun _ => (.fn 51 [] [])) (fun T => [g12 T]) s13 (
 kV g13 s4 (
 (fin none))))))))))))
def Lx.q25 : CRun := fun ev L args H => @Option.rec Tm (fun _ => CR) .fail (fun T => (fun fin : Fin => Lx.p25 ev fin L T H []) (finK Lx.dk ev L (fun T _ => some [g4 T]))) (argsTm args)
/-- gobo/nfa.Build$3 -/
def Lx.p26 (ev : Ev) (fin : Fin) (L : Nat) : K :=
 kN (oBox g0) s4 (
 kN (oCells [.nils, .nils, (.bool false)]) s5 (
 kV (fun _ => .nils) s6 (
 kP (oFaddr 2 g4) s13 (
 kP (oLoad noG false 1 g13) s14 (
 kP (oLen .sl g14) s15 (
 kV (fun _ => (.int .i64 0)) s16 (
 (fun n3 : K =>
 kLoop (fun n4 : K =>
 kP (oBin (some .other) none .lss g16 g15) s17 (
 (fun n6 : K =>
 kIf g17
 (n6)
 (n3))
 ((fun n5 : K =>
 kP (oIaddrS 3 g14 g16) s18 (
 kP (oLoad noG true 3 g18) s19 (
 kN (oCells [(.int .i64 0), .nils, .nils]) s8 (
 kM (oStore 3 g8 g19) dN (
 kV g6 s20 (
 kP (oLoad noG false 1 g1) s21 (
 kP (oLoad noG true 3 g8) s22 (
 kC ev fin g21 (fun T => [g22 T]) s23 (
 kR (oLit 3 1 [.nils, .nils, (.bool false)] (fun T => [(0, 3, g23 T)])) s24 (
 kR (oAppend 3 56 [.nils, .nils, (.bool false)] false g20 g24) s25 (
 kV g25 s6 (
 n5))))))))))))
 (kP (oBin (some .other) none .add g16 (fun _ => (.int .i64 1))) s26 (
 kV g26 s16 (
 n4)))))) L)
 (kP (oFaddr 0 g4) s27 (
 kP (oLoad noG false 1 g27) s28 (
 (fun n0 : K =>
 kP (oBin (some .other) none .eql g28 (fun _ => (.int .i64 2))) s30 (
 kV g30 s29 (
 kIf g29
 (kP (oLoad noG false 1 g2) s31 (
 kP (oNilc g31) s32 (
 kP (oFaddr 0 g32) s33 (
 kP (oLoad noG false 1 g33) s34 (
 kP (oLen .sl g34) s35 (
 kV g35 s9 (
 kP (oLoad noG false 1 g2) s36 (
 kP (oLoad noG false 1 g2) s37 (
 kP (oLoad noG false 1 g2) s38 (
 kP (oLoad noG false 1 g2) s39 (
 kP (oNilc g39) s40 (
 kP (oFaddr 0 g40) s41 (
 kP (oLoad noG false 1 g41) s42 (
 kP (oFaddr 1 g4) s43 (
 kP (oLoad noG false 1 g43) s44 (
 kP (oLitD 1 [.nils] (fun T => [(0, 1, g44 T)])) s45 (
 kP (oLoad noG false 1 g2) s47 (
 kP (oNilc g47) s48 (
 kP (oFaddr 1 g48) s49 (
 kP (oLoad noG false 1 g49) s50 (
 kP (oLitD 1 [.nils] (fun T => [(0, 1, .nils)])) s51 (
 kP (oLoad noG false 1 g2) s53 (
 kP (oNilc g53) s54 (
 kP (oFaddr 2 g54) s55 (
 kP (oLoad noG false 1 g55) s56 (
 kP (oLitD 1 [.nils] (fun T => [(0, 1, .nils)])) s57 (
 kR (oAppend 1 24 [.nils] false g42 g45) s46 (
 kQ (oLoad noG false 1 g2) g36 (kQ (oLoad noG false 1 g2) g37 (kQ (oLoad noG false 1 g2) g38 (kQ (oLoad noG false 1 g2) g47 (kQ (oLoad noG false 1 g49) g50 (kQ (oLoad noG false 1 g2) g53 (kQ (oLoad noG false 1 g55) g56 (kR (oAppend 1 24 [.nils] false g50 g51) s52 (
 kQ (oLoad noG false 1 g2) g36 (kQ (oLoad noG false 1 g2) g37 (kQ (oLoad noG false 1 g2) g38 (kQ (oLoad noG false 1 g2) g53 (kQ (oLoad noG false 1 g55) g56 (kR (oAppend 1 24 [.nils] false g56 g57) s58 (
 kQ (oLoad noG false 1 g2) g36 (kQ (oLoad noG false 1 g2) g37 (kQ (oLoad noG false 1 g2) g38 (kP (oNilc g36) s59 (
 kP (oFaddr 0 g59) s60 (
 kM (oStore 1 g60 g46) dN (
 kQ (oLoad noG false 1 g2) g37 (kQ (oLoad noG false 1 g2) g38 (kP (oNilc g37) s61 (
 kP (oFaddr 1 g61) s62 (
 kM (oStore 1 g62 g52) dN (
 kQ (oLoad noG false 1 g2) g38 (kP (oNilc g38) s63 (
 kP (oFaddr 2 g63) s64 (
 kM (oStore 1 g64 g58) dN (
 kV g9 s65 (
 kR (oLit 1 1 [(.int .i64 0)] (fun T => [(0, 1, g65 T)])) s66 (
 kV g9 s67 (
 kR (oLit 1 1 [(.int .i64 0)] (fun T => [(0, 1, g67 T)])) s68 (
 kP (oBuild [.nils, .nils, (.bool false)] (fun T => [(0, 1, g66 T), (1, 1, g68 T), (2, 1, (.bool false))])) s69 (
 kM (oStore 3 g5 g69) dN (
 (fin none))))))))))))))))))))))))))))))))))))))))))))))))))))))))))))))))
 (kP (oBin (some .other) none .eql g28 (fun _ => (.int .i64 3))) s71 (
 kV g71 s70 (
 kIf g70
 (kV g6 s72 (
 kP (oIaddrS 3 g72 (fun _ => (.int .i64 0))) s73 (
 kP (oLoad noG true 3 g73) s74 (
 kV g6 s75 (
 kP (oIaddrS 3 g75 (fun _ => (.int .i64 1))) s76 (
 kP (oLoad noG true 3 g76) s77 (
 kN (oCells [.nils, .nils, (.bool false)]) s10 (
 kQ (oLoad noG true 3 g73) g74 (kQ (oLoad noG true 3 g76) g77 (kN (oCells [.nils, .nils, (.bool false)]) s11 (
 kQ (oLoad noG true 3 g73) g74 (kQ (oLoad noG true 3 g76) g77 (kM (oStore 3 g10 g74) dN (
 kQ (oLoad noG true 3 g76) g77 (kM (oStore 3 g11 g77) dN (
 kP (oLoad noG false 1 g3) s78 (
 kP (oFaddr 1 g10) s79 (
 kP (oLoad noG false 1 g79) s80 (
 kP (oFaddr 0 g11) s81 (
 kP (oLoad noG false 1 g81) s82 (
 kC ev fin g78 (fun T => [g80 T, g82 T]) s83 (
 kP (oFaddr 0 g10) s84 (
 kP (oLoad noG false 1 g84) s85 (
 kP (oFaddr 1 g11) s86 (
 kP (oLoad noG false 1 g86) s87 (
 kP (oFaddr 2 g10) s88 (
 kP (oLoad noG false 1 g88) s89 (
 kV g89 s90 (
 kG g90 true (fun n => kP (oFaddr 2 g11) s91 (n)) s91 (
 kG g90 true (fun n => kP (oLoad noG false 1 g91) s92 (n)) s92 (
 kP (oPick g90 g92 (fun _ => (.bool false))) s93 (
 kP (oBuild [.nils, .nils, (.bool false)] (fun T => [(0, 1, g85 T), (1, 1, g87 T), (2, 1, g93 T)])) s94 (
 kN (oCells [.nils, .nils, (.bool false)]) s12 (
 kM (oStore 3 g12 g94) dN (
 kP (oFaddr 2 g10) s95 (
 kP (oLoad noG false 1 g95) s96 (
 (fun n2 : K =>
 kIf g96
 (kP (oFaddr 0 g10) s97 (
 kP (oLoad noG false 1 g97) s98 (
 kP (oFaddr 0 g11) s99 (
 kP (oLoad noG false 1 g99) s100 (
 kC ev fin (fun _ => (.fn 25 [] [])) (fun T => [g98 T, g100 T]) s101 (
 kP (oFaddr 0 g12) s102 (
 kM (oStore 1 g102 g101) dN (
 n2))))))))
 (n2))
 (kP (oFaddr 2 g11) s103 (
 kP (oLoad noG false 1 g103) s104 (
 (fun n1 : K =>
 kIf g104
 (kP (oFaddr 1 g10) s105 (
 kP (oLoad noG false 1 g105) s106 (
 kP (oFaddr 1 g11) s107 (
 kP (oLoad noG false 1 g107) s108 (
 kC ev fin (fun _ => (.fn 25 [] [])) (fun T => [g106 T, g108 T]) s109 (
 kP (oFaddr 1 g12) s110 (
 kM (oStore 1 g110 g109) dN (
 n1))))))))
 (n1))
 (kP (oLoad noG true 3 g12) s111 (
 kM (oStore 3 g5 g111) dN (
 (fin none))))))))))))))))))))))))))))))))))))))))))))
 (kP (oBin (some .other) none .eql g28 (fun _ => (.int .i64 4))) s113 (
 kV g113 s112 (
 kIf g112
 (kV g6 s114 (
 kP (oIaddrS 3 g114 (fun _ => (.int .i64 0))) s115 (
 kP (oFaddr 0 g115) s116 (
 kP (oLoad noG false 1 g116) s117 (
 kV g6 s118 (
 kP (oIaddrS 3 g118 (fun _ => (.int .i64 1))) s119 (
 kP (oFaddr 0 g119) s120 (
 kP (oLoad noG false 1 g120) s121 (
 kV g6 s123 (
 kP (oIaddrS 3 g123 (fun _ => (.int .i64 0))) s124 (
 kP (oFaddr 1 g124) s125 (
 kP (oLoad noG false 1 g125) s126 (
 kV g6 s127 (
 kP (oIaddrS 3 g127 (fun _ => (.int .i64 1))) s128 (
 kP (oFaddr 1 g128) s129 (
 kP (oLoad noG false 1 g129) s130 (
 kV g6 s132 (
 kP (oIaddrS 3 g132 (fun _ => (.int .i64 0))) s133 (
 kP (oFaddr 2 g133) s134 (
 kP (oLoad noG false 1 g134) s135 (
 kC ev (fun _ => kFail) (fun _ => (.fn 25 [] [])) (fun T => [g117 T, g121 T]) s122 (
 kQ (oLoad noG false 1 g125) g126 (kQ (oLoad noG false 1 g129) g130 (kQ (oLoad noG false 1 g134) g135 (kC ev (fun _ => kFail) (fun _ => (.fn 25 [] [])) (fun T => [g126 T, g130 T]) s131 (
 kQ (oLoad noG false 1 g134) g135 (kV g135 s136 (
 kG g136 false (fun n => kV g6 s137 (n)) s137 (
 kG g136 false (fun n => kP (oIaddrS 3 g137 (fun _ => (.int .i64 1))) s138 (n)) s138 (
 kG g136 false (fun n => kP (oFaddr 2 g138) s139 (n)) s139 (
 kG g136 false (fun n => kP (oLoad noG false 1 g139) s140 (n)) s140 (
 kP (oPick g136 (fun _ => (.bool true)) g140) s141 (
 kP (oBuild [.nils, .nils, (.bool false)] (fun T => [(0, 1, g122 T), (1, 1, g131 T), (2, 1, g141 T)])) s142 (
 kM (oStore 3 g5 g142) dN (
 (fin none))))))))))))))))))))))))))))))))))))
 (kP (oBin (some .other) none .eql g28 (fun _ => (.int .i64 5))) s144 (
 kV g144 s143 (
 kIf g143
 (kP (oLoad noG false 1 g3) s145 (
 kV g6 s146 (
 kP (oIaddrS 3 g146 (fun _ => (.int .i64 0))) s147 (
 kP (oFaddr 1 g147) s148 (
 kP (oLoad noG false 1 g148) s149 (
 kV g6 s150 (
 kP (oIaddrS 3 g150 (fun _ => (.int .i64 0))) s151 (
 kP (oFaddr 0 g151) s152 (
 kP (oLoad noG false 1 g152) s153 (
 kC ev (fun _ => kFail) g145 (fun T => [g149 T, g153 T]) s154 (
 kV g6 s155 (
 kP (oIaddrS 3 g155 (fun _ => (.int .i64 0))) s156 (
 kP (oFaddr 0 g156) s157 (
 kP (oLoad noG false 1 g157) s158 (
 kV g6 s159 (
 kP (oIaddrS 3 g159 (fun _ => (.int .i64 0))) s160 (
 kP (oFaddr 1 g160) s161 (
 kP (oLoad noG false 1 g161) s162 (
 kP (oBuild [.nils, .nils, (.bool false)] (fun T => [(0, 1, g158 T), (1, 1, g162 T), (2, 1, (.bool true))])) s163 (
 kM (oStore 3 g5 g163) dN (
 (fin none))))))))))))))))))))))
 (n0)))))))))))))
 (kP (oFaddr 0 g4) s164 (
 kP (oLoad noG false 1 g164) s165 (
 kP (oBin (some .other) none .eql g165 (fun _ => (.int .i64 1))) s166 (
 kP (oBuild [.nils, .nils, (.bool false)] (fun T => [(2, 1, g166 T)])) s167 (
 kM (oStore 3 g5 g167) dN (
 (fin none)))))))))))))))))
def Lx.q26 : CRun := fun ev L args H => @Option.rec Tm (fun _ => CR) .fail (fun T => (fun fin : Fin => Lx.p26 ev fin L T H []) (finK Lx.dk ev L (cRess noG Lx.c26.results))) (argsTm args)
/-- (*gobo/nfa.Nfa).Cells -/
def Lx.p27 (ev : Ev) (fin : Fin) (L : Nat) : K :=
 kV (fun _ => .nils) s2 (
 kV g0 s3 (
 kP (oBin (some .ptr) none .eql g3 (fun _ => .nilp)) s4 (
 (fun n0 : K =>
 kIf g4
 (kV (fun _ => .nils) s2 (
 (fin none)))
 (n0))
 (kV g0 s5 (
 kP (oNilc g5) s6 (
 kP (oFaddr 0 g6) s7 (
 kP (oLoad noG false 1 g7) s8 (
 kC ev fin (fun _ => (.fn 52 [] [])) (fun T => [g8 T]) s9 (
 kV g9 s2 (
 (fin none)))))))))))
def Lx.q27 : CRun := fun ev L args H => @Option.rec Tm (fun _ => CR) .fail (fun T => (fun fin : Fin => Lx.p27 ev fin L T H []) (finK Lx.dk ev L (fun T _ => some [g2 T]))) (argsTm args)
/-- gobo/dfa.name -/
def Lx.p28 (ev : Ev) (fin : Fin) (L : Nat) : K :=
 kV (fun _ => (.str ⟨#[]⟩)) s2 (
 kV (fun _ => .nils) s3 (
 kV g0 s6 (
 kP (oLen .sl g6) s7 (
 kV (fun _ => (.int .i64 0)) s8 (
 (fun n0 : K =>
 kLoop (fun n1 : K =>
 kP (oBin (some .other) none .lss g8 g7) s9 (
 (fun n3 : K =>
 kIf g9
 (n3)
 (n0))
 ((fun n2 : K =>
 kP (oIaddrS 1 g6 g8) s10 (
 kP (oLoad noG false 1 g10) s11 (
 kV g11 s5 (
 kV g3 s12 (
 kV g5 s13 (
 kC ev fin (fun _ => (.fn 53 [] [])) (fun T => [g12 T, g13 T, (.int .i64 10)]) s14 (
 kR (oLit 1 1 [(.int .u8 0)] (fun T => [(0, 1, (.int .u8 32))])) s15 (
 kR (oAppend 1 1 [(.int .u8 0)] false g14 g15) s16 (
 kV g16 s3 (
 n2))))))))))
 (kP (oBin (some .other) none .add g8 (fun _ => (.int .i64 1))) s17 (
 kV g17 s8 (
 n1)))))) L)
 (kV g3 s18 (
 kR (oConv .strBytes g18) s19 (
 kV g19 s2 (
 (fin none))))))))))
def Lx.q28 : CRun := fun ev L args H => @Option.rec Tm (fun _ => CR) .fail (fun T => (fun fin : Fin => Lx.p28 ev fin L T H []) (finK Lx.dk ev L (fun T _ => some [g2 T]))) (argsTm args)
/-- (*gobo/nfa.Nfa).Next -/
def Lx.p29 (ev : Ev) (fin : Fin) (L : Nat) : K :=
 kV (fun _ => .nils) s6 (
 kV g0 s12 (
 kP (oBin (some .ptr) none .eql g12 (fun _ => .nilp)) s13 (
 (fun n8 : K =>
 kIf g13
 (kV (fun _ => .nils) s6 (
 (fin none)))
 (n8))
 (kV (fun _ => .nils) s7 (
 kV g1 s14 (
 kP (oLen .sl g14) s15 (
 kV (fun _ => (.int .i64 0)) s16 (
 (fun n0 : K =>
 kLoop (fun n1 : K =>
 kP (oBin (some .other) none .lss g16 g15) s17 (
 (fun n7 : K =>
 kIf g17
 (n7)
 (n0))
 ((fun n2 : K =>
 kP (oIaddrS 1 g14 g16) s18 (
 kP (oLoad noG false 1 g18) s19 (
 kV g19 s9 (
 kV g0 s20 (
 kV g9 s21 (
 kC ev fin (fun _ => (.fn 54 [] [])) (fun T => [g20 T, g21 T]) s22 (
 kP (oUn .not g22) s23 (
 (fun n6 : K =>
 kIf g23
 (n2)
 (n6))
 (kV g0 s24 (
 kP (oNilc g24) s25 (
 kP (oFaddr 1 g25) s26 (
 kP (oLoad noG false 1 g26) s27 (
 kV g9 s28 (
 kP (oIaddrS 1 g27 g28) s29 (
 kP (oLoad noG false 1 g29) s30 (
 kP (oLen .sl g30) s31 (
 kV (fun _ => (.int .i64 0)) s32 (
 kLoop (fun n3 : K =>
 kP (oBin (some .other) none .lss g32 g31) s33 (
 (fun n5 : K =>
 kIf g33
 (n5)
 (n2))
 ((fun n4 : K =>
 kP (oIaddrS 1 g30 g32) s34 (
 kP (oLoad noG false 1 g34) s35 (
 kV g35 s11 (
 kV g0 s36 (
 kP (oNilc g36) s37 (
 kP (oFaddr 0 g37) s38 (
 kP (oLoad noG false 1 g38) s39 (
 kV g11 s40 (
 kP (oIaddrS 1 g39 g40) s41 (
 kP (oLoad noG false 1 g41) s42 (
 kV g2 s43 (
 kC ev fin (fun _ => (.fn 55 [] [])) (fun T => [g42 T, g43 T]) s44 (
 kIf g44
 (kV g7 s45 (
 kV g11 s46 (
 kR (oLit 1 1 [(.int .i64 0)] (fun T => [(0, 1, g46 T)])) s47 (
 kR (oAppend 1 8 [(.int .i64 0)] false g45 g47) s48 (
 kV g48 s7 (
 n4))))))
 (n4))))))))))))))
 (kP (oBin (some .other) none .add g32 (fun _ => (.int .i64 1))) s49 (
 kV g49 s32 (
 n3)))))) L))))))))))))))))))
 (kP (oBin (some .other) none .add g16 (fun _ => (.int .i64 1))) s50 (
 kV g50 s16 (
 n1)))))) L)
 (kV g7 s51 (
 kC ev fin (fun _ => (.fn 25 [] [])) (fun T => [g51 T, .nils]) s52 (
 kV g52 s6 (
 (fin none)))))))))))))
def Lx.q29 : CRun := fun ev L args H => @Option.rec Tm (fun _ => CR) .fail (fun T => (fun fin : Fin => Lx.p29 ev fin L T H []) (finK Lx.dk ev L (fun T _ => some [g6 T]))) (argsTm args)
/-- (*gobo/nfa.Nfa).Rules -/
def Lx.p30 (ev : Ev) (fin : Fin) (L : Nat) : K :=
 kV (fun _ => .nils) s4 (
 kV g0 s8 (
 kP (oBin (some .ptr) none .eql g8 (fun _ => .nilp)) s9 (
 (fun n4 : K =>
 kIf g9
 (kV (fun _ => .nils) s4 (
 (fin none)))
 (n4))
 (kV (fun _ => .nils) s5 (
 kV g1 s10 (
 kP (oLen .sl g10) s11 (
 kV (fun _ => (.int .i64 0)) s12 (
 (fun n0 : K =>
 kLoop (fun n1 : K =>
 kP (oBin (some .other) none .lss g12 g11) s13 (
 (fun n3 : K =>
 kIf g13
 (n3)
 (n0))
 ((fun n2 : K =>
 kP (oIaddrS 1 g10 g12) s14 (
 kP (oLoad noG false 1 g14) s15 (
 kV g15 s7 (
 kV g7 s17 (
 kP (oBin (some .other) none .eql g17 (fun _ => (.int .i64 0))) s18 (
 kV g18 s16 (
 kIf g16
 (kV g5 s19 (
 kV g0 s20 (
 kP (oNilc g20) s21 (
 kP (oFaddr 3 g21) s22 (
 kP (oLoad noG false 1 g22) s23 (
 kR (oAppend 1 8 [(.int .i64 0)] false g19 g23) s24 (
 kV g24 s5 (
 n2))))))))
 (kV g0 s26 (
 kV g7 s27 (
 kC ev fin (fun _ => (.fn 54 [] [])) (fun T => [g26 T, g27 T]) s28 (
 kV g28 s25 (
 kIf g25
 (kV g5 s29 (
 kV g0 s30 (
 kP (oNilc g30) s31 (
 kP (oFaddr 2 g31) s32 (
 kP (oLoad noG false 1 g32) s33 (
 kV g7 s34 (
 kP (oIaddrS 1 g33 g34) s35 (
 kP (oLoad noG false 1 g35) s36 (
 kR (oAppend 1 8 [(.int .i64 0)] false g29 g36) s37 (
 kV g37 s5 (
 n2)))))))))))
 (n2)))))))))))))
 (kP (oBin (some .other) none .add g12 (fun _ => (.int .i64 1))) s38 (
 kV g38 s12 (
 n1)))))) L)
 (kV g5 s39 (
 kC ev fin (fun _ => (.fn 25 [] [])) (fun T => [g39 T, .nils]) s40 (
 kV g40 s4 (
 (fin none)))))))))))))
def Lx.q30 : CRun := fun ev L args H => @Option.rec Tm (fun _ => CR) .fail (fun T => (fun fin : Fin => Lx.p30 ev fin L T H []) (finK Lx.dk ev L (fun T _ => some [g4 T]))) (argsTm args)
/-- gobo/regex.Empty -/
def Lx.p31 (ev : Ev) (fin : Fin) (L : Nat) : K :=
 kN (oBox g0) s1 (
 kV (fun _ => (.bool false)) s2 (
 kP (oLoad noG true 3 g1) s3 (
 kC ev fin (fun _ => (.fn 23 [] [])) (fun T => [g3 T]) s4 (
 kV g4 s5 (
 kG g5 true (fun n => kP (oLoad noG true 3 g1) s6 (n)) s6 (
 kG g5 true (fun n => kC ev fin (fun _ => (.fn 56 [] [])) (fun T => [g6 T]) s7 (n)) s7 (
 kP (oPick g5 g7 (fun _ => (.bool false))) s8 (
 kV g8 s2 (
 (fin none))))))))))
def Lx.q31 : CRun := fun ev L args H => @Option.rec Tm (fun _ => CR) .fail (fun T => (fun fin : Fin => Lx.p31 ev fin L T H []) (finK Lx.dk ev L (fun T _ => some [g2 T]))) (argsTm args)
/-- (*gobo/dfa.Dfa).Cells -/
def Lx.p32 (ev : Ev) (fin : Fin) (L : Nat) : K :=
 kV (fun _ => .nils) s2 (
 kV g0 s3 (
 kP (oBin (some .ptr) none .eql g3 (fun _ => .nilp)) s4 (
 (fun n0 : K =>
 kIf g4
 (kV (fun _ => .nils) s2 (
 (fin none)))
 (n0))
 (kV g0 s5 (
 kP (oNilc g5) s6 (
 kP (oFaddr 0 g6) s7 (
 kP (oLoad noG false 1 g7) s8 (
 kC ev fin (fun _ => (.fn 57 [] [])) (fun T => [g8 T]) s9 (
 kV g9 s2 (
 (fin none)))))))))))
def Lx.q32 : CRun := fun ev L args H => @Option.rec Tm (fun _ => CR) .fail (fun T => (fun fin : Fin => Lx.p32 ev fin L T H []) (finK Lx.dk ev L (fun T _ => some [g2 T]))) (argsTm args)
/-- gobo/mini.alive -/
def Lx.p33 (ev : Ev) (fin : Fin) (L : Nat) : K :=
 kV (fun _ => .nils) s2 (
 kV g0 s9 (
 kC ev fin (fun _ => (.fn 58 [] [])) (fun T => [g9 T]) s10 (
 kR (oMkslice 1 [(.bool false)] 1 g10 g10) s11 (
 kV g11 s3 (
 kV (fun _ => (.bool true)) s4 (
 (fun n0 : K =>
 kLoop (fun n1 : K =>
 kV g4 s12 (
 (fun n9 : K =>
 kIf g12
 (n9)
 (n0))
 (kV (fun _ => (.bool false)) s4 (
 kV g3 s13 (
 kP (oLen .sl g13) s14 (
 kV (fun _ => (.int .i64 0)) s15 (
 kLoop (fun n2 : K =>
 kP (oBin (some .other) none .lss g15 g14) s16 (
 (fun n8 : K =>
 kIf g16
 (n8)
 (n1))
 ((fun n3 : K =>
 kV g15 s17 (
 kV g17 s5 (
 kV g0 s18 (
 kV g5 s19 (
 kC ev fin (fun _ => (.fn 36 [] [])) (fun T => [g18 T, g19 T]) s20 (
 kP (oBin (some .other) none .geq g20 (fun _ => (.int .i64 0))) s21 (
 kV g21 s6 (
 kV g0 s22 (
 kC ev fin (fun _ => (.fn 32 [] [])) (fun T => [g22 T]) s23 (
 kP (oLen .sl g23) s24 (
 kV (fun _ => (.int .i64 0)) s25 (
 (fun n4 : K =>
 kLoop (fun n5 : K =>
 kP (oBin (some .other) none .lss g25 g24) s26 (
 (fun n7 : K =>
 kIf g26
 (n7)
 (n4))
 ((fun n6 : K =>
 kV g25 s27 (
 kV g27 s7 (
 kV g0 s28 (
 kV g5 s29 (
 kV g7 s30 (
 kC ev fin (fun _ => (.fn 35 [] [])) (fun T => [g28 T, g29 T, g30 T]) s31 (
 kV g31 s8 (
 kV g6 s32 (
 kV g32 s33 (
 kG g33 false (fun n => kV g8 s34 (n)) s34 (
 kG g33 false (fun n => kP (oBin (some .other) none .geq g34 (fun _ => (.int .i64 0))) s35 (n)) s35 (
 kG g33 false (fun n => kV g35 s36 (n)) s36 (
 kG g36 true (fun n => kV g3 s37 (n)) s37 (
 kG g36 true (fun n => kV g8 s38 (n)) s38 (
 kG g36 true (fun n => kP (oIaddrS 1 g37 g38) s39 (n)) s39 (
 kG g36 true (fun n => kP (oLoad noG false 1 g39) s40 (n)) s40 (
 kG g33 false (fun n => kP (oPick g36 g40 (fun _ => (.bool false))) s41 (n)) s41 (
 kP (oPick g33 (fun _ => (.bool true)) g41) s42 (
 kV g42 s6 (
 n6))))))))))))))))))))
 (kP (oBin (some .other) none .add g25 (fun _ => (.int .i64 1))) s43 (
 kV g43 s25 (
 n5)))))) L)
 (kV g4 s44 (
 kV g44 s45 (
 kG g45 false (fun n => kV g6 s46 (n)) s46 (
 kG g45 false (fun n => kV g46 s47 (n)) s47 (
 kG g47 true (fun n => kV g3 s48 (n)) s48 (
 kG g47 true (fun n => kV g5 s49 (n)) s49 (
 kG g47 true (fun n => kP (oIaddrS 1 g48 g49) s50 (n)) s50 (
 kG g47 true (fun n => kP (oLoad noG false 1 g50) s51 (n)) s51 (
 kG g47 true (fun n => kP (oUn .not g51) s52 (n)) s52 (
 kG g45 false (fun n => kP (oPick g47 g52 (fun _ => (.bool false))) s53 (n)) s53 (
 kP (oPick g45 (fun _ => (.bool true)) g53) s54 (
 kV g54 s4 (
 kV g3 s55 (
 kV g5 s56 (
 kV g6 s57 (
 kP (oIaddrS 1 g55 g56) s58 (
 kM (oStore 1 g58 g57) dN (
 n3))))))))))))))))))))))))))))))
 (kP (oBin (some .other) none .add g15 (fun _ => (.int .i64 1))) s59 (
 kV g59 s15 (
 n2)))))) L))))))) L)
 (kV g3 s60 (
 kV g60 s2 (
 (fin none))))))))))
def Lx.q33 : CRun := fun ev L args H => @Option.rec Tm (fun _ => CR) .fail (fun T => (fun fin : Fin => Lx.p33 ev fin L T H []) (finK Lx.dk ev L (fun T _ => some [g2 T]))) (argsTm args)
/-- gobo/mini.classes -/
def Lx.p34 (ev : Ev) (fin : Fin) (L : Nat) : K :=
 kV (fun _ => .nils) s4 (
 kV g0 s15 (
 kC ev fin (fun _ => (.fn 58 [] [])) (fun T => [g15 T]) s16 (
 kR (oMkslice 1 [(.int .i64 0)] 8 g16 g16) s17 (
 kV g17 s5 (
 kV (fun _ => (.int .i64 1)) s6 (
 kLoop (fun n0 : K =>
 kW s18 (
 kV g18 s7 (
 kV g5 s19 (
 kP (oLen .sl g19) s20 (
 kR (oMkslice 1 [(.int .i64 0)] 8 g20 g20) s21 (
 kV g21 s8 (
 kV g5 s22 (
 kP (oLen .sl g22) s23 (
 kV (fun _ => (.int .i64 0)) s24 (
 (fun n2 : K =>
 kLoop (fun n3 : K =>
 kP (oBin (some .other) none .lss g24 g23) s25 (
 (fun n11 : K =>
 kIf g25
 (n11)
 (n2))
 ((fun n4 : K =>
 kV g24 s26 (
 kV g26 s9 (
 kV g5 s27 (
 kV g9 s28 (
 kP (oIaddrS 1 g27 g28) s29 (
 kP (oLoad noG false 1 g29) s30 (
 kC ev fin (fun _ => (.fn 53 [] [])) (fun T => [.nils, g30 T, (.int .i64 10)]) s31 (
 kV g31 s10 (
 kV g10 s32 (
 kR (oLit 1 1 [(.int .u8 0)] (fun T => [(0, 1, (.int .u8 58))])) s33 (
 kR (oAppend 1 1 [(.int .u8 0)] false g32 g33) s34 (
 kV g0 s35 (
 kV g9 s36 (
 kC ev fin (fun _ => (.fn 36 [] [])) (fun T => [g35 T, g36 T]) s37 (
 kC ev fin (fun _ => (.fn 53 [] [])) (fun T => [g34 T, g37 T, (.int .i64 10)]) s38 (
 kV g38 s10 (
 kV g0 s39 (
 kC ev fin (fun _ => (.fn 32 [] [])) (fun T => [g39 T]) s40 (
 kP (oLen .sl g40) s41 (
 kV (fun _ => (.int .i64 0)) s42 (
 (fun n6 : K =>
 kLoop (fun n7 : K =>
 kP (oBin (some .other) none .lss g42 g41) s43 (
 (fun n10 : K =>
 kIf g43
 (n10)
 (n6))
 ((fun n8 : K =>
 kV g42 s44 (
 kV g44 s11 (
 kV g0 s45 (
 kV g9 s46 (
 kV g11 s47 (
 kC ev fin (fun _ => (.fn 35 [] [])) (fun T => [g45 T, g46 T, g47 T]) s48 (
 kV g48 s12 (
 kV g12 s49 (
 kP (oBin (some .other) none .geq g49 (fun _ => (.int .i64 0))) s50 (
 kV g50 s51 (
 kG g51 true (fun n => kV g1 s52 (n)) s52 (
 kG g51 true (fun n => kV g12 s53 (n)) s53 (
 kG g51 true (fun n => kP (oIaddrS 1 g52 g53) s54 (n)) s54 (
 kG g51 true (fun n => kP (oLoad noG false 1 g54) s55 (n)) s55 (
 kP (oPick g51 g55 (fun _ => (.bool false))) s56 (
 (fun n9 : K =>
 kIf g56
 (kV g5 s57 (
 kV g12 s58 (
 kP (oIaddrS 1 g57 g58) s59 (
 kP (oLoad noG false 1 g59) s60 (
 kV g60 s12 (
 n9))))))
 (kV (fun _ => (.int .i64 (.negSucc 0))) s12 (
 n9)))
 (kV g10 s61 (
 kR (oLit 1 1 [(.int .u8 0)] (fun T => [(0, 1, (.int .u8 32))])) s62 (
 kR (oAppend 1 1 [(.int .u8 0)] false g61 g62) s63 (
 kV g12 s64 (
 kC ev fin (fun _ => (.fn 53 [] [])) (fun T => [g63 T, g64 T, (.int .i64 10)]) s65 (
 kV g65 s10 (
 n8)))))))))))))))))))))))
 (kP (oBin (some .other) none .add g42 (fun _ => (.int .i64 1))) s66 (
 kV g66 s42 (
 n7)))))) L)
 (kV g7 s68 (
 kV g10 s69 (
 kR (oConv .strBytes g69) s70 (
 kP (oLookup .str (.int .i64 0) g68 g70 true) s71 (
 kV g71 s67 (
 kP (oExtract 0 g67) s72 (
 kP (oExtract 1 g67) s73 (
 kV g72 s13 (
 kV g73 s14 (
 kV g14 s74 (
 kP (oUn .not g74) s75 (
 (fun n5 : K =>
 kIf g75
 (kV g7 s76 (
 kV g10 s77 (
 kR (oConv .strBytes g77) s78 (
 kV g7 s79 (
 kP (oLen .map g79) s80 (
 kM (oMapupd .str g76 g78 g80) dN (
 n5)))))))
 (n5))
 (kV g8 s81 (
 kV g9 s82 (
 kV g7 s83 (
 kV g10 s84 (
 kR (oConv .strBytes g84) s85 (
 kP (oLookup .str (.int .i64 0) g83 g85 false) s86 (
 kP (oIaddrS 1 g81 g82) s87 (
 kM (oStore 1 g87 g86) dN (
 n4))))))))))))))))))))))))))))))))))))))))))
 (kP (oBin (some .other) none .add g24 (fun _ => (.int .i64 1))) s88 (
 kV g88 s24 (
 n3)))))) L)
 (kV g8 s89 (
 kV g89 s5 (
 kV g7 s90 (
 kP (oLen .map g90) s91 (
 kV g6 s92 (
 kP (oBin (some .other) none .eql g91 g92) s93 (
 (fun n1 : K =>
 kIf g93
 (kV g5 s94 (
 kV g94 s4 (
 (fin none))))
 (n1))
 (kV g7 s95 (
 kP (oLen .map g95) s96 (
 kV g96 s6 (
 n0))))))))))))))))))))) L))))))
def Lx.q34 : CRun := fun ev L args H => @Option.rec Tm (fun _ => CR) .fail (fun T => (fun fin : Fin => Lx.p34 ev fin L T H []) (finK Lx.dk ev L (fun T _ => some [g4 T]))) (argsTm args)
/-- (*gobo/dfa.Dfa).Next -/
def Lx.p35 (ev : Ev) (fin : Fin) (L : Nat) : K :=
 kV (fun _ => (.int .i64 0)) s6 (
 kV g0 s7 (
 kP (oBin (some .ptr) none .eql g7 (fun _ => .nilp)) s8 (
 kV g8 s9 (
 kG g9 false (fun n => kV g1 s10 (n)) s10 (
 kG g9 false (fun n => kP (oBin (some .other) none .lss g10 (fun _ => (.int .i64 0))) s11 (n)) s11 (
 kP (oPick g9 (fun _ => (.bool true)) g11) s12 (
 kV g12 s13 (
 kG g13 false (fun n => kV g1 s14 (n)) s14 (
 kG g13 false (fun n => kV g0 s15 (n)) s15 (
 kG g13 false (fun n => kP (oNilc g15) s16 (n)) s16 (
 kG g13 false (fun n => kP (oFaddr 1 g16) s17 (n)) s17 (
 kG g13 false (fun n => kP (oLoad noG false 1 g17) s18 (n)) s18 (
 kG g13 false (fun n => kP (oLen .sl g18) s19 (n)) s19 (
 kG g13 false (fun n => kP (oBin (some .other) none .geq g14 g19) s20 (n)) s20 (
 kP (oPick g13 (fun _ => (.bool true)) g20) s21 (
 kV g21 s22 (
 kG g22 false (fun n => kV g2 s23 (n)) s23 (
 kG g22 false (fun n => kP (oBin (some .other) none .lss g23 (fun _ => (.int .i64 0))) s24 (n)) s24 (
 kP (oPick g22 (fun _ => (.bool true)) g24) s25 (
 kV g25 s26 (
 kG g26 false (fun n => kV g2 s27 (n)) s27 (
 kG g26 false (fun n => kV g0 s28 (n)) s28 (
 kG g26 false (fun n => kP (oNilc g28) s29 (n)) s29 (
 kG g26 false (fun n => kP (oFaddr 0 g29) s30 (n)) s30 (
 kG g26 false (fun n => kP (oLoad noG false 1 g30) s31 (n)) s31 (
 kG g26 false (fun n => kP (oLen .sl g31) s32 (n)) s32 (
 kG g26 false (fun n => kP (oBin (some .other) none .geq g27 g32) s33 (n)) s33 (
 kP (oPick g26 (fun _ => (.bool true)) g33) s34 (
 (fun n0 : K =>
 kIf g34
 (kV (fun _ => (.int .i64 (.negSucc 0))) s6 (
 (fin none)))
 (n0))
 (kV g0 s35 (
 kP (oNilc g35) s36 (
 kP (oFaddr 1 g36) s37 (
 kP (oLoad noG false 1 g37) s38 (
 kV g1 s39 (
 kP (oIaddrS 1 g38 g39) s40 (
 kP (oLoad noG false 1 g40) s41 (
 kV g2 s42 (
 kP (oIaddrS 1 g41 g42) s43 (
 kP (oLoad noG false 1 g43) s44 (
 kV g44 s6 (
 (fin none))))))))))))))))))))))))))))))))))))))))))
def Lx.q35 : CRun := fun ev L args H => @Option.rec Tm (fun _ => CR) .fail (fun T => (fun fin : Fin => Lx.p35 ev fin L T H []) (finK Lx.dk ev L (fun T _ => some [g6 T]))) (argsTm args)
/-- (*gobo/dfa.Dfa).Rule -/
def Lx.p36 (ev : Ev) (fin : Fin) (L : Nat) : K :=
 kV (fun _ => (.int .i64 0)) s4 (
 kV g0 s5 (
 kP (oBin (some .ptr) none .eql g5 (fun _ => .nilp)) s6 (
 kV g6 s7 (
 kG g7 false (fun n => kV g1 s8 (n)) s8 (
 kG g7 false (fun n => kP (oBin (some .other) none .lss g8 (fun _ => (.int .i64 0))) s9 (n)) s9 (
 kP (oPick g7 (fun _ => (.bool true)) g9) s10 (
 kV g10 s11 (
 kG g11 false (fun n => kV g1 s12 (n)) s12 (
 kG g11 false (fun n => kV g0 s13 (n)) s13 (
 kG g11 false (fun n => kP (oNilc g13) s14 (n)) s14 (
 kG g11 false (fun n => kP (oFaddr 2 g14) s15 (n)) s15 (
 kG g11 false (fun n => kP (oLoad noG false 1 g15) s16 (n)) s16 (
 kG g11 false (fun n => kP (oLen .sl g16) s17 (n)) s17 (
 kG g11 false (fun n => kP (oBin (some .other) none .geq g12 g17) s18 (n)) s18 (
 kP (oPick g11 (fun _ => (.bool true)) g18) s19 (
 (fun n0 : K =>
 kIf g19
 (kV (fun _ => (.int .i64 (.negSucc 0))) s4 (
 (fin none)))
 (n0))
 (kV g0 s20 (
 kP (oNilc g20) s21 (
 kP (oFaddr 2 g21) s22 (
 kP (oLoad noG false 1 g22) s23 (
 kV g1 s24 (
 kP (oIaddrS 1 g23 g24) s25 (
 kP (oLoad noG false 1 g25) s26 (
 kV g26 s4 (
 (fin none))))))))))))))))))))))))))
def Lx.q36 : CRun := fun ev L args H => @Option.rec Tm (fun _ => CR) .fail (fun T => (fun fin : Fin => Lx.p36 ev fin L T H []) (finK Lx.dk ev L (fun T _ => some [g4 T]))) (argsTm args)
/-- gobo/decode.New -/
def Lx.p37 (ev : Ev) (fin : Fin) (L : Nat) : K :=
 kV (fun _ => .nilp) s0 (
 kP (oBuild [.nils, (.int .i64 0), (.bool false), .nils] (fun T => [])) s1 (
 kN (oBox g1) s2 (
 kV g2 s0 (
 (fin none)))))
def Lx.q37 : CRun := fun ev L args H => @Option.rec Tm (fun _ => CR) .fail (fun T => (fun fin : Fin => Lx.p37 ev fin L T H []) (finK Lx.dk ev L (fun T _ => some [g0 T]))) (argsTm args)
/-- (*gobo/decode.Dec).Feed -/
def Lx.p38 (ev : Ev) (fin : Fin) (L : Nat) : K :=
 kV (fun _ => .nils) s4 (
 kV g0 s7 (
 kP (oBin (some .ptr) none .eql g7 (fun _ => .nilp)) s8 (
 kV g8 s9 (
 kG g9 false (fun n => kV g0 s10 (n)) s10 (
 kG g9 false (fun n => kP (oNilc g10) s11 (n)) s11 (
 kG g9 false (fun n => kP (oFaddr 2 g11) s12 (n)) s12 (
 kG g9 false (fun n => kP (oLoad noG false 1 g12) s13 (n)) s13 (
 kP (oPick g9 (fun _ => (.bool true)) g13) s14 (
 (fun n4 : K =>
 kIf g14
 (kV (fun _ => .nils) s4 (
 (fin none)))
 (n4))
 (kV g1 s15 (
 kP (oLen .sl g15) s16 (
 kV (fun _ => (.int .i64 0)) s17 (
 (fun n0 : K =>
 kLoop (fun n1 : K =>
 kP (oBin (some .other) none .lss g17 g16) s18 (
 (fun n3 : K =>
 kIf g18
 (n3)
 (n0))
 ((fun n2 : K =>
 kP (oIaddrS 1 g15 g17) s19 (
 kP (oLoad noG false 1 g19) s20 (
 kV g20 s6 (
 kV g0 s21 (
 kV g6 s22 (
 kC ev fin (fun _ => (.fn 59 [] [])) (fun T => [g21 T, g22 T]) s23 (
 n2)))))))
 (kP (oBin (some .other) none .add g17 (fun _ => (.int .i64 1))) s24 (
 kV g24 s17 (
 n1)))))) L)
 (kV g0 s25 (
 kC ev fin (fun _ => (.fn 60 [] [])) (fun T => [g25 T]) s26 (
 kV g26 s4 (
 (fin none))))))))))))))))))
def Lx.q38 : CRun := fun ev L args H => @Option.rec Tm (fun _ => CR) .fail (fun T => (fun fin : Fin => Lx.p38 ev fin L T H []) (finK Lx.dk ev L (fun T _ => some [g4 T]))) (argsTm args)
/-- (*gobo/decode.Dec).Close -/
def Lx.p39 (ev : Ev) (fin : Fin) (L : Nat) : K :=
 kV (fun _ => .nils) s2 (
 kV g0 s3 (
 kP (oBin (some .ptr) none .eql g3 (fun _ => .nilp)) s4 (
 kV g4 s5 (
 kG g5 false (fun n => kV g0 s6 (n)) s6 (
 kG g5 false (fun n => kP (oNilc g6) s7 (n)) s7 (
 kG g5 false (fun n => kP (oFaddr 2 g7) s8 (n)) s8 (
 kG g5 false (fun n => kP (oLoad noG false 1 g8) s9 (n)) s9 (
 kP (oPick g5 (fun _ => (.bool true)) g9) s10 (
 (fun n1 : K =>
 kIf g10
 (kV (fun _ => .nils) s2 (
 (fin none)))
 (n1))
 (kV g0 s11 (
 kP (oNilc g11) s12 (
 kP (oFaddr 2 g12) s13 (
 kM (oStore 1 g13 (fun _ => (.bool true))) dN (
 kV g0 s14 (
 kP (oNilc g14) s15 (
 kP (oFaddr 0 g15) s16 (
 kP (oLoad noG false 1 g16) s17 (
 kP (oLen .sl g17) s18 (
 kP (oBin (some .other) none .gtr g18 (fun _ => (.int .i64 0))) s19 (
 (fun n0 : K =>
 kIf g19
 (kV g0 s20 (
 kC ev fin (fun _ => (.fn 61 [] [])) (fun T => [g20 T, (.bool true), (.bool true)]) s21 (
 n0)))
 (n0))
 (kV g0 s22 (
 kC ev fin (fun _ => (.fn 60 [] [])) (fun T => [g22 T]) s23 (
 kV g23 s2 (
 (fin none)))))))))))))))))))))))))
def Lx.q39 : CRun := fun ev L args H => @Option.rec Tm (fun _ => CR) .fail (fun T => (fun fin : Fin => Lx.p39 ev fin L T H []) (finK Lx.dk ev L (fun T _ => some [g2 T]))) (argsTm args)
/-- gobo/lexer.Next -/
def Lx.p40 (ev : Ev) (fin : Fin) (L : Nat) : K :=
 kN (oBox g0) s3 (
 kN (oCells [(.int .i64 0), (.int .i64 0), (.int .i64 0), (.int .i64 0)]) s6 (
 kV (fun _ => (.int .i64 0)) s7 (
 kV (fun _ => (.bool false)) s8 (
 kP (oLoad noG false 1 g3) s10 (
 kP (oBin (some .ptr) none .eql g10 (fun _ => .nilp)) s11 (
 (fun n0 : K =>
 kIf g11
 (kP (oBuild [(.int .i64 0), (.int .i64 0), (.int .i64 0), (.int .i64 0)] (fun T => [])) s12 (
 kM (oStore 4 g6 g12) dN (
 kV (fun _ => (.int .i64 0)) s7 (
 kV (fun _ => (.bool false)) s8 (
 (fin none))))))
 (n0))
 (kN (oCells [(.int .i64 0)]) s9 (
 kM (oStore 1 g9 (fun _ => (.int .i64 0))) dN (
 kV g1 s13 (
 kV g2 s14 (
 kV (oFn 62 (fun T => []) (fun T => [g3 T, g9 T])) s15 (
 kC ev fin (fun _ => (.fn 42 [] [])) (fun T => [g13 T, g14 T, g15 T]) s16 (
 kP (oExtract 0 g16) s17 (
 kP (oExtract 1 g16) s18 (
 kP (oExtract 2 g16) s19 (
 kM (oStore 4 g6 g17) dN (
 kV g18 s7 (
 kV g19 s8 (
 (fin none))))))))))))))))))))
def Lx.q40 : CRun := fun ev L args H => @Option.rec Tm (fun _ => CR) .fail (fun T => (fun fin : Fin => Lx.p40 ev fin L T H []) (finK Lx.dk ev L (cRess noG Lx.c40.results))) (argsTm args)
/-- gobo/lexer.live -/
def Lx.p41 (ev : Ev) (fin : Fin) (L : Nat) : K :=
 kV (fun _ => .nils) s2 (
 kV g0 s10 (
 kC ev fin (fun _ => (.fn 65 [] [])) (fun T => [g10 T]) s11 (
 kR (oMkslice 1 [(.bool false)] 1 g11 g11) s12 (
 kN (oCells [.nils]) s3 (
 kM (oStore 1 g3 g12) dN (
 kV g0 s13 (
 kC ev fin (fun _ => (.fn 27 [] [])) (fun T => [g13 T]) s14 (
 kV g14 s4 (
 kV (fun _ => (.bool true)) s5 (
 (fun n0 : K =>
 kLoop (fun n1 : K =>
 kV g5 s15 (
 (fun n9 : K =>
 kIf g15
 (n9)
 (n0))
 (kV (fun _ => (.bool false)) s5 (
 kP (oLoad noG false 1 g3) s16 (
 kP (oLen .sl g16) s17 (
 kV (fun _ => (.int .i64 0)) s18 (
 kLoop (fun n2 : K =>
 kP (oBin (some .other) none .lss g18 g17) s19 (
 (fun n8 : K =>
 kIf g19
 (n8)
 (n1))
 ((fun n3 : K =>
 kV g18 s20 (
 kV g20 s6 (
 kV g0 s21 (
 kV g6 s22 (
 kR (oLit 1 1 [(.int .i64 0)] (fun T => [(0, 1, g22 T)])) s23 (
 kC ev fin (fun _ => (.fn 30 [] [])) (fun T => [g21 T, g23 T]) s24 (
 kP (oLen .sl g24) s25 (
 kP (oBin (some .other) none .gtr g25 (fun _ => (.int .i64 0))) s26 (
 kV g26 s7 (
 kV g4 s27 (
 kP (oLen .sl g27) s28 (
 kV (fun _ => (.int .i64 0)) s29 (
 (fun n4 : K =>
 kLoop (fun n5 : K =>
 kP (oBin (some .other) none .lss g29 g28) s30 (
 (fun n7 : K =>
 kIf g30
 (n7)
 (n4))
 ((fun n6 : K =>
 kP (oIaddrS 2 g27 g29) s31 (
 kP (oLoad noG true 2 g31) s32 (
 kN (oCells [(.int .i32 0), (.int .i32 0)]) s9 (
 kM (oStore 2 g9 g32) dN (
 kV g7 s33 (
 kV g33 s34 (
 kG g34 false (fun n => kV g0 s35 (n)) s35 (
 kG g34 false (fun n => kV g6 s36 (n)) s36 (
 kG g34 false (fun n => kR (oLit 1 1 [(.int .i64 0)] (fun T => [(0, 1, g36 T)])) s37 (n)) s37 (
 kG g34 false (fun n => kP (oFaddr 0 g9) s38 (n)) s38 (
 kG g34 false (fun n => kP (oLoad noG false 1 g38) s39 (n)) s39 (
 kG g34 false (fun n => kC ev fin (fun _ => (.fn 29 [] [])) (fun T => [g35 T, g37 T, g39 T]) s40 (n)) s40 (
 kG g34 false (fun n => kV (oFn 67 (fun T => []) (fun T => [g3 T])) s41 (n)) s41 (
 kG g34 false (fun n => kC ev fin (fun _ => (.fn 66 [] [])) (fun T => [g40 T, g41 T]) s42 (n)) s42 (
 kP (oPick g34 (fun _ => (.bool true)) g42) s43 (
 kV g43 s7 (
 n6)))))))))))))))))
 (kP (oBin (some .other) none .add g29 (fun _ => (.int .i64 1))) s44 (
 kV g44 s29 (
 n5)))))) L)
 (kV g5 s45 (
 kV g45 s46 (
 kG g46 false (fun n => kV g7 s47 (n)) s47 (
 kG g46 false (fun n => kV g47 s48 (n)) s48 (
 kG g48 true (fun n => kP (oLoad noG false 1 g3) s49 (n)) s49 (
 kG g48 true (fun n => kV g6 s50 (n)) s50 (
 kG g48 true (fun n => kP (oIaddrS 1 g49 g50) s51 (n)) s51 (
 kG g48 true (fun n => kP (oLoad noG false 1 g51) s52 (n)) s52 (
 kG g48 true (fun n => kP (oUn .not g52) s53 (n)) s53 (
 kG g46 false (fun n => kP (oPick g48 g53 (fun _ => (.bool false))) s54 (n)) s54 (
 kP (oPick g46 (fun _ => (.bool true)) g54) s55 (
 kV g55 s5 (
 kP (oLoad noG false 1 g3) s56 (
 kV g6 s57 (
 kV g7 s58 (
 kP (oIaddrS 1 g56 g57) s59 (
 kM (oStore 1 g59 g58) dN (
 n3)))))))))))))))))))))))))))))))
 (kP (oBin (some .other) none .add g18 (fun _ => (.int .i64 1))) s60 (
 kV g60 s18 (
 n2)))))) L))))))) L)
 (kP (oLoad noG false 1 g3) s61 (
 kV g61 s2 (
 (fin none))))))))))))))
def Lx.q41 : CRun := fun ev L args H => @Option.rec Tm (fun _ => CR) .fail (fun T => (fun fin : Fin => Lx.p41 ev fin L T H []) (finK Lx.dk ev L (fun T _ => some [g2 T]))) (argsTm args)
/-- gobo/lexer.walk -/
def Lx.p42 (ev : Ev) (fin : Fin) (L : Nat) : K :=
 kN (oCells [(.int .i64 0), (.int .i64 0), (.int .i64 0), (.int .i64 0)]) s6 (
 kV (fun _ => (.int .i64 0)) s7 (
 kV (fun _ => (.bool false)) s8 (
 kV g1 s16 (
 kP (oBin (some .other) none .lss g16 (fun _ => (.int .i64 0))) s17 (
 kV g17 s18 (
 kG g18 false (fun n => kV g1 s19 (n)) s19 (
 kG g18 false (fun n => kV g0 s20 (n)) s20 (
 kG g18 false (fun n => kP (oLen .sl g20) s21 (n)) s21 (
 kG g18 false (fun n => kP (oBin (some .other) none .geq g19 g21) s22 (n)) s22 (
 kP (oPick g18 (fun _ => (.bool true)) g22) s23 (
 (fun n7 : K =>
 kIf g23
 (kP (oBuild [(.int .i64 0), (.int .i64 0), (.int .i64 0), (.int .i64 0)] (fun T => [])) s24 (
 kM (oStore 4 g6 g24) dN (
 kV (fun _ => (.int .i64 0)) s7 (
 kV (fun _ => (.bool false)) s8 (
 (fin none))))))
 (n7))
 (kV g0 s25 (
 kV g1 s26 (
 kP (oIaddrS 5 g25 g26) s27 (
 kP (oFaddr 1 g27) s28 (
 kP (oLoad noG false 1 g28) s29 (
 kV g0 s30 (
 kV g1 s31 (
 kP (oIaddrS 5 g30 g31) s32 (
 kP (oFaddr 2 g32) s33 (
 kP (oLoad noG false 1 g33) s34 (
 kP (oBuild [(.int .i64 0), (.int .i64 0), (.int .i64 0), (.int .i64 0)] (fun T => [(0, 1, (.int .i64 (.negSucc 0))), (1, 1, g29 T), (2, 1, g34 T)])) s35 (
 kN (oCells [(.int .i64 0), (.int .i64 0), (.int .i64 0), (.int .i64 0)]) s9 (
 kQ (oLoad noG false 1 g28) g29 (kQ (oLoad noG false 1 g33) g34 (kM (oStore 4 g9 g35) dN (
 kV (fun _ => (.int .i64 1)) s10 (
 kV (fun _ => (.bool false)) s11 (
 kV g1 s36 (
 kV g36 s12 (
 (fun n1 : K =>
 kLoop (fun n2 : K =>
 kV g12 s37 (
 kV g0 s38 (
 kP (oLen .sl g38) s39 (
 kP (oBin (some .other) none .lss g37 g39) s40 (
 kV g40 s41 (
 kG g41 true (fun n => kV g11 s42 (n)) s42 (
 kG g41 true (fun n => kP (oUn .not g42) s43 (n)) s43 (
 kP (oPick g41 g43 (fun _ => (.bool false))) s44 (
 (fun n6 : K =>
 kIf g44
 (n6)
 (n1))
 ((fun n3 : K =>
 kV g0 s47 (
 kV g12 s48 (
 kP (oIaddrS 5 g47 g48) s49 (
 kP (oLoad noG true 5 g49) s50 (
 kN (oCells [(.int .i32 0), (.int .i64 0), (.int .i64 0), (.bool false), (.bool false)]) s13 (
 kM (oStore 5 g13 g50) dN (
 kP (oFaddr 2 g13) s51 (
 kP (oLoad noG false 1 g51) s52 (
 kP (oFaddr 3 g9) s53 (
 kM (oStore 1 g53 g52) dN (
 kP (oFaddr 4 g13) s54 (
 kP (oLoad noG false 1 g54) s55 (
 (fun n5 : K =>
 kIf g55
 (kP (oFaddr 3 g9) s56 (
 kP (oLoad noG false 1 g56) s57 (
 kP (oBin (some .other) none .add g57 (fun _ => (.int .i64 1))) s58 (
 kP (oFaddr 3 g9) s59 (
 kM (oStore 1 g59 g58) dN (
 n5))))))
 (n5))
 (kV (fun _ => (.bool false)) s14 (
 kV (fun _ => (.int .i64 (.negSucc 0))) s15 (
 kP (oFaddr 3 g13) s60 (
 kP (oLoad noG false 1 g60) s61 (
 kP (oUn .not g61) s62 (
 (fun n4 : K =>
 kIf g62
 (kV g2 s64 (
 kP (oLoad noG true 5 g13) s65 (
 kC ev fin g64 (fun T => [g65 T]) s66 (
 kV g66 s63 (
 kP (oExtract 0 g63) s67 (
 kP (oExtract 1 g63) s68 (
 kV g67 s14 (
 kV g68 s15 (
 n4)))))))))
 (n4))
 (kV g14 s69 (
 kP (oUn .not g69) s70 (
 kV g70 s11 (
 kV g15 s71 (
 kP (oBin (some .other) none .geq g71 (fun _ => (.int .i64 0))) s72 (
 kIf g72
 (kV g15 s73 (
 kP (oFaddr 2 g13) s74 (
 kP (oLoad noG false 1 g74) s75 (
 kV g12 s76 (
 kV g1 s77 (
 kP (oBin (some .other) none .sub g76 g77) s78 (
 kP (oBin (some .other) none .add g78 (fun _ => (.int .i64 1))) s79 (
 kP (oFaddr 0 g9) s80 (
 kM (oStore 1 g80 g73) dN (
 kQ (oLoad noG false 1 g74) g75 (kP (oFaddr 2 g9) s81 (
 kM (oStore 1 g81 g75) dN (
 kV g79 s10 (
 n3))))))))))))))
 (n3))))))))))))))))))))))))))
 (kV g12 s45 (
 kP (oBin (some .other) none .add g45 (fun _ => (.int .i64 1))) s46 (
 kV g46 s12 (
 n2)))))))))))))) L)
 (kV g11 s82 (
 kP (oUn .not g82) s83 (
 (fun n0 : K =>
 kIf g83
 (kV g0 s84 (
 kV g0 s85 (
 kP (oLen .sl g85) s86 (
 kP (oBin (some .other) none .sub g86 (fun _ => (.int .i64 1))) s87 (
 kP (oIaddrS 5 g84 g87) s88 (
 kP (oFaddr 2 g88) s89 (
 kP (oLoad noG false 1 g89) s90 (
 kP (oBin (some .other) none .add g90 (fun _ => (.int .i64 1))) s91 (
 kP (oFaddr 3 g9) s92 (
 kM (oStore 1 g92 g91) dN (
 n0)))))))))))
 (n0))
 (kP (oLoad noG true 4 g9) s93 (
 kV g10 s94 (
 kV g11 s95 (
 kM (oStore 4 g6 g93) dN (
 kV g94 s7 (
 kV g95 s8 (
 (fin none))))))))))))))))))))))))))))))))))))))))))
def Lx.q42 : CRun := fun ev L args H => @Option.rec Tm (fun _ => CR) .fail (fun T => (fun fin : Fin => Lx.p42 ev fin L T H []) (finK Lx.dk ev L (cRess noG Lx.c42.results))) (argsTm args)
/-- gobo/lexer.Model$1 -/
def Lx.p43 (ev : Ev) (fin : Fin) (L : Nat) : K :=
 kN (oBox g0) s4 (
 kV (fun _ => (.bool false)) s5 (
 kV (fun _ => (.int .i64 0)) s6 (
 kP (oLoad noG false 1 g1) s8 (
 kP (oLoad noG false 1 g2) s9 (
 kP (oFaddr 0 g4) s10 (
 kP (oLoad noG false 1 g10) s11 (
 kC ev fin (fun _ => (.fn 29 [] [])) (fun T => [g8 T, g9 T, g11 T]) s12 (
 kV (oFn 45 (fun T => []) (fun T => [g3 T])) s13 (
 kC ev fin (fun _ => (.fn 44 [] [])) (fun T => [g12 T, g13 T]) s14 (
 kM (oStore 1 g2 g14) dN (
 kP (oLoad noG false 1 g1) s15 (
 kP (oLoad noG false 1 g2) s16 (
 kC ev fin (fun _ => (.fn 30 [] [])) (fun T => [g15 T, g16 T]) s17 (
 kV g17 s7 (
 kV g7 s18 (
 kP (oLen .sl g18) s19 (
 kP (oBin (some .other) none .gtr g19 (fun _ => (.int .i64 0))) s20 (
 (fun n0 : K =>
 kIf g20
 (kV g7 s21 (
 kP (oIaddrS 1 g21 (fun _ => (.int .i64 0))) s22 (
 kP (oLoad noG false 1 g22) s23 (
 kV (fun _ => (.bool true)) s5 (
 kV g23 s6 (
 (fin none)))))))
 (n0))
 (kP (oLoad noG false 1 g2) s24 (
 kP (oLen .sl g24) s25 (
 kP (oBin (some .other) none .gtr g25 (fun _ => (.int .i64 0))) s26 (
 kV g26 s5 (
 kV (fun _ => (.int .i64 (.negSucc 0))) s6 (
 (fin none)))))))))))))))))))))))))
def Lx.q43 : CRun := fun ev L args H => @Option.rec Tm (fun _ => CR) .fail (fun T => (fun fin : Fin => Lx.p43 ev fin L T H []) (finK Lx.dk ev L (fun T _ => some [g5 T, g6 T]))) (argsTm args)
/-- slices.DeleteFunc[[]int,int] -/
def Lx.p44 (ev : Ev) (fin : Fin) (L : Nat) : K :=
 kV (fun _ => .nils) s4 (
 kV g0 s8 (
 kV g1 s9 (
 kC ev fin (fun _ => (.fn 68 [] [])) (fun T => [g8 T, g9 T]) s10 (
 kV g10 s5 (
 kV g5 s11 (
 kP (oBin (some .other) none .eql g11 (fun _ => (.int .i64 (.negSucc 0)))) s12 (
 (fun n4 : K =>
 kIf g12
 (kV g0 s13 (
 kV g13 s4 (
 (fin none))))
 (n4))
 (kV g5 s14 (
 kP (oBin (some .other) none .add g14 (fun _ => (.int .i64 1))) s15 (
 kV g15 s6 (
 (fun n0 : K =>
 kLoop (fun n1 : K =>
 kV g6 s16 (
 kV g0 s17 (
 kP (oLen .sl g17) s18 (
 kP (oBin (some .other) none .lss g16 g18) s19 (
 (fun n3 : K =>
 kIf g19
 (n3)
 (n0))
 ((fun n2 : K =>
 kV g0 s22 (
 kV g6 s23 (
 kP (oIaddrS 1 g22 g23) s24 (
 kP (oLoad noG false 1 g24) s25 (
 kV g25 s7 (
 kV g1 s26 (
 kV g7 s27 (
 kC ev fin g26 (fun T => [g27 T]) s28 (
 kP (oUn .not g28) s29 (
 kIf g29
 (kV g0 s30 (
 kV g5 s31 (
 kV g7 s32 (
 kP (oIaddrS 1 g30 g31) s33 (
 kM (oStore 1 g33 g32) dN (
 kV g5 s34 (
 kP (oBin (some .other) none .add g34 (fun _ => (.int .i64 1))) s35 (
 kV g35 s5 (
 n2)))))))))
 (n2)))))))))))
 (kV g6 s20 (
 kP (oBin (some .other) none .add g20 (fun _ => (.int .i64 1))) s21 (
 kV g21 s6 (
 n1)))))))))) L)
 (kV g0 s36 (
 kV g5 s37 (
 kP (oSlice noG (.sl 1) g36 (fun T => some (g37 T)) (fun _ => none) (fun _ => none)) s38 (
 kR (oClear 1 [(.int .i64 0)] g38) dN (
 kV g0 s39 (
 kV g5 s40 (
 kP (oSlice noG (.sl 1) g39 (fun _ => none) (fun T => some (g40 T)) (fun _ => none)) s41 (
 kV g41 s4 (
 (fin none)))))))))))))))))))))
def Lx.q44 : CRun := fun ev L args H => @Option.rec Tm (fun _ => CR) .fail (fun T => (fun fin : Fin => Lx.p44 ev fin L T H []) (finK Lx.dk ev L (fun T _ => some [g4 T]))) (argsTm args)
/-- gobo/lexer.Model$1$1 -/
def Lx.p45 (ev : Ev) (fin : Fin) (L : Nat) : K :=
 kV (fun _ => (.bool false)) s3 (
 kP (oLoad noG false 1 g1) s4 (
 kV g0 s5 (
 kP (oIaddrS 1 g4 g5) s6 (
 kP (oLoad noG false 1 g6) s7 (
 kP (oUn .not g7) s8 (
 kV g8 s3 (
 (fin none))))))))
def Lx.q45 : CRun := fun ev L args H => @Option.rec Tm (fun _ => CR) .fail (fun T => (fun fin : Fin => Lx.p45 ev fin L T H []) (finK Lx.dk ev L (fun T _ => some [g3 T]))) (argsTm args)
/-- slices.IndexFunc[[]gobo/api.Re,gobo/api.Re] -/
def Lx.p46 (ev : Ev) (fin : Fin) (L : Nat) : K :=
 kV (fun _ => (.int .i64 0)) s4 (
 kV g0 s6 (
 kP (oLen .sl g6) s7 (
 kV (fun _ => (.int .i64 0)) s8 (
 (fun n0 : K =>
 kLoop (fun n1 : K =>
 kP (oBin (some .other) none .lss g8 g7) s9 (
 (fun n3 : K =>
 kIf g9
 (n3)
 (n0))
 ((fun n2 : K =>
 kV g8 s10 (
 kV g10 s5 (
 kV g1 s11 (
 kV g0 s12 (
 kV g5 s13 (
 kP (oIaddrS 3 g12 g13) s14 (
 kP (oLoad noG true 3 g14) s15 (
 kC ev fin g11 (fun T => [g15 T]) s16 (
 kIf g16
 (kV g5 s17 (
 kV g17 s4 (
 (fin none))))
 (n2))))))))))
 (kP (oBin (some .other) none .add g8 (fun _ => (.int .i64 1))) s18 (
 kV g18 s8 (
 n1)))))) L)
 (kV (fun _ => (.int .i64 (.negSucc 0))) s4 (
 (fin none)))))))
def Lx.q46 : CRun := fun ev L args H => @Option.rec Tm (fun _ => CR) .fail (fun T => (fun fin : Fin => Lx.p46 ev fin L T H []) (finK Lx.dk ev L (fun T _ => some [g4 T]))) (argsTm args)
/-- gobo/regex.within -/
def Lx.p47 (ev : Ev) (fin : Fin) (L : Nat) : K :=
 kN (oBox g0) s1 (
 kV (fun _ => (.bool false)) s2 (
 kN (oCells [(.int .i64 0)]) s3 (
 kM (oStore 1 g3 (fun _ => (.int .i64 60))) dN (
 kN (oCells [.nilf]) s4 (
 kV (oFn 69 (fun T => []) (fun T => [g3 T, g4 T])) s5 (
 kM (oStore 1 g4 g5) dN (
 kP (oLoad noG false 1 g4) s6 (
 kP (oLoad noG true 3 g1) s7 (
 kC ev fin g6 (fun T => [g7 T, (.int .i64 1)]) s8 (
 kV g8 s2 (
 (fin none))))))))))))
def Lx.q47 : CRun := fun ev L args H => @Option.rec Tm (fun _ => CR) .fail (fun T => (fun fin : Fin => Lx.p47 ev fin L T H []) (finK Lx.dk ev L (fun T _ => some [g2 T]))) (argsTm args)
/-- gobo/regex.may -/
def Lx.p48 (ev : Ev) (fin : Fin) (L : Nat) : K :=
 kN (oBox g0) s1 (
 kV (fun _ => (.bool false)) s2 (
 kP (oFaddr 2 g1) s3 (
 kP (oLoad noG false 1 g3) s4 (
 kP (oLen .sl g4) s5 (
 kP (oFaddr 0 g1) s6 (
 kP (oLoad noG false 1 g6) s7 (
 kC ev (fun _ => kFail) (fun _ => (.fn 71 [] [])) (fun T => [g7 T]) s8 (
 kQ (oLoad noG false 1 g3) g4 (kQ (oLen .sl g4) g5 (kP (oBin (some .other) none .neq g5 g8) s9 (
 kV g9 s10 (
 kG g10 false (fun n => kP (oFaddr 2 g1) s11 (n)) s11 (
 kG g10 false (fun n => kP (oLoad noG false 1 g11) s12 (n)) s12 (
 kG g10 false (fun n => kC ev (fun _ => kFail) (fun _ => (.fn 21 [] [])) (fun T => [g12 T, (.fn 72 [] [])]) s13 (n)) s13 (
 kP (oPick g10 (fun _ => (.bool true)) g13) s14 (
 (fun n1 : K =>
 kIf g14
 (kV (fun _ => (.bool false)) s2 (
 (fin none)))
 (n1))
 (kP (oFaddr 0 g1) s15 (
 kP (oLoad noG false 1 g15) s16 (
 kP (oBin (some .other) none .neq g16 (fun _ => (.int .i64 2))) s17 (
 (fun n0 : K =>
 kIf g17
 (kP (oFaddr 1 g1) s18 (
 kP (oLoad noG false 1 g18) s19 (
 kP (oLen .sl g19) s20 (
 kP (oBin (some .other) none .eql g20 (fun _ => (.int .i64 0))) s21 (
 kV g21 s2 (
 (fin none)))))))
 (n0))
 (kP (oFaddr 1 g1) s22 (
 kP (oLoad noG false 1 g22) s23 (
 kP (oLen .sl g23) s24 (
 kP (oBin (some .other) none .geq g24 (fun _ => (.int .i64 1))) s25 (
 kV g25 s26 (
 kG g26 true (fun n => kP (oFaddr 1 g1) s27 (n)) s27 (
 kG g26 true (fun n => kP (oLoad noG false 1 g27) s28 (n)) s28 (
 kG g26 true (fun n => kP (oLen .sl g28) s29 (n)) s29 (
 kG g26 true (fun n => kP (oBin (some .other) none .leq g29 (fun _ => (.int .i64 20))) s30 (n)) s30 (
 kP (oPick g26 g30 (fun _ => (.bool false))) s31 (
 kV g31 s32 (
 kG g32 true (fun n => kP (oFaddr 1 g1) s33 (n)) s33 (
 kG g32 true (fun n => kP (oLoad noG false 1 g33) s34 (n)) s34 (
 kG g32 true (fun n => kC ev fin (fun _ => (.fn 73 [] [])) (fun T => [g34 T]) s35 (n)) s35 (
 kP (oPick g32 g35 (fun _ => (.bool false))) s36 (
 kV g36 s2 (
 (fin none))))))))))))))))))))))))))))))))))))))
def Lx.q48 : CRun := fun ev L args H => @Option.rec Tm (fun _ => CR) .fail (fun T => (fun fin : Fin => Lx.p48 ev fin L T H []) (finK Lx.dk ev L (fun T _ => some [g2 T]))) (argsTm args)
/-- slices.Concat[[]int,int] -/
def Lx.p49 (ev : Ev) (fin : Fin) (L : Nat) : K :=
 kV (fun _ => .nils) s2 (
 kV (fun _ => (.int .i64 0)) s3 (
 kV g0 s9 (
 kP (oLen .sl g9) s10 (
 kV (fun _ => (.int .i64 0)) s11 (
 (fun n4 : K =>
 kLoop (fun n5 : K =>
 kP (oBin (some .other) none .lss g11 g10) s12 (
 (fun n7 : K =>
 kIf g12
 (n7)
 (n4))
 ((fun n6 : K =>
 kP (oIaddrS 1 g9 g11) s13 (
 kP (oLoad noG false 1 g13) s14 (
 kV g14 s5 (
 kV g3 s15 (
 kV g5 s16 (
 kP (oLen .sl g16) s17 (
 kP (oBin (some .other) none .add g15 g17) s18 (
 kV g18 s3 (
 kV g3 s19 (
 kP (oBin (some .other) none .lss g19 (fun _ => (.int .i64 0))) s20 (
 kIf g20
 (kV (oIface 9 (fun _ => (.str ⟨#[108, 101, 110, 32, 111, 117, 116, 32, 111, 102, 32, 114, 97, 110, 103, 101]⟩))) s21 (
 kX fin g21))
 (n6))))))))))))
 (kP (oBin (some .other) none .add g11 (fun _ => (.int .i64 1))) s22 (
 kV g22 s11 (
 n5)))))) L)
 (kV g3 s23 (
 kC ev fin (fun _ => (.fn 74 [] [])) (fun T => [.nils, g23 T]) s24 (
 kV g24 s6 (
 kV g0 s25 (
 kP (oLen .sl g25) s26 (
 kV (fun _ => (.int .i64 0)) s27 (
 (fun n0 : K =>
 kLoop (fun n1 : K =>
 kP (oBin (some .other) none .lss g27 g26) s28 (
 (fun n3 : K =>
 kIf g28
 (n3)
 (n0))
 ((fun n2 : K =>
 kP (oIaddrS 1 g25 g27) s29 (
 kP (oLoad noG false 1 g29) s30 (
 kV g30 s8 (
 kV g6 s31 (
 kV g8 s32 (
 kR (oAppend 1 8 [(.int .i64 0)] false g31 g32) s33 (
 kV g33 s6 (
 n2))))))))
 (kP (oBin (some .other) none .add g27 (fun _ => (.int .i64 1))) s34 (
 kV g34 s27 (
 n1)))))) L)
 (kV g6 s35 (
 kV g35 s2 (
 (fin none))))))))))))))))
def Lx.q49 : CRun := fun ev L args H => @Option.rec Tm (fun _ => CR) .fail (fun T => (fun fin : Fin => Lx.p49 ev fin L T H []) (finK Lx.dk ev L (fun T _ => some [g2 T]))) (argsTm args)
/-- slices.Sort[[]int,int] -/
def Lx.p50 (ev : Ev) (fin : Fin) (L : Nat) : K :=
 kV g0 s3 (
 kP (oLen .sl g3) s4 (
 kV g4 s2 (
 kV g0 s5 (
 kV g2 s6 (
 kV g2 s7 (
 kR (oConv (.int .u64) g7) s8 (
 kC ev fin (fun _ => (.fn 76 [] [])) (fun T => [g8 T]) s9 (
 kC ev fin (fun _ => (.fn 75 [] [])) (fun T => [g5 T, (.int .i64 0), g6 T, g9 T]) s10 (
 (fin none))))))))))
def Lx.q50 : CRun := fun ev L args H => @Option.rec Tm (fun _ => CR) .fail (fun T => (fun fin : Fin => Lx.p50 ev fin L T H []) (finK Lx.dk ev L (fun T _ => some []))) (argsTm args)
/-- slices.Compact[[]int,int] -/
def Lx.p51 (ev : Ev) (fin : Fin) (L : Nat) : K :=
 kV (fun _ => .nils) s2 (
 kV g0 s6 (
 kP (oLen .sl g6) s7 (
 kP (oBin (some .other) none .lss g7 (fun _ => (.int .i64 2))) s8 (
 (fun n8 : K =>
 kIf g8
 (kV g0 s9 (
 kV g9 s2 (
 (fin none))))
 (n8))
 (kV (fun _ => (.int .i64 1)) s3 (
 (fun n0 : K =>
 kLoop (fun n1 : K =>
 kV g3 s10 (
 kV g0 s11 (
 kP (oLen .sl g11) s12 (
 kP (oBin (some .other) none .lss g10 g12) s13 (
 (fun n7 : K =>
 kIf g13
 (n7)
 (n0))
 ((fun n2 : K =>
 kV g0 s16 (
 kV g3 s17 (
 kP (oIaddrS 1 g16 g17) s18 (
 kP (oLoad noG false 1 g18) s19 (
 kV g0 s20 (
 kV g3 s21 (
 kP (oBin (some .other) none .sub g21 (fun _ => (.int .i64 1))) s22 (
 kP (oIaddrS 1 g20 g22) s23 (
 kP (oLoad noG false 1 g23) s24 (
 kP (oBin (some .other) none .eql g19 g24) s25 (
 kIf g25
 (kV g0 s26 (
 kV g3 s27 (
 kP (oSlice noG (.sl 1) g26 (fun T => some (g27 T)) (fun _ => none) (fun _ => none)) s28 (
 kV g28 s4 (
 kV (fun _ => (.int .i64 1)) s5 (
 (fun n3 : K =>
 kLoop (fun n4 : K =>
 kV g5 s29 (
 kV g4 s30 (
 kP (oLen .sl g30) s31 (
 kP (oBin (some .other) none .lss g29 g31) s32 (
 (fun n6 : K =>
 kIf g32
 (n6)
 (n3))
 ((fun n5 : K =>
 kV g4 s35 (
 kV g5 s36 (
 kP (oIaddrS 1 g35 g36) s37 (
 kP (oLoad noG false 1 g37) s38 (
 kV g4 s39 (
 kV g5 s40 (
 kP (oBin (some .other) none .sub g40 (fun _ => (.int .i64 1))) s41 (
 kP (oIaddrS 1 g39 g41) s42 (
 kP (oLoad noG false 1 g42) s43 (
 kP (oBin (some .other) none .neq g38 g43) s44 (
 kIf g44
 (kV g0 s45 (
 kV g3 s46 (
 kV g4 s47 (
 kV g5 s48 (
 kP (oIaddrS 1 g47 g48) s49 (
 kP (oLoad noG false 1 g49) s50 (
 kP (oIaddrS 1 g45 g46) s51 (
 kM (oStore 1 g51 g50) dN (
 kV g3 s52 (
 kP (oBin (some .other) none .add g52 (fun _ => (.int .i64 1))) s53 (
 kV g53 s3 (
 n5))))))))))))
 (n5))))))))))))
 (kV g5 s33 (
 kP (oBin (some .other) none .add g33 (fun _ => (.int .i64 1))) s34 (
 kV g34 s5 (
 n4)))))))))) L)
 (kV g0 s54 (
 kV g3 s55 (
 kP (oSlice noG (.sl 1) g54 (fun T => some (g55 T)) (fun _ => none) (fun _ => none)) s56 (
 kR (oClear 1 [(.int .i64 0)] g56) dN (
 kV g0 s57 (
 kV g3 s58 (
 kP (oSlice noG (.sl 1) g57 (fun _ => none) (fun T => some (g58 T)) (fun _ => none)) s59 (
 kV g59 s2 (
 (fin none))))))))))))))))
 (n2))))))))))))
 (kV g3 s14 (
 kP (oBin (some .other) none .add g14 (fun _ => (.int .i64 1))) s15 (
 kV g15 s3 (
 n1)))))))))) L)
 (kV g0 s60 (
 kV g60 s2 (
 (fin none))))))))))
def Lx.q51 : CRun := fun ev L args H => @Option.rec Tm (fun _ => CR) .fail (fun T => (fun fin : Fin => Lx.p51 ev fin L T H []) (finK Lx.dk ev L (fun T _ => some [g2 T]))) (argsTm args)
/-- gobo/runes.Cuts -/
def Lx.p52 (ev : Ev) (fin : Fin) (L : Nat) : K :=
 kV (fun _ => .nils) s2 (
 kV (fun _ => .nils) s3 (
 kV (fun _ => .nils) s4 (
 kV g0 s14 (
 kP (oLen .sl g14) s15 (
 kV (fun _ => (.int .i64 0)) s16 (
 (fun n7 : K =>
 kLoop (fun n8 : K =>
 kP (oBin (some .other) none .lss g16 g15) s17 (
 (fun n14 : K =>
 kIf g17
 (n14)
 (n7))
 ((fun n9 : K =>
 kP (oIaddrS 1 g14 g16) s18 (
 kP (oLoad noG false 1 g18) s19 (
 kV g19 s6 (
 kV g6 s20 (
 kC ev fin (fun _ => (.fn 77 [] [])) (fun T => [g20 T]) s21 (
 kP (oLen .sl g21) s22 (
 kV (fun _ => (.int .i64 0)) s23 (
 (fun n10 : K =>
 kLoop (fun n11 : K =>
 kP (oBin (some .other) none .lss g23 g22) s24 (
 (fun n13 : K =>
 kIf g24
 (n13)
 (n10))
 ((fun n12 : K =>
 kP (oIaddrS 2 g21 g23) s25 (
 kP (oLoad noG true 2 g25) s26 (
 kN (oCells [(.int .i64 0), (.int .i64 0)]) s8 (
 kM (oStore 2 g8 g26) dN (
 kV g3 s27 (
 kP (oFaddr 0 g8) s28 (
 kP (oLoad noG false 1 g28) s29 (
 kP (oFaddr 1 g8) s30 (
 kP (oLoad noG false 1 g30) s31 (
 kR (oLit 1 2 [(.int .i64 0), (.int .i64 0)] (fun T => [(0, 1, g29 T), (1, 1, g31 T)])) s32 (
 kR (oAppend 1 8 [(.int .i64 0)] false g27 g32) s33 (
 kV g33 s3 (
 n12)))))))))))))
 (kP (oBin (some .other) none .add g23 (fun _ => (.int .i64 1))) s34 (
 kV g34 s23 (
 n11)))))) L)
 (kV g4 s35 (
 kV g6 s36 (
 kR (oAppend 2 8 [(.int .i32 0), (.int .i32 0)] false g35 g36) s37 (
 kV g37 s4 (
 n9)))))))))))))
 (kP (oBin (some .other) none .add g16 (fun _ => (.int .i64 1))) s38 (
 kV g38 s16 (
 n8)))))) L)
 (kV g3 s39 (
 kC ev fin (fun _ => (.fn 50 [] [])) (fun T => [g39 T]) s40 (
 kV g3 s41 (
 kC ev fin (fun _ => (.fn 51 [] [])) (fun T => [g41 T]) s42 (
 kV g42 s3 (
 kV (fun _ => .nils) s9 (
 kV g4 s43 (
 kC ev fin (fun _ => (.fn 77 [] [])) (fun T => [g43 T]) s44 (
 kP (oLen .sl g44) s45 (
 kV (fun _ => (.int .i64 0)) s46 (
 (fun n0 : K =>
 kLoop (fun n1 : K =>
 kP (oBin (some .other) none .lss g46 g45) s47 (
 (fun n6 : K =>
 kIf g47
 (n6)
 (n0))
 ((fun n2 : K =>
 kP (oIaddrS 2 g44 g46) s48 (
 kP (oLoad noG true 2 g48) s49 (
 kN (oCells [(.int .i64 0), (.int .i64 0)]) s11 (
 kM (oStore 2 g11 g49) dN (
 kV g3 s50 (
 kP (oLen .sl g50) s51 (
 kV (fun _ => (.int .i64 0)) s52 (
 kLoop (fun n3 : K =>
 kP (oBin (some .other) none .lss g52 g51) s53 (
 (fun n5 : K =>
 kIf g53
 (n5)
 (n2))
 ((fun n4 : K =>
 kP (oIaddrS 1 g50 g52) s54 (
 kP (oLoad noG false 1 g54) s55 (
 kV g55 s13 (
 kP (oFaddr 0 g11) s56 (
 kP (oLoad noG false 1 g56) s57 (
 kV g13 s58 (
 kP (oBin (some .other) none .lss g57 g58) s59 (
 kV g59 s60 (
 kG g60 true (fun n => kV g13 s61 (n)) s61 (
 kG g60 true (fun n => kP (oFaddr 1 g11) s62 (n)) s62 (
 kG g60 true (fun n => kP (oLoad noG false 1 g62) s63 (n)) s63 (
 kG g60 true (fun n => kP (oBin (some .other) none .leq g61 g63) s64 (n)) s64 (
 kP (oPick g60 g64 (fun _ => (.bool false))) s65 (
 kIf g65
 (kV g9 s66 (
 kP (oFaddr 0 g11) s67 (
 kP (oLoad noG false 1 g67) s68 (
 kV g13 s69 (
 kP (oBuild [(.int .i64 0), (.int .i64 0)] (fun T => [(0, 1, g68 T), (1, 1, g69 T)])) s70 (
 kR (oLit 2 1 [(.int .i64 0), (.int .i64 0)] (fun T => [(0, 2, g70 T)])) s71 (
 kR (oAppend 2 16 [(.int .i64 0), (.int .i64 0)] false g66 g71) s72 (
 kV g72 s9 (
 kV g13 s73 (
 kP (oFaddr 0 g11) s74 (
 kM (oStore 1 g74 g73) dN (
 n4))))))))))))
 (n4)))))))))))))))
 (kP (oBin (some .other) none .add g52 (fun _ => (.int .i64 1))) s75 (
 kV g75 s52 (
 n3)))))) L))))))))
 (kP (oBin (some .other) none .add g46 (fun _ => (.int .i64 1))) s76 (
 kV g76 s46 (
 n1)))))) L)
 (kV g9 s77 (
 kC ev fin (fun _ => (.fn 78 [] [])) (fun T => [g77 T]) s78 (
 kV g78 s2 (
 (fin none))))))))))))))))))))))
def Lx.q52 : CRun := fun ev L args H => @Option.rec Tm (fun _ => CR) .fail (fun T => (fun fin : Fin => Lx.p52 ev fin L T H []) (finK Lx.dk ev L (fun T _ => some [g2 T]))) (argsTm args)
/-- strconv.AppendInt -/
def Lx.p53 (ev : Ev) (fin : Fin) (L : Nat) : K :=
 kV (fun _ => .nils) s6 (
 kV g0 s7 (
 kV g1 s8 (
 kV g2 s9 (
 kC ev fin (fun _ => (.fn 79 [] [])) (fun T => [g7 T, g8 T, g9 T]) s10 (
 kV g10 s6 (
 (fin none)))))))
def Lx.q53 : CRun := fun ev L args H => @Option.rec Tm (fun _ => CR) .fail (fun T => (fun fin : Fin => Lx.p53 ev fin L T H []) (finK Lx.dk ev L (fun T _ => some [g6 T]))) (argsTm args)
/-- (*gobo/nfa.Nfa).has -/
def Lx.p54 (ev : Ev) (fin : Fin) (L : Nat) : K :=
 kV (fun _ => (.bool false)) s4 (
 kV g1 s5 (
 kP (oBin (some .other) none .geq g5 (fun _ => (.int .i64 0))) s6 (
 kV g6 s7 (
 kG g7 true (fun n => kV g1 s8 (n)) s8 (
 kG g7 true (fun n => kV g0 s9 (n)) s9 (
 kG g7 true (fun n => kP (oNilc g9) s10 (n)) s10 (
 kG g7 true (fun n => kP (oFaddr 0 g10) s11 (n)) s11 (
 kG g7 true (fun n => kP (oLoad noG false 1 g11) s12 (n)) s12 (
 kG g7 true (fun n => kP (oLen .sl g12) s13 (n)) s13 (
 kG g7 true (fun n => kP (oBin (some .other) none .lss g8 g13) s14 (n)) s14 (
 kP (oPick g7 g14 (fun _ => (.bool false))) s15 (
 kV g15 s4 (
 (fin none))))))))))))))
def Lx.q54 : CRun := fun ev L args H => @Option.rec Tm (fun _ => CR) .fail (fun T => (fun fin : Fin => Lx.p54 ev fin L T H []) (finK Lx.dk ev L (fun T _ => some [g4 T]))) (argsTm args)
/-- gobo/runes.Has -/
def Lx.p55 (ev : Ev) (fin : Fin) (L : Nat) : K :=
 kN (oBox g1) s3 (
 kV (fun _ => (.bool false)) s4 (
 kP (oLoad noG false 1 g3) s5 (
 kC ev fin (fun _ => (.fn 80 [] [])) (fun T => [g5 T]) s6 (
 kV g6 s7 (
 kG g7 true (fun n => kV g0 s8 (n)) s8 (
 kG g7 true (fun n => kV (oFn 82 (fun T => []) (fun T => [g3 T])) s9 (n)) s9 (
 kG g7 true (fun n => kC ev fin (fun _ => (.fn 81 [] [])) (fun T => [g8 T, g9 T]) s10 (n)) s10 (
 kP (oPick g7 g10 (fun _ => (.bool false))) s11 (
 kV g11 s4 (
 (fin none)))))))))))
def Lx.q55 : CRun := fun ev L args H => @Option.rec Tm (fun _ => CR) .fail (fun T => (fun fin : Fin => Lx.p55 ev fin L T H []) (finK Lx.dk ev L (fun T _ => some [g4 T]))) (argsTm args)
/-- gobo/regex.empty -/
def Lx.p56 (ev : Ev) (fin : Fin) (L : Nat) : K :=
 kN (oBox g0) s1 (
 kV (fun _ => (.bool false)) s2 (
 kP (oFaddr 0 g1) s3 (
 kP (oLoad noG false 1 g3) s4 (
 (fun n0 : K =>
 kP (oBin (some .other) none .eql g4 (fun _ => (.int .i64 1))) s6 (
 kV g6 s5 (
 (fun n1 : K =>
 kIf g5
 (n1)
 (kP (oBin (some .other) none .eql g4 (fun _ => (.int .i64 5))) s7 (
 kV g7 s5 (
 n1))))
 (kIf g5
 (kV (fun _ => (.bool true)) s2 (
 (fin none)))
 (kP (oBin (some .other) none .eql g4 (fun _ => (.int .i64 3))) s9 (
 kV g9 s8 (
 kIf g8
 (kP (oFaddr 2 g1) s10 (
 kP (oLoad noG false 1 g10) s11 (
 kP (oIaddrS 3 g11 (fun _ => (.int .i64 0))) s12 (
 kP (oLoad noG true 3 g12) s13 (
 kC ev fin (fun _ => (.fn 56 [] [])) (fun T => [g13 T]) s14 (
 kV g14 s15 (
 kG g15 true (fun n => kP (oFaddr 2 g1) s16 (n)) s16 (
 kG g15 true (fun n => kP (oLoad noG false 1 g16) s17 (n)) s17 (
 kG g15 true (fun n => kP (oIaddrS 3 g17 (fun _ => (.int .i64 1))) s18 (n)) s18 (
 kG g15 true (fun n => kP (oLoad noG true 3 g18) s19 (n)) s19 (
 kG g15 true (fun n => kC ev fin (fun _ => (.fn 56 [] [])) (fun T => [g19 T]) s20 (n)) s20 (
 kP (oPick g15 g20 (fun _ => (.bool false))) s21 (
 kV g21 s2 (
 (fin none)))))))))))))))
 (kP (oBin (some .other) none .eql g4 (fun _ => (.int .i64 4))) s23 (
 kV g23 s22 (
 kIf g22
 (kP (oFaddr 2 g1) s24 (
 kP (oLoad noG false 1 g24) s25 (
 kP (oIaddrS 3 g25 (fun _ => (.int .i64 0))) s26 (
 kP (oLoad noG true 3 g26) s27 (
 kC ev fin (fun _ => (.fn 56 [] [])) (fun T => [g27 T]) s28 (
 kV g28 s29 (
 kG g29 false (fun n => kP (oFaddr 2 g1) s30 (n)) s30 (
 kG g29 false (fun n => kP (oLoad noG false 1 g30) s31 (n)) s31 (
 kG g29 false (fun n => kP (oIaddrS 3 g31 (fun _ => (.int .i64 1))) s32 (n)) s32 (
 kG g29 false (fun n => kP (oLoad noG true 3 g32) s33 (n)) s33 (
 kG g29 false (fun n => kC ev fin (fun _ => (.fn 56 [] [])) (fun T => [g33 T]) s34 (n)) s34 (
 kP (oPick g29 (fun _ => (.bool true)) g34) s35 (
 kV g35 s2 (
 (fin none)))))))))))))))
 (n0)))))))))))
 (kV (fun _ => (.bool false)) s2 (
 (fin none)))))))
def Lx.q56 : CRun := fun ev L args H => @Option.rec Tm (fun _ => CR) .fail (fun T => (fun fin : Fin => Lx.p56 ev fin L T H []) (finK Lx.dk ev L (fun T _ => some [g2 T]))) (argsTm args)
/-- slices.Clone[[]gobo/api.Range,gobo/api.Range] -/
def Lx.p57 (ev : Ev) (fin : Fin) (L : Nat) : K :=
 kV (fun _ => .nils) s2 (
 kV g0 s3 (
 kP (oBin (some .slice) none .eql g3 (fun _ => .nils)) s4 (
 (fun n0 : K =>
 kIf g4
 (kV (fun _ => .nils) s2 (
 (fin none)))
 (n0))
 (kR (oLit 2 0 [] (fun T => [])) s5 (
 kV g0 s6 (
 kR (oAppend 2 8 [(.int .i32 0), (.int .i32 0)] false g5 g6) s7 (
 kV g7 s2 (
 (fin none)))))))))
def Lx.q57 : CRun := fun ev L args H => @Option.rec Tm (fun _ => CR) .fail (fun T => (fun fin : Fin => Lx.p57 ev fin L T H []) (finK Lx.dk ev L (fun T _ => some [g2 T]))) (argsTm args)
/-- (*gobo/dfa.Dfa).Len -/
def Lx.p58 (ev : Ev) (fin : Fin) (L : Nat) : K :=
 kV (fun _ => (.int .i64 0)) s2 (
 kV g0 s3 (
 kP (oBin (some .ptr) none .eql g3 (fun _ => .nilp)) s4 (
 (fun n0 : K =>
 kIf g4
 (kV (fun _ => (.int .i64 0)) s2 (
 (fin none)))
 (n0))
 (kV g0 s5 (
 kP (oNilc g5) s6 (
 kP (oFaddr 1 g6) s7 (
 kP (oLoad noG false 1 g7) s8 (
 kP (oLen .sl g8) s9 (
 kV g9 s2 (
 (fin none)))))))))))
def Lx.q58 : CRun := fun ev L args H => @Option.rec Tm (fun _ => CR) .fail (fun T => (fun fin : Fin => Lx.p58 ev fin L T H []) (finK Lx.dk ev L (fun T _ => some [g2 T]))) (argsTm args)
/-- (*gobo/decode.Dec).take -/
def Lx.p59 (ev : Ev) (fin : Fin) (L : Nat) : K :=
 kV g0 s4 (
 kV g1 s5 (
 kC ev fin (fun _ => (.fn 83 [] [])) (fun T => [g4 T, g5 T]) s6 (
 (fun n1 : K =>
 kIf g6
 ((fin none))
 (n1))
 (kV g0 s7 (
 kP (oNilc g7) s8 (
 kP (oFaddr 0 g8) s9 (
 kP (oLoad noG false 1 g9) s10 (
 kP (oLen .sl g10) s11 (
 kP (oBin (some .other) none .gtr g11 (fun _ => (.int .i64 0))) s12 (
 (fun n0 : K =>
 kIf g12
 (kV g0 s13 (
 kC ev fin (fun _ => (.fn 61 [] [])) (fun T => [g13 T, (.bool true), (.bool true)]) s14 (
 kV g0 s15 (
 kV g1 s16 (
 kC ev fin (fun _ => (.fn 59 [] [])) (fun T => [g15 T, g16 T]) s17 (
 (fin none)))))))
 (n0))
 (kV g0 s18 (
 kV g1 s19 (
 kR (oLit 1 1 [(.int .u8 0)] (fun T => [(0, 1, g19 T)])) s20 (
 kP (oNilc g18) s21 (
 kP (oFaddr 0 g21) s22 (
 kM (oStore 1 g22 g20) dN (
 kV g0 s23 (
 kC ev fin (fun _ => (.fn 61 [] [])) (fun T => [g23 T, (.bool true), (.bool false)]) s24 (
 (fin none))))))))))))))))))))
def Lx.q59 : CRun := fun ev L args H => @Option.rec Tm (fun _ => CR) .fail (fun T => (fun fin : Fin => Lx.p59 ev fin L T H []) (finK Lx.dk ev L (fun T _ => some []))) (argsTm args)
/-- (*gobo/decode.Dec).taken -/
def Lx.p60 (ev : Ev) (fin : Fin) (L : Nat) : K :=
 kV (fun _ => .nils) s2 (
 kV g0 s4 (
 kP (oNilc g4) s5 (
 kP (oFaddr 3 g5) s6 (
 kP (oLoad noG false 1 g6) s7 (
 kV g7 s3 (
 kV g0 s8 (
 kP (oNilc g8) s9 (
 kP (oFaddr 3 g9) s10 (
 kM (oStore 1 g10 (fun _ => .nils)) dN (
 kV g3 s11 (
 kV g11 s2 (
 (fin none)))))))))))))
def Lx.q60 : CRun := fun ev L args H => @Option.rec Tm (fun _ => CR) .fail (fun T => (fun fin : Fin => Lx.p60 ev fin L T H []) (finK Lx.dk ev L (fun T _ => some [g2 T]))) (argsTm args)
/-- (*gobo/decode.Dec).tell -/
def Lx.p61 (ev : Ev) (fin : Fin) (L : Nat) : K :=
 kV g0 s7 (
 kP (oNilc g7) s8 (
 kP (oFaddr 1 g8) s9 (
 kP (oLoad noG false 1 g9) s10 (
 kV g0 s11 (
 kP (oNilc g11) s12 (
 kP (oFaddr 1 g12) s13 (
 kP (oLoad noG false 1 g13) s14 (
 kV g0 s15 (
 kP (oNilc g15) s16 (
 kP (oFaddr 0 g16) s17 (
 kP (oLoad noG false 1 g17) s18 (
 kP (oLen .sl g18) s19 (
 kP (oBin (some .other) none .add g14 g19) s20 (
 kV g1 s21 (
 kV g2 s22 (
 kP (oBuild [(.int .i32 0), (.int .i64 0), (.int .i64 0), (.bool false), (.bool false)] (fun T => [(0, 1, (.int .i32 65533)), (1, 1, g10 T), (2, 1, g20 T), (3, 1, g21 T), (4, 1, g22 T)])) s23 (
 kN (oCells [(.int .i32 0), (.int .i64 0), (.int .i64 0), (.bool false), (.bool false)]) s6 (
 kQ (oLoad noG false 1 g9) g10 (kQ (oLoad noG false 1 g13) g14 (kQ (oLoad noG false 1 g17) g18 (kQ (oLen .sl g18) g19 (kM (oStore 5 g6 g23) dN (
 kV g1 s24 (
 kP (oUn .not g24) s25 (
 (fun n0 : K =>
 kIf g25
 (kV g0 s27 (
 kP (oNilc g27) s28 (
 kP (oFaddr 0 g28) s29 (
 kP (oLoad noG false 1 g29) s30 (
 kC ev fin (fun _ => (.fn 84 [] [])) (fun T => [g30 T]) s31 (
 kV g31 s26 (
 kP (oExtract 0 g26) s32 (
 kP (oExtract 1 g26) s33 (
 kP (oFaddr 0 g6) s34 (
 kM (oStore 1 g34 g32) dN (
 n0)))))))))))
 (n0))
 (kV g0 s35 (
 kV g0 s36 (
 kP (oNilc g36) s37 (
 kP (oFaddr 3 g37) s38 (
 kP (oLoad noG false 1 g38) s39 (
 kP (oLoad noG true 5 g6) s40 (
 kP (oLitD 1 [(.int .i32 0), (.int .i64 0), (.int .i64 0), (.bool false), (.bool false)] (fun T => [(0, 5, g40 T)])) s41 (
 kR (oAppend 5 32 [(.int .i32 0), (.int .i64 0), (.int .i64 0), (.bool false), (.bool false)] false g39 g41) s42 (
 kP (oNilc g35) s43 (
 kP (oFaddr 3 g43) s44 (
 kM (oStore 1 g44 g42) dN (
 kV g0 s45 (
 kV g0 s46 (
 kP (oFaddr 2 g6) s47 (
 kP (oLoad noG false 1 g47) s48 (
 kP (oNilc g45) s49 (
 kP (oFaddr 0 g49) s50 (
 kM (oStore 1 g50 (fun _ => .nils)) dN (
 kQ (oLoad noG false 1 g47) g48 (kP (oNilc g46) s51 (
 kP (oFaddr 1 g51) s52 (
 kM (oStore 1 g52 g48) dN (
 (fin none)))))))))))))))))))))))))))))))))))))))))))))))))
def Lx.q61 : CRun := fun ev L args H => @Option.rec Tm (fun _ => CR) .fail (fun T => (fun fin : Fin => Lx.p61 ev fin L T H []) (finK Lx.dk ev L (fun T _ => some []))) (argsTm args)
/-- gobo/lexer.Next$1 -/
def Lx.p62 (ev : Ev) (fin : Fin) (L : Nat) : K :=
 kN (oBox g0) s3 (
 kV (fun _ => (.bool false)) s4 (
 kV (fun _ => (.int .i64 0)) s5 (
 kP (oLoad noG false 1 g1) s6 (
 kP (oLoad noG false 1 g2) s7 (
 kP (oFaddr 0 g3) s8 (
 kP (oLoad noG false 1 g8) s9 (
 kC ev fin (fun _ => (.fn 63 [] [])) (fun T => [g6 T, g7 T, g9 T]) s10 (
 kM (oStore 1 g2 g10) dN (
 kP (oLoad noG false 1 g2) s11 (
 kP (oBin (some .other) none .geq g11 (fun _ => (.int .i64 0))) s12 (
 kP (oLoad noG false 1 g1) s13 (
 kP (oLoad noG false 1 g2) s14 (
 kC ev (fun _ => kFail) (fun _ => (.fn 64 [] [])) (fun T => [g13 T, g14 T]) s15 (
 kQ (oLoad noG false 1 g2) g11 (kV g12 s4 (
 kV g15 s5 (
 (fin none))))))))))))))))))
def Lx.q62 : CRun := fun ev L args H => @Option.rec Tm (fun _ => CR) .fail (fun T => (fun fin : Fin => Lx.p62 ev fin L T H []) (finK Lx.dk ev L (fun T _ => some [g4 T, g5 T]))) (argsTm args)
/-- (*gobo/mini.Mini).Step -/
def Lx.p63 (ev : Ev) (fin : Fin) (L : Nat) : K :=
 kV (fun _ => (.int .i64 0)) s6 (
 kV g0 s7 (
 kP (oBin (some .ptr) none .eql g7 (fun _ => .nilp)) s8 (
 (fun n0 : K =>
 kIf g8
 (kV (fun _ => (.int .i64 (.negSucc 0))) s6 (
 (fin none)))
 (n0))
 (kV g0 s9 (
 kV g1 s10 (
 kV g0 s11 (
 kP (oNilc g11) s12 (
 kP (oFaddr 0 g12) s13 (
 kP (oLoad noG false 1 g13) s14 (
 kV g2 s15 (
 kC ev fin (fun _ => (.fn 86 [] [])) (fun T => [g14 T, g15 T]) s16 (
 kC ev fin (fun _ => (.fn 85 [] [])) (fun T => [g9 T, g10 T, g16 T]) s17 (
 kV g17 s6 (
 (fin none)))))))))))))))
def Lx.q63 : CRun := fun ev L args H => @Option.rec Tm (fun _ => CR) .fail (fun T => (fun fin : Fin => Lx.p63 ev fin L T H []) (finK Lx.dk ev L (fun T _ => some [g6 T]))) (argsTm args)
/-- (*gobo/mini.Mini).Rule -/
def Lx.p64 (ev : Ev) (fin : Fin) (L : Nat) : K :=
 kV (fun _ => (.int .i64 0)) s4 (
 kV g0 s5 (
 kP (oBin (some .ptr) none .eql g5 (fun _ => .nilp)) s6 (
 kV g6 s7 (
 kG g7 false (fun n => kV g1 s8 (n)) s8 (
 kG g7 false (fun n => kP (oBin (some .other) none .lss g8 (fun _ => (.int .i64 0))) s9 (n)) s9 (
 kP (oPick g7 (fun _ => (.bool true)) g9) s10 (
 kV g10 s11 (
 kG g11 false (fun n => kV g1 s12 (n)) s12 (
 kG g11 false (fun n => kV g0 s13 (n)) s13 (
 kG g11 false (fun n => kP (oNilc g13) s14 (n)) s14 (
 kG g11 false (fun n => kP (oFaddr 2 g14) s15 (n)) s15 (
 kG g11 false (fun n => kP (oLoad noG false 1 g15) s16 (n)) s16 (
 kG g11 false (fun n => kP (oLen .sl g16) s17 (n)) s17 (
 kG g11 false (fun n => kP (oBin (some .other) none .geq g12 g17) s18 (n)) s18 (
 kP (oPick g11 (fun _ => (.bool true)) g18) s19 (
 (fun n0 : K =>
 kIf g19
 (kV (fun _ => (.int .i64 (.negSucc 0))) s4 (
 (fin none)))
 (n0))
 (kV g0 s20 (
 kP (oNilc g20) s21 (
 kP (oFaddr 2 g21) s22 (
 kP (oLoad noG false 1 g22) s23 (
 kV g1 s24 (
 kP (oIaddrS 1 g23 g24) s25 (
 kP (oLoad noG false 1 g25) s26 (
 kV g26 s4 (
 (fin none))))))))))))))))))))))))))
def Lx.q64 : CRun := fun ev L args H => @Option.rec Tm (fun _ => CR) .fail (fun T => (fun fin : Fin => Lx.p64 ev fin L T H []) (finK Lx.dk ev L (fun T _ => some [g4 T]))) (argsTm args)
/-- (*gobo/nfa.Nfa).Len -/
def Lx.p65 (ev : Ev) (fin : Fin) (L : Nat) : K :=
 kV (fun _ => (.int .i64 0)) s2 (
 kV g0 s3 (
 kP (oBin (some .ptr) none .eql g3 (fun _ => .nilp)) s4 (
 (fun n0 : K =>
 kIf g4
 (kV (fun _ => (.int .i64 0)) s2 (
 (fin none)))
 (n0))
 (kV g0 s5 (
 kP (oNilc g5) s6 (
 kP (oFaddr 0 g6) s7 (
 kP (oLoad noG false 1 g7) s8 (
 kP (oLen .sl g8) s9 (
 kV g9 s2 (
 (fin none)))))))))))
def Lx.q65 : CRun := fun ev L args H => @Option.rec Tm (fun _ => CR) .fail (fun T => (fun fin : Fin => Lx.p65 ev fin L T H []) (finK Lx.dk ev L (fun T _ => some [g2 T]))) (argsTm args)
/-- slices.ContainsFunc[[]int,int] -/
def Lx.p66 (ev : Ev) (fin : Fin) (L : Nat) : K :=
 kV (fun _ => (.bool false)) s4 (
 kV g0 s5 (
 kV g1 s6 (
 kC ev fin (fun _ => (.fn 68 [] [])) (fun T => [g5 T, g6 T]) s7 (
 kP (oBin (some .other) none .geq g7 (fun _ => (.int .i64 0))) s8 (
 kV g8 s4 (
 (fin none)))))))
def Lx.q66 : CRun := fun ev L args H => @Option.rec Tm (fun _ => CR) .fail (fun T => (fun fin : Fin => Lx.p66 ev fin L T H []) (finK Lx.dk ev L (fun T _ => some [g4 T]))) (argsTm args)
/-- gobo/lexer.live$1 -/
def Lx.p67 (ev : Ev) (fin : Fin) (L : Nat) : K :=
 kV (fun _ => (.bool false)) s3 (
 kP (oLoad noG false 1 g1) s4 (
 kV g0 s5 (
 kP (oIaddrS 1 g4 g5) s6 (
 kP (oLoad noG false 1 g6) s7 (
 kV g7 s3 (
 (fin none)))))))
def Lx.q67 : CRun := fun ev L args H => @Option.rec Tm (fun _ => CR) .fail (fun T => (fun fin : Fin => Lx.p67 ev fin L T H []) (finK Lx.dk ev L (fun T _ => some [g3 T]))) (argsTm args)
/-- slices.IndexFunc[[]int,int] -/
def Lx.p68 (ev : Ev) (fin : Fin) (L : Nat) : K :=
 kV (fun _ => (.int .i64 0)) s4 (
 kV g0 s6 (
 kP (oLen .sl g6) s7 (
 kV (fun _ => (.int .i64 0)) s8 (
 (fun n0 : K =>
 kLoop (fun n1 : K =>
 kP (oBin (some .other) none .lss g8 g7) s9 (
 (fun n3 : K =>
 kIf g9
 (n3)
 (n0))
 ((fun n2 : K =>
 kV g8 s10 (
 kV g10 s5 (
 kV g1 s11 (
 kV g0 s12 (
 kV g5 s13 (
 kP (oIaddrS 1 g12 g13) s14 (
 kP (oLoad noG false 1 g14) s15 (
 kC ev fin g11 (fun T => [g15 T]) s16 (
 kIf g16
 (kV g5 s17 (
 kV g17 s4 (
 (fin none))))
 (n2))))))))))
 (kP (oBin (some .other) none .add g8 (fun _ => (.int .i64 1))) s18 (
 kV g18 s8 (
 n1)))))) L)
 (kV (fun _ => (.int .i64 (.negSucc 0))) s4 (
 (fin none)))))))
def Lx.q68 : CRun := fun ev L args H => @Option.rec Tm (fun _ => CR) .fail (fun T => (fun fin : Fin => Lx.p68 ev fin L T H []) (finK Lx.dk ev L (fun T _ => some [g4 T]))) (argsTm args)
/-- gobo/regex.within$1 -/
def Lx.p69 (ev : Ev) (fin : Fin) (L : Nat) : K :=
 kN (oBox g0) s4 (
 kN (oBox g1) s5 (
 kV (fun _ => (.bool false)) s6 (
 kP (oLoad noG false 1 g2) s7 (
 kP (oBin (some .other) none .sub g7 (fun _ => (.int .i64 1))) s8 (
 kM (oStore 1 g2 g8) dN (
 kP (oLoad noG false 1 g2) s9 (
 kP (oBin (some .other) none .geq g9 (fun _ => (.int .i64 0))) s10 (
 kV g10 s11 (
 kG g11 true (fun n => kP (oLoad noG false 1 g5) s12 (n)) s12 (
 kG g11 true (fun n => kP (oBin (some .other) none .leq g12 (fun _ => (.int .i64 12))) s13 (n)) s13 (
 kP (oPick g11 g13 (fun _ => (.bool false))) s14 (
 kV g14 s15 (
 kG g15 true (fun n => kP (oFaddr 2 g4) s16 (n)) s16 (
 kG g15 true (fun n => kP (oLoad noG false 1 g16) s17 (n)) s17 (
 kG g15 true (fun n => kV (oFn 70 (fun T => []) (fun T => [g3 T, g5 T])) s18 (n)) s18 (
 kG g15 true (fun n => kC ev fin (fun _ => (.fn 21 [] [])) (fun T => [g17 T, g18 T]) s19 (n)) s19 (
 kG g15 true (fun n => kP (oUn .not g19) s20 (n)) s20 (
 kP (oPick g15 g20 (fun _ => (.bool false))) s21 (
 kV g21 s6 (
 (fin none)))))))))))))))))))))
def Lx.q69 : CRun := fun ev L args H => @Option.rec Tm (fun _ => CR) .fail (fun T => (fun fin : Fin => Lx.p69 ev fin L T H []) (finK Lx.dk ev L (fun T _ => some [g6 T]))) (argsTm args)
/-- gobo/regex.within$1$1 -/
def Lx.p70 (ev : Ev) (fin : Fin) (L : Nat) : K :=
 kN (oBox g0) s3 (
 kV (fun _ => (.bool false)) s4 (
 kP (oLoad noG false 1 g1) s5 (
 kP (oLoad noG true 3 g3) s6 (
 kP (oLoad noG false 1 g2) s7 (
 kP (oBin (some .other) none .add g7 (fun _ => (.int .i64 1))) s8 (
 kC ev fin g5 (fun T => [g6 T, g8 T]) s9 (
 kP (oUn .not g9) s10 (
 kV g10 s4 (
 (fin none))))))))))
def Lx.q70 : CRun := fun ev L args H => @Option.rec Tm (fun _ => CR) .fail (fun T => (fun fin : Fin => Lx.p70 ev fin L T H []) (finK Lx.dk ev L (fun T _ => some [g4 T]))) (argsTm args)
/-- gobo/regex.parts -/
def Lx.p71 (ev : Ev) (fin : Fin) (L : Nat) : K :=
 kV (fun _ => (.int .i64 0)) s2 (
 kV g0 s3 (
 (fun n0 : K =>
 kP (oBin (some .other) none .eql g3 (fun _ => (.int .i64 0))) s5 (
 kV g5 s4 (
 (fun n2 : K =>
 kIf g4
 (n2)
 (kP (oBin (some .other) none .eql g3 (fun _ => (.int .i64 1))) s6 (
 kV g6 s4 (
 kIf g4
 (n2)
 (kP (oBin (some .other) none .eql g3 (fun _ => (.int .i64 2))) s7 (
 kV g7 s4 (
 n2)))))))
 (kIf g4
 (kV (fun _ => (.int .i64 0)) s2 (
 (fin none)))
 (kP (oBin (some .other) none .eql g3 (fun _ => (.int .i64 3))) s9 (
 kV g9 s8 (
 (fun n1 : K =>
 kIf g8
 (n1)
 (kP (oBin (some .other) none .eql g3 (fun _ => (.int .i64 4))) s10 (
 kV g10 s8 (
 n1))))
 (kIf g8
 (kV (fun _ => (.int .i64 2)) s2 (
 (fin none)))
 (kP (oBin (some .other) none .eql g3 (fun _ => (.int .i64 5))) s12 (
 kV g12 s11 (
 kIf g11
 (kV (fun _ => (.int .i64 1)) s2 (
 (fin none)))
 (n0))))))))))))
 (kV (fun _ => (.int .i64 (.negSucc 0))) s2 (
 (fin none)))))
def Lx.q71 : CRun := fun ev L args H => @Option.rec Tm (fun _ => CR) .fail (fun T => (fun fin : Fin => Lx.p71 ev fin L T H []) (finK Lx.dk ev L (fun T _ => some [g2 T]))) (argsTm args)
/-- gobo/regex.may$1 -/
def Lx.p72 (ev : Ev) (fin : Fin) (L : Nat) : K :=
 kN (oBox g0) s1 (
 kV (fun _ => (.bool false)) s2 (
 kP (oLoad noG true 3 g1) s3 (
 kC ev fin (fun _ => (.fn 48 [] [])) (fun T => [g3 T]) s4 (
 kP (oUn .not g4) s5 (
 kV g5 s2 (
 (fin none)))))))
def Lx.q72 : CRun := fun ev L args H => @Option.rec Tm (fun _ => CR) .fail (fun T => (fun fin : Fin => Lx.p72 ev fin L T H []) (finK Lx.dk ev L (fun T _ => some [g2 T]))) (argsTm args)
/-- gobo/runes.May -/
def Lx.p73 (ev : Ev) (fin : Fin) (L : Nat) : K :=
 kV (fun _ => (.bool false)) s2 (
 kV g0 s3 (
 kV g0 s4 (
 kC ev fin (fun _ => (.fn 88 [] [])) (fun T => [g4 T]) s5 (
 kC ev fin (fun _ => (.fn 87 [] [])) (fun T => [g3 T, g5 T]) s6 (
 kV g6 s2 (
 (fin none)))))))
def Lx.q73 : CRun := fun ev L args H => @Option.rec Tm (fun _ => CR) .fail (fun T => (fun fin : Fin => Lx.p73 ev fin L T H []) (finK Lx.dk ev L (fun T _ => some [g2 T]))) (argsTm args)
/-- slices.Grow[[]int,int] -/
def Lx.p74 (ev : Ev) (fin : Fin) (L : Nat) : K :=
 kV (fun _ => .nils) s4 (
 kV g1 s5 (
 kP (oBin (some .other) none .lss g5 (fun _ => (.int .i64 0))) s6 (
 (fun n1 : K =>
 kIf g6
 (kV (oIface 9 (fun _ => (.str ⟨#[99, 97, 110, 110, 111, 116, 32, 98, 101, 32, 110, 101, 103, 97, 116, 105, 118, 101]⟩))) s7 (
 kX fin g7))
 (n1))
 (kV g1 s8 (
 kV g0 s9 (
 kP (oCap g9) s10 (
 kV g0 s11 (
 kP (oLen .sl g11) s12 (
 kP (oBin (some .other) none .sub g10 g12) s13 (
 kP (oBin (some .other) none .sub g8 g13) s14 (
 kV g14 s1 (
 kV g1 s15 (
 kP (oBin (some .other) none .gtr g15 (fun _ => (.int .i64 0))) s16 (
 (fun n0 : K =>
 kIf g16
 (kV g0 s17 (
 kV g0 s18 (
 kP (oCap g18) s19 (
 kP (oSlice noG (.sl 1) g17 (fun _ => none) (fun T => some (g19 T)) (fun _ => none)) s20 (
 kV g1 s21 (
 kR (oAppend 1 8 [(.int .i64 0)] true g20 g21) s22 (
 kV g0 s23 (
 kP (oLen .sl g23) s24 (
 kP (oSlice noG (.sl 1) g22 (fun _ => none) (fun T => some (g24 T)) (fun _ => none)) s25 (
 kV g25 s0 (
 n0)))))))))))
 (n0))
 (kV g0 s26 (
 kV g26 s4 (
 (fin none))))))))))))))))))
def Lx.q74 : CRun := fun ev L args H => @Option.rec Tm (fun _ => CR) .fail (fun T => (fun fin : Fin => Lx.p74 ev fin L T H []) (finK Lx.dk ev L (fun T _ => some [g4 T]))) (argsTm args)
/-- slices.pdqsortOrdered[int] -/
def Lx.p75 (ev : Ev) (fin : Fin) (L : Nat) : K :=
 kV (fun _ => (.bool true)) s8 (
 kV (fun _ => (.bool true)) s9 (
 kLoop (fun n0 : K =>
 kV g2 s19 (
 kV g1 s20 (
 kP (oBin (some .other) none .sub g19 g20) s21 (
 kV g21 s10 (
 kV g10 s22 (
 kP (oBin (some .other) none .leq g22 (fun _ => (.int .i64 12))) s23 (
 (fun n6 : K =>
 kIf g23
 (kV g0 s24 (
 kV g1 s25 (
 kV g2 s26 (
 kC ev fin (fun _ => (.fn 89 [] [])) (fun T => [g24 T, g25 T, g26 T]) s27 (
 (fin none))))))
 (n6))
 (kV g3 s28 (
 kP (oBin (some .other) none .eql g28 (fun _ => (.int .i64 0))) s29 (
 (fun n5 : K =>
 kIf g29
 (kV g0 s30 (
 kV g1 s31 (
 kV g2 s32 (
 kC ev fin (fun _ => (.fn 90 [] [])) (fun T => [g30 T, g31 T, g32 T]) s33 (
 (fin none))))))
 (n5))
 (kV g8 s34 (
 kP (oUn .not g34) s35 (
 (fun n4 : K =>
 kIf g35
 (kV g0 s36 (
 kV g1 s37 (
 kV g2 s38 (
 kC ev fin (fun _ => (.fn 91 [] [])) (fun T => [g36 T, g37 T, g38 T]) s39 (
 kV g3 s40 (
 kP (oBin (some .other) none .sub g40 (fun _ => (.int .i64 1))) s41 (
 kV g41 s3 (
 n4))))))))
 (n4))
 (kV g0 s43 (
 kV g1 s44 (
 kV g2 s45 (
 kC ev fin (fun _ => (.fn 92 [] [])) (fun T => [g43 T, g44 T, g45 T]) s46 (
 kV g46 s42 (
 kP (oExtract 0 g42) s47 (
 kP (oExtract 1 g42) s48 (
 kV g47 s11 (
 kV g48 s12 (
 kV g12 s49 (
 kP (oBin (some .other) none .eql g49 (fun _ => (.int .i64 2))) s50 (
 (fun n3 : K =>
 kIf g50
 (kV g0 s51 (
 kV g1 s52 (
 kV g2 s53 (
 kC ev fin (fun _ => (.fn 93 [] [])) (fun T => [g51 T, g52 T, g53 T]) s54 (
 kV g2 s55 (
 kP (oBin (some .other) none .sub g55 (fun _ => (.int .i64 1))) s56 (
 kV g11 s57 (
 kV g1 s58 (
 kP (oBin (some .other) none .sub g57 g58) s59 (
 kP (oBin (some .other) none .sub g56 g59) s60 (
 kV g60 s11 (
 kV (fun _ => (.int .i64 1)) s12 (
 n3)))))))))))))
 (n3))
 (kV g8 s61 (
 kV g61 s62 (
 kG g62 true (fun n => kV g9 s63 (n)) s63 (
 kP (oPick g62 g63 (fun _ => (.bool false))) s64 (
 kV g64 s65 (
 kG g65 true (fun n => kV g12 s66 (n)) s66 (
 kG g65 true (fun n => kP (oBin (some .other) none .eql g66 (fun _ => (.int .i64 1))) s67 (n)) s67 (
 kP (oPick g65 g67 (fun _ => (.bool false))) s68 (
 (fun n2 : K =>
 kIf g68
 (kV g0 s69 (
 kV g1 s70 (
 kV g2 s71 (
 kC ev fin (fun _ => (.fn 94 [] [])) (fun T => [g69 T, g70 T, g71 T]) s72 (
 kIf g72
 ((fin none))
 (n2))))))
 (n2))
 (kV g1 s73 (
 kP (oBin (some .other) none .gtr g73 (fun _ => (.int .i64 0))) s74 (
 kV g74 s75 (
 kG g75 true (fun n => kV g0 s76 (n)) s76 (
 kG g75 true (fun n => kV g1 s77 (n)) s77 (
 kG g75 true (fun n => kP (oBin (some .other) none .sub g77 (fun _ => (.int .i64 1))) s78 (n)) s78 (
 kG g75 true (fun n => kP (oIaddrS 1 g76 g78) s79 (n)) s79 (
 kG g75 true (fun n => kP (oLoad noG false 1 g79) s80 (n)) s80 (
 kG g75 true (fun n => kV g0 s81 (n)) s81 (
 kG g75 true (fun n => kV g11 s82 (n)) s82 (
 kG g75 true (fun n => kP (oIaddrS 1 g81 g82) s83 (n)) s83 (
 kG g75 true (fun n => kP (oLoad noG false 1 g83) s84 (n)) s84 (
 kG g75 true (fun n => kC ev (fun _ => kFail) (fun _ => (.fn 95 [] [])) (fun T => [g80 T, g84 T]) s85 (n)) s85 (
 kG g75 true (fun n => kP (oUn .not g85) s86 (n)) s86 (
 kP (oPick g75 g86 (fun _ => (.bool false))) s87 (
 (fun n1 : K =>
 kIf g87
 (kV g0 s88 (
 kV g1 s89 (
 kV g2 s90 (
 kV g11 s91 (
 kC ev fin (fun _ => (.fn 96 [] [])) (fun T => [g88 T, g89 T, g90 T, g91 T]) s92 (
 kV g92 s13 (
 kV g13 s93 (
 kV g93 s1 (
 n0)))))))))
 (n1))
 (kV g0 s95 (
 kV g1 s96 (
 kV g2 s97 (
 kV g11 s98 (
 kC ev fin (fun _ => (.fn 97 [] [])) (fun T => [g95 T, g96 T, g97 T, g98 T]) s99 (
 kV g99 s94 (
 kP (oExtract 0 g94) s100 (
 kP (oExtract 1 g94) s101 (
 kV g100 s14 (
 kV g101 s15 (
 kV g15 s102 (
 kV g102 s9 (
 kV g14 s103 (
 kV g1 s104 (
 kP (oBin (some .other) none .sub g103 g104) s105 (
 kV g2 s106 (
 kV g14 s107 (
 kP (oBin (some .other) none .sub g106 g107) s108 (
 kV g105 s16 (
 kV g108 s17 (
 kV g10 s109 (
 kP (oBin (some .other) none .quo g109 (fun _ => (.int .i64 8))) s110 (
 kV g110 s18 (
 kV g16 s111 (
 kV g17 s112 (
 kP (oBin (some .other) none .lss g111 g112) s113 (
 kIf g113
 (kV g16 s114 (
 kV g18 s115 (
 kP (oBin (some .other) none .geq g114 g115) s116 (
 kV g116 s8 (
 kV g0 s117 (
 kV g1 s118 (
 kV g14 s119 (
 kV g3 s120 (
 kC ev fin (fun _ => (.fn 75 [] [])) (fun T => [g117 T, g118 T, g119 T, g120 T]) s121 (
 kV g14 s122 (
 kP (oBin (some .other) none .add g122 (fun _ => (.int .i64 1))) s123 (
 kV g123 s1 (
 n0)))))))))))))
 (kV g17 s124 (
 kV g18 s125 (
 kP (oBin (some .other) none .geq g124 g125) s126 (
 kV g126 s8 (
 kV g0 s127 (
 kV g14 s128 (
 kP (oBin (some .other) none .add g128 (fun _ => (.int .i64 1))) s129 (
 kV g2 s130 (
 kV g3 s131 (
 kC ev fin (fun _ => (.fn 75 [] [])) (fun T => [g127 T, g129 T, g130 T, g131 T]) s132 (
 kV g14 s133 (
 kV g133 s2 (
 n0)))))))))))))))))))))))))))))))))))))))))))))))))))))))))))))))))))))))))))))))))))))))))) L))
def Lx.q75 : CRun := fun ev L args H => @Option.rec Tm (fun _ => CR) .fail (fun T => (fun fin : Fin => Lx.p75 ev fin L T H []) (finK Lx.dk ev L (fun T _ => some []))) (argsTm args)
/-- math/bits.Len -/
def Lx.p76 (ev : Ev) (fin : Fin) (L : Nat) : K :=
 kV (fun _ => (.int .i64 0)) s2 (
 (fun n0 : K =>
 kIf (fun _ => (.bool false))
 (kV g0 s3 (
 kR (oConv (.int .u32) g3) s4 (
 kC ev fin (fun _ => (.fn 98 [] [])) (fun T => [g4 T]) s5 (
 kV g5 s2 (
 (fin none))))))
 (n0))
 (kV g0 s6 (
 kC ev fin (fun _ => (.fn 99 [] [])) (fun T => [g6 T]) s7 (
 kV g7 s2 (
 (fin none))))))
def Lx.q76 : CRun := fun ev L args H => @Option.rec Tm (fun _ => CR) .fail (fun T => (fun fin : Fin => Lx.p76 ev fin L T H []) (finK Lx.dk ev L (fun T _ => some [g2 T]))) (argsTm args)
/-- gobo/runes.spans -/
def Lx.p77 (ev : Ev) (fin : Fin) (L : Nat) : K :=
 kV (fun _ => .nils) s2 (
 kV (fun _ => .nils) s3 (
 kV g0 s11 (
 kP (oLen .sl g11) s12 (
 kV (fun _ => (.int .i64 0)) s13 (
 (fun n4 : K =>
 kLoop (fun n5 : K =>
 kP (oBin (some .other) none .lss g13 g12) s14 (
 (fun n7 : K =>
 kIf g14
 (n7)
 (n4))
 ((fun n6 : K =>
 kP (oIaddrS 2 g11 g13) s15 (
 kP (oLoad noG true 2 g15) s16 (
 kN (oCells [(.int .i32 0), (.int .i32 0)]) s5 (
 kM (oStore 2 g5 g16) dN (
 kP (oFaddr 0 g5) s17 (
 kP (oLoad noG false 1 g17) s18 (
 kP (oFaddr 1 g5) s20 (
 kP (oLoad noG false 1 g20) s21 (
 kC ev (fun _ => kFail) (fun _ => (.fn 100 [] [])) (fun T => [g18 T]) s19 (
 kQ (oLoad noG false 1 g20) g21 (kC ev (fun _ => kFail) (fun _ => (.fn 101 [] [])) (fun T => [g21 T]) s22 (
 kP (oBuild [(.int .i64 0), (.int .i64 0)] (fun T => [(0, 1, g19 T), (1, 1, g22 T)])) s23 (
 kN (oCells [(.int .i64 0), (.int .i64 0)]) s6 (
 kQ (oLoad noG false 1 g17) g18 (kQ (oLoad noG false 1 g20) g21 (kM (oStore 2 g6 g23) dN (
 kP (oFaddr 0 g5) s24 (
 kP (oLoad noG false 1 g24) s25 (
 kP (oFaddr 1 g5) s26 (
 kP (oLoad noG false 1 g26) s27 (
 kP (oBin (some .other) none .leq g25 g27) s28 (
 kV g28 s29 (
 kG g29 true (fun n => kP (oFaddr 0 g6) s30 (n)) s30 (
 kG g29 true (fun n => kP (oLoad noG false 1 g30) s31 (n)) s31 (
 kG g29 true (fun n => kP (oFaddr 1 g6) s32 (n)) s32 (
 kG g29 true (fun n => kP (oLoad noG false 1 g32) s33 (n)) s33 (
 kG g29 true (fun n => kP (oBin (some .other) none .lss g31 g33) s34 (n)) s34 (
 kP (oPick g29 g34 (fun _ => (.bool false))) s35 (
 kIf g35
 (kV g3 s36 (
 kP (oLoad noG true 2 g6) s37 (
 kR (oLit 2 1 [(.int .i64 0), (.int .i64 0)] (fun T => [(0, 2, g37 T)])) s38 (
 kR (oAppend 2 16 [(.int .i64 0), (.int .i64 0)] false g36 g38) s39 (
 kV g39 s3 (
 n6))))))
 (n6))))))))))))))))))))))))))))))
 (kP (oBin (some .other) none .add g13 (fun _ => (.int .i64 1))) s40 (
 kV g40 s13 (
 n5)))))) L)
 (kV g3 s41 (
 kC ev fin (fun _ => (.fn 102 [] [])) (fun T => [g41 T, (.fn 103 [] [])]) s42 (
 kV (fun _ => .nils) s7 (
 kV g3 s43 (
 kP (oLen .sl g43) s44 (
 kV (fun _ => (.int .i64 0)) s45 (
 (fun n0 : K =>
 kLoop (fun n1 : K =>
 kP (oBin (some .other) none .lss g45 g44) s46 (
 (fun n3 : K =>
 kIf g46
 (n3)
 (n0))
 ((fun n2 : K =>
 kP (oIaddrS 2 g43 g45) s47 (
 kP (oLoad noG true 2 g47) s48 (
 kN (oCells [(.int .i64 0), (.int .i64 0)]) s9 (
 kM (oStore 2 g9 g48) dN (
 kV g7 s49 (
 kP (oLen .sl g49) s50 (
 kV g50 s10 (
 kV g10 s51 (
 kP (oBin (some .other) none .gtr g51 (fun _ => (.int .i64 0))) s52 (
 kV g52 s53 (
 kG g53 true (fun n => kP (oFaddr 0 g9) s54 (n)) s54 (
 kG g53 true (fun n => kP (oLoad noG false 1 g54) s55 (n)) s55 (
 kG g53 true (fun n => kV g7 s56 (n)) s56 (
 kG g53 true (fun n => kV g10 s57 (n)) s57 (
 kG g53 true (fun n => kP (oBin (some .other) none .sub g57 (fun _ => (.int .i64 1))) s58 (n)) s58 (
 kG g53 true (fun n => kP (oIaddrS 2 g56 g58) s59 (n)) s59 (
 kG g53 true (fun n => kP (oFaddr 1 g59) s60 (n)) s60 (
 kG g53 true (fun n => kP (oLoad noG false 1 g60) s61 (n)) s61 (
 kG g53 true (fun n => kP (oBin (some .other) none .leq g55 g61) s62 (n)) s62 (
 kP (oPick g53 g62 (fun _ => (.bool false))) s63 (
 kIf g63
 (kV g7 s64 (
 kV g10 s65 (
 kP (oBin (some .other) none .sub g65 (fun _ => (.int .i64 1))) s66 (
 kV g7 s67 (
 kV g10 s68 (
 kP (oBin (some .other) none .sub g68 (fun _ => (.int .i64 1))) s69 (
 kP (oIaddrS 2 g67 g69) s70 (
 kP (oFaddr 1 g70) s71 (
 kP (oLoad noG false 1 g71) s72 (
 kP (oFaddr 1 g9) s73 (
 kP (oLoad noG false 1 g73) s74 (
 kP (oMax g72 g74) s75 (
 kP (oIaddrS 2 g64 g66) s76 (
 kP (oFaddr 1 g76) s77 (
 kM (oStore 1 g77 g75) dN (
 n2))))))))))))))))
 (kV g7 s78 (
 kP (oLoad noG true 2 g9) s79 (
 kR (oLit 2 1 [(.int .i64 0), (.int .i64 0)] (fun T => [(0, 2, g79 T)])) s80 (
 kR (oAppend 2 16 [(.int .i64 0), (.int .i64 0)] false g78 g80) s81 (
 kV g81 s7 (
 n2)))))))))))))))))))))))))))
 (kP (oBin (some .other) none .add g45 (fun _ => (.int .i64 1))) s82 (
 kV g82 s45 (
 n1)))))) L)
 (kV g7 s83 (
 kV g83 s2 (
 (fin none))))))))))))))))
def Lx.q77 : CRun := fun ev L args H => @Option.rec Tm (fun _ => CR) .fail (fun T => (fun fin : Fin => Lx.p77 ev fin L T H []) (finK Lx.dk ev L (fun T _ => some [g2 T]))) (argsTm args)
/-- gobo/runes.ranges -/
def Lx.p78 (ev : Ev) (fin : Fin) (L : Nat) : K :=
 kV (fun _ => .nils) s2 (
 kV (fun _ => .nils) s3 (
 kV g0 s6 (
 kP (oLen .sl g6) s7 (
 kV (fun _ => (.int .i64 0)) s8 (
 (fun n0 : K =>
 kLoop (fun n1 : K =>
 kP (oBin (some .other) none .lss g8 g7) s9 (
 (fun n3 : K =>
 kIf g9
 (n3)
 (n0))
 ((fun n2 : K =>
 kP (oIaddrS 2 g6 g8) s10 (
 kP (oLoad noG true 2 g10) s11 (
 kN (oCells [(.int .i64 0), (.int .i64 0)]) s5 (
 kM (oStore 2 g5 g11) dN (
 kV g3 s12 (
 kP (oFaddr 0 g5) s13 (
 kP (oLoad noG false 1 g13) s14 (
 kP (oFaddr 1 g5) s16 (
 kP (oLoad noG false 1 g16) s17 (
 kP (oBin (some .other) none .sub g17 (fun _ => (.int .i64 1))) s18 (
 kC ev (fun _ => kFail) (fun _ => (.fn 105 [] [])) (fun T => [g14 T]) s15 (
 kQ (oLoad noG false 1 g16) g17 (kC ev (fun _ => kFail) (fun _ => (.fn 105 [] [])) (fun T => [g18 T]) s19 (
 kP (oBuild [(.int .i32 0), (.int .i32 0)] (fun T => [(0, 1, g15 T), (1, 1, g19 T)])) s20 (
 kP (oLitD 1 [(.int .i32 0), (.int .i32 0)] (fun T => [(0, 2, g20 T)])) s21 (
 kR (oAppend 2 8 [(.int .i32 0), (.int .i32 0)] false g12 g21) s22 (
 kV g22 s3 (
 n2))))))))))))))))))
 (kP (oBin (some .other) none .add g8 (fun _ => (.int .i64 1))) s23 (
 kV g23 s8 (
 n1)))))) L)
 (kV g3 s24 (
 kV g24 s2 (
 (fin none)))))))))
def Lx.q78 : CRun := fun ev L args H => @Option.rec Tm (fun _ => CR) .fail (fun T => (fun fin : Fin => Lx.p78 ev fin L T H []) (finK Lx.dk ev L (fun T _ => some [g2 T]))) (argsTm args)
/-- internal/strconv.AppendInt -/
def Lx.p79 (ev : Ev) (fin : Fin) (L : Nat) : K :=
 kV (fun _ => .nils) s6 (
 kV g1 s8 (
 kR (oConv (.int .u64) g8) s9 (
 kV g9 s7 (
 kV g1 s10 (
 kP (oBin (some .other) none .lss g10 (fun _ => (.int .i64 0))) s11 (
 (fun n0 : K =>
 kIf g11
 (kV g0 s12 (
 kR (oLit 1 1 [(.int .u8 0)] (fun T => [(0, 1, (.int .u8 45))])) s13 (
 kR (oAppend 1 1 [(.int .u8 0)] false g12 g13) s14 (
 kV g14 s0 (
 kV g7 s15 (
 kP (oUn .neg g15) s16 (
 kV g16 s7 (
 n0))))))))
 (n0))
 (kV g0 s17 (
 kV g7 s18 (
 kV g2 s19 (
 kC ev fin (fun _ => (.fn 106 [] [])) (fun T => [g17 T, g18 T, g19 T]) s20 (
 kV g20 s6 (
 (fin none)))))))))))))
def Lx.q79 : CRun := fun ev L args H => @Option.rec Tm (fun _ => CR) .fail (fun T => (fun fin : Fin => Lx.p79 ev fin L T H []) (finK Lx.dk ev L (fun T _ => some [g6 T]))) (argsTm args)
/-- gobo/runes.is -/
def Lx.p80 (ev : Ev) (fin : Fin) (L : Nat) : K :=
 kV (fun _ => (.bool false)) s2 (
 kV g0 s3 (
 kP (oBin (some .other) none .geq g3 (fun _ => (.int .i32 0))) s4 (
 kV g4 s5 (
 kG g5 true (fun n => kV g0 s6 (n)) s6 (
 kG g5 true (fun n => kP (oBin (some .other) none .lss g6 (fun _ => (.int .i32 55296))) s7 (n)) s7 (
 kP (oPick g5 g7 (fun _ => (.bool false))) s8 (
 kV g8 s9 (
 kG g9 false (fun n => kV g0 s10 (n)) s10 (
 kG g9 false (fun n => kP (oBin (some .other) none .gtr g10 (fun _ => (.int .i32 57343))) s11 (n)) s11 (
 kG g9 false (fun n => kV g11 s12 (n)) s12 (
 kG g12 true (fun n => kV g0 s13 (n)) s13 (
 kG g12 true (fun n => kP (oBin (some .other) none .leq g13 (fun _ => (.int .i32 1114111))) s14 (n)) s14 (
 kG g9 false (fun n => kP (oPick g12 g14 (fun _ => (.bool false))) s15 (n)) s15 (
 kP (oPick g9 (fun _ => (.bool true)) g15) s16 (
 kV g16 s2 (
 (fin none)))))))))))))))))
def Lx.q80 : CRun := fun ev L args H => @Option.rec Tm (fun _ => CR) .fail (fun T => (fun fin : Fin => Lx.p80 ev fin L T H []) (finK Lx.dk ev L (fun T _ => some [g2 T]))) (argsTm args)
/-- slices.ContainsFunc[[]gobo/api.Range,gobo/api.Range] -/
def Lx.p81 (ev : Ev) (fin : Fin) (L : Nat) : K :=
 kV (fun _ => (.bool false)) s4 (
 kV g0 s5 (
 kV g1 s6 (
 kC ev fin (fun _ => (.fn 107 [] [])) (fun T => [g5 T, g6 T]) s7 (
 kP (oBin (some .other) none .geq g7 (fun _ => (.int .i64 0))) s8 (
 kV g8 s4 (
 (fin none)))))))
def Lx.q81 : CRun := fun ev L args H => @Option.rec Tm (fun _ => CR) .fail (fun T => (fun fin : Fin => Lx.p81 ev fin L T H []) (finK Lx.dk ev L (fun T _ => some [g4 T]))) (argsTm args)
/-- gobo/runes.Has$1 -/
def Lx.p82 (ev : Ev) (fin : Fin) (L : Nat) : K :=
 kN (oBox g0) s2 (
 kV (fun _ => (.bool false)) s3 (
 kP (oFaddr 0 g2) s4 (
 kP (oLoad noG false 1 g4) s5 (
 kP (oLoad noG false 1 g1) s6 (
 kP (oBin (some .other) none .leq g5 g6) s7 (
 kV g7 s8 (
 kG g8 true (fun n => kP (oLoad noG false 1 g1) s9 (n)) s9 (
 kG g8 true (fun n => kP (oFaddr 1 g2) s10 (n)) s10 (
 kG g8 true (fun n => kP (oLoad noG false 1 g10) s11 (n)) s11 (
 kG g8 true (fun n => kP (oBin (some .other) none .leq g9 g11) s12 (n)) s12 (
 kP (oPick g8 g12 (fun _ => (.bool false))) s13 (
 kV g13 s3 (
 (fin none))))))))))))))
def Lx.q82 : CRun := fun ev L args H => @Option.rec Tm (fun _ => CR) .fail (fun T => (fun fin : Fin => Lx.p82 ev fin L T H []) (finK Lx.dk ev L (fun T _ => some [g3 T]))) (argsTm args)
/-- (*gobo/decode.Dec).more -/
def Lx.p83 (ev : Ev) (fin : Fin) (L : Nat) : K :=
 kN (oCells [(.bool false)]) s4 (
 kV (oFn 108 (fun T => []) (fun T => [g4 T])) s5 (
 kD g5 (fun T => []) dN (
 kV g0 s6 (
 kV g0 s7 (
 kP (oNilc g7) s8 (
 kP (oFaddr 0 g8) s9 (
 kP (oLoad noG false 1 g9) s10 (
 kV g1 s11 (
 kC ev fin (fun _ => (.fn 109 [] [])) (fun T => [g10 T, g11 T]) s12 (
 kP (oNilc g6) s13 (
 kP (oFaddr 0 g13) s14 (
 kM (oStore 1 g14 g12) dN (
 kV g0 s15 (
 kP (oNilc g15) s16 (
 kP (oFaddr 0 g16) s17 (
 kP (oLoad noG false 1 g17) s18 (
 kP (oLen .sl g18) s19 (
 kV g0 s20 (
 kP (oNilc g20) s21 (
 kP (oFaddr 0 g21) s22 (
 kP (oLoad noG false 1 g22) s23 (
 kP (oIaddrS 1 g23 (fun _ => (.int .i64 0))) s24 (
 kP (oLoad noG false 1 g24) s25 (
 kC ev (fun _ => kFail) (fun _ => (.fn 110 [] [])) (fun T => [g25 T]) s26 (
 kQ (oLoad noG false 1 g17) g18 (kQ (oLen .sl g18) g19 (kP (oBin (some .other) none .eql g19 g26) s27 (
 (fun n0 : K =>
 kIf g27
 (kV g0 s28 (
 kC ev fin (fun _ => (.fn 61 [] [])) (fun T => [g28 T, (.bool false), (.bool false)]) s29 (
 n0)))
 (n0))
 (kM (oStore 1 g4 (fun _ => (.bool true))) dN (
 (fin none)))))))))))))))))))))))))))))))
def Lx.q83 : CRun := fun ev L args H => @Option.rec Tm (fun _ => CR) .fail (fun T => (fun fin : Fin => Lx.p83 ev fin L T H []) (finK Lx.dk ev L (cRess noG Lx.c83.results))) (argsTm args)
/-- unicode/utf8.DecodeRune -/
def Lx.p84 (ev : Ev) (fin : Fin) (L : Nat) : K :=
 kV (fun _ => (.int .i32 0)) s2 (
 kV (fun _ => (.int .i64 0)) s3 (
 kV g0 s6 (
 kP (oLen .sl g6) s7 (
 kV (fun _ => (.int .i64 0)) s8 (
 (fun n0 : K =>
 kLoop (fun n1 : K =>
 kP (oBin (some .other) none .lss g8 g7) s9 (
 (fun n3 : K =>
 kIf g9
 (n3)
 (n0))
 ((fun n2 : K =>
 kP (oIaddrS 1 g6 g8) s10 (
 kP (oLoad noG false 1 g10) s11 (
 kV g11 s5 (
 kV g5 s12 (
 kP (oBin (some .other) none .lss g12 (fun _ => (.int .u8 128))) s13 (
 kIf g13
 (kV g5 s14 (
 kR (oConv (.int .i32) g14) s15 (
 kV g15 s2 (
 kV (fun _ => (.int .i64 1)) s3 (
 (fin none))))))
 (n0)))))))
 (kP (oBin (some .other) none .add g8 (fun _ => (.int .i64 1))) s16 (
 kV g16 s8 (
 n1)))))) L)
 (kV g0 s18 (
 kC ev fin (fun _ => (.fn 111 [] [])) (fun T => [g18 T]) s19 (
 kV g19 s17 (
 kP (oExtract 0 g17) s20 (
 kP (oExtract 1 g17) s21 (
 kV g20 s2 (
 kV g21 s3 (
 (fin none))))))))))))))
def Lx.q84 : CRun := fun ev L args H => @Option.rec Tm (fun _ => CR) .fail (fun T => (fun fin : Fin => Lx.p84 ev fin L T H []) (finK Lx.dk ev L (fun T _ => some [g2 T, g3 T]))) (argsTm args)
/-- (*gobo/mini.Mini).Next -/
def Lx.p85 (ev : Ev) (fin : Fin) (L : Nat) : K :=
 kV (fun _ => (.int .i64 0)) s6 (
 kV g0 s7 (
 kP (oBin (some .ptr) none .eql g7 (fun _ => .nilp)) s8 (
 kV g8 s9 (
 kG g9 false (fun n => kV g1 s10 (n)) s10 (
 kG g9 false (fun n => kP (oBin (some .other) none .lss g10 (fun _ => (.int .i64 0))) s11 (n)) s11 (
 kP (oPick g9 (fun _ => (.bool true)) g11) s12 (
 kV g12 s13 (
 kG g13 false (fun n => kV g1 s14 (n)) s14 (
 kG g13 false (fun n => kV g0 s15 (n)) s15 (
 kG g13 false (fun n => kP (oNilc g15) s16 (n)) s16 (
 kG g13 false (fun n => kP (oFaddr 1 g16) s17 (n)) s17 (
 kG g13 false (fun n => kP (oLoad noG false 1 g17) s18 (n)) s18 (
 kG g13 false (fun n => kP (oLen .sl g18) s19 (n)) s19 (
 kG g13 false (fun n => kP (oBin (some .other) none .geq g14 g19) s20 (n)) s20 (
 kP (oPick g13 (fun _ => (.bool true)) g20) s21 (
 kV g21 s22 (
 kG g22 false (fun n => kV g2 s23 (n)) s23 (
 kG g22 false (fun n => kP (oBin (some .other) none .lss g23 (fun _ => (.int .i64 0))) s24 (n)) s24 (
 kP (oPick g22 (fun _ => (.bool true)) g24) s25 (
 kV g25 s26 (
 kG g26 false (fun n => kV g2 s27 (n)) s27 (
 kG g26 false (fun n => kV g0 s28 (n)) s28 (
 kG g26 false (fun n => kP (oNilc g28) s29 (n)) s29 (
 kG g26 false (fun n => kP (oFaddr 0 g29) s30 (n)) s30 (
 kG g26 false (fun n => kP (oLoad noG false 1 g30) s31 (n)) s31 (
 kG g26 false (fun n => kP (oLen .sl g31) s32 (n)) s32 (
 kG g26 false (fun n => kP (oBin (some .other) none .geq g27 g32) s33 (n)) s33 (
 kP (oPick g26 (fun _ => (.bool true)) g33) s34 (
 (fun n0 : K =>
 kIf g34
 (kV (fun _ => (.int .i64 (.negSucc 0))) s6 (
 (fin none)))
 (n0))
 (kV g0 s35 (
 kP (oNilc g35) s36 (
 kP (oFaddr 1 g36) s37 (
 kP (oLoad noG false 1 g37) s38 (
 kV g1 s39 (
 kP (oIaddrS 1 g38 g39) s40 (
 kP (oLoad noG false 1 g40) s41 (
 kV g2 s42 (
 kP (oIaddrS 1 g41 g42) s43 (
 kP (oLoad noG false 1 g43) s44 (
 kV g44 s6 (
 (fin none))))))))))))))))))))))))))))))))))))))))))
def Lx.q85 : CRun := fun ev L args H => @Option.rec Tm (fun _ => CR) .fail (fun T => (fun fin : Fin => Lx.p85 ev fin L T H []) (finK Lx.dk ev L (fun T _ => some [g6 T]))) (argsTm args)
/-- gobo/dfa.Cell -/
def Lx.p86 (ev : Ev) (fin : Fin) (L : Nat) : K :=
 kN (oBox g1) s3 (
 kV (fun _ => (.int .i64 0)) s4 (
 kV g0 s5 (
 kV (oFn 112 (fun T => []) (fun T => [g3 T])) s6 (
 kC ev fin (fun _ => (.fn 107 [] [])) (fun T => [g5 T, g6 T]) s7 (
 kV g7 s4 (
 (fin none)))))))
def Lx.q86 : CRun := fun ev L args H => @Option.rec Tm (fun _ => CR) .fail (fun T => (fun fin : Fin => Lx.p86 ev fin L T H []) (finK Lx.dk ev L (fun T _ => some [g4 T]))) (argsTm args)
/-- slices.Equal[[]gobo/api.Range,gobo/api.Range] -/
def Lx.p87 (ev : Ev) (fin : Fin) (L : Nat) : K :=
 kV (fun _ => (.bool false)) s4 (
 kV g0 s6 (
 kP (oLen .sl g6) s7 (
 kV g1 s8 (
 kP (oLen .sl g8) s9 (
 kP (oBin (some .other) none .neq g7 g9) s10 (
 (fun n4 : K =>
 kIf g10
 (kV (fun _ => (.bool false)) s4 (
 (fin none)))
 (n4))
 (kV g0 s11 (
 kP (oLen .sl g11) s12 (
 kV (fun _ => (.int .i64 0)) s13 (
 (fun n0 : K =>
 kLoop (fun n1 : K =>
 kP (oBin (some .other) none .lss g13 g12) s14 (
 (fun n3 : K =>
 kIf g14
 (n3)
 (n0))
 ((fun n2 : K =>
 kV g13 s15 (
 kV g15 s5 (
 kV g0 s16 (
 kV g5 s17 (
 kP (oIaddrS 2 g16 g17) s18 (
 kP (oLoad noG true 2 g18) s19 (
 kV g1 s20 (
 kV g5 s21 (
 kP (oIaddrS 2 g20 g21) s22 (
 kP (oLoad noG true 2 g22) s23 (
 kP (oBin (some .other) (some [.int, .int]) .neq g19 g23) s24 (
 kIf g24
 (kV (fun _ => (.bool false)) s4 (
 (fin none)))
 (n2)))))))))))))
 (kP (oBin (some .other) none .add g13 (fun _ => (.int .i64 1))) s25 (
 kV g25 s13 (
 n1)))))) L)
 (kV (fun _ => (.bool true)) s4 (
 (fin none)))))))))))))
def Lx.q87 : CRun := fun ev L args H => @Option.rec Tm (fun _ => CR) .fail (fun T => (fun fin : Fin => Lx.p87 ev fin L T H []) (finK Lx.dk ev L (fun T _ => some [g4 T]))) (argsTm args)
/-- gobo/runes.Norm -/
def Lx.p88 (ev : Ev) (fin : Fin) (L : Nat) : K :=
 kV (fun _ => .nils) s2 (
 kV g0 s3 (
 kC ev fin (fun _ => (.fn 77 [] [])) (fun T => [g3 T]) s4 (
 kC ev fin (fun _ => (.fn 78 [] [])) (fun T => [g4 T]) s5 (
 kV g5 s2 (
 (fin none))))))
def Lx.q88 : CRun := fun ev L args H => @Option.rec Tm (fun _ => CR) .fail (fun T => (fun fin : Fin => Lx.p88 ev fin L T H []) (finK Lx.dk ev L (fun T _ => some [g2 T]))) (argsTm args)
end
end Go.AM
set_option maxRecDepth 100000
set_option linter.unusedVariables false
namespace Go.AM
open Go
noncomputable section
/-- slices.insertionSortOrdered[int] -/
def Lx.p89 (ev : Ev) (fin : Fin) (L : Nat) : K :=
 kV g1 s8 (
 kP (oBin (some .other) none .add g8 (fun _ => (.int .i64 1))) s9 (
 kV g9 s6 (
 kLoop (fun n0 : K =>
 kV g6 s10 (
 kV g2 s11 (
 kP (oBin (some .other) none .lss g10 g11) s12 (
 (fun n5 : K =>
 kIf g12
 (n5)
 ((fin none)))
 ((fun n1 : K =>
 kV g6 s15 (
 kV g15 s7 (
 kLoop (fun n2 : K =>
 kV g7 s16 (
 kV g1 s17 (
 kP (oBin (some .other) none .gtr g16 g17) s18 (
 kV g18 s19 (
 kG g19 true (fun n => kV g0 s20 (n)) s20 (
 kG g19 true (fun n => kV g7 s21 (n)) s21 (
 kG g19 true (fun n => kP (oIaddrS 1 g20 g21) s22 (n)) s22 (
 kG g19 true (fun n => kP (oLoad noG false 1 g22) s23 (n)) s23 (
 kG g19 true (fun n => kV g0 s24 (n)) s24 (
 kG g19 true (fun n => kV g7 s25 (n)) s25 (
 kG g19 true (fun n => kP (oBin (some .other) none .sub g25 (fun _ => (.int .i64 1))) s26 (n)) s26 (
 kG g19 true (fun n => kP (oIaddrS 1 g24 g26) s27 (n)) s27 (
 kG g19 true (fun n => kP (oLoad noG false 1 g27) s28 (n)) s28 (
 kG g19 true (fun n => kC ev (fun _ => kFail) (fun _ => (.fn 95 [] [])) (fun T => [g23 T, g28 T]) s29 (n)) s29 (
 kP (oPick g19 g29 (fun _ => (.bool false))) s30 (
 (fun n4 : K =>
 kIf g30
 (n4)
 (n1))
 ((fun n3 : K =>
 kV g0 s33 (
 kV g7 s34 (
 kV g0 s35 (
 kV g7 s36 (
 kP (oBin (some .other) none .sub g36 (fun _ => (.int .i64 1))) s37 (
 kV g0 s38 (
 kV g7 s39 (
 kP (oBin (some .other) none .sub g39 (fun _ => (.int .i64 1))) s40 (
 kP (oIaddrS 1 g38 g40) s41 (
 kP (oLoad noG false 1 g41) s42 (
 kV g0 s43 (
 kV g7 s44 (
 kP (oIaddrS 1 g43 g44) s45 (
 kP (oLoad noG false 1 g45) s46 (
 kP (oIaddrS 1 g33 g34) s47 (
 kM (oStore 1 g47 g42) dN (
 kP (oIaddrS 1 g35 g37) s48 (
 kM (oStore 1 g48 g46) dN (
 n3)))))))))))))))))))
 (kV g7 s31 (
 kP (oBin (some .other) none .sub g31 (fun _ => (.int .i64 1))) s32 (
 kV g32 s7 (
 n2))))))))))))))))))))) L)))
 (kV g6 s13 (
 kP (oBin (some .other) none .add g13 (fun _ => (.int .i64 1))) s14 (
 kV g14 s6 (
 n0))))))))) L)))
def Lx.q89 : CRun := fun ev L args H => @Option.rec Tm (fun _ => CR) .fail (fun T => (fun fin : Fin => Lx.p89 ev fin L T H []) (finK Lx.dk ev L (fun T _ => some []))) (argsTm args)
/-- cmp.Less[int] -/
def Lx.p95 (ev : Ev) (fin : Fin) (L : Nat) : K :=
 kV (fun _ => (.bool false)) s4 (
 kV g0 s5 (
 kC ev fin (fun _ => (.fn 118 [] [])) (fun T => [g5 T]) s6 (
 kV g6 s7 (
 kG g7 true (fun n => kV g1 s8 (n)) s8 (
 kG g7 true (fun n => kC ev fin (fun _ => (.fn 118 [] [])) (fun T => [g8 T]) s9 (n)) s9 (
 kG g7 true (fun n => kP (oUn .not g9) s10 (n)) s10 (
 kP (oPick g7 g10 (fun _ => (.bool false))) s11 (
 kV g11 s12 (
 kG g12 false (fun n => kV g0 s13 (n)) s13 (
 kG g12 false (fun n => kV g1 s14 (n)) s14 (
 kG g12 false (fun n => kP (oBin (some .other) none .lss g13 g14) s15 (n)) s15 (
 kP (oPick g12 (fun _ => (.bool true)) g15) s16 (
 kV g16 s4 (
 (fin none)))))))))))))))
def Lx.q95 : CRun := fun ev L args H => @Option.rec Tm (fun _ => CR) .fail (fun T => (fun fin : Fin => Lx.p95 ev fin L T H []) (finK Lx.dk ev L (fun T _ => some [g4 T]))) (argsTm args)
/-- math/bits.Len64 -/
def Lx.p99 (ev : Ev) (fin : Fin) (L : Nat) : K :=
 kV (fun _ => (.int .i64 0)) s2 (
 kV g0 s3 (
 kP (oBin (some .other) none .geq g3 (fun _ => (.int .u64 4294967296))) s4 (
 (fun n2 : K =>
 kIf g4
 (kV g0 s5 (
 kP (oBin (some .other) none .shr g5 (fun _ => (.int .u64 32))) s6 (
 kV g6 s0 (
 kV (fun _ => (.int .i64 32)) s2 (
 n2)))))
 (n2))
 (kV g0 s7 (
 kP (oBin (some .other) none .geq g7 (fun _ => (.int .u64 65536))) s8 (
 (fun n1 : K =>
 kIf g8
 (kV g0 s9 (
 kP (oBin (some .other) none .shr g9 (fun _ => (.int .u64 16))) s10 (
 kV g10 s0 (
 kV g2 s11 (
 kP (oBin (some .other) none .add g11 (fun _ => (.int .i64 16))) s12 (
 kV g12 s2 (
 n1)))))))
 (n1))
 (kV g0 s13 (
 kP (oBin (some .other) none .geq g13 (fun _ => (.int .u64 256))) s14 (
 (fun n0 : K =>
 kIf g14
 (kV g0 s15 (
 kP (oBin (some .other) none .shr g15 (fun _ => (.int .u64 8))) s16 (
 kV g16 s0 (
 kV g2 s17 (
 kP (oBin (some .other) none .add g17 (fun _ => (.int .i64 8))) s18 (
 kV g18 s2 (
 n0)))))))
 (n0))
 (kV g2 s19 (
 kV g0 s20 (
 kR (oConv (.int .u8) g20) s21 (
 kP (oIdxS (fun _ => (.str ⟨#[0, 1, 2, 2, 3, 3, 3, 3, 4, 4, 4, 4, 4, 4, 4, 4, 5, 5, 5, 5, 5, 5, 5, 5, 5, 5, 5, 5, 5, 5, 5, 5, 6, 6, 6, 6, 6, 6, 6, 6, 6, 6, 6, 6, 6, 6, 6, 6, 6, 6, 6, 6, 6, 6, 6, 6, 6, 6, 6, 6, 6, 6, 6, 6, 7, 7, 7, 7, 7, 7, 7, 7, 7, 7, 7, 7, 7, 7, 7, 7, 7, 7, 7, 7, 7, 7, 7, 7, 7, 7, 7, 7, 7, 7, 7, 7, 7, 7, 7, 7, 7, 7, 7, 7, 7, 7, 7, 7, 7, 7, 7, 7, 7, 7, 7, 7, 7, 7, 7, 7, 7, 7, 7, 7, 7, 7, 7, 7, 8, 8, 8, 8, 8, 8, 8, 8, 8, 8, 8, 8, 8, 8, 8, 8, 8, 8, 8, 8, 8, 8, 8, 8, 8, 8, 8, 8, 8, 8, 8, 8, 8, 8, 8, 8, 8, 8, 8, 8, 8, 8, 8, 8, 8, 8, 8, 8, 8, 8, 8, 8, 8, 8, 8, 8, 8, 8, 8, 8, 8, 8, 8, 8, 8, 8, 8, 8, 8, 8, 8, 8, 8, 8, 8, 8, 8, 8, 8, 8, 8, 8, 8, 8, 8, 8, 8, 8, 8, 8, 8, 8, 8, 8, 8, 8, 8, 8, 8, 8, 8, 8, 8, 8, 8, 8, 8, 8, 8, 8, 8, 8, 8, 8, 8, 8, 8, 8, 8, 8, 8, 8, 8, 8, 8, 8, 8, 8]⟩)) g21) s22 (
 kR (oConv (.int .i64) g22) s23 (
 kP (oBin (some .other) none .add g19 g23) s24 (
 kV g24 s2 (
 (fin none))))))))))))))))))
def Lx.q99 : CRun := fun ev L args H => @Option.rec Tm (fun _ => CR) .fail (fun T => (fun fin : Fin => Lx.p99 ev fin L T H []) (finK Lx.dk ev L (fun T _ => some [g2 T]))) (argsTm args)
/-- gobo/runes.number -/
def Lx.p100 (ev : Ev) (fin : Fin) (L : Nat) : K :=
 kV (fun _ => (.int .i64 0)) s2 (
 (fun n0 : K =>
 kV g0 s4 (
 kP (oBin (some .other) none .lss g4 (fun _ => (.int .i32 0))) s5 (
 kV g5 s3 (
 kIf g3
 (kV (fun _ => (.int .i64 0)) s2 (
 (fin none)))
 (kV g0 s7 (
 kP (oBin (some .other) none .lss g7 (fun _ => (.int .i32 55296))) s8 (
 kV g8 s6 (
 kIf g6
 (kV g0 s9 (
 kR (oConv (.int .i64) g9) s10 (
 kV g10 s2 (
 (fin none)))))
 (kV g0 s12 (
 kP (oBin (some .other) none .leq g12 (fun _ => (.int .i32 57343))) s13 (
 kV g13 s11 (
 kIf g11
 (kV (fun _ => (.int .i64 55296)) s2 (
 (fin none)))
 (n0)))))))))))))
 (kV g0 s14 (
 kR (oConv (.int .i64) g14) s15 (
 kP (oMin g15 (fun _ => (.int .i64 1114112))) s16 (
 kP (oBin (some .other) none .sub g16 (fun _ => (.int .i64 2048))) s17 (
 kV g17 s2 (
 (fin none))))))))
def Lx.q100 : CRun := fun ev L args H => @Option.rec Tm (fun _ => CR) .fail (fun T => (fun fin : Fin => Lx.p100 ev fin L T H []) (finK Lx.dk ev L (fun T _ => some [g2 T]))) (argsTm args)
/-- gobo/runes.behind -/
def Lx.p101 (ev : Ev) (fin : Fin) (L : Nat) : K :=
 kV (fun _ => (.int .i64 0)) s2 (
 kV g0 s4 (
 kC ev fin (fun _ => (.fn 100 [] [])) (fun T => [g4 T]) s5 (
 kV g5 s3 (
 kV g0 s6 (
 kC ev fin (fun _ => (.fn 80 [] [])) (fun T => [g6 T]) s7 (
 (fun n0 : K =>
 kIf g7
 (kV g3 s8 (
 kP (oBin (some .other) none .add g8 (fun _ => (.int .i64 1))) s9 (
 kV g9 s3 (
 n0))))
 (n0))
 (kV g3 s10 (
 kV g10 s2 (
 (fin none))))))))))
def Lx.q101 : CRun := fun ev L args H => @Option.rec Tm (fun _ => CR) .fail (fun T => (fun fin : Fin => Lx.p101 ev fin L T H []) (finK Lx.dk ev L (fun T _ => some [g2 T]))) (argsTm args)
/-- slices.SortFunc[[]gobo/runes.span,gobo/runes.span] -/
def Lx.p102 (ev : Ev) (fin : Fin) (L : Nat) : K :=
 kV g0 s5 (
 kP (oLen .sl g5) s6 (
 kV g6 s4 (
 kV g0 s7 (
 kV g4 s8 (
 kV g4 s9 (
 kR (oConv (.int .u64) g9) s10 (
 kC ev fin (fun _ => (.fn 76 [] [])) (fun T => [g10 T]) s11 (
 kV g1 s12 (
 kC ev fin (fun _ => (.fn 119 [] [])) (fun T => [g7 T, (.int .i64 0), g8 T, g11 T, g12 T]) s13 (
 (fin none)))))))))))
def Lx.q102 : CRun := fun ev L args H => @Option.rec Tm (fun _ => CR) .fail (fun T => (fun fin : Fin => Lx.p102 ev fin L T H []) (finK Lx.dk ev L (fun T _ => some []))) (argsTm args)
/-- gobo/runes.spans$1 -/
def Lx.p103 (ev : Ev) (fin : Fin) (L : Nat) : K :=
 kN (oBox g0) s2 (
 kN (oBox g1) s3 (
 kV (fun _ => (.int .i64 0)) s4 (
 kP (oFaddr 0 g2) s5 (
 kP (oLoad noG false 1 g5) s6 (
 kP (oFaddr 0 g3) s7 (
 kP (oLoad noG false 1 g7) s8 (
 kC ev fin (fun _ => (.fn 104 [] [])) (fun T => [g6 T, g8 T]) s9 (
 kV g9 s4 (
 (fin none))))))))))
def Lx.q103 : CRun := fun ev L args H => @Option.rec Tm (fun _ => CR) .fail (fun T => (fun fin : Fin => Lx.p103 ev fin L T H []) (finK Lx.dk ev L (fun T _ => some [g4 T]))) (argsTm args)
/-- cmp.Compare[int] -/
def Lx.p104 (ev : Ev) (fin : Fin) (L : Nat) : K :=
 kV (fun _ => (.int .i64 0)) s4 (
 kV g0 s7 (
 kC ev fin (fun _ => (.fn 118 [] [])) (fun T => [g7 T]) s8 (
 kV g8 s5 (
 kV g1 s9 (
 kC ev fin (fun _ => (.fn 118 [] [])) (fun T => [g9 T]) s10 (
 kV g10 s6 (
 kV g5 s11 (
 (fun n3 : K =>
 kIf g11
 (kV g6 s12 (
 (fun n4 : K =>
 kIf g12
 (kV (fun _ => (.int .i64 0)) s4 (
 (fin none)))
 (n4))
 (kV (fun _ => (.int .i64 (.negSucc 0))) s4 (
 (fin none)))))
 (n3))
 (kV g6 s13 (
 (fun n2 : K =>
 kIf g13
 (kV (fun _ => (.int .i64 1)) s4 (
 (fin none)))
 (n2))
 (kV g0 s14 (
 kV g1 s15 (
 kP (oBin (some .other) none .lss g14 g15) s16 (
 (fun n1 : K =>
 kIf g16
 (kV (fun _ => (.int .i64 (.negSucc 0))) s4 (
 (fin none)))
 (n1))
 (kV g0 s17 (
 kV g1 s18 (
 kP (oBin (some .other) none .gtr g17 g18) s19 (
 (fun n0 : K =>
 kIf g19
 (kV (fun _ => (.int .i64 1)) s4 (
 (fin none)))
 (n0))
 (kV (fun _ => (.int .i64 0)) s4 (
 (fin none)))))))))))))))))))))
def Lx.q104 : CRun := fun ev L args H => @Option.rec Tm (fun _ => CR) .fail (fun T => (fun fin : Fin => Lx.p104 ev fin L T H []) (finK Lx.dk ev L (fun T _ => some [g4 T]))) (argsTm args)
/-- gobo/runes.value -/
def Lx.p105 (ev : Ev) (fin : Fin) (L : Nat) : K :=
 kV (fun _ => (.int .i32 0)) s2 (
 kV g0 s3 (
 kP (oBin (some .other) none .lss g3 (fun _ => (.int .i64 55296))) s4 (
 (fun n0 : K =>
 kIf g4
 (kV g0 s5 (
 kR (oConv (.int .i32) g5) s6 (
 kV g6 s2 (
 (fin none)))))
 (n0))
 (kV g0 s7 (
 kP (oBin (some .other) none .add g7 (fun _ => (.int .i64 2048))) s8 (
 kR (oConv (.int .i32) g8) s9 (
 kV g9 s2 (
 (fin none)))))))))
def Lx.q105 : CRun := fun ev L args H => @Option.rec Tm (fun _ => CR) .fail (fun T => (fun fin : Fin => Lx.p105 ev fin L T H []) (finK Lx.dk ev L (fun T _ => some [g2 T]))) (argsTm args)
/-- internal/strconv.AppendUint -/
def Lx.p106 (ev : Ev) (fin : Fin) (L : Nat) : K :=
 kV (fun _ => .nils) s6 (
 kV g2 s9 (
 kP (oBin (some .other) none .eql g9 (fun _ => (.int .i64 10))) s10 (
 (fun n0 : K =>
 kIf g10
 (kV g1 s11 (
 kP (oBin (some .other) none .lss g11 (fun _ => (.int .u64 100))) s12 (
 (fun n1 : K =>
 kIf g12
 (kV g0 s13 (
 kV g1 s14 (
 kR (oConv (.int .i64) g14) s15 (
 kC ev fin (fun _ => (.fn 120 [] [])) (fun T => [g15 T]) s16 (
 kR (oAppend 1 1 [(.int .u8 0)] false g13 g16) s17 (
 kV g17 s6 (
 (fin none))))))))
 (n1))
 (kN (oCells [(.int .u8 0), (.int .u8 0), (.int .u8 0), (.int .u8 0), (.int .u8 0), (.int .u8 0), (.int .u8 0), (.int .u8 0), (.int .u8 0), (.int .u8 0), (.int .u8 0), (.int .u8 0), (.int .u8 0), (.int .u8 0), (.int .u8 0), (.int .u8 0), (.int .u8 0), (.int .u8 0), (.int .u8 0), (.int .u8 0), (.int .u8 0), (.int .u8 0), (.int .u8 0), (.int .u8 0)]) s7 (
 kV g1 s18 (
 kC ev fin (fun _ => (.fn 121 [] [])) (fun T => [g18 T]) s19 (
 kV g19 s8 (
 kV g8 s20 (
 kP (oSlice noG (.arr 24 1) g7 (fun _ => none) (fun T => some (g20 T)) (fun _ => none)) s21 (
 kV g1 s22 (
 kC ev fin (fun _ => (.fn 122 [] [])) (fun T => [g21 T, g22 T]) s23 (
 kV g0 s24 (
 kV g8 s25 (
 kP (oSlice noG (.arr 24 1) g7 (fun _ => none) (fun T => some (g25 T)) (fun _ => none)) s26 (
 kR (oAppend 1 1 [(.int .u8 0)] false g24 g26) s27 (
 kV g27 s6 (
 (fin none))))))))))))))))))
 (n0))
 (kV g0 s29 (
 kV g1 s30 (
 kV g2 s31 (
 kC ev fin (fun _ => (.fn 123 [] [])) (fun T => [g29 T, g30 T, g31 T, (.bool false), (.bool true)]) s32 (
 kV g32 s28 (
 kP (oExtract 0 g28) s33 (
 kP (oExtract 1 g28) s34 (
 kV g33 s0 (
 kV g0 s35 (
 kV g35 s6 (
 (fin none)))))))))))))))
def Lx.q106 : CRun := fun ev L args H => @Option.rec Tm (fun _ => CR) .fail (fun T => (fun fin : Fin => Lx.p106 ev fin L T H []) (finK Lx.dk ev L (fun T _ => some [g6 T]))) (argsTm args)
/-- slices.IndexFunc[[]gobo/api.Range,gobo/api.Range] -/
def Lx.p107 (ev : Ev) (fin : Fin) (L : Nat) : K :=
 kV (fun _ => (.int .i64 0)) s4 (
 kV g0 s6 (
 kP (oLen .sl g6) s7 (
 kV (fun _ => (.int .i64 0)) s8 (
 (fun n0 : K =>
 kLoop (fun n1 : K =>
 kP (oBin (some .other) none .lss g8 g7) s9 (
 (fun n3 : K =>
 kIf g9
 (n3)
 (n0))
 ((fun n2 : K =>
 kV g8 s10 (
 kV g10 s5 (
 kV g1 s11 (
 kV g0 s12 (
 kV g5 s13 (
 kP (oIaddrS 2 g12 g13) s14 (
 kP (oLoad noG true 2 g14) s15 (
 kC ev fin g11 (fun T => [g15 T]) s16 (
 kIf g16
 (kV g5 s17 (
 kV g17 s4 (
 (fin none))))
 (n2))))))))))
 (kP (oBin (some .other) none .add g8 (fun _ => (.int .i64 1))) s18 (
 kV g18 s8 (
 n1)))))) L)
 (kV (fun _ => (.int .i64 (.negSucc 0))) s4 (
 (fin none)))))))
def Lx.q107 : CRun := fun ev L args H => @Option.rec Tm (fun _ => CR) .fail (fun T => (fun fin : Fin => Lx.p107 ev fin L T H []) (finK Lx.dk ev L (fun T _ => some [g4 T]))) (argsTm args)
/-- gobo/decode.grow -/
def Lx.p109 (ev : Ev) (fin : Fin) (L : Nat) : K :=
 kV (fun _ => .nils) s4 (
 kV (fun _ => (.int .u8 128)) s5 (
 kV (fun _ => (.int .u8 191)) s6 (
 kV g0 s7 (
 kP (oLen .sl g7) s8 (
 kP (oBin (some .other) none .eql g8 (fun _ => (.int .i64 1))) s9 (
 (fun n1 : K =>
 kIf g9
 (kV g0 s11 (
 kP (oIaddrS 1 g11 (fun _ => (.int .i64 0))) s12 (
 kP (oLoad noG false 1 g12) s13 (
 kC ev fin (fun _ => (.fn 124 [] [])) (fun T => [g13 T]) s14 (
 kV g14 s10 (
 kP (oExtract 0 g10) s15 (
 kP (oExtract 1 g10) s16 (
 kV g15 s5 (
 kV g16 s6 (
 n1))))))))))
 (n1))
 (kV g0 s17 (
 kP (oLen .sl g17) s18 (
 kP (oBin (some .other) none .eql g18 (fun _ => (.int .i64 0))) s19 (
 kV g19 s20 (
 kG g20 true (fun n => kV g1 s21 (n)) s21 (
 kG g20 true (fun n => kC ev fin (fun _ => (.fn 110 [] [])) (fun T => [g21 T]) s22 (n)) s22 (
 kG g20 true (fun n => kP (oBin (some .other) none .eql g22 (fun _ => (.int .i64 0))) s23 (n)) s23 (
 kP (oPick g20 g23 (fun _ => (.bool false))) s24 (
 kV g24 s25 (
 kG g25 false (fun n => kV g0 s26 (n)) s26 (
 kG g25 false (fun n => kP (oLen .sl g26) s27 (n)) s27 (
 kG g25 false (fun n => kP (oBin (some .other) none .gtr g27 (fun _ => (.int .i64 0))) s28 (n)) s28 (
 kG g25 false (fun n => kV g28 s29 (n)) s29 (
 kG g29 true (fun n => kV g1 s30 (n)) s30 (
 kG g29 true (fun n => kV g5 s31 (n)) s31 (
 kG g29 true (fun n => kP (oBin (some .other) none .lss g30 g31) s32 (n)) s32 (
 kG g29 true (fun n => kV g32 s33 (n)) s33 (
 kG g33 false (fun n => kV g1 s34 (n)) s34 (
 kG g33 false (fun n => kV g6 s35 (n)) s35 (
 kG g33 false (fun n => kP (oBin (some .other) none .gtr g34 g35) s36 (n)) s36 (
 kG g29 true (fun n => kP (oPick g33 (fun _ => (.bool true)) g36) s37 (n)) s37 (
 kG g25 false (fun n => kP (oPick g29 g37 (fun _ => (.bool false))) s38 (n)) s38 (
 kP (oPick g25 (fun _ => (.bool true)) g38) s39 (
 (fun n0 : K =>
 kIf g39
 (kP (oBuild [] (fun T => [])) s40 (
 kV (oIface 153 g40) s41 (
 kX fin g41)))
 (n0))
 (kV g0 s42 (
 kC ev fin (fun _ => (.fn 125 [] [])) (fun T => [g42 T]) s43 (
 kV g1 s44 (
 kR (oLit 1 1 [(.int .u8 0)] (fun T => [(0, 1, g44 T)])) s45 (
 kR (oAppend 1 1 [(.int .u8 0)] false g43 g45) s46 (
 kV g46 s4 (
 (fin none))))))))))))))))))))))))))))))))))))))
def Lx.q109 : CRun := fun ev L args H => @Option.rec Tm (fun _ => CR) .fail (fun T => (fun fin : Fin => Lx.p109 ev fin L T H []) (finK Lx.dk ev L (fun T _ => some [g4 T]))) (argsTm args)
/-- gobo/decode.long -/
def Lx.p110 (ev : Ev) (fin : Fin) (L : Nat) : K :=
 kV (fun _ => (.int .i64 0)) s2 (
 (fun n0 : K =>
 kV g0 s4 (
 kP (oBin (some .other) none .lss g4 (fun _ => (.int .u8 128))) s5 (
 kV g5 s3 (
 kIf g3
 (kV (fun _ => (.int .i64 1)) s2 (
 (fin none)))
 (kV g0 s7 (
 kP (oBin (some .other) none .geq g7 (fun _ => (.int .u8 194))) s8 (
 kV g8 s9 (
 kG g9 true (fun n => kV g0 s10 (n)) s10 (
 kG g9 true (fun n => kP (oBin (some .other) none .leq g10 (fun _ => (.int .u8 223))) s11 (n)) s11 (
 kP (oPick g9 g11 (fun _ => (.bool false))) s12 (
 kV g12 s6 (
 kIf g6
 (kV (fun _ => (.int .i64 2)) s2 (
 (fin none)))
 (kV g0 s14 (
 kP (oBin (some .other) none .geq g14 (fun _ => (.int .u8 224))) s15 (
 kV g15 s16 (
 kG g16 true (fun n => kV g0 s17 (n)) s17 (
 kG g16 true (fun n => kP (oBin (some .other) none .leq g17 (fun _ => (.int .u8 239))) s18 (n)) s18 (
 kP (oPick g16 g18 (fun _ => (.bool false))) s19 (
 kV g19 s13 (
 kIf g13
 (kV (fun _ => (.int .i64 3)) s2 (
 (fin none)))
 (kV g0 s21 (
 kP (oBin (some .other) none .geq g21 (fun _ => (.int .u8 240))) s22 (
 kV g22 s23 (
 kG g23 true (fun n => kV g0 s24 (n)) s24 (
 kG g23 true (fun n => kP (oBin (some .other) none .leq g24 (fun _ => (.int .u8 244))) s25 (n)) s25 (
 kP (oPick g23 g25 (fun _ => (.bool false))) s26 (
 kV g26 s20 (
 kIf g20
 (kV (fun _ => (.int .i64 4)) s2 (
 (fin none)))
 (n0)))))))))))))))))))))))))))))
 (kV (fun _ => (.int .i64 0)) s2 (
 (fin none))))
def Lx.q110 : CRun := fun ev L args H => @Option.rec Tm (fun _ => CR) .fail (fun T => (fun fin : Fin => Lx.p110 ev fin L T H []) (finK Lx.dk ev L (fun T _ => some [g2 T]))) (argsTm args)
/-- gobo/dfa.Cell$1 -/
def Lx.p112 (ev : Ev) (fin : Fin) (L : Nat) : K :=
 kN (oBox g0) s2 (
 kV (fun _ => (.bool false)) s3 (
 kP (oLoad noG true 2 g2) s4 (
 kR (oLit 2 1 [(.int .i32 0), (.int .i32 0)] (fun T => [(0, 2, g4 T)])) s5 (
 kP (oLoad noG false 1 g1) s6 (
 kC ev fin (fun _ => (.fn 55 [] [])) (fun T => [g5 T, g6 T]) s7 (
 kV g7 s3 (
 (fin none))))))))
def Lx.q112 : CRun := fun ev L args H => @Option.rec Tm (fun _ => CR) .fail (fun T => (fun fin : Fin => Lx.p112 ev fin L T H []) (finK Lx.dk ev L (fun T _ => some [g3 T]))) (argsTm args)
/-- cmp.isNaN[int] -/
def Lx.p118 (ev : Ev) (fin : Fin) (L : Nat) : K :=
 kV (fun _ => (.bool false)) s2 (
 kV g0 s3 (
 kV g0 s4 (
 kP (oBin (some .other) none .neq g3 g4) s5 (
 kV g5 s2 (
 (fin none))))))
def Lx.q118 : CRun := fun ev L args H => @Option.rec Tm (fun _ => CR) .fail (fun T => (fun fin : Fin => Lx.p118 ev fin L T H []) (finK Lx.dk ev L (fun T _ => some [g2 T]))) (argsTm args)
/-- slices.pdqsortCmpFunc[gobo/runes.span] -/
def Lx.p119 (ev : Ev) (fin : Fin) (L : Nat) : K :=
 kV (fun _ => (.bool true)) s10 (
 kV (fun _ => (.bool true)) s11 (
 kLoop (fun n0 : K =>
 kV g2 s21 (
 kV g1 s22 (
 kP (oBin (some .other) none .sub g21 g22) s23 (
 kV g23 s12 (
 kV g12 s24 (
 kP (oBin (some .other) none .leq g24 (fun _ => (.int .i64 12))) s25 (
 (fun n6 : K =>
 kIf g25
 (kV g0 s26 (
 kV g1 s27 (
 kV g2 s28 (
 kV g4 s29 (
 kC ev fin (fun _ => (.fn 127 [] [])) (fun T => [g26 T, g27 T, g28 T, g29 T]) s30 (
 (fin none)))))))
 (n6))
 (kV g3 s31 (
 kP (oBin (some .other) none .eql g31 (fun _ => (.int .i64 0))) s32 (
 (fun n5 : K =>
 kIf g32
 (kV g0 s33 (
 kV g1 s34 (
 kV g2 s35 (
 kV g4 s36 (
 kC ev fin (fun _ => (.fn 128 [] [])) (fun T => [g33 T, g34 T, g35 T, g36 T]) s37 (
 (fin none)))))))
 (n5))
 (kV g10 s38 (
 kP (oUn .not g38) s39 (
 (fun n4 : K =>
 kIf g39
 (kV g0 s40 (
 kV g1 s41 (
 kV g2 s42 (
 kV g4 s43 (
 kC ev fin (fun _ => (.fn 129 [] [])) (fun T => [g40 T, g41 T, g42 T, g43 T]) s44 (
 kV g3 s45 (
 kP (oBin (some .other) none .sub g45 (fun _ => (.int .i64 1))) s46 (
 kV g46 s3 (
 n4)))))))))
 (n4))
 (kV g0 s48 (
 kV g1 s49 (
 kV g2 s50 (
 kV g4 s51 (
 kC ev fin (fun _ => (.fn 130 [] [])) (fun T => [g48 T, g49 T, g50 T, g51 T]) s52 (
 kV g52 s47 (
 kP (oExtract 0 g47) s53 (
 kP (oExtract 1 g47) s54 (
 kV g53 s13 (
 kV g54 s14 (
 kV g14 s55 (
 kP (oBin (some .other) none .eql g55 (fun _ => (.int .i64 2))) s56 (
 (fun n3 : K =>
 kIf g56
 (kV g0 s57 (
 kV g1 s58 (
 kV g2 s59 (
 kV g4 s60 (
 kC ev fin (fun _ => (.fn 131 [] [])) (fun T => [g57 T, g58 T, g59 T, g60 T]) s61 (
 kV g2 s62 (
 kP (oBin (some .other) none .sub g62 (fun _ => (.int .i64 1))) s63 (
 kV g13 s64 (
 kV g1 s65 (
 kP (oBin (some .other) none .sub g64 g65) s66 (
 kP (oBin (some .other) none .sub g63 g66) s67 (
 kV g67 s13 (
 kV (fun _ => (.int .i64 1)) s14 (
 n3))))))))))))))
 (n3))
 (kV g10 s68 (
 kV g68 s69 (
 kG g69 true (fun n => kV g11 s70 (n)) s70 (
 kP (oPick g69 g70 (fun _ => (.bool false))) s71 (
 kV g71 s72 (
 kG g72 true (fun n => kV g14 s73 (n)) s73 (
 kG g72 true (fun n => kP (oBin (some .other) none .eql g73 (fun _ => (.int .i64 1))) s74 (n)) s74 (
 kP (oPick g72 g74 (fun _ => (.bool false))) s75 (
 (fun n2 : K =>
 kIf g75
 (kV g0 s76 (
 kV g1 s77 (
 kV g2 s78 (
 kV g4 s79 (
 kC ev fin (fun _ => (.fn 132 [] [])) (fun T => [g76 T, g77 T, g78 T, g79 T]) s80 (
 kIf g80
 ((fin none))
 (n2)))))))
 (n2))
 (kV g1 s81 (
 kP (oBin (some .other) none .gtr g81 (fun _ => (.int .i64 0))) s82 (
 kV g82 s83 (
 kG g83 true (fun n => kV g4 s84 (n)) s84 (
 kG g83 true (fun n => kV g0 s85 (n)) s85 (
 kG g83 true (fun n => kV g1 s86 (n)) s86 (
 kG g83 true (fun n => kP (oBin (some .other) none .sub g86 (fun _ => (.int .i64 1))) s87 (n)) s87 (
 kG g83 true (fun n => kP (oIaddrS 2 g85 g87) s88 (n)) s88 (
 kG g83 true (fun n => kP (oLoad noG true 2 g88) s89 (n)) s89 (
 kG g83 true (fun n => kV g0 s90 (n)) s90 (
 kG g83 true (fun n => kV g13 s91 (n)) s91 (
 kG g83 true (fun n => kP (oIaddrS 2 g90 g91) s92 (n)) s92 (
 kG g83 true (fun n => kP (oLoad noG true 2 g92) s93 (n)) s93 (
 kG g83 true (fun n => kC ev (fun _ => kFail) g84 (fun T => [g89 T, g93 T]) s94 (n)) s94 (
 kG g83 true (fun n => kP (oBin (some .other) none .lss g94 (fun _ => (.int .i64 0))) s95 (n)) s95 (
 kG g83 true (fun n => kP (oUn .not g95) s96 (n)) s96 (
 kP (oPick g83 g96 (fun _ => (.bool false))) s97 (
 (fun n1 : K =>
 kIf g97
 (kV g0 s98 (
 kV g1 s99 (
 kV g2 s100 (
 kV g13 s101 (
 kV g4 s102 (
 kC ev fin (fun _ => (.fn 133 [] [])) (fun T => [g98 T, g99 T, g100 T, g101 T, g102 T]) s103 (
 kV g103 s15 (
 kV g15 s104 (
 kV g104 s1 (
 n0))))))))))
 (n1))
 (kV g0 s106 (
 kV g1 s107 (
 kV g2 s108 (
 kV g13 s109 (
 kV g4 s110 (
 kC ev fin (fun _ => (.fn 134 [] [])) (fun T => [g106 T, g107 T, g108 T, g109 T, g110 T]) s111 (
 kV g111 s105 (
 kP (oExtract 0 g105) s112 (
 kP (oExtract 1 g105) s113 (
 kV g112 s16 (
 kV g113 s17 (
 kV g17 s114 (
 kV g114 s11 (
 kV g16 s115 (
 kV g1 s116 (
 kP (oBin (some .other) none .sub g115 g116) s117 (
 kV g2 s118 (
 kV g16 s119 (
 kP (oBin (some .other) none .sub g118 g119) s120 (
 kV g117 s18 (
 kV g120 s19 (
 kV g12 s121 (
 kP (oBin (some .other) none .quo g121 (fun _ => (.int .i64 8))) s122 (
 kV g122 s20 (
 kV g18 s123 (
 kV g19 s124 (
 kP (oBin (some .other) none .lss g123 g124) s125 (
 kIf g125
 (kV g18 s126 (
 kV g20 s127 (
 kP (oBin (some .other) none .geq g126 g127) s128 (
 kV g128 s10 (
 kV g0 s129 (
 kV g1 s130 (
 kV g16 s131 (
 kV g3 s132 (
 kV g4 s133 (
 kC ev fin (fun _ => (.fn 119 [] [])) (fun T => [g129 T, g130 T, g131 T, g132 T, g133 T]) s134 (
 kV g16 s135 (
 kP (oBin (some .other) none .add g135 (fun _ => (.int .i64 1))) s136 (
 kV g136 s1 (
 n0))))))))))))))
 (kV g19 s137 (
 kV g20 s138 (
 kP (oBin (some .other) none .geq g137 g138) s139 (
 kV g139 s10 (
 kV g0 s140 (
 kV g16 s141 (
 kP (oBin (some .other) none .add g141 (fun _ => (.int .i64 1))) s142 (
 kV g2 s143 (
 kV g3 s144 (
 kV g4 s145 (
 kC ev fin (fun _ => (.fn 119 [] [])) (fun T => [g140 T, g142 T, g143 T, g144 T, g145 T]) s146 (
 kV g16 s147 (
 kV g147 s2 (
 n0))))))))))))))))))))))))))))))))))))))))))))))))))))))))))))))))))))))))))))))))))))))))))))))) L))
def Lx.q119 : CRun := fun ev L args H => @Option.rec Tm (fun _ => CR) .fail (fun T => (fun fin : Fin => Lx.p119 ev fin L T H []) (finK Lx.dk ev L (fun T _ => some []))) (argsTm args)
/-- internal/strconv.small -/
def Lx.p120 (ev : Ev) (fin : Fin) (L : Nat) : K :=
 kV (fun _ => (.str ⟨#[]⟩)) s2 (
 kV g0 s3 (
 kP (oBin (some .other) none .lss g3 (fun _ => (.int .i64 10))) s4 (
 (fun n0 : K =>
 kIf g4
 (kV g0 s5 (
 kV g0 s6 (
 kP (oBin (some .other) none .add g6 (fun _ => (.int .i64 1))) s7 (
 kP (oSlice noG .str (fun _ => (.str ⟨#[48, 49, 50, 51, 52, 53, 54, 55, 56, 57, 97, 98, 99, 100, 101, 102, 103, 104, 105, 106, 107, 108, 109, 110, 111, 112, 113, 114, 115, 116, 117, 118, 119, 120, 121, 122]⟩)) (fun T => some (g5 T)) (fun T => some (g7 T)) (fun _ => none)) s8 (
 kV g8 s2 (
 (fin none)))))))
 (n0))
 (kV g0 s9 (
 kP (oBin (some .other) none .mul g9 (fun _ => (.int .i64 2))) s10 (
 kV g0 s11 (
 kP (oBin (some .other) none .mul g11 (fun _ => (.int .i64 2))) s12 (
 kP (oBin (some .other) none .add g12 (fun _ => (.int .i64 2))) s13 (
 kP (oSlice noG .str (fun _ => (.str ⟨#[48, 48, 48, 49, 48, 50, 48, 51, 48, 52, 48, 53, 48, 54, 48, 55, 48, 56, 48, 57, 49, 48, 49, 49, 49, 50, 49, 51, 49, 52, 49, 53, 49, 54, 49, 55, 49, 56, 49, 57, 50, 48, 50, 49, 50, 50, 50, 51, 50, 52, 50, 53, 50, 54, 50, 55, 50, 56, 50, 57, 51, 48, 51, 49, 51, 50, 51, 51, 51, 52, 51, 53, 51, 54, 51, 55, 51, 56, 51, 57, 52, 48, 52, 49, 52, 50, 52, 51, 52, 52, 52, 53, 52, 54, 52, 55, 52, 56, 52, 57, 53, 48, 53, 49, 53, 50, 53, 51, 53, 52, 53, 53, 53, 54, 53, 55, 53, 56, 53, 57, 54, 48, 54, 49, 54, 50, 54, 51, 54, 52, 54, 53, 54, 54, 54, 55, 54, 56, 54, 57, 55, 48, 55, 49, 55, 50, 55, 51, 55, 52, 55, 53, 55, 54, 55, 55, 55, 56, 55, 57, 56, 48, 56, 49, 56, 50, 56, 51, 56, 52, 56, 53, 56, 54, 56, 55, 56, 56, 56, 57, 57, 48, 57, 49, 57, 50, 57, 51, 57, 52, 57, 53, 57, 54, 57, 55, 57, 56, 57, 57]⟩)) (fun T => some (g10 T)) (fun T => some (g13 T)) (fun _ => none)) s14 (
 kV g14 s2 (
 (fin none))))))))))))
def Lx.q120 : CRun := fun ev L args H => @Option.rec Tm (fun _ => CR) .fail (fun T => (fun fin : Fin => Lx.p120 ev fin L T H []) (finK Lx.dk ev L (fun T _ => some [g2 T]))) (argsTm args)
/-- slices.Clone[[]byte,byte] -/
def Lx.p125 (ev : Ev) (fin : Fin) (L : Nat) : K :=
 kV (fun _ => .nils) s2 (
 kV g0 s3 (
 kP (oBin (some .slice) none .eql g3 (fun _ => .nils)) s4 (
 (fun n0 : K =>
 kIf g4
 (kV (fun _ => .nils) s2 (
 (fin none)))
 (n0))
 (kR (oLit 1 0 [] (fun T => [])) s5 (
 kV g0 s6 (
 kR (oAppend 1 1 [(.int .u8 0)] false g5 g6) s7 (
 kV g7 s2 (
 (fin none)))))))))
def Lx.q125 : CRun := fun ev L args H => @Option.rec Tm (fun _ => CR) .fail (fun T => (fun fin : Fin => Lx.p125 ev fin L T H []) (finK Lx.dk ev L (fun T _ => some [g2 T]))) (argsTm args)
/-- slices.insertionSortCmpFunc[gobo/runes.span] -/
def Lx.p127 (ev : Ev) (fin : Fin) (L : Nat) : K :=
 kV g1 s10 (
 kP (oBin (some .other) none .add g10 (fun _ => (.int .i64 1))) s11 (
 kV g11 s8 (
 kLoop (fun n0 : K =>
 kV g8 s12 (
 kV g2 s13 (
 kP (oBin (some .other) none .lss g12 g13) s14 (
 (fun n5 : K =>
 kIf g14
 (n5)
 ((fin none)))
 ((fun n1 : K =>
 kV g8 s17 (
 kV g17 s9 (
 kLoop (fun n2 : K =>
 kV g9 s18 (
 kV g1 s19 (
 kP (oBin (some .other) none .gtr g18 g19) s20 (
 kV g20 s21 (
 kG g21 true (fun n => kV g3 s22 (n)) s22 (
 kG g21 true (fun n => kV g0 s23 (n)) s23 (
 kG g21 true (fun n => kV g9 s24 (n)) s24 (
 kG g21 true (fun n => kP (oIaddrS 2 g23 g24) s25 (n)) s25 (
 kG g21 true (fun n => kP (oLoad noG true 2 g25) s26 (n)) s26 (
 kG g21 true (fun n => kV g0 s27 (n)) s27 (
 kG g21 true (fun n => kV g9 s28 (n)) s28 (
 kG g21 true (fun n => kP (oBin (some .other) none .sub g28 (fun _ => (.int .i64 1))) s29 (n)) s29 (
 kG g21 true (fun n => kP (oIaddrS 2 g27 g29) s30 (n)) s30 (
 kG g21 true (fun n => kP (oLoad noG true 2 g30) s31 (n)) s31 (
 kG g21 true (fun n => kC ev (fun _ => kFail) g22 (fun T => [g26 T, g31 T]) s32 (n)) s32 (
 kG g21 true (fun n => kP (oBin (some .other) none .lss g32 (fun _ => (.int .i64 0))) s33 (n)) s33 (
 kP (oPick g21 g33 (fun _ => (.bool false))) s34 (
 (fun n4 : K =>
 kIf g34
 (n4)
 (n1))
 ((fun n3 : K =>
 kV g0 s37 (
 kV g9 s38 (
 kV g0 s39 (
 kV g9 s40 (
 kP (oBin (some .other) none .sub g40 (fun _ => (.int .i64 1))) s41 (
 kV g0 s42 (
 kV g9 s43 (
 kP (oBin (some .other) none .sub g43 (fun _ => (.int .i64 1))) s44 (
 kP (oIaddrS 2 g42 g44) s45 (
 kP (oLoad noG true 2 g45) s46 (
 kV g0 s47 (
 kV g9 s48 (
 kP (oIaddrS 2 g47 g48) s49 (
 kP (oLoad noG true 2 g49) s50 (
 kP (oIaddrS 2 g37 g38) s51 (
 kM (oStore 2 g51 g46) dN (
 kP (oIaddrS 2 g39 g41) s52 (
 kM (oStore 2 g52 g50) dN (
 n3)))))))))))))))))))
 (kV g9 s35 (
 kP (oBin (some .other) none .sub g35 (fun _ => (.int .i64 1))) s36 (
 kV g36 s9 (
 n2))))))))))))))))))))))) L)))
 (kV g8 s15 (
 kP (oBin (some .other) none .add g15 (fun _ => (.int .i64 1))) s16 (
 kV g16 s8 (
 n0))))))))) L)))
def Lx.q127 : CRun := fun ev L args H => @Option.rec Tm (fun _ => CR) .fail (fun T => (fun fin : Fin => Lx.p127 ev fin L T H []) (finK Lx.dk ev L (fun T _ => some []))) (argsTm args)
end
end Go.AM
