import Derived.Test.YthgloebmfcdhoaaGreatDoorMd
import Derived.Test.YthgloebmfcdhoaaGreatDoorLxF
set_option maxRecDepth 100000
set_option linter.unusedVariables false
namespace Go.AM
open Go
noncomputable section
/-- gobo/lexer.caught$1 -/
def Lx.d20 : CDef := fun ev L args u H => @Option.rec Tm (fun _ => CR) .fail (fun T => (kV g4 s1 (
 kV g1 s5 (
 kP (oBin (some .iface0) none .neq g5 (fun _ => .nili)) s6 (
 (fun n0 : K =>
 kIf g6
 (kV g1 s8 (
 kP (oAssert 58 true (some (.agg [(.int .i64 0)])) g8) s9 (
 kV g9 s7 (
 kP (oExtract 0 g7) s10 (
 kP (oExtract 1 g7) s11 (
 kN (oCells [(.int .i64 0)]) s2 (
 kM (oStore 1 g2 g10) dN (
 kV g11 s3 (
 kV g3 s12 (
 kP (oUn .not g12) s13 (
 (fun n1 : K =>
 kIf g13
 (kV g1 s14 (
 kX finD g14))
 (n1))
 (kP (oFaddr 0 g2) s15 (
 kP (oLoad noG false 1 g15) s16 (
 kM (oStore 1 g0 g16) dN (
 n0)))))))))))))))
 (n0))
 ((finD none)))))) (s4 (orNil u) T) H []) (argsTm args)
theorem Lx.ed20 : Lx.d20 = cDef noG Lx.c20 := by kernel_rfl
theorem Lx.od20 : okFunc Lx.c20 = true := by kernel_rfl
/-- (*gobo/decode.Dec).more$1 -/
def Lx.d108 : CDef := fun ev L args u H => @Option.rec Tm (fun _ => CR) .fail (fun T => (kV g4 s1 (
 kV g1 s5 (
 kP (oBin (some .iface0) none .neq g5 (fun _ => .nili)) s6 (
 (fun n0 : K =>
 kIf g6
 (kV g1 s8 (
 kP (oAssert 153 true (some (.agg [])) g8) s9 (
 kV g9 s7 (
 kP (oExtract 0 g7) s10 (
 kP (oExtract 1 g7) s11 (
 kN (oCells []) s2 (
 kM (oStore 0 g2 g10) dN (
 kV g11 s3 (
 kV g3 s12 (
 kP (oUn .not g12) s13 (
 (fun n1 : K =>
 kIf g13
 (kV g1 s14 (
 kX finD g14))
 (n1))
 (kM (oStore 1 g0 (fun _ => (.bool false))) dN (
 n0)))))))))))))
 (n0))
 ((finD none)))))) (s4 (orNil u) T) H []) (argsTm args)
theorem Lx.ed108 : Lx.d108 = cDef noG Lx.c108 := by kernel_rfl
theorem Lx.od108 : okFunc Lx.c108 = true := by kernel_rfl
def Lx.dk : FuncId → Option CDef := fun f => bif Nat.beq f 20 then some Lx.d20 else bif Nat.beq f 108 then some Lx.d108 else none
end
end Go.AM
