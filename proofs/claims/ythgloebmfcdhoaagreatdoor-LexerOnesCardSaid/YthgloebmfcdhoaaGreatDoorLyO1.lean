import Derived.Test.YthgloebmfcdhoaaGreatDoorLyA
set_option maxRecDepth 1000000
namespace Go.AM
open Go
theorem Ly.ones1 : boolOf (bodyK Ly.fk 1000 Ly.ev 3 [.int .i64 (.ofNat 1)] ⟨0, .lf⟩) = some true := by kernel_rfl
theorem Ly.ones18 : boolOf (bodyK Ly.fk 1000 Ly.ev 3 [.int .i64 (.ofNat 18)] ⟨0, .lf⟩) = some true := by kernel_rfl
theorem Ly.ones21 : boolOf (bodyK Ly.fk 1000 Ly.ev 3 [.int .i64 (.ofNat 21)] ⟨0, .lf⟩) = some true := by kernel_rfl
theorem Ly.ones38 : boolOf (bodyK Ly.fk 1000 Ly.ev 3 [.int .i64 (.ofNat 38)] ⟨0, .lf⟩) = some true := by kernel_rfl
end Go.AM
