import Derived.Test.YthgloebmfcdhoaaGreatDoorLyA
set_option maxRecDepth 1000000
namespace Go.AM
open Go
theorem Ly.ones0 : boolOf (bodyK Ly.fk 1000 Ly.ev 3 [.int .i64 (.ofNat 0)] ⟨0, .lf⟩) = some true := by kernel_rfl
theorem Ly.ones19 : boolOf (bodyK Ly.fk 1000 Ly.ev 3 [.int .i64 (.ofNat 19)] ⟨0, .lf⟩) = some true := by kernel_rfl
theorem Ly.ones20 : boolOf (bodyK Ly.fk 1000 Ly.ev 3 [.int .i64 (.ofNat 20)] ⟨0, .lf⟩) = some true := by kernel_rfl
theorem Ly.ones39 : boolOf (bodyK Ly.fk 1000 Ly.ev 3 [.int .i64 (.ofNat 39)] ⟨0, .lf⟩) = some true := by kernel_rfl
end Go.AM
