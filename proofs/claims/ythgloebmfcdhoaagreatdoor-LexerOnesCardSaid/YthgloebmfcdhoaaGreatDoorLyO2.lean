import Derived.Test.YthgloebmfcdhoaaGreatDoorLyA
set_option maxRecDepth 1000000
namespace Go.AM
open Go
theorem Ly.ones2 : boolOf (bodyK Ly.fk 1000 Ly.ev 3 [.int .i64 (.ofNat 2)] ⟨0, .lf⟩) = some true := by kernel_rfl
theorem Ly.ones17 : boolOf (bodyK Ly.fk 1000 Ly.ev 3 [.int .i64 (.ofNat 17)] ⟨0, .lf⟩) = some true := by kernel_rfl
theorem Ly.ones22 : boolOf (bodyK Ly.fk 1000 Ly.ev 3 [.int .i64 (.ofNat 22)] ⟨0, .lf⟩) = some true := by kernel_rfl
theorem Ly.ones37 : boolOf (bodyK Ly.fk 1000 Ly.ev 3 [.int .i64 (.ofNat 37)] ⟨0, .lf⟩) = some true := by kernel_rfl
end Go.AM
