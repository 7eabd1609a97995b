import Derived.Test.YthgloebmfcdhoaaGreatDoorLyA
set_option maxRecDepth 1000000
namespace Go.AM
open Go
theorem Ly.ones9 : boolOf (bodyK Ly.fk 1000 Ly.ev 3 [.int .i64 (.ofNat 9)] ⟨0, .lf⟩) = some true := by kernel_rfl
theorem Ly.ones10 : boolOf (bodyK Ly.fk 1000 Ly.ev 3 [.int .i64 (.ofNat 10)] ⟨0, .lf⟩) = some true := by kernel_rfl
theorem Ly.ones29 : boolOf (bodyK Ly.fk 1000 Ly.ev 3 [.int .i64 (.ofNat 29)] ⟨0, .lf⟩) = some true := by kernel_rfl
theorem Ly.ones30 : boolOf (bodyK Ly.fk 1000 Ly.ev 3 [.int .i64 (.ofNat 30)] ⟨0, .lf⟩) = some true := by kernel_rfl
end Go.AM
