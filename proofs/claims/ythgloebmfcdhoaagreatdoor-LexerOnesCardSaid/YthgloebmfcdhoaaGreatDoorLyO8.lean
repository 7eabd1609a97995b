import Derived.Test.YthgloebmfcdhoaaGreatDoorLyA
set_option maxRecDepth 1000000
namespace Go.AM
open Go
theorem Ly.ones8 : boolOf (bodyK Ly.fk 1000 Ly.ev 3 [.int .i64 (.ofNat 8)] ⟨0, .lf⟩) = some true := by kernel_rfl
theorem Ly.ones11 : boolOf (bodyK Ly.fk 1000 Ly.ev 3 [.int .i64 (.ofNat 11)] ⟨0, .lf⟩) = some true := by kernel_rfl
theorem Ly.ones28 : boolOf (bodyK Ly.fk 1000 Ly.ev 3 [.int .i64 (.ofNat 28)] ⟨0, .lf⟩) = some true := by kernel_rfl
theorem Ly.ones31 : boolOf (bodyK Ly.fk 1000 Ly.ev 3 [.int .i64 (.ofNat 31)] ⟨0, .lf⟩) = some true := by kernel_rfl
end Go.AM
