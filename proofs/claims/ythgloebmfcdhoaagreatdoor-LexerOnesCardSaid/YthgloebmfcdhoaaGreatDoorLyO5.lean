import Derived.Test.YthgloebmfcdhoaaGreatDoorLyA
set_option maxRecDepth 1000000
namespace Go.AM
open Go
theorem Ly.ones5 : boolOf (bodyK Ly.fk 1000 Ly.ev 3 [.int .i64 (.ofNat 5)] ⟨0, .lf⟩) = some true := by kernel_rfl
theorem Ly.ones14 : boolOf (bodyK Ly.fk 1000 Ly.ev 3 [.int .i64 (.ofNat 14)] ⟨0, .lf⟩) = some true := by kernel_rfl
theorem Ly.ones25 : boolOf (bodyK Ly.fk 1000 Ly.ev 3 [.int .i64 (.ofNat 25)] ⟨0, .lf⟩) = some true := by kernel_rfl
theorem Ly.ones34 : boolOf (bodyK Ly.fk 1000 Ly.ev 3 [.int .i64 (.ofNat 34)] ⟨0, .lf⟩) = some true := by kernel_rfl
end Go.AM
