import Derived.Test.YthgloebmfcdhoaaGreatDoorLyA
set_option maxRecDepth 1000000
namespace Go.AM
open Go
theorem Ly.ones6 : boolOf (bodyK Ly.fk 1000 Ly.ev 3 [.int .i64 (.ofNat 6)] ⟨0, .lf⟩) = some true := by kernel_rfl
theorem Ly.ones13 : boolOf (bodyK Ly.fk 1000 Ly.ev 3 [.int .i64 (.ofNat 13)] ⟨0, .lf⟩) = some true := by kernel_rfl
theorem Ly.ones26 : boolOf (bodyK Ly.fk 1000 Ly.ev 3 [.int .i64 (.ofNat 26)] ⟨0, .lf⟩) = some true := by kernel_rfl
theorem Ly.ones33 : boolOf (bodyK Ly.fk 1000 Ly.ev 3 [.int .i64 (.ofNat 33)] ⟨0, .lf⟩) = some true := by kernel_rfl
end Go.AM
