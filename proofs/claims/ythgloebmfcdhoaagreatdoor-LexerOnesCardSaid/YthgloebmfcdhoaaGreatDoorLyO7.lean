import Derived.Test.YthgloebmfcdhoaaGreatDoorLyA
set_option maxRecDepth 1000000
namespace Go.AM
open Go
theorem Ly.ones7 : boolOf (bodyK Ly.fk 1000 Ly.ev 3 [.int .i64 (.ofNat 7)] ⟨0, .lf⟩) = some true := by kernel_rfl
theorem Ly.ones12 : boolOf (bodyK Ly.fk 1000 Ly.ev 3 [.int .i64 (.ofNat 12)] ⟨0, .lf⟩) = some true := by kernel_rfl
theorem Ly.ones27 : boolOf (bodyK Ly.fk 1000 Ly.ev 3 [.int .i64 (.ofNat 27)] ⟨0, .lf⟩) = some true := by kernel_rfl
theorem Ly.ones32 : boolOf (bodyK Ly.fk 1000 Ly.ev 3 [.int .i64 (.ofNat 32)] ⟨0, .lf⟩) = some true := by kernel_rfl
end Go.AM
