import Derived.Test.YthgloebmfcdhoaaGreatDoorLyA
set_option maxRecDepth 1000000
namespace Go.AM
open Go
theorem Ly.ones3 : boolOf (bodyK Ly.fk 1000 Ly.ev 3 [.int .i64 (.ofNat 3)] ⟨0, .lf⟩) = some true := by kernel_rfl
theorem Ly.ones16 : boolOf (bodyK Ly.fk 1000 Ly.ev 3 [.int .i64 (.ofNat 16)] ⟨0, .lf⟩) = some true := by kernel_rfl
theorem Ly.ones23 : boolOf (bodyK Ly.fk 1000 Ly.ev 3 [.int .i64 (.ofNat 23)] ⟨0, .lf⟩) = some true := by kernel_rfl
theorem Ly.ones36 : boolOf (bodyK Ly.fk 1000 Ly.ev 3 [.int .i64 (.ofNat 36)] ⟨0, .lf⟩) = some true := by kernel_rfl
end Go.AM
