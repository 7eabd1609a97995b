import Derived.Test.YthgloebmfcdhoaaGreatDoorLyA
set_option maxRecDepth 1000000
namespace Go.AM
open Go
theorem Ly.ones4 : boolOf (bodyK Ly.fk 1000 Ly.ev 3 [.int .i64 (.ofNat 4)] ⟨0, .lf⟩) = some true := by kernel_rfl
theorem Ly.ones15 : boolOf (bodyK Ly.fk 1000 Ly.ev 3 [.int .i64 (.ofNat 15)] ⟨0, .lf⟩) = some true := by kernel_rfl
theorem Ly.ones24 : boolOf (bodyK Ly.fk 1000 Ly.ev 3 [.int .i64 (.ofNat 24)] ⟨0, .lf⟩) = some true := by kernel_rfl
theorem Ly.ones35 : boolOf (bodyK Ly.fk 1000 Ly.ev 3 [.int .i64 (.ofNat 35)] ⟨0, .lf⟩) = some true := by kernel_rfl
end Go.AM
