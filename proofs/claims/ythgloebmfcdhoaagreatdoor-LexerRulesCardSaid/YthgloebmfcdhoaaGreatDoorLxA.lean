import Derived.Test.YthgloebmfcdhoaaGreatDoorMc
import Derived.Test.YthgloebmfcdhoaaGreatDoorLxM
set_option maxRecDepth 1000000
namespace Go.AM
open Go
theorem Lx.told_run : boolOf (callK Lx.fk 1000 60 8 [] ⟨0, .lf⟩) = some true := by kernel_rfl
end Go.AM
