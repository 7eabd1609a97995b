import Derived.Test.YthgloebmfcdhoaaGreatDoorVc
import Derived.Test.YthgloebmfcdhoaaGreatDoorLyM
set_option maxRecDepth 1000000
namespace Go.AM
open Go
theorem Ly.told_run : boolOf (callK Ly.fk 1000 60 8 [] ⟨0, .lf⟩) = some true := by kernel_rfl
noncomputable def Ly.ev : Ev := withFlat 8 (.bool true) (callK Ly.fk 1000 60)
end Go.AM
