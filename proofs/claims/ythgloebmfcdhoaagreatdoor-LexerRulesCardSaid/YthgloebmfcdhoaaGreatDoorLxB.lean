import Derived.Test.YthgloebmfcdhoaaGreatDoorLxA
set_option maxRecDepth 1000000
namespace Go.AM
open Go
noncomputable def Lx.ev : Ev := withFlat 8 (.bool true) (callK Lx.fk 1000 60)
theorem Lx.rules_ff : boolOf (bodyK Lx.fk 1000 Lx.ev 4 [.bool false, .bool false] ⟨0, .lf⟩) = some true := by kernel_rfl
theorem Lx.rules_ft : boolOf (bodyK Lx.fk 1000 Lx.ev 4 [.bool false, .bool true] ⟨0, .lf⟩) = some true := by kernel_rfl
theorem Lx.rules_tf : boolOf (bodyK Lx.fk 1000 Lx.ev 4 [.bool true, .bool false] ⟨0, .lf⟩) = some true := by kernel_rfl
theorem Lx.rules_tt : boolOf (bodyK Lx.fk 1000 Lx.ev 4 [.bool true, .bool true] ⟨0, .lf⟩) = some true := by kernel_rfl
end Go.AM
