import Derived.Test.YthgloebmfcdhoaaGreatDoorVc
import Derived.Test.YthgloebmfcdhoaaGreatDoorLyM
import Derived.Test.YthgloebmfcdhoaaGreatDoorLyF
import Derived.Test.YthgloebmfcdhoaaGreatDoorLyQa
import Derived.Test.YthgloebmfcdhoaaGreatDoorLyQb
import Derived.Test.YthgloebmfcdhoaaGreatDoorLyD
set_option maxRecDepth 100000
set_option linter.unusedVariables false
set_option linter.unusedSimpArgs false
namespace Go.AM.Ly
open Go
noncomputable section
theorem e9 : q9 = cRun noG dk c9 := by kernel_rfl
theorem ed20 : d20 = cDef noG c20 := by kernel_rfl
theorem e83 : q83 = cRun noG dk c83 := by kernel_rfl
theorem ed108 : d108 = cDef noG c108 := by kernel_rfl
theorem dkOk : ∀ f g, dk f = some g → ∃ rf, F f = some rf ∧ okFunc rf = true ∧ g = cDef noG rf := by
  intro f g h
  unfold dk at h
  refine cond_of h (fun e h => ?_) fun h => ?_
  · subst e; injection h with h; subst h; exact ⟨c20, by kernel_rfl, o20, ed20⟩
  refine cond_of h (fun e h => ?_) fun h => ?_
  · subst e; injection h with h; subst h; exact ⟨c108, by kernel_rfl, o108, ed108⟩
  cases h
def ks : List (Nat × CRun) := [(3, q3), (4, q4), (5, q5), (6, q6), (7, q7), (8, q8), (9, q9), (10, q10), (11, q11), (12, q12), (13, q13), (14, q14), (15, q15), (16, q16), (17, q17), (18, q18), (19, q19), (21, q21), (22, q22), (23, q23), (24, q24), (25, q25), (26, q26), (27, q27), (28, q28), (29, q29), (30, q30), (31, q31), (32, q32), (33, q33), (34, q34), (35, q35), (36, q36), (37, q37), (38, q38), (39, q39), (40, q40), (41, q41), (42, q42), (43, q43), (44, q44), (45, q45), (46, q46), (47, q47), (48, q48), (49, q49), (50, q50), (51, q51), (52, q52), (53, q53), (54, q54), (55, q55), (56, q56), (57, q57), (58, q58), (59, q59), (60, q60), (61, q61), (62, q62), (63, q63), (64, q64), (65, q65), (66, q66), (67, q67), (68, q68), (69, q69), (70, q70), (71, q71), (72, q72), (73, q73), (74, q74), (75, q75), (76, q76), (77, q77), (78, q78), (79, q79), (80, q80), (81, q81), (82, q82), (83, q83), (84, q84), (85, q85), (86, q86), (87, q87), (88, q88), (89, q89), (95, q95), (99, q99), (100, q100), (101, q101), (102, q102), (103, q103), (104, q104), (105, q105), (106, q106), (107, q107), (109, q109), (110, q110), (112, q112), (118, q118), (119, q119), (120, q120), (125, q125), (127, q127)]
theorem trks : trK = mkTr ks := by kernel_rfl
theorem ksOk : RunsOK noG F ks := by
  unfold ks
  exact ⟨runOK_d (by kernel_rfl) o3 e3, ⟨runOK_d (by kernel_rfl) o4 e4, ⟨runOK_d (by kernel_rfl) o5 e5, ⟨runOK_d (by kernel_rfl) o6 e6, ⟨runOK_d (by kernel_rfl) o7 e7, ⟨runOK_d (by kernel_rfl) o8 e8, ⟨runOK_c dkOk (by kernel_rfl) o9 e9, ⟨runOK_d (by kernel_rfl) o10 e10, ⟨runOK_d (by kernel_rfl) o11 e11, ⟨runOK_d (by kernel_rfl) o12 e12, ⟨runOK_d (by kernel_rfl) o13 e13, ⟨runOK_d (by kernel_rfl) o14 e14, ⟨runOK_d (by kernel_rfl) o15 e15, ⟨runOK_d (by kernel_rfl) o16 e16, ⟨runOK_d (by kernel_rfl) o17 e17, ⟨runOK_d (by kernel_rfl) o18 e18, ⟨runOK_d (by kernel_rfl) o19 e19, ⟨runOK_d (by kernel_rfl) o21 e21, ⟨runOK_d (by kernel_rfl) o22 e22, ⟨runOK_d (by kernel_rfl) o23 e23, ⟨runOK_d (by kernel_rfl) o24 e24, ⟨runOK_d (by kernel_rfl) o25 e25, ⟨runOK_d (by kernel_rfl) o26 e26, ⟨runOK_d (by kernel_rfl) o27 e27, ⟨runOK_d (by kernel_rfl) o28 e28, ⟨runOK_d (by kernel_rfl) o29 e29, ⟨runOK_d (by kernel_rfl) o30 e30, ⟨runOK_d (by kernel_rfl) o31 e31, ⟨runOK_d (by kernel_rfl) o32 e32, ⟨runOK_d (by kernel_rfl) o33 e33, ⟨runOK_d (by kernel_rfl) o34 e34, ⟨runOK_d (by kernel_rfl) o35 e35, ⟨runOK_d (by kernel_rfl) o36 e36, ⟨runOK_d (by kernel_rfl) o37 e37, ⟨runOK_d (by kernel_rfl) o38 e38, ⟨runOK_d (by kernel_rfl) o39 e39, ⟨runOK_d (by kernel_rfl) o40 e40, ⟨runOK_d (by kernel_rfl) o41 e41, ⟨runOK_d (by kernel_rfl) o42 e42, ⟨runOK_d (by kernel_rfl) o43 e43, ⟨runOK_d (by kernel_rfl) o44 e44, ⟨runOK_d (by kernel_rfl) o45 e45, ⟨runOK_d (by kernel_rfl) o46 e46, ⟨runOK_d (by kernel_rfl) o47 e47, ⟨runOK_d (by kernel_rfl) o48 e48, ⟨runOK_d (by kernel_rfl) o49 e49, ⟨runOK_d (by kernel_rfl) o50 e50, ⟨runOK_d (by kernel_rfl) o51 e51, ⟨runOK_d (by kernel_rfl) o52 e52, ⟨runOK_d (by kernel_rfl) o53 e53, ⟨runOK_d (by kernel_rfl) o54 e54, ⟨runOK_d (by kernel_rfl) o55 e55, ⟨runOK_d (by kernel_rfl) o56 e56, ⟨runOK_d (by kernel_rfl) o57 e57, ⟨runOK_d (by kernel_rfl) o58 e58, ⟨runOK_d (by kernel_rfl) o59 e59, ⟨runOK_d (by kernel_rfl) o60 e60, ⟨runOK_d (by kernel_rfl) o61 e61, ⟨runOK_d (by kernel_rfl) o62 e62, ⟨runOK_d (by kernel_rfl) o63 e63, ⟨runOK_d (by kernel_rfl) o64 e64, ⟨runOK_d (by kernel_rfl) o65 e65, ⟨runOK_d (by kernel_rfl) o66 e66, ⟨runOK_d (by kernel_rfl) o67 e67, ⟨runOK_d (by kernel_rfl) o68 e68, ⟨runOK_d (by kernel_rfl) o69 e69, ⟨runOK_d (by kernel_rfl) o70 e70, ⟨runOK_d (by kernel_rfl) o71 e71, ⟨runOK_d (by kernel_rfl) o72 e72, ⟨runOK_d (by kernel_rfl) o73 e73, ⟨runOK_d (by kernel_rfl) o74 e74, ⟨runOK_d (by kernel_rfl) o75 e75, ⟨runOK_d (by kernel_rfl) o76 e76, ⟨runOK_d (by kernel_rfl) o77 e77, ⟨runOK_d (by kernel_rfl) o78 e78, ⟨runOK_d (by kernel_rfl) o79 e79, ⟨runOK_d (by kernel_rfl) o80 e80, ⟨runOK_d (by kernel_rfl) o81 e81, ⟨runOK_d (by kernel_rfl) o82 e82, ⟨runOK_c dkOk (by kernel_rfl) o83 e83, ⟨runOK_d (by kernel_rfl) o84 e84, ⟨runOK_d (by kernel_rfl) o85 e85, ⟨runOK_d (by kernel_rfl) o86 e86, ⟨runOK_d (by kernel_rfl) o87 e87, ⟨runOK_d (by kernel_rfl) o88 e88, ⟨runOK_d (by kernel_rfl) o89 e89, ⟨runOK_d (by kernel_rfl) o95 e95, ⟨runOK_d (by kernel_rfl) o99 e99, ⟨runOK_d (by kernel_rfl) o100 e100, ⟨runOK_d (by kernel_rfl) o101 e101, ⟨runOK_d (by kernel_rfl) o102 e102, ⟨runOK_d (by kernel_rfl) o103 e103, ⟨runOK_d (by kernel_rfl) o104 e104, ⟨runOK_d (by kernel_rfl) o105 e105, ⟨runOK_d (by kernel_rfl) o106 e106, ⟨runOK_d (by kernel_rfl) o107 e107, ⟨runOK_d (by kernel_rfl) o109 e109, ⟨runOK_d (by kernel_rfl) o110 e110, ⟨runOK_d (by kernel_rfl) o112 e112, ⟨runOK_d (by kernel_rfl) o118 e118, ⟨runOK_d (by kernel_rfl) o119 e119, ⟨runOK_d (by kernel_rfl) o120 e120, ⟨runOK_d (by kernel_rfl) o125 e125, ⟨runOK_d (by kernel_rfl) o127 e127, trivial⟩⟩⟩⟩⟩⟩⟩⟩⟩⟩⟩⟩⟩⟩⟩⟩⟩⟩⟩⟩⟩⟩⟩⟩⟩⟩⟩⟩⟩⟩⟩⟩⟩⟩⟩⟩⟩⟩⟩⟩⟩⟩⟩⟩⟩⟩⟩⟩⟩⟩⟩⟩⟩⟩⟩⟩⟩⟩⟩⟩⟩⟩⟩⟩⟩⟩⟩⟩⟩⟩⟩⟩⟩⟩⟩⟩⟩⟩⟩⟩⟩⟩⟩⟩⟩⟩⟩⟩⟩⟩⟩⟩⟩⟩⟩⟩⟩⟩⟩⟩⟩⟩⟩⟩
theorem runs : ∀ f g, fk f = some g → RunOK noG F f g := runsOK_of trks ksOk
end
end Go.AM.Ly
