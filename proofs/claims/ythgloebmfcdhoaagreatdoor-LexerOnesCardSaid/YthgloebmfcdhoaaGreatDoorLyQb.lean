import Derived.Test.YthgloebmfcdhoaaGreatDoorLyCb
import Derived.Test.YthgloebmfcdhoaaGreatDoorLyJb
set_option maxRecDepth 100000
set_option linter.unusedVariables false
set_option linter.unusedSimpArgs false
namespace Go.AM.Ly
open Go
noncomputable section
variable (ev : Ev) (L : Nat)
def t46_0 : K0 := fun T H => j46_0 ev L H
theorem p46_0 (ex : Nat → K0) (n : K0) (hn : n = finR noG c46r) : dCode noG ev (finR noG c46r) L c46_0 ex n = t46_0 ev L := by
  subst hn
  simp only [c46_0, dCode, dOpers]
  kernel_rfl
def s46_1 (k1 : AV → AV → AV → AV → Heap → CR) : K0 := fun T H => k1 (getS 0 T) (getS 1 T) (getS 7 T) (getS 8 T) H
def t46_3 (k1 : AV → AV → AV → AV → Heap → CR) : K0 := fun T H => j46_3 ev L k1 (getS 0 T) (getS 1 T) (getS 7 T) (getS 8 T) H
theorem p46_3 (k1 : AV → AV → AV → AV → Heap → CR) (ex : Nat → K0) (n : K0) (hn : n = s46_1 k1) : dCode noG ev (finR noG c46r) L c46_3 ex n = t46_3 ev L k1 := by
  subst hn
  simp only [c46_3, dCode, dOpers]
  kernel_rfl
def t46_2 (k1 : AV → AV → AV → AV → Heap → CR) : K0 := fun T H => j46_2 ev L k1 (getS 0 T) (getS 1 T) (getS 7 T) (getS 8 T) H
theorem p46_2 (k1 : AV → AV → AV → AV → Heap → CR) (ex : Nat → K0) (n : K0) (hn : n = s46_1 k1) : dCode noG ev (finR noG c46r) L c46_2 ex n = t46_2 ev L k1 := by
  subst hn
  simp only [c46_2, dCode, dOpers]
  rw [p46_3 ev L k1 _ _ rfl]
  kernel_rfl
theorem b46_1 (k1 : AV → AV → AV → AV → Heap → CR) (ex : Nat → K0) (n : K0) (hn : n = s46_1 k1) (hx0 : ex 0 = t46_0 ev L) : dCode noG ev (finR noG c46r) L c46_1 ex n = fun T H => j46_1 ev L k1 (getS 0 T) (getS 1 T) (getS 7 T) (getS 8 T) H := by
  subst hn
  simp only [c46_1, dCode, dOpers]
  rw [p46_2 ev L k1 _ _ rfl]
  try rw [hx0]
  kernel_rfl
theorem p46_1 (ex : Nat → K0) (hx0 : ex 0 = t46_0 ev L) : ∀ m, pLoop (fun n => dCode noG ev (finR noG c46r) L c46_1 ex n) m = s46_1 (l46_1 ev L m) := by
  intro m
  induction m with
  | zero => kernel_rfl
  | succ m ih =>
    show dCode noG ev (finR noG c46r) L c46_1 ex (pLoop (fun n => dCode noG ev (finR noG c46r) L c46_1 ex n) m) = _
    rw [ih, b46_1 ev L (l46_1 ev L m) ex _ rfl hx0]
    kernel_rfl
theorem e46 (args : List AV) (H : Heap) : Lq (q46 ev L args H) (dRun noG c46 ev L args H) := by
  unfold q46
  split
  · refine .inr ?_
    rename_i t0 t1
    show _ = ob (argsTm [t0, t1]) fun T => dCode noG ev (finR noG c46r) L c46b (fun _ => pFail) (finR noG c46r) T H
    simp only [c46b, dCode, dOpers]
    rw [p46_0 ev L _ _ rfl]
    rw [p46_1 ev L _ (by first | rfl | exact hx0)]
    kernel_rfl
  · exact .inl rfl
theorem e47 (args : List AV) (H : Heap) : Lq (q47 ev L args H) (dRun noG c47 ev L args H) := by
  unfold q47
  split
  · refine .inr ?_
    rename_i t0
    show _ = ob (argsTm [t0]) fun T => dCode noG ev (finR noG c47r) L c47b (fun _ => pFail) (finR noG c47r) T H
    simp only [c47b, dCode, dOpers]
    kernel_rfl
  · exact .inl rfl
def t48_2 : K0 := fun T H => j48_2 ev L (getS 2 T) H
theorem p48_2 (ex : Nat → K0) (n : K0) (hn : n = finR noG c48r) : dCode noG ev (finR noG c48r) L c48_2 ex n = t48_2 ev L := by
  subst hn
  simp only [c48_2, dCode, dOpers]
  kernel_rfl
def t48_10 : K0 := fun T H => j48_10 ev L (getS 32 T) (getS 35 T) H
theorem p48_10 (n : K0) (hn : n = t48_2 ev L) : dOpers noG ev o48_3_14 n = t48_10 ev L := by
  subst hn
  simp only [o48_3_14, dOpers]
  kernel_rfl
def t48_9 : K0 := fun T H => j48_9 ev L (getS 32 T) (getS 34 T) H
theorem p48_9 (n : K0) (hn : n = t48_2 ev L) : dOpers noG ev o48_3_13 n = t48_9 ev L := by
  subst hn
  simp only [o48_3_13, dOpers]
  rw [p48_10 ev L _ rfl]
  kernel_rfl
def t48_8 : K0 := fun T H => j48_8 ev L (getS 32 T) (getS 33 T) H
theorem p48_8 (n : K0) (hn : n = t48_2 ev L) : dOpers noG ev o48_3_12 n = t48_8 ev L := by
  subst hn
  simp only [o48_3_12, dOpers]
  rw [p48_9 ev L _ rfl]
  kernel_rfl
def t48_7 : K0 := fun T H => j48_7 ev L (getS 1 T) (getS 26 T) (getS 30 T) H
theorem p48_7 (n : K0) (hn : n = t48_2 ev L) : dOpers noG ev o48_3_9 n = t48_7 ev L := by
  subst hn
  simp only [o48_3_9, dOpers]
  rw [p48_8 ev L _ rfl]
  kernel_rfl
def t48_6 : K0 := fun T H => j48_6 ev L (getS 1 T) (getS 26 T) (getS 29 T) H
theorem p48_6 (n : K0) (hn : n = t48_2 ev L) : dOpers noG ev o48_3_8 n = t48_6 ev L := by
  subst hn
  simp only [o48_3_8, dOpers]
  rw [p48_7 ev L _ rfl]
  kernel_rfl
def t48_5 : K0 := fun T H => j48_5 ev L (getS 1 T) (getS 26 T) (getS 28 T) H
theorem p48_5 (n : K0) (hn : n = t48_2 ev L) : dOpers noG ev o48_3_7 n = t48_5 ev L := by
  subst hn
  simp only [o48_3_7, dOpers]
  rw [p48_6 ev L _ rfl]
  kernel_rfl
def t48_4 : K0 := fun T H => j48_4 ev L (getS 1 T) (getS 26 T) (getS 27 T) H
theorem p48_4 (n : K0) (hn : n = t48_2 ev L) : dOpers noG ev o48_3_6 n = t48_4 ev L := by
  subst hn
  simp only [o48_3_6, dOpers]
  rw [p48_5 ev L _ rfl]
  kernel_rfl
def t48_1 : K0 := fun T H => j48_1 ev L (getS 1 T) H
theorem p48_1 (ex : Nat → K0) (n : K0) (hn : n = finR noG c48r) : dCode noG ev (finR noG c48r) L c48_1 ex n = t48_1 ev L := by
  subst hn
  simp only [c48_1, dCode, dOpers]
  rw [p48_2 ev L _ _ rfl]
  rw [p48_4 ev L _ rfl]
  kernel_rfl
def t48_0 : K0 := fun T H => j48_0 ev L (getS 1 T) H
theorem p48_0 (ex : Nat → K0) (n : K0) (hn : n = finR noG c48r) : dCode noG ev (finR noG c48r) L c48_0 ex n = t48_0 ev L := by
  subst hn
  simp only [c48_0, dCode, dOpers]
  rw [p48_1 ev L _ _ rfl]
  kernel_rfl
def t48_11 : K0 := fun T H => j48_11 ev L (getS 1 T) (getS 14 T) H
theorem p48_11 (ex : Nat → K0) (n : K0) (hn : n = t48_0 ev L) : dCode noG ev (finR noG c48r) L c48_11 ex n = t48_11 ev L := by
  subst hn
  simp only [c48_11, dCode, dOpers]
  kernel_rfl
def t48_15 : K0 := fun T H => j48_15 ev L (getS 1 T) (getS 10 T) (getS 13 T) H
theorem p48_15 (n : K0) (hn : n = t48_11 ev L) : dDrawn noG ev o48_12_11 n = t48_15 ev L := by
  subst hn
  simp only [o48_12_11, dDrawn, dAgain, isPanic, cond_false]
  kernel_rfl
def t48_14 : K0 := fun T H => j48_14 ev L (getS 1 T) (getS 10 T) (getS 12 T) H
theorem p48_14 (n : K0) (hn : n = t48_11 ev L) : dDrawn noG ev o48_12_10 n = t48_14 ev L := by
  subst hn
  simp only [o48_12_10, dDrawn, dAgain, isPanic, cond_false]
  rw [p48_15 ev L _ rfl]
  kernel_rfl
def t48_13 : K0 := fun T H => j48_13 ev L (getS 1 T) (getS 10 T) (getS 11 T) H
theorem p48_13 (n : K0) (hn : n = t48_11 ev L) : dDrawn noG ev o48_12_9 n = t48_13 ev L := by
  subst hn
  simp only [o48_12_9, dDrawn, dAgain, isPanic, cond_false]
  rw [p48_14 ev L _ rfl]
  kernel_rfl
theorem e48 (args : List AV) (H : Heap) : Lq (q48 ev L args H) (dRun noG c48 ev L args H) := by
  unfold q48
  split
  · refine .inr ?_
    rename_i t0
    show _ = ob (argsTm [t0]) fun T => dCode noG ev (finR noG c48r) L c48b (fun _ => pFail) (finR noG c48r) T H
    simp only [c48b, dCode, dOpers, dDrawn, dAgain, isPanic, cond_false]
    rw [p48_0 ev L _ _ rfl]
    rw [p48_11 ev L _ _ rfl]
    rw [p48_13 ev L _ rfl]
    kernel_rfl
  · exact .inl rfl
def t49_1 : K0 := fun T H => j49_1 ev L (getS 6 T) H
theorem p49_1 (ex : Nat → K0) (n : K0) (hn : n = finR noG c49r) : dCode noG ev (finR noG c49r) L c49_1 ex n = t49_1 ev L := by
  subst hn
  simp only [c49_1, dCode, dOpers]
  kernel_rfl
def s49_2 (k2 : AV → AV → AV → AV → Heap → CR) : K0 := fun T H => k2 (getS 6 T) (getS 25 T) (getS 26 T) (getS 27 T) H
def t49_4 (k2 : AV → AV → AV → AV → Heap → CR) : K0 := fun T H => j49_4 ev L k2 (getS 6 T) (getS 25 T) (getS 26 T) (getS 27 T) H
theorem p49_4 (k2 : AV → AV → AV → AV → Heap → CR) (ex : Nat → K0) (n : K0) (hn : n = s49_2 k2) : dCode noG ev (finR noG c49r) L c49_4 ex n = t49_4 ev L k2 := by
  subst hn
  simp only [c49_4, dCode, dOpers]
  kernel_rfl
def t49_3 (k2 : AV → AV → AV → AV → Heap → CR) : K0 := fun T H => j49_3 ev L k2 (getS 6 T) (getS 25 T) (getS 26 T) (getS 27 T) H
theorem p49_3 (k2 : AV → AV → AV → AV → Heap → CR) (ex : Nat → K0) (n : K0) (hn : n = s49_2 k2) : dCode noG ev (finR noG c49r) L c49_3 ex n = t49_3 ev L k2 := by
  subst hn
  simp only [c49_3, dCode, dOpers]
  rw [p49_4 ev L k2 _ _ rfl]
  kernel_rfl
theorem b49_2 (k2 : AV → AV → AV → AV → Heap → CR) (ex : Nat → K0) (n : K0) (hn : n = s49_2 k2) (hx2 : ex 2 = t49_1 ev L) : dCode noG ev (finR noG c49r) L c49_2 ex n = fun T H => j49_2 ev L k2 (getS 6 T) (getS 25 T) (getS 26 T) (getS 27 T) H := by
  subst hn
  simp only [c49_2, dCode, dOpers]
  rw [p49_3 ev L k2 _ _ rfl]
  try rw [hx2]
  kernel_rfl
theorem p49_2 (ex : Nat → K0) (hx2 : ex 2 = t49_1 ev L) : ∀ m, pLoop (fun n => dCode noG ev (finR noG c49r) L c49_2 ex n) m = s49_2 (l49_2 ev L m) := by
  intro m
  induction m with
  | zero => kernel_rfl
  | succ m ih =>
    show dCode noG ev (finR noG c49r) L c49_2 ex (pLoop (fun n => dCode noG ev (finR noG c49r) L c49_2 ex n) m) = _
    rw [ih, b49_2 ev L (l49_2 ev L m) ex _ rfl hx2]
    kernel_rfl
def t49_0 : K0 := fun T H => j49_0 ev L (getS 0 T) (getS 3 T) H
theorem p49_0 (ex : Nat → K0) (n : K0) (hn : n = finR noG c49r) : dCode noG ev (finR noG c49r) L c49_0 ex n = t49_0 ev L := by
  subst hn
  simp only [c49_0, dCode, dOpers]
  rw [p49_1 ev L _ _ rfl]
  rw [p49_2 ev L _ (by first | rfl | exact hx2)]
  kernel_rfl
def s49_7 (k7 : AV → AV → AV → AV → AV → Heap → CR) : K0 := fun T H => k7 (getS 0 T) (getS 3 T) (getS 9 T) (getS 10 T) (getS 11 T) H
def t49_9 (k7 : AV → AV → AV → AV → AV → Heap → CR) : K0 := fun T H => j49_9 ev L k7 (getS 0 T) (getS 3 T) (getS 9 T) (getS 10 T) (getS 11 T) H
theorem p49_9 (k7 : AV → AV → AV → AV → AV → Heap → CR) (ex : Nat → K0) (n : K0) (hn : n = s49_7 k7) : dCode noG ev (finR noG c49r) L c49_9 ex n = t49_9 ev L k7 := by
  subst hn
  simp only [c49_9, dCode, dOpers]
  kernel_rfl
def t49_8 (k7 : AV → AV → AV → AV → AV → Heap → CR) : K0 := fun T H => j49_8 ev L k7 (getS 0 T) (getS 3 T) (getS 9 T) (getS 10 T) (getS 11 T) H
theorem p49_8 (k7 : AV → AV → AV → AV → AV → Heap → CR) (ex : Nat → K0) (n : K0) (hn : n = s49_7 k7) : dCode noG ev (finR noG c49r) L c49_8 ex n = t49_8 ev L k7 := by
  subst hn
  simp only [c49_8, dCode, dOpers]
  rw [p49_9 ev L k7 _ _ rfl]
  kernel_rfl
theorem b49_7 (k7 : AV → AV → AV → AV → AV → Heap → CR) (ex : Nat → K0) (n : K0) (hn : n = s49_7 k7) (hx0 : ex 0 = t49_0 ev L) : dCode noG ev (finR noG c49r) L c49_7 ex n = fun T H => j49_7 ev L k7 (getS 0 T) (getS 3 T) (getS 9 T) (getS 10 T) (getS 11 T) H := by
  subst hn
  simp only [c49_7, dCode, dOpers]
  rw [p49_8 ev L k7 _ _ rfl]
  try rw [hx0]
  kernel_rfl
theorem p49_7 (ex : Nat → K0) (hx0 : ex 0 = t49_0 ev L) : ∀ m, pLoop (fun n => dCode noG ev (finR noG c49r) L c49_7 ex n) m = s49_7 (l49_7 ev L m) := by
  intro m
  induction m with
  | zero => kernel_rfl
  | succ m ih =>
    show dCode noG ev (finR noG c49r) L c49_7 ex (pLoop (fun n => dCode noG ev (finR noG c49r) L c49_7 ex n) m) = _
    rw [ih, b49_7 ev L (l49_7 ev L m) ex _ rfl hx0]
    kernel_rfl
theorem e49 (args : List AV) (H : Heap) : Lq (q49 ev L args H) (dRun noG c49 ev L args H) := by
  unfold q49
  split
  · refine .inr ?_
    rename_i t0
    show _ = ob (argsTm [t0]) fun T => dCode noG ev (finR noG c49r) L c49b (fun _ => pFail) (finR noG c49r) T H
    simp only [c49b, dCode, dOpers]
    rw [p49_0 ev L _ _ rfl]
    rw [p49_7 ev L _ (by first | rfl | exact hx0)]
    kernel_rfl
  · exact .inl rfl
theorem e50 (args : List AV) (H : Heap) : Lq (q50 ev L args H) (dRun noG c50 ev L args H) := by
  unfold q50
  split
  · refine .inr ?_
    rename_i t0
    show _ = ob (argsTm [t0]) fun T => dCode noG ev (finR noG c50r) L c50b (fun _ => pFail) (finR noG c50r) T H
    simp only [c50b, dCode, dOpers]
    kernel_rfl
  · exact .inl rfl
def t51_1 : K0 := fun T H => j51_1 ev L (getS 0 T) H
theorem p51_1 (ex : Nat → K0) (n : K0) (hn : n = finR noG c51r) : dCode noG ev (finR noG c51r) L c51_1 ex n = t51_1 ev L := by
  subst hn
  simp only [c51_1, dCode, dOpers]
  kernel_rfl
def s51_2 (k2 : AV → AV → Heap → CR) : K0 := fun T H => k2 (getS 0 T) (getS 3 T) H
def t51_4 (k2 : AV → AV → Heap → CR) : K0 := fun T H => j51_4 ev L k2 (getS 0 T) (getS 3 T) H
theorem p51_4 (k2 : AV → AV → Heap → CR) (ex : Nat → K0) (n : K0) (hn : n = s51_2 k2) : dCode noG ev (finR noG c51r) L c51_4 ex n = t51_4 ev L k2 := by
  subst hn
  simp only [c51_4, dCode, dOpers]
  kernel_rfl
def t51_6 (k2 : AV → AV → Heap → CR) : K0 := fun T H => j51_6 ev L k2 (getS 0 T) (getS 3 T) H
theorem p51_6 (k2 : AV → AV → Heap → CR) (ex : Nat → K0) (n : K0) (hn : n = t51_4 ev L k2) : dCode noG ev (finR noG c51r) L c51_6 ex n = t51_6 ev L k2 := by
  subst hn
  simp only [c51_6, dCode, dOpers]
  kernel_rfl
def s51_7 (k7 : AV → AV → AV → AV → Heap → CR) : K0 := fun T H => k7 (getS 0 T) (getS 3 T) (getS 4 T) (getS 5 T) H
def t51_9 (k2 : AV → AV → Heap → CR) (k7 : AV → AV → AV → AV → Heap → CR) : K0 := fun T H => j51_9 ev L k2 k7 (getS 0 T) (getS 3 T) (getS 4 T) (getS 5 T) H
theorem p51_9 (k2 : AV → AV → Heap → CR) (k7 : AV → AV → AV → AV → Heap → CR) (ex : Nat → K0) (n : K0) (hn : n = s51_7 k7) : dCode noG ev (finR noG c51r) L c51_9 ex n = t51_9 ev L k2 k7 := by
  subst hn
  simp only [c51_9, dCode, dOpers]
  kernel_rfl
def t51_8 (k2 : AV → AV → Heap → CR) (k7 : AV → AV → AV → AV → Heap → CR) : K0 := fun T H => j51_8 ev L k2 k7 (getS 0 T) (getS 3 T) (getS 4 T) (getS 5 T) H
theorem p51_8 (k2 : AV → AV → Heap → CR) (k7 : AV → AV → AV → AV → Heap → CR) (ex : Nat → K0) (n : K0) (hn : n = s51_7 k7) : dCode noG ev (finR noG c51r) L c51_8 ex n = t51_8 ev L k2 k7 := by
  subst hn
  simp only [c51_8, dCode, dOpers, dDrawn, dAgain, isPanic, cond_false]
  rw [p51_9 ev L k2 k7 _ _ rfl]
  kernel_rfl
theorem b51_7 (k2 : AV → AV → Heap → CR) (k7 : AV → AV → AV → AV → Heap → CR) (ex : Nat → K0) (n : K0) (hn : n = s51_7 k7) (hx2 : ex 2 = t51_6 ev L k2) : dCode noG ev (finR noG c51r) L c51_7 ex n = fun T H => j51_7 ev L k2 k7 (getS 0 T) (getS 3 T) (getS 4 T) (getS 5 T) H := by
  subst hn
  simp only [c51_7, dCode, dOpers, dDrawn, dAgain, isPanic, cond_false]
  rw [p51_8 ev L k2 k7 _ _ rfl]
  try rw [hx2]
  kernel_rfl
theorem p51_7 (k2 : AV → AV → Heap → CR) (ex : Nat → K0) (hx2 : ex 2 = t51_6 ev L k2) : ∀ m, pLoop (fun n => dCode noG ev (finR noG c51r) L c51_7 ex n) m = s51_7 (l51_7 ev L k2 m) := by
  intro m
  induction m with
  | zero => kernel_rfl
  | succ m ih =>
    show dCode noG ev (finR noG c51r) L c51_7 ex (pLoop (fun n => dCode noG ev (finR noG c51r) L c51_7 ex n) m) = _
    rw [ih, b51_7 ev L k2 (l51_7 ev L k2 m) ex _ rfl hx2]
    kernel_rfl
def t51_3 (k2 : AV → AV → Heap → CR) : K0 := fun T H => j51_3 ev L k2 (getS 0 T) (getS 3 T) H
theorem p51_3 (k2 : AV → AV → Heap → CR) (ex : Nat → K0) (n : K0) (hn : n = s51_2 k2) : dCode noG ev (finR noG c51r) L c51_3 ex n = t51_3 ev L k2 := by
  subst hn
  simp only [c51_3, dCode, dOpers, dDrawn, dAgain, isPanic, cond_false]
  rw [p51_4 ev L k2 _ _ rfl]
  rw [p51_6 ev L k2 _ _ rfl]
  rw [p51_7 ev L k2 _ (by first | rfl | exact hx2)]
  kernel_rfl
theorem b51_2 (k2 : AV → AV → Heap → CR) (ex : Nat → K0) (n : K0) (hn : n = s51_2 k2) (hx0 : ex 0 = t51_1 ev L) : dCode noG ev (finR noG c51r) L c51_2 ex n = fun T H => j51_2 ev L k2 (getS 0 T) (getS 3 T) H := by
  subst hn
  simp only [c51_2, dCode, dOpers, dDrawn, dAgain, isPanic, cond_false]
  rw [p51_3 ev L k2 _ _ rfl]
  try rw [hx0]
  kernel_rfl
theorem p51_2 (ex : Nat → K0) (hx0 : ex 0 = t51_1 ev L) : ∀ m, pLoop (fun n => dCode noG ev (finR noG c51r) L c51_2 ex n) m = s51_2 (l51_2 ev L m) := by
  intro m
  induction m with
  | zero => kernel_rfl
  | succ m ih =>
    show dCode noG ev (finR noG c51r) L c51_2 ex (pLoop (fun n => dCode noG ev (finR noG c51r) L c51_2 ex n) m) = _
    rw [ih, b51_2 ev L (l51_2 ev L m) ex _ rfl hx0]
    kernel_rfl
def t51_0 : K0 := fun T H => j51_0 ev L (getS 0 T) H
theorem p51_0 (ex : Nat → K0) (n : K0) (hn : n = finR noG c51r) : dCode noG ev (finR noG c51r) L c51_0 ex n = t51_0 ev L := by
  subst hn
  simp only [c51_0, dCode, dOpers, dDrawn, dAgain, isPanic, cond_false]
  rw [p51_1 ev L _ _ rfl]
  rw [p51_2 ev L _ (by first | rfl | exact hx0)]
  kernel_rfl
theorem e51 (args : List AV) (H : Heap) : Lq (q51 ev L args H) (dRun noG c51 ev L args H) := by
  unfold q51
  split
  · refine .inr ?_
    rename_i t0
    show _ = ob (argsTm [t0]) fun T => dCode noG ev (finR noG c51r) L c51b (fun _ => pFail) (finR noG c51r) T H
    simp only [c51b, dCode, dOpers, dDrawn, dAgain, isPanic, cond_false]
    rw [p51_0 ev L _ _ rfl]
    kernel_rfl
  · exact .inl rfl
def t52_1 : K0 := fun T H => j52_1 ev L (getS 9 T) H
theorem p52_1 (ex : Nat → K0) (n : K0) (hn : n = finR noG c52r) : dCode noG ev (finR noG c52r) L c52_1 ex n = t52_1 ev L := by
  subst hn
  simp only [c52_1, dCode, dOpers]
  kernel_rfl
def s52_2 (k2 : AV → AV → AV → AV → AV → Heap → CR) : K0 := fun T H => k2 (getS 3 T) (getS 9 T) (getS 44 T) (getS 45 T) (getS 46 T) H
def t52_4 (k2 : AV → AV → AV → AV → AV → Heap → CR) : K0 := fun T H => j52_4 ev L k2 (getS 3 T) (getS 9 T) (getS 44 T) (getS 45 T) (getS 46 T) H
theorem p52_4 (k2 : AV → AV → AV → AV → AV → Heap → CR) (ex : Nat → K0) (n : K0) (hn : n = s52_2 k2) : dCode noG ev (finR noG c52r) L c52_4 ex n = t52_4 ev L k2 := by
  subst hn
  simp only [c52_4, dCode, dOpers]
  kernel_rfl
def s52_6 (k6 : AV → AV → AV → AV → AV → AV → AV → AV → AV → Heap → CR) : K0 := fun T H => k6 (getS 3 T) (getS 9 T) (getS 11 T) (getS 44 T) (getS 45 T) (getS 46 T) (getS 50 T) (getS 51 T) (getS 52 T) H
def t52_8 (k2 : AV → AV → AV → AV → AV → Heap → CR) (k6 : AV → AV → AV → AV → AV → AV → AV → AV → AV → Heap → CR) : K0 := fun T H => j52_8 ev L k2 k6 (getS 3 T) (getS 9 T) (getS 11 T) (getS 44 T) (getS 45 T) (getS 46 T) (getS 50 T) (getS 51 T) (getS 52 T) H
theorem p52_8 (k2 : AV → AV → AV → AV → AV → Heap → CR) (k6 : AV → AV → AV → AV → AV → AV → AV → AV → AV → Heap → CR) (ex : Nat → K0) (n : K0) (hn : n = s52_6 k6) : dCode noG ev (finR noG c52r) L c52_8 ex n = t52_8 ev L k2 k6 := by
  subst hn
  simp only [c52_8, dCode, dOpers]
  kernel_rfl
def t52_10 (k2 : AV → AV → AV → AV → AV → Heap → CR) (k6 : AV → AV → AV → AV → AV → AV → AV → AV → AV → Heap → CR) : K0 := fun T H => j52_10 ev L k2 k6 (getS 3 T) (getS 9 T) (getS 11 T) (getS 13 T) (getS 44 T) (getS 45 T) (getS 46 T) (getS 50 T) (getS 51 T) (getS 52 T) (getS 65 T) H
theorem p52_10 (k2 : AV → AV → AV → AV → AV → Heap → CR) (k6 : AV → AV → AV → AV → AV → AV → AV → AV → AV → Heap → CR) (ex : Nat → K0) (n : K0) (hn : n = t52_8 ev L k2 k6) : dCode noG ev (finR noG c52r) L c52_10 ex n = t52_10 ev L k2 k6 := by
  subst hn
  simp only [c52_10, dCode, dOpers]
  kernel_rfl
def t52_16 (k2 : AV → AV → AV → AV → AV → Heap → CR) (k6 : AV → AV → AV → AV → AV → AV → AV → AV → AV → Heap → CR) : K0 := fun T H => j52_16 ev L k2 k6 (getS 3 T) (getS 9 T) (getS 11 T) (getS 13 T) (getS 44 T) (getS 45 T) (getS 46 T) (getS 50 T) (getS 51 T) (getS 52 T) (getS 60 T) (getS 64 T) H
theorem p52_16 (k2 : AV → AV → AV → AV → AV → Heap → CR) (k6 : AV → AV → AV → AV → AV → AV → AV → AV → AV → Heap → CR) (n : K0) (hn : n = t52_10 ev L k2 k6) : dOpers noG ev o52_12_9 n = t52_16 ev L k2 k6 := by
  subst hn
  simp only [o52_12_9, dOpers]
  kernel_rfl
def t52_15 (k2 : AV → AV → AV → AV → AV → Heap → CR) (k6 : AV → AV → AV → AV → AV → AV → AV → AV → AV → Heap → CR) : K0 := fun T H => j52_15 ev L k2 k6 (getS 3 T) (getS 9 T) (getS 11 T) (getS 13 T) (getS 44 T) (getS 45 T) (getS 46 T) (getS 50 T) (getS 51 T) (getS 52 T) (getS 60 T) (getS 61 T) (getS 63 T) H
theorem p52_15 (k2 : AV → AV → AV → AV → AV → Heap → CR) (k6 : AV → AV → AV → AV → AV → AV → AV → AV → AV → Heap → CR) (n : K0) (hn : n = t52_10 ev L k2 k6) : dOpers noG ev o52_12_8 n = t52_15 ev L k2 k6 := by
  subst hn
  simp only [o52_12_8, dOpers]
  rw [p52_16 ev L k2 k6 _ rfl]
  kernel_rfl
def t52_14 (k2 : AV → AV → AV → AV → AV → Heap → CR) (k6 : AV → AV → AV → AV → AV → AV → AV → AV → AV → Heap → CR) : K0 := fun T H => j52_14 ev L k2 k6 (getS 3 T) (getS 9 T) (getS 11 T) (getS 13 T) (getS 44 T) (getS 45 T) (getS 46 T) (getS 50 T) (getS 51 T) (getS 52 T) (getS 60 T) (getS 61 T) (getS 62 T) H
theorem p52_14 (k2 : AV → AV → AV → AV → AV → Heap → CR) (k6 : AV → AV → AV → AV → AV → AV → AV → AV → AV → Heap → CR) (n : K0) (hn : n = t52_10 ev L k2 k6) : dOpers noG ev o52_12_7 n = t52_14 ev L k2 k6 := by
  subst hn
  simp only [o52_12_7, dOpers]
  rw [p52_15 ev L k2 k6 _ rfl]
  kernel_rfl
def t52_13 (k2 : AV → AV → AV → AV → AV → Heap → CR) (k6 : AV → AV → AV → AV → AV → AV → AV → AV → AV → Heap → CR) : K0 := fun T H => j52_13 ev L k2 k6 (getS 3 T) (getS 9 T) (getS 11 T) (getS 13 T) (getS 44 T) (getS 45 T) (getS 46 T) (getS 50 T) (getS 51 T) (getS 52 T) (getS 60 T) (getS 61 T) H
theorem p52_13 (k2 : AV → AV → AV → AV → AV → Heap → CR) (k6 : AV → AV → AV → AV → AV → AV → AV → AV → AV → Heap → CR) (n : K0) (hn : n = t52_10 ev L k2 k6) : dOpers noG ev o52_12_6 n = t52_13 ev L k2 k6 := by
  subst hn
  simp only [o52_12_6, dOpers]
  rw [p52_14 ev L k2 k6 _ rfl]
  kernel_rfl
def t52_7 (k2 : AV → AV → AV → AV → AV → Heap → CR) (k6 : AV → AV → AV → AV → AV → AV → AV → AV → AV → Heap → CR) : K0 := fun T H => j52_7 ev L k2 k6 (getS 3 T) (getS 9 T) (getS 11 T) (getS 44 T) (getS 45 T) (getS 46 T) (getS 50 T) (getS 51 T) (getS 52 T) H
theorem p52_7 (k2 : AV → AV → AV → AV → AV → Heap → CR) (k6 : AV → AV → AV → AV → AV → AV → AV → AV → AV → Heap → CR) (ex : Nat → K0) (n : K0) (hn : n = s52_6 k6) : dCode noG ev (finR noG c52r) L c52_7 ex n = t52_7 ev L k2 k6 := by
  subst hn
  simp only [c52_7, dCode, dOpers]
  rw [p52_8 ev L k2 k6 _ _ rfl]
  rw [p52_10 ev L k2 k6 _ _ rfl]
  rw [p52_13 ev L k2 k6 _ rfl]
  kernel_rfl
theorem b52_6 (k2 : AV → AV → AV → AV → AV → Heap → CR) (k6 : AV → AV → AV → AV → AV → AV → AV → AV → AV → Heap → CR) (ex : Nat → K0) (n : K0) (hn : n = s52_6 k6) (hx6 : ex 6 = t52_4 ev L k2) : dCode noG ev (finR noG c52r) L c52_6 ex n = fun T H => j52_6 ev L k2 k6 (getS 3 T) (getS 9 T) (getS 11 T) (getS 44 T) (getS 45 T) (getS 46 T) (getS 50 T) (getS 51 T) (getS 52 T) H := by
  subst hn
  simp only [c52_6, dCode, dOpers]
  rw [p52_7 ev L k2 k6 _ _ rfl]
  try rw [hx6]
  kernel_rfl
theorem p52_6 (k2 : AV → AV → AV → AV → AV → Heap → CR) (ex : Nat → K0) (hx6 : ex 6 = t52_4 ev L k2) : ∀ m, pLoop (fun n => dCode noG ev (finR noG c52r) L c52_6 ex n) m = s52_6 (l52_6 ev L k2 m) := by
  intro m
  induction m with
  | zero => kernel_rfl
  | succ m ih =>
    show dCode noG ev (finR noG c52r) L c52_6 ex (pLoop (fun n => dCode noG ev (finR noG c52r) L c52_6 ex n) m) = _
    rw [ih, b52_6 ev L k2 (l52_6 ev L k2 m) ex _ rfl hx6]
    kernel_rfl
def t52_3 (k2 : AV → AV → AV → AV → AV → Heap → CR) : K0 := fun T H => j52_3 ev L k2 (getS 3 T) (getS 9 T) (getS 44 T) (getS 45 T) (getS 46 T) H
theorem p52_3 (k2 : AV → AV → AV → AV → AV → Heap → CR) (ex : Nat → K0) (n : K0) (hn : n = s52_2 k2) : dCode noG ev (finR noG c52r) L c52_3 ex n = t52_3 ev L k2 := by
  subst hn
  simp only [c52_3, dCode, dOpers]
  rw [p52_4 ev L k2 _ _ rfl]
  rw [p52_6 ev L k2 _ (by first | rfl | exact hx6)]
  kernel_rfl
theorem b52_2 (k2 : AV → AV → AV → AV → AV → Heap → CR) (ex : Nat → K0) (n : K0) (hn : n = s52_2 k2) (hx4 : ex 4 = t52_1 ev L) : dCode noG ev (finR noG c52r) L c52_2 ex n = fun T H => j52_2 ev L k2 (getS 3 T) (getS 9 T) (getS 44 T) (getS 45 T) (getS 46 T) H := by
  subst hn
  simp only [c52_2, dCode, dOpers]
  rw [p52_3 ev L k2 _ _ rfl]
  try rw [hx4]
  kernel_rfl
theorem p52_2 (ex : Nat → K0) (hx4 : ex 4 = t52_1 ev L) : ∀ m, pLoop (fun n => dCode noG ev (finR noG c52r) L c52_2 ex n) m = s52_2 (l52_2 ev L m) := by
  intro m
  induction m with
  | zero => kernel_rfl
  | succ m ih =>
    show dCode noG ev (finR noG c52r) L c52_2 ex (pLoop (fun n => dCode noG ev (finR noG c52r) L c52_2 ex n) m) = _
    rw [ih, b52_2 ev L (l52_2 ev L m) ex _ rfl hx4]
    kernel_rfl
def t52_0 : K0 := fun T H => j52_0 ev L (getS 3 T) (getS 4 T) H
theorem p52_0 (ex : Nat → K0) (n : K0) (hn : n = finR noG c52r) : dCode noG ev (finR noG c52r) L c52_0 ex n = t52_0 ev L := by
  subst hn
  simp only [c52_0, dCode, dOpers]
  rw [p52_1 ev L _ _ rfl]
  rw [p52_2 ev L _ (by first | rfl | exact hx4)]
  kernel_rfl
def s52_17 (k17 : AV → AV → AV → AV → AV → Heap → CR) : K0 := fun T H => k17 (getS 3 T) (getS 4 T) (getS 14 T) (getS 15 T) (getS 16 T) H
def t52_19 (k17 : AV → AV → AV → AV → AV → Heap → CR) : K0 := fun T H => j52_19 ev L k17 (getS 3 T) (getS 4 T) (getS 14 T) (getS 15 T) (getS 16 T) H
theorem p52_19 (k17 : AV → AV → AV → AV → AV → Heap → CR) (ex : Nat → K0) (n : K0) (hn : n = s52_17 k17) : dCode noG ev (finR noG c52r) L c52_19 ex n = t52_19 ev L k17 := by
  subst hn
  simp only [c52_19, dCode, dOpers]
  kernel_rfl
def t52_21 (k17 : AV → AV → AV → AV → AV → Heap → CR) : K0 := fun T H => j52_21 ev L k17 (getS 3 T) (getS 4 T) (getS 6 T) (getS 14 T) (getS 15 T) (getS 16 T) H
theorem p52_21 (k17 : AV → AV → AV → AV → AV → Heap → CR) (ex : Nat → K0) (n : K0) (hn : n = t52_19 ev L k17) : dCode noG ev (finR noG c52r) L c52_21 ex n = t52_21 ev L k17 := by
  subst hn
  simp only [c52_21, dCode, dOpers]
  kernel_rfl
def s52_23 (k23 : AV → AV → AV → AV → AV → AV → AV → AV → AV → Heap → CR) : K0 := fun T H => k23 (getS 3 T) (getS 4 T) (getS 6 T) (getS 14 T) (getS 15 T) (getS 16 T) (getS 21 T) (getS 22 T) (getS 23 T) H
def t52_25 (k17 : AV → AV → AV → AV → AV → Heap → CR) (k23 : AV → AV → AV → AV → AV → AV → AV → AV → AV → Heap → CR) : K0 := fun T H => j52_25 ev L k17 k23 (getS 3 T) (getS 4 T) (getS 6 T) (getS 14 T) (getS 15 T) (getS 16 T) (getS 21 T) (getS 22 T) (getS 23 T) H
theorem p52_25 (k17 : AV → AV → AV → AV → AV → Heap → CR) (k23 : AV → AV → AV → AV → AV → AV → AV → AV → AV → Heap → CR) (ex : Nat → K0) (n : K0) (hn : n = s52_23 k23) : dCode noG ev (finR noG c52r) L c52_25 ex n = t52_25 ev L k17 k23 := by
  subst hn
  simp only [c52_25, dCode, dOpers]
  kernel_rfl
def t52_24 (k17 : AV → AV → AV → AV → AV → Heap → CR) (k23 : AV → AV → AV → AV → AV → AV → AV → AV → AV → Heap → CR) : K0 := fun T H => j52_24 ev L k17 k23 (getS 3 T) (getS 4 T) (getS 6 T) (getS 14 T) (getS 15 T) (getS 16 T) (getS 21 T) (getS 22 T) (getS 23 T) H
theorem p52_24 (k17 : AV → AV → AV → AV → AV → Heap → CR) (k23 : AV → AV → AV → AV → AV → AV → AV → AV → AV → Heap → CR) (ex : Nat → K0) (n : K0) (hn : n = s52_23 k23) : dCode noG ev (finR noG c52r) L c52_24 ex n = t52_24 ev L k17 k23 := by
  subst hn
  simp only [c52_24, dCode, dOpers]
  rw [p52_25 ev L k17 k23 _ _ rfl]
  kernel_rfl
theorem b52_23 (k17 : AV → AV → AV → AV → AV → Heap → CR) (k23 : AV → AV → AV → AV → AV → AV → AV → AV → AV → Heap → CR) (ex : Nat → K0) (n : K0) (hn : n = s52_23 k23) (hx2 : ex 2 = t52_21 ev L k17) : dCode noG ev (finR noG c52r) L c52_23 ex n = fun T H => j52_23 ev L k17 k23 (getS 3 T) (getS 4 T) (getS 6 T) (getS 14 T) (getS 15 T) (getS 16 T) (getS 21 T) (getS 22 T) (getS 23 T) H := by
  subst hn
  simp only [c52_23, dCode, dOpers]
  rw [p52_24 ev L k17 k23 _ _ rfl]
  try rw [hx2]
  kernel_rfl
theorem p52_23 (k17 : AV → AV → AV → AV → AV → Heap → CR) (ex : Nat → K0) (hx2 : ex 2 = t52_21 ev L k17) : ∀ m, pLoop (fun n => dCode noG ev (finR noG c52r) L c52_23 ex n) m = s52_23 (l52_23 ev L k17 m) := by
  intro m
  induction m with
  | zero => kernel_rfl
  | succ m ih =>
    show dCode noG ev (finR noG c52r) L c52_23 ex (pLoop (fun n => dCode noG ev (finR noG c52r) L c52_23 ex n) m) = _
    rw [ih, b52_23 ev L k17 (l52_23 ev L k17 m) ex _ rfl hx2]
    kernel_rfl
def t52_18 (k17 : AV → AV → AV → AV → AV → Heap → CR) : K0 := fun T H => j52_18 ev L k17 (getS 3 T) (getS 4 T) (getS 14 T) (getS 15 T) (getS 16 T) H
theorem p52_18 (k17 : AV → AV → AV → AV → AV → Heap → CR) (ex : Nat → K0) (n : K0) (hn : n = s52_17 k17) : dCode noG ev (finR noG c52r) L c52_18 ex n = t52_18 ev L k17 := by
  subst hn
  simp only [c52_18, dCode, dOpers]
  rw [p52_19 ev L k17 _ _ rfl]
  rw [p52_21 ev L k17 _ _ rfl]
  rw [p52_23 ev L k17 _ (by first | rfl | exact hx2)]
  kernel_rfl
theorem b52_17 (k17 : AV → AV → AV → AV → AV → Heap → CR) (ex : Nat → K0) (n : K0) (hn : n = s52_17 k17) (hx0 : ex 0 = t52_0 ev L) : dCode noG ev (finR noG c52r) L c52_17 ex n = fun T H => j52_17 ev L k17 (getS 3 T) (getS 4 T) (getS 14 T) (getS 15 T) (getS 16 T) H := by
  subst hn
  simp only [c52_17, dCode, dOpers]
  rw [p52_18 ev L k17 _ _ rfl]
  try rw [hx0]
  kernel_rfl
theorem p52_17 (ex : Nat → K0) (hx0 : ex 0 = t52_0 ev L) : ∀ m, pLoop (fun n => dCode noG ev (finR noG c52r) L c52_17 ex n) m = s52_17 (l52_17 ev L m) := by
  intro m
  induction m with
  | zero => kernel_rfl
  | succ m ih =>
    show dCode noG ev (finR noG c52r) L c52_17 ex (pLoop (fun n => dCode noG ev (finR noG c52r) L c52_17 ex n) m) = _
    rw [ih, b52_17 ev L (l52_17 ev L m) ex _ rfl hx0]
    kernel_rfl
theorem e52 (args : List AV) (H : Heap) : Lq (q52 ev L args H) (dRun noG c52 ev L args H) := by
  unfold q52
  split
  · refine .inr ?_
    rename_i t0
    show _ = ob (argsTm [t0]) fun T => dCode noG ev (finR noG c52r) L c52b (fun _ => pFail) (finR noG c52r) T H
    simp only [c52b, dCode, dOpers]
    rw [p52_0 ev L _ _ rfl]
    rw [p52_17 ev L _ (by first | rfl | exact hx0)]
    kernel_rfl
  · exact .inl rfl
theorem e53 (args : List AV) (H : Heap) : Lq (q53 ev L args H) (dRun noG c53 ev L args H) := by
  unfold q53
  split
  · refine .inr ?_
    rename_i t0 t1 t2
    show _ = ob (argsTm [t0, t1, t2]) fun T => dCode noG ev (finR noG c53r) L c53b (fun _ => pFail) (finR noG c53r) T H
    simp only [c53b, dCode, dOpers]
    kernel_rfl
  · exact .inl rfl
def t54_0 : K0 := fun T H => j54_0 ev L (getS 4 T) H
theorem p54_0 (ex : Nat → K0) (n : K0) (hn : n = finR noG c54r) : dCode noG ev (finR noG c54r) L c54_0 ex n = t54_0 ev L := by
  subst hn
  simp only [c54_0, dCode, dOpers]
  kernel_rfl
def t54_8 : K0 := fun T H => j54_8 ev L (getS 7 T) (getS 14 T) H
theorem p54_8 (n : K0) (hn : n = t54_0 ev L) : dOpers noG ev o54_1_10 n = t54_8 ev L := by
  subst hn
  simp only [o54_1_10, dOpers]
  kernel_rfl
def t54_7 : K0 := fun T H => j54_7 ev L (getS 7 T) (getS 8 T) (getS 13 T) H
theorem p54_7 (n : K0) (hn : n = t54_0 ev L) : dOpers noG ev o54_1_9 n = t54_7 ev L := by
  subst hn
  simp only [o54_1_9, dOpers]
  rw [p54_8 ev L _ rfl]
  kernel_rfl
def t54_6 : K0 := fun T H => j54_6 ev L (getS 7 T) (getS 8 T) (getS 12 T) H
theorem p54_6 (n : K0) (hn : n = t54_0 ev L) : dOpers noG ev o54_1_8 n = t54_6 ev L := by
  subst hn
  simp only [o54_1_8, dOpers]
  rw [p54_7 ev L _ rfl]
  kernel_rfl
def t54_5 : K0 := fun T H => j54_5 ev L (getS 7 T) (getS 8 T) (getS 11 T) H
theorem p54_5 (n : K0) (hn : n = t54_0 ev L) : dOpers noG ev o54_1_7 n = t54_5 ev L := by
  subst hn
  simp only [o54_1_7, dOpers]
  rw [p54_6 ev L _ rfl]
  kernel_rfl
def t54_4 : K0 := fun T H => j54_4 ev L (getS 7 T) (getS 8 T) (getS 10 T) H
theorem p54_4 (n : K0) (hn : n = t54_0 ev L) : dOpers noG ev o54_1_6 n = t54_4 ev L := by
  subst hn
  simp only [o54_1_6, dOpers]
  rw [p54_5 ev L _ rfl]
  kernel_rfl
def t54_3 : K0 := fun T H => j54_3 ev L (getS 7 T) (getS 8 T) (getS 9 T) H
theorem p54_3 (n : K0) (hn : n = t54_0 ev L) : dOpers noG ev o54_1_5 n = t54_3 ev L := by
  subst hn
  simp only [o54_1_5, dOpers]
  rw [p54_4 ev L _ rfl]
  kernel_rfl
def t54_2 : K0 := fun T H => j54_2 ev L (getS 0 T) (getS 7 T) (getS 8 T) H
theorem p54_2 (n : K0) (hn : n = t54_0 ev L) : dOpers noG ev o54_1_4 n = t54_2 ev L := by
  subst hn
  simp only [o54_1_4, dOpers]
  rw [p54_3 ev L _ rfl]
  kernel_rfl
theorem e54 (args : List AV) (H : Heap) : Lq (q54 ev L args H) (dRun noG c54 ev L args H) := by
  unfold q54
  split
  · refine .inr ?_
    rename_i t0 t1
    show _ = ob (argsTm [t0, t1]) fun T => dCode noG ev (finR noG c54r) L c54b (fun _ => pFail) (finR noG c54r) T H
    simp only [c54b, dCode, dOpers]
    rw [p54_0 ev L _ _ rfl]
    rw [p54_2 ev L _ rfl]
    kernel_rfl
  · exact .inl rfl
def t55_0 : K0 := fun T H => j55_0 ev L (getS 4 T) H
theorem p55_0 (ex : Nat → K0) (n : K0) (hn : n = finR noG c55r) : dCode noG ev (finR noG c55r) L c55_0 ex n = t55_0 ev L := by
  subst hn
  simp only [c55_0, dCode, dOpers]
  kernel_rfl
def t55_4 : K0 := fun T H => j55_4 ev L (getS 7 T) (getS 10 T) H
theorem p55_4 (n : K0) (hn : n = t55_0 ev L) : dOpers noG ev o55_1_6 n = t55_4 ev L := by
  subst hn
  simp only [o55_1_6, dOpers]
  kernel_rfl
def t55_3 : K0 := fun T H => j55_3 ev L (getS 7 T) (getS 8 T) (getS 9 T) H
theorem p55_3 (n : K0) (hn : n = t55_0 ev L) : dOpers noG ev o55_1_5 n = t55_3 ev L := by
  subst hn
  simp only [o55_1_5, dOpers]
  rw [p55_4 ev L _ rfl]
  kernel_rfl
def t55_2 : K0 := fun T H => j55_2 ev L (getS 3 T) (getS 7 T) (getS 8 T) H
theorem p55_2 (n : K0) (hn : n = t55_0 ev L) : dOpers noG ev o55_1_4 n = t55_2 ev L := by
  subst hn
  simp only [o55_1_4, dOpers]
  rw [p55_3 ev L _ rfl]
  kernel_rfl
theorem e55 (args : List AV) (H : Heap) : Lq (q55 ev L args H) (dRun noG c55 ev L args H) := by
  unfold q55
  split
  · refine .inr ?_
    rename_i t0 t1
    show _ = ob (argsTm [t0, t1]) fun T => dCode noG ev (finR noG c55r) L c55b (fun _ => pFail) (finR noG c55r) T H
    simp only [c55b, dCode, dOpers]
    rw [p55_0 ev L _ _ rfl]
    rw [p55_2 ev L _ rfl]
    kernel_rfl
  · exact .inl rfl
def t56_0 : K0 := fun T H => j56_0 ev L H
theorem p56_0 (ex : Nat → K0) (n : K0) (hn : n = finR noG c56r) : dCode noG ev (finR noG c56r) L c56_0 ex n = t56_0 ev L := by
  subst hn
  simp only [c56_0, dCode, dOpers]
  kernel_rfl
def t56_2 : K0 := fun T H => j56_2 ev L (getS 2 T) H
theorem p56_2 (ex : Nat → K0) (n : K0) (hn : n = t56_0 ev L) : dCode noG ev (finR noG c56r) L c56_2 ex n = t56_2 ev L := by
  subst hn
  simp only [c56_2, dCode, dOpers]
  kernel_rfl
def t56_8 : K0 := fun T H => j56_8 ev L (getS 15 T) (getS 20 T) H
theorem p56_8 (n : K0) (hn : n = t56_2 ev L) : dOpers noG ev o56_3_11 n = t56_8 ev L := by
  subst hn
  simp only [o56_3_11, dOpers]
  kernel_rfl
def t56_7 : K0 := fun T H => j56_7 ev L (getS 15 T) (getS 19 T) H
theorem p56_7 (n : K0) (hn : n = t56_2 ev L) : dOpers noG ev o56_3_10 n = t56_7 ev L := by
  subst hn
  simp only [o56_3_10, dOpers]
  rw [p56_8 ev L _ rfl]
  kernel_rfl
def t56_6 : K0 := fun T H => j56_6 ev L (getS 15 T) (getS 18 T) H
theorem p56_6 (n : K0) (hn : n = t56_2 ev L) : dOpers noG ev o56_3_9 n = t56_6 ev L := by
  subst hn
  simp only [o56_3_9, dOpers]
  rw [p56_7 ev L _ rfl]
  kernel_rfl
def t56_5 : K0 := fun T H => j56_5 ev L (getS 15 T) (getS 17 T) H
theorem p56_5 (n : K0) (hn : n = t56_2 ev L) : dOpers noG ev o56_3_8 n = t56_5 ev L := by
  subst hn
  simp only [o56_3_8, dOpers]
  rw [p56_6 ev L _ rfl]
  kernel_rfl
def t56_4 : K0 := fun T H => j56_4 ev L (getS 15 T) (getS 16 T) H
theorem p56_4 (n : K0) (hn : n = t56_2 ev L) : dOpers noG ev o56_3_7 n = t56_4 ev L := by
  subst hn
  simp only [o56_3_7, dOpers]
  rw [p56_5 ev L _ rfl]
  kernel_rfl
def t56_9 : K0 := fun T H => j56_9 ev L (getS 2 T) H
theorem p56_9 (ex : Nat → K0) (n : K0) (hn : n = t56_0 ev L) : dCode noG ev (finR noG c56r) L c56_9 ex n = t56_9 ev L := by
  subst hn
  simp only [c56_9, dCode, dOpers]
  kernel_rfl
def t56_15 : K0 := fun T H => j56_15 ev L (getS 29 T) (getS 34 T) H
theorem p56_15 (n : K0) (hn : n = t56_9 ev L) : dOpers noG ev o56_10_11 n = t56_15 ev L := by
  subst hn
  simp only [o56_10_11, dOpers]
  kernel_rfl
def t56_14 : K0 := fun T H => j56_14 ev L (getS 29 T) (getS 33 T) H
theorem p56_14 (n : K0) (hn : n = t56_9 ev L) : dOpers noG ev o56_10_10 n = t56_14 ev L := by
  subst hn
  simp only [o56_10_10, dOpers]
  rw [p56_15 ev L _ rfl]
  kernel_rfl
def t56_13 : K0 := fun T H => j56_13 ev L (getS 29 T) (getS 32 T) H
theorem p56_13 (n : K0) (hn : n = t56_9 ev L) : dOpers noG ev o56_10_9 n = t56_13 ev L := by
  subst hn
  simp only [o56_10_9, dOpers]
  rw [p56_14 ev L _ rfl]
  kernel_rfl
def t56_12 : K0 := fun T H => j56_12 ev L (getS 29 T) (getS 31 T) H
theorem p56_12 (n : K0) (hn : n = t56_9 ev L) : dOpers noG ev o56_10_8 n = t56_12 ev L := by
  subst hn
  simp only [o56_10_8, dOpers]
  rw [p56_13 ev L _ rfl]
  kernel_rfl
def t56_11 : K0 := fun T H => j56_11 ev L (getS 29 T) (getS 30 T) H
theorem p56_11 (n : K0) (hn : n = t56_9 ev L) : dOpers noG ev o56_10_7 n = t56_11 ev L := by
  subst hn
  simp only [o56_10_7, dOpers]
  rw [p56_12 ev L _ rfl]
  kernel_rfl
def t56_1 : K0 := fun T H => j56_1 ev L (getS 1 T) (getS 4 T) (getS 5 T) H
theorem p56_1 (ex : Nat → K0) (n : K0) (hn : n = t56_0 ev L) : dCode noG ev (finR noG c56r) L c56_1 ex n = t56_1 ev L := by
  subst hn
  simp only [c56_1, dCode, dOpers]
  rw [p56_2 ev L _ _ rfl]
  rw [p56_4 ev L _ rfl]
  rw [p56_9 ev L _ _ rfl]
  rw [p56_11 ev L _ rfl]
  kernel_rfl
theorem e56 (args : List AV) (H : Heap) : Lq (q56 ev L args H) (dRun noG c56 ev L args H) := by
  unfold q56
  split
  · refine .inr ?_
    rename_i t0
    show _ = ob (argsTm [t0]) fun T => dCode noG ev (finR noG c56r) L c56b (fun _ => pFail) (finR noG c56r) T H
    simp only [c56b, dCode, dOpers]
    rw [p56_0 ev L _ _ rfl]
    rw [p56_1 ev L _ _ rfl]
    kernel_rfl
  · exact .inl rfl
def t57_0 : K0 := fun T H => j57_0 ev L (getS 0 T) H
theorem p57_0 (ex : Nat → K0) (n : K0) (hn : n = finR noG c57r) : dCode noG ev (finR noG c57r) L c57_0 ex n = t57_0 ev L := by
  subst hn
  simp only [c57_0, dCode, dOpers]
  kernel_rfl
theorem e57 (args : List AV) (H : Heap) : Lq (q57 ev L args H) (dRun noG c57 ev L args H) := by
  unfold q57
  split
  · refine .inr ?_
    rename_i t0
    show _ = ob (argsTm [t0]) fun T => dCode noG ev (finR noG c57r) L c57b (fun _ => pFail) (finR noG c57r) T H
    simp only [c57b, dCode, dOpers]
    rw [p57_0 ev L _ _ rfl]
    kernel_rfl
  · exact .inl rfl
def t58_0 : K0 := fun T H => j58_0 ev L (getS 0 T) H
theorem p58_0 (ex : Nat → K0) (n : K0) (hn : n = finR noG c58r) : dCode noG ev (finR noG c58r) L c58_0 ex n = t58_0 ev L := by
  subst hn
  simp only [c58_0, dCode, dOpers]
  kernel_rfl
theorem e58 (args : List AV) (H : Heap) : Lq (q58 ev L args H) (dRun noG c58 ev L args H) := by
  unfold q58
  split
  · refine .inr ?_
    rename_i t0
    show _ = ob (argsTm [t0]) fun T => dCode noG ev (finR noG c58r) L c58b (fun _ => pFail) (finR noG c58r) T H
    simp only [c58b, dCode, dOpers]
    rw [p58_0 ev L _ _ rfl]
    kernel_rfl
  · exact .inl rfl
def t59_1 : K0 := fun T H => j59_1 ev L (getS 0 T) (getS 1 T) H
theorem p59_1 (ex : Nat → K0) (n : K0) (hn : n = finR noG c59r) : dCode noG ev (finR noG c59r) L c59_1 ex n = t59_1 ev L := by
  subst hn
  simp only [c59_1, dCode, dOpers]
  kernel_rfl
def t59_0 : K0 := fun T H => j59_0 ev L (getS 0 T) (getS 1 T) H
theorem p59_0 (ex : Nat → K0) (n : K0) (hn : n = finR noG c59r) : dCode noG ev (finR noG c59r) L c59_0 ex n = t59_0 ev L := by
  subst hn
  simp only [c59_0, dCode, dOpers]
  rw [p59_1 ev L _ _ rfl]
  kernel_rfl
theorem e59 (args : List AV) (H : Heap) : Lq (q59 ev L args H) (dRun noG c59 ev L args H) := by
  unfold q59
  split
  · refine .inr ?_
    rename_i t0 t1
    show _ = ob (argsTm [t0, t1]) fun T => dCode noG ev (finR noG c59r) L c59b (fun _ => pFail) (finR noG c59r) T H
    simp only [c59b, dCode, dOpers]
    rw [p59_0 ev L _ _ rfl]
    kernel_rfl
  · exact .inl rfl
theorem e60 (args : List AV) (H : Heap) : Lq (q60 ev L args H) (dRun noG c60 ev L args H) := by
  unfold q60
  split
  · refine .inr ?_
    rename_i t0
    show _ = ob (argsTm [t0]) fun T => dCode noG ev (finR noG c60r) L c60b (fun _ => pFail) (finR noG c60r) T H
    simp only [c60b, dCode, dOpers]
    kernel_rfl
  · exact .inl rfl
def t61_0 : K0 := fun T H => j61_0 ev L (getS 0 T) (getS 6 T) H
theorem p61_0 (ex : Nat → K0) (n : K0) (hn : n = finR noG c61r) : dCode noG ev (finR noG c61r) L c61_0 ex n = t61_0 ev L := by
  subst hn
  simp only [c61_0, dCode, dOpers, dDrawn, dAgain, isPanic, cond_false]
  kernel_rfl
theorem e61 (args : List AV) (H : Heap) : Lq (q61 ev L args H) (dRun noG c61 ev L args H) := by
  unfold q61
  split
  · refine .inr ?_
    rename_i t0 t1 t2
    show _ = ob (argsTm [t0, t1, t2]) fun T => dCode noG ev (finR noG c61r) L c61b (fun _ => pFail) (finR noG c61r) T H
    simp only [c61b, dCode, dOpers, dDrawn, dAgain, isPanic, cond_false]
    rw [p61_0 ev L _ _ rfl]
    kernel_rfl
  · exact .inl rfl
theorem e62 (args : List AV) (H : Heap) : Lq (q62 ev L args H) (dRun noG c62 ev L args H) := by
  unfold q62
  split
  · refine .inr ?_
    rename_i t0 t1 t2
    show _ = ob (argsTm [t0, t1, t2]) fun T => dCode noG ev (finR noG c62r) L c62b (fun _ => pFail) (finR noG c62r) T H
    simp only [c62b, dCode, dOpers, dDrawn, dAgain, isPanic, cond_false]
    kernel_rfl
  · exact .inl rfl
def t63_0 : K0 := fun T H => j63_0 ev L (getS 0 T) (getS 1 T) (getS 2 T) H
theorem p63_0 (ex : Nat → K0) (n : K0) (hn : n = finR noG c63r) : dCode noG ev (finR noG c63r) L c63_0 ex n = t63_0 ev L := by
  subst hn
  simp only [c63_0, dCode, dOpers]
  kernel_rfl
theorem e63 (args : List AV) (H : Heap) : Lq (q63 ev L args H) (dRun noG c63 ev L args H) := by
  unfold q63
  split
  · refine .inr ?_
    rename_i t0 t1 t2
    show _ = ob (argsTm [t0, t1, t2]) fun T => dCode noG ev (finR noG c63r) L c63b (fun _ => pFail) (finR noG c63r) T H
    simp only [c63b, dCode, dOpers]
    rw [p63_0 ev L _ _ rfl]
    kernel_rfl
  · exact .inl rfl
def t64_0 : K0 := fun T H => j64_0 ev L (getS 0 T) (getS 1 T) H
theorem p64_0 (ex : Nat → K0) (n : K0) (hn : n = finR noG c64r) : dCode noG ev (finR noG c64r) L c64_0 ex n = t64_0 ev L := by
  subst hn
  simp only [c64_0, dCode, dOpers]
  kernel_rfl
def t64_1 : K0 := fun T H => j64_1 ev L (getS 0 T) (getS 1 T) (getS 19 T) H
theorem p64_1 (ex : Nat → K0) (n : K0) (hn : n = t64_0 ev L) : dCode noG ev (finR noG c64r) L c64_1 ex n = t64_1 ev L := by
  subst hn
  simp only [c64_1, dCode, dOpers]
  kernel_rfl
def t64_11 : K0 := fun T H => j64_11 ev L (getS 0 T) (getS 1 T) (getS 11 T) (getS 18 T) H
theorem p64_11 (n : K0) (hn : n = t64_1 ev L) : dOpers noG ev o64_2_14 n = t64_11 ev L := by
  subst hn
  simp only [o64_2_14, dOpers]
  kernel_rfl
def t64_10 : K0 := fun T H => j64_10 ev L (getS 0 T) (getS 1 T) (getS 11 T) (getS 12 T) (getS 17 T) H
theorem p64_10 (n : K0) (hn : n = t64_1 ev L) : dOpers noG ev o64_2_13 n = t64_10 ev L := by
  subst hn
  simp only [o64_2_13, dOpers]
  rw [p64_11 ev L _ rfl]
  kernel_rfl
def t64_9 : K0 := fun T H => j64_9 ev L (getS 0 T) (getS 1 T) (getS 11 T) (getS 12 T) (getS 16 T) H
theorem p64_9 (n : K0) (hn : n = t64_1 ev L) : dOpers noG ev o64_2_12 n = t64_9 ev L := by
  subst hn
  simp only [o64_2_12, dOpers]
  rw [p64_10 ev L _ rfl]
  kernel_rfl
def t64_8 : K0 := fun T H => j64_8 ev L (getS 0 T) (getS 1 T) (getS 11 T) (getS 12 T) (getS 15 T) H
theorem p64_8 (n : K0) (hn : n = t64_1 ev L) : dOpers noG ev o64_2_11 n = t64_8 ev L := by
  subst hn
  simp only [o64_2_11, dOpers]
  rw [p64_9 ev L _ rfl]
  kernel_rfl
def t64_7 : K0 := fun T H => j64_7 ev L (getS 0 T) (getS 1 T) (getS 11 T) (getS 12 T) (getS 14 T) H
theorem p64_7 (n : K0) (hn : n = t64_1 ev L) : dOpers noG ev o64_2_10 n = t64_7 ev L := by
  subst hn
  simp only [o64_2_10, dOpers]
  rw [p64_8 ev L _ rfl]
  kernel_rfl
def t64_6 : K0 := fun T H => j64_6 ev L (getS 0 T) (getS 1 T) (getS 11 T) (getS 12 T) (getS 13 T) H
theorem p64_6 (n : K0) (hn : n = t64_1 ev L) : dOpers noG ev o64_2_9 n = t64_6 ev L := by
  subst hn
  simp only [o64_2_9, dOpers]
  rw [p64_7 ev L _ rfl]
  kernel_rfl
def t64_5 : K0 := fun T H => j64_5 ev L (getS 0 T) (getS 1 T) (getS 11 T) (getS 12 T) H
theorem p64_5 (n : K0) (hn : n = t64_1 ev L) : dOpers noG ev o64_2_8 n = t64_5 ev L := by
  subst hn
  simp only [o64_2_8, dOpers]
  rw [p64_6 ev L _ rfl]
  kernel_rfl
def t64_4 : K0 := fun T H => j64_4 ev L (getS 0 T) (getS 1 T) (getS 7 T) (getS 9 T) H
theorem p64_4 (n : K0) (hn : n = t64_1 ev L) : dOpers noG ev o64_2_5 n = t64_4 ev L := by
  subst hn
  simp only [o64_2_5, dOpers]
  rw [p64_5 ev L _ rfl]
  kernel_rfl
def t64_3 : K0 := fun T H => j64_3 ev L (getS 0 T) (getS 1 T) (getS 7 T) (getS 8 T) H
theorem p64_3 (n : K0) (hn : n = t64_1 ev L) : dOpers noG ev o64_2_4 n = t64_3 ev L := by
  subst hn
  simp only [o64_2_4, dOpers]
  rw [p64_4 ev L _ rfl]
  kernel_rfl
theorem e64 (args : List AV) (H : Heap) : Lq (q64 ev L args H) (dRun noG c64 ev L args H) := by
  unfold q64
  split
  · refine .inr ?_
    rename_i t0 t1
    show _ = ob (argsTm [t0, t1]) fun T => dCode noG ev (finR noG c64r) L c64b (fun _ => pFail) (finR noG c64r) T H
    simp only [c64b, dCode, dOpers]
    rw [p64_0 ev L _ _ rfl]
    rw [p64_1 ev L _ _ rfl]
    rw [p64_3 ev L _ rfl]
    kernel_rfl
  · exact .inl rfl
def t65_0 : K0 := fun T H => j65_0 ev L (getS 0 T) H
theorem p65_0 (ex : Nat → K0) (n : K0) (hn : n = finR noG c65r) : dCode noG ev (finR noG c65r) L c65_0 ex n = t65_0 ev L := by
  subst hn
  simp only [c65_0, dCode, dOpers]
  kernel_rfl
theorem e65 (args : List AV) (H : Heap) : Lq (q65 ev L args H) (dRun noG c65 ev L args H) := by
  unfold q65
  split
  · refine .inr ?_
    rename_i t0
    show _ = ob (argsTm [t0]) fun T => dCode noG ev (finR noG c65r) L c65b (fun _ => pFail) (finR noG c65r) T H
    simp only [c65b, dCode, dOpers]
    rw [p65_0 ev L _ _ rfl]
    kernel_rfl
  · exact .inl rfl
theorem e66 (args : List AV) (H : Heap) : Lq (q66 ev L args H) (dRun noG c66 ev L args H) := by
  unfold q66
  split
  · refine .inr ?_
    rename_i t0 t1
    show _ = ob (argsTm [t0, t1]) fun T => dCode noG ev (finR noG c66r) L c66b (fun _ => pFail) (finR noG c66r) T H
    simp only [c66b, dCode, dOpers]
    kernel_rfl
  · exact .inl rfl
theorem e67 (args : List AV) (H : Heap) : Lq (q67 ev L args H) (dRun noG c67 ev L args H) := by
  unfold q67
  split
  · refine .inr ?_
    rename_i t0 t1
    show _ = ob (argsTm [t0, t1]) fun T => dCode noG ev (finR noG c67r) L c67b (fun _ => pFail) (finR noG c67r) T H
    simp only [c67b, dCode, dOpers]
    kernel_rfl
  · exact .inl rfl
def t68_0 : K0 := fun T H => j68_0 ev L H
theorem p68_0 (ex : Nat → K0) (n : K0) (hn : n = finR noG c68r) : dCode noG ev (finR noG c68r) L c68_0 ex n = t68_0 ev L := by
  subst hn
  simp only [c68_0, dCode, dOpers]
  kernel_rfl
def s68_1 (k1 : AV → AV → AV → AV → Heap → CR) : K0 := fun T H => k1 (getS 0 T) (getS 1 T) (getS 7 T) (getS 8 T) H
def t68_3 (k1 : AV → AV → AV → AV → Heap → CR) : K0 := fun T H => j68_3 ev L k1 (getS 0 T) (getS 1 T) (getS 7 T) (getS 8 T) H
theorem p68_3 (k1 : AV → AV → AV → AV → Heap → CR) (ex : Nat → K0) (n : K0) (hn : n = s68_1 k1) : dCode noG ev (finR noG c68r) L c68_3 ex n = t68_3 ev L k1 := by
  subst hn
  simp only [c68_3, dCode, dOpers]
  kernel_rfl
def t68_2 (k1 : AV → AV → AV → AV → Heap → CR) : K0 := fun T H => j68_2 ev L k1 (getS 0 T) (getS 1 T) (getS 7 T) (getS 8 T) H
theorem p68_2 (k1 : AV → AV → AV → AV → Heap → CR) (ex : Nat → K0) (n : K0) (hn : n = s68_1 k1) : dCode noG ev (finR noG c68r) L c68_2 ex n = t68_2 ev L k1 := by
  subst hn
  simp only [c68_2, dCode, dOpers]
  rw [p68_3 ev L k1 _ _ rfl]
  kernel_rfl
theorem b68_1 (k1 : AV → AV → AV → AV → Heap → CR) (ex : Nat → K0) (n : K0) (hn : n = s68_1 k1) (hx0 : ex 0 = t68_0 ev L) : dCode noG ev (finR noG c68r) L c68_1 ex n = fun T H => j68_1 ev L k1 (getS 0 T) (getS 1 T) (getS 7 T) (getS 8 T) H := by
  subst hn
  simp only [c68_1, dCode, dOpers]
  rw [p68_2 ev L k1 _ _ rfl]
  try rw [hx0]
  kernel_rfl
theorem p68_1 (ex : Nat → K0) (hx0 : ex 0 = t68_0 ev L) : ∀ m, pLoop (fun n => dCode noG ev (finR noG c68r) L c68_1 ex n) m = s68_1 (l68_1 ev L m) := by
  intro m
  induction m with
  | zero => kernel_rfl
  | succ m ih =>
    show dCode noG ev (finR noG c68r) L c68_1 ex (pLoop (fun n => dCode noG ev (finR noG c68r) L c68_1 ex n) m) = _
    rw [ih, b68_1 ev L (l68_1 ev L m) ex _ rfl hx0]
    kernel_rfl
theorem e68 (args : List AV) (H : Heap) : Lq (q68 ev L args H) (dRun noG c68 ev L args H) := by
  unfold q68
  split
  · refine .inr ?_
    rename_i t0 t1
    show _ = ob (argsTm [t0, t1]) fun T => dCode noG ev (finR noG c68r) L c68b (fun _ => pFail) (finR noG c68r) T H
    simp only [c68b, dCode, dOpers]
    rw [p68_0 ev L _ _ rfl]
    rw [p68_1 ev L _ (by first | rfl | exact hx0)]
    kernel_rfl
  · exact .inl rfl
def t69_0 : K0 := fun T H => j69_0 ev L (getS 6 T) H
theorem p69_0 (ex : Nat → K0) (n : K0) (hn : n = finR noG c69r) : dCode noG ev (finR noG c69r) L c69_0 ex n = t69_0 ev L := by
  subst hn
  simp only [c69_0, dCode, dOpers]
  kernel_rfl
def t69_8 : K0 := fun T H => j69_8 ev L (getS 15 T) (getS 20 T) H
theorem p69_8 (n : K0) (hn : n = t69_0 ev L) : dOpers noG ev o69_1_12 n = t69_8 ev L := by
  subst hn
  simp only [o69_1_12, dOpers]
  kernel_rfl
def t69_7 : K0 := fun T H => j69_7 ev L (getS 15 T) (getS 19 T) H
theorem p69_7 (n : K0) (hn : n = t69_0 ev L) : dOpers noG ev o69_1_11 n = t69_7 ev L := by
  subst hn
  simp only [o69_1_11, dOpers]
  rw [p69_8 ev L _ rfl]
  kernel_rfl
def t69_6 : K0 := fun T H => j69_6 ev L (getS 15 T) (getS 17 T) (getS 18 T) H
theorem p69_6 (n : K0) (hn : n = t69_0 ev L) : dOpers noG ev o69_1_10 n = t69_6 ev L := by
  subst hn
  simp only [o69_1_10, dOpers]
  rw [p69_7 ev L _ rfl]
  kernel_rfl
def t69_5 : K0 := fun T H => j69_5 ev L (getS 3 T) (getS 5 T) (getS 15 T) (getS 17 T) H
theorem p69_5 (n : K0) (hn : n = t69_0 ev L) : dOpers noG ev o69_1_9 n = t69_5 ev L := by
  subst hn
  simp only [o69_1_9, dOpers]
  rw [p69_6 ev L _ rfl]
  kernel_rfl
def t69_4 : K0 := fun T H => j69_4 ev L (getS 3 T) (getS 5 T) (getS 15 T) (getS 16 T) H
theorem p69_4 (n : K0) (hn : n = t69_0 ev L) : dOpers noG ev o69_1_8 n = t69_4 ev L := by
  subst hn
  simp only [o69_1_8, dOpers]
  rw [p69_5 ev L _ rfl]
  kernel_rfl
def t69_3 : K0 := fun T H => j69_3 ev L (getS 3 T) (getS 4 T) (getS 5 T) (getS 11 T) (getS 13 T) H
theorem p69_3 (n : K0) (hn : n = t69_0 ev L) : dOpers noG ev o69_1_5 n = t69_3 ev L := by
  subst hn
  simp only [o69_1_5, dOpers]
  rw [p69_4 ev L _ rfl]
  kernel_rfl
def t69_2 : K0 := fun T H => j69_2 ev L (getS 3 T) (getS 4 T) (getS 5 T) (getS 11 T) (getS 12 T) H
theorem p69_2 (n : K0) (hn : n = t69_0 ev L) : dOpers noG ev o69_1_4 n = t69_2 ev L := by
  subst hn
  simp only [o69_1_4, dOpers]
  rw [p69_3 ev L _ rfl]
  kernel_rfl
theorem e69 (args : List AV) (H : Heap) : Lq (q69 ev L args H) (dRun noG c69 ev L args H) := by
  unfold q69
  split
  · refine .inr ?_
    rename_i t0 t1 t2 t3
    show _ = ob (argsTm [t0, t1, t2, t3]) fun T => dCode noG ev (finR noG c69r) L c69b (fun _ => pFail) (finR noG c69r) T H
    simp only [c69b, dCode, dOpers]
    rw [p69_0 ev L _ _ rfl]
    rw [p69_2 ev L _ rfl]
    kernel_rfl
  · exact .inl rfl
theorem e70 (args : List AV) (H : Heap) : Lq (q70 ev L args H) (dRun noG c70 ev L args H) := by
  unfold q70
  split
  · refine .inr ?_
    rename_i t0 t1 t2
    show _ = ob (argsTm [t0, t1, t2]) fun T => dCode noG ev (finR noG c70r) L c70b (fun _ => pFail) (finR noG c70r) T H
    simp only [c70b, dCode, dOpers]
    kernel_rfl
  · exact .inl rfl
def t71_0 : K0 := fun T H => j71_0 ev L H
theorem p71_0 (ex : Nat → K0) (n : K0) (hn : n = finR noG c71r) : dCode noG ev (finR noG c71r) L c71_0 ex n = t71_0 ev L := by
  subst hn
  simp only [c71_0, dCode, dOpers]
  kernel_rfl
def t71_2 : K0 := fun T H => j71_2 ev L (getS 3 T) (getS 8 T) H
theorem p71_2 (ex : Nat → K0) (n : K0) (hn : n = t71_0 ev L) : dCode noG ev (finR noG c71r) L c71_2 ex n = t71_2 ev L := by
  subst hn
  simp only [c71_2, dCode, dOpers]
  kernel_rfl
def t71_1 : K0 := fun T H => j71_1 ev L (getS 3 T) (getS 4 T) H
theorem p71_1 (ex : Nat → K0) (n : K0) (hn : n = t71_0 ev L) : dCode noG ev (finR noG c71r) L c71_1 ex n = t71_1 ev L := by
  subst hn
  simp only [c71_1, dCode, dOpers]
  rw [p71_2 ev L _ _ rfl]
  kernel_rfl
theorem e71 (args : List AV) (H : Heap) : Lq (q71 ev L args H) (dRun noG c71 ev L args H) := by
  unfold q71
  split
  · refine .inr ?_
    rename_i t0
    show _ = ob (argsTm [t0]) fun T => dCode noG ev (finR noG c71r) L c71b (fun _ => pFail) (finR noG c71r) T H
    simp only [c71b, dCode, dOpers]
    rw [p71_0 ev L _ _ rfl]
    rw [p71_1 ev L _ _ rfl]
    kernel_rfl
  · exact .inl rfl
theorem e72 (args : List AV) (H : Heap) : Lq (q72 ev L args H) (dRun noG c72 ev L args H) := by
  unfold q72
  split
  · refine .inr ?_
    rename_i t0
    show _ = ob (argsTm [t0]) fun T => dCode noG ev (finR noG c72r) L c72b (fun _ => pFail) (finR noG c72r) T H
    simp only [c72b, dCode, dOpers]
    kernel_rfl
  · exact .inl rfl
theorem e73 (args : List AV) (H : Heap) : Lq (q73 ev L args H) (dRun noG c73 ev L args H) := by
  unfold q73
  split
  · refine .inr ?_
    rename_i t0
    show _ = ob (argsTm [t0]) fun T => dCode noG ev (finR noG c73r) L c73b (fun _ => pFail) (finR noG c73r) T H
    simp only [c73b, dCode, dOpers]
    kernel_rfl
  · exact .inl rfl
def t74_1 : K0 := fun T H => j74_1 ev L (getS 0 T) H
theorem p74_1 (ex : Nat → K0) (n : K0) (hn : n = finR noG c74r) : dCode noG ev (finR noG c74r) L c74_1 ex n = t74_1 ev L := by
  subst hn
  simp only [c74_1, dCode, dOpers]
  kernel_rfl
def t74_0 : K0 := fun T H => j74_0 ev L (getS 0 T) (getS 1 T) H
theorem p74_0 (ex : Nat → K0) (n : K0) (hn : n = finR noG c74r) : dCode noG ev (finR noG c74r) L c74_0 ex n = t74_0 ev L := by
  subst hn
  simp only [c74_0, dCode, dOpers]
  rw [p74_1 ev L _ _ rfl]
  kernel_rfl
theorem e74 (args : List AV) (H : Heap) : Lq (q74 ev L args H) (dRun noG c74 ev L args H) := by
  unfold q74
  split
  · refine .inr ?_
    rename_i t0 t1
    show _ = ob (argsTm [t0, t1]) fun T => dCode noG ev (finR noG c74r) L c74b (fun _ => pFail) (finR noG c74r) T H
    simp only [c74b, dCode, dOpers]
    rw [p74_0 ev L _ _ rfl]
    kernel_rfl
  · exact .inl rfl
def s75_0 (k0 : AV → AV → AV → AV → AV → AV → Heap → CR) : K0 := fun T H => k0 (getS 0 T) (getS 1 T) (getS 2 T) (getS 3 T) (getS 8 T) (getS 9 T) H
def t75_6 (k0 : AV → AV → AV → AV → AV → AV → Heap → CR) : K0 := fun T H => j75_6 ev L k0 (getS 0 T) (getS 1 T) (getS 2 T) (getS 3 T) (getS 10 T) (getS 11 T) H
theorem p75_6 (k0 : AV → AV → AV → AV → AV → AV → Heap → CR) (ex : Nat → K0) (n : K0) (hn : n = s75_0 k0) : dCode noG ev (finR noG c75r) L c75_6 ex n = t75_6 ev L k0 := by
  subst hn
  simp only [c75_6, dCode, dOpers]
  kernel_rfl
def t75_9 (k0 : AV → AV → AV → AV → AV → AV → Heap → CR) : K0 := fun T H => j75_9 ev L k0 (getS 0 T) (getS 1 T) (getS 2 T) (getS 3 T) (getS 8 T) (getS 9 T) (getS 10 T) (getS 11 T) (getS 87 T) H
theorem p75_9 (k0 : AV → AV → AV → AV → AV → AV → Heap → CR) (ex : Nat → K0) (n : K0) (hn : n = t75_6 ev L k0) (hx1 : ex 1 = s75_0 k0) : dCode noG ev (finR noG c75r) L c75_9 ex n = t75_9 ev L k0 := by
  subst hn
  simp only [c75_9, dCode, dOpers]
  try rw [hx1]
  kernel_rfl
def t75_21 (k0 : AV → AV → AV → AV → AV → AV → Heap → CR) : K0 := fun T H => j75_21 ev L k0 (getS 0 T) (getS 1 T) (getS 2 T) (getS 3 T) (getS 8 T) (getS 9 T) (getS 10 T) (getS 11 T) (getS 75 T) (getS 86 T) H
theorem p75_21 (k0 : AV → AV → AV → AV → AV → AV → Heap → CR) (n : K0) (hn : n = t75_9 ev L k0) : dDrawn noG ev o75_10_14 n = t75_21 ev L k0 := by
  subst hn
  simp only [o75_10_14, dDrawn, dAgain, isPanic, cond_false]
  kernel_rfl
def t75_20 (k0 : AV → AV → AV → AV → AV → AV → Heap → CR) : K0 := fun T H => j75_20 ev L k0 (getS 0 T) (getS 1 T) (getS 2 T) (getS 3 T) (getS 8 T) (getS 9 T) (getS 10 T) (getS 11 T) (getS 75 T) (getS 85 T) H
theorem p75_20 (k0 : AV → AV → AV → AV → AV → AV → Heap → CR) (n : K0) (hn : n = t75_9 ev L k0) : dDrawn noG ev o75_10_13 n = t75_20 ev L k0 := by
  subst hn
  simp only [o75_10_13, dDrawn, dAgain, isPanic, cond_false]
  rw [p75_21 ev L k0 _ rfl]
  kernel_rfl
def t75_19 (k0 : AV → AV → AV → AV → AV → AV → Heap → CR) : K0 := fun T H => j75_19 ev L k0 (getS 0 T) (getS 1 T) (getS 2 T) (getS 3 T) (getS 8 T) (getS 9 T) (getS 10 T) (getS 11 T) (getS 75 T) (getS 80 T) (getS 84 T) H
theorem p75_19 (k0 : AV → AV → AV → AV → AV → AV → Heap → CR) (n : K0) (hn : n = t75_9 ev L k0) : dDrawn noG ev o75_10_12 n = t75_19 ev L k0 := by
  subst hn
  simp only [o75_10_12, dDrawn, dAgain, isPanic, cond_false]
  rw [p75_20 ev L k0 _ rfl]
  kernel_rfl
def t75_18 (k0 : AV → AV → AV → AV → AV → AV → Heap → CR) : K0 := fun T H => j75_18 ev L k0 (getS 0 T) (getS 1 T) (getS 2 T) (getS 3 T) (getS 8 T) (getS 9 T) (getS 10 T) (getS 11 T) (getS 75 T) (getS 80 T) (getS 83 T) H
theorem p75_18 (k0 : AV → AV → AV → AV → AV → AV → Heap → CR) (n : K0) (hn : n = t75_9 ev L k0) : dDrawn noG ev o75_10_11 n = t75_18 ev L k0 := by
  subst hn
  simp only [o75_10_11, dDrawn, dAgain, isPanic, cond_false]
  rw [p75_19 ev L k0 _ rfl]
  kernel_rfl
def t75_17 (k0 : AV → AV → AV → AV → AV → AV → Heap → CR) : K0 := fun T H => j75_17 ev L k0 (getS 0 T) (getS 1 T) (getS 2 T) (getS 3 T) (getS 8 T) (getS 9 T) (getS 10 T) (getS 11 T) (getS 75 T) (getS 80 T) (getS 81 T) (getS 82 T) H
theorem p75_17 (k0 : AV → AV → AV → AV → AV → AV → Heap → CR) (n : K0) (hn : n = t75_9 ev L k0) : dDrawn noG ev o75_10_10 n = t75_17 ev L k0 := by
  subst hn
  simp only [o75_10_10, dDrawn, dAgain, isPanic, cond_false]
  rw [p75_18 ev L k0 _ rfl]
  kernel_rfl
def t75_16 (k0 : AV → AV → AV → AV → AV → AV → Heap → CR) : K0 := fun T H => j75_16 ev L k0 (getS 0 T) (getS 1 T) (getS 2 T) (getS 3 T) (getS 8 T) (getS 9 T) (getS 10 T) (getS 11 T) (getS 75 T) (getS 80 T) (getS 81 T) H
theorem p75_16 (k0 : AV → AV → AV → AV → AV → AV → Heap → CR) (n : K0) (hn : n = t75_9 ev L k0) : dDrawn noG ev o75_10_9 n = t75_16 ev L k0 := by
  subst hn
  simp only [o75_10_9, dDrawn, dAgain, isPanic, cond_false]
  rw [p75_17 ev L k0 _ rfl]
  kernel_rfl
def t75_15 (k0 : AV → AV → AV → AV → AV → AV → Heap → CR) : K0 := fun T H => j75_15 ev L k0 (getS 0 T) (getS 1 T) (getS 2 T) (getS 3 T) (getS 8 T) (getS 9 T) (getS 10 T) (getS 11 T) (getS 75 T) (getS 80 T) H
theorem p75_15 (k0 : AV → AV → AV → AV → AV → AV → Heap → CR) (n : K0) (hn : n = t75_9 ev L k0) : dDrawn noG ev o75_10_8 n = t75_15 ev L k0 := by
  subst hn
  simp only [o75_10_8, dDrawn, dAgain, isPanic, cond_false]
  rw [p75_16 ev L k0 _ rfl]
  kernel_rfl
def t75_14 (k0 : AV → AV → AV → AV → AV → AV → Heap → CR) : K0 := fun T H => j75_14 ev L k0 (getS 0 T) (getS 1 T) (getS 2 T) (getS 3 T) (getS 8 T) (getS 9 T) (getS 10 T) (getS 11 T) (getS 75 T) (getS 79 T) H
theorem p75_14 (k0 : AV → AV → AV → AV → AV → AV → Heap → CR) (n : K0) (hn : n = t75_9 ev L k0) : dDrawn noG ev o75_10_7 n = t75_14 ev L k0 := by
  subst hn
  simp only [o75_10_7, dDrawn, dAgain, isPanic, cond_false]
  rw [p75_15 ev L k0 _ rfl]
  kernel_rfl
def t75_13 (k0 : AV → AV → AV → AV → AV → AV → Heap → CR) : K0 := fun T H => j75_13 ev L k0 (getS 0 T) (getS 1 T) (getS 2 T) (getS 3 T) (getS 8 T) (getS 9 T) (getS 10 T) (getS 11 T) (getS 75 T) (getS 76 T) (getS 78 T) H
theorem p75_13 (k0 : AV → AV → AV → AV → AV → AV → Heap → CR) (n : K0) (hn : n = t75_9 ev L k0) : dDrawn noG ev o75_10_6 n = t75_13 ev L k0 := by
  subst hn
  simp only [o75_10_6, dDrawn, dAgain, isPanic, cond_false]
  rw [p75_14 ev L k0 _ rfl]
  kernel_rfl
def t75_12 (k0 : AV → AV → AV → AV → AV → AV → Heap → CR) : K0 := fun T H => j75_12 ev L k0 (getS 0 T) (getS 1 T) (getS 2 T) (getS 3 T) (getS 8 T) (getS 9 T) (getS 10 T) (getS 11 T) (getS 75 T) (getS 76 T) (getS 77 T) H
theorem p75_12 (k0 : AV → AV → AV → AV → AV → AV → Heap → CR) (n : K0) (hn : n = t75_9 ev L k0) : dDrawn noG ev o75_10_5 n = t75_12 ev L k0 := by
  subst hn
  simp only [o75_10_5, dDrawn, dAgain, isPanic, cond_false]
  rw [p75_13 ev L k0 _ rfl]
  kernel_rfl
def t75_11 (k0 : AV → AV → AV → AV → AV → AV → Heap → CR) : K0 := fun T H => j75_11 ev L k0 (getS 0 T) (getS 1 T) (getS 2 T) (getS 3 T) (getS 8 T) (getS 9 T) (getS 10 T) (getS 11 T) (getS 75 T) (getS 76 T) H
theorem p75_11 (k0 : AV → AV → AV → AV → AV → AV → Heap → CR) (n : K0) (hn : n = t75_9 ev L k0) : dDrawn noG ev o75_10_4 n = t75_11 ev L k0 := by
  subst hn
  simp only [o75_10_4, dDrawn, dAgain, isPanic, cond_false]
  rw [p75_12 ev L k0 _ rfl]
  kernel_rfl
def t75_5 (k0 : AV → AV → AV → AV → AV → AV → Heap → CR) : K0 := fun T H => j75_5 ev L k0 (getS 0 T) (getS 1 T) (getS 2 T) (getS 3 T) (getS 8 T) (getS 9 T) (getS 10 T) (getS 11 T) H
theorem p75_5 (k0 : AV → AV → AV → AV → AV → AV → Heap → CR) (ex : Nat → K0) (n : K0) (hn : n = s75_0 k0) (hx1 : ex 1 = s75_0 k0) : dCode noG ev (finR noG c75r) L c75_5 ex n = t75_5 ev L k0 := by
  subst hn
  simp only [c75_5, dCode, dOpers, dDrawn, dAgain, isPanic, cond_false]
  rw [p75_6 ev L k0 _ _ rfl]
  rw [p75_9 ev L k0 _ _ rfl (by first | rfl | exact hx1)]
  rw [p75_11 ev L k0 _ rfl]
  try rw [hx1]
  kernel_rfl
def t75_22 (k0 : AV → AV → AV → AV → AV → AV → Heap → CR) : K0 := fun T H => j75_22 ev L k0 (getS 0 T) (getS 1 T) (getS 2 T) (getS 3 T) (getS 8 T) (getS 9 T) (getS 10 T) (getS 11 T) (getS 68 T) H
theorem p75_22 (k0 : AV → AV → AV → AV → AV → AV → Heap → CR) (ex : Nat → K0) (n : K0) (hn : n = t75_5 ev L k0) : dCode noG ev (finR noG c75r) L c75_22 ex n = t75_22 ev L k0 := by
  subst hn
  simp only [c75_22, dCode, dOpers]
  kernel_rfl
def t75_26 (k0 : AV → AV → AV → AV → AV → AV → Heap → CR) : K0 := fun T H => j75_26 ev L k0 (getS 0 T) (getS 1 T) (getS 2 T) (getS 3 T) (getS 8 T) (getS 9 T) (getS 10 T) (getS 11 T) (getS 65 T) (getS 67 T) H
theorem p75_26 (k0 : AV → AV → AV → AV → AV → AV → Heap → CR) (n : K0) (hn : n = t75_22 ev L k0) : dOpers noG ev o75_23_7 n = t75_26 ev L k0 := by
  subst hn
  simp only [o75_23_7, dOpers]
  kernel_rfl
def t75_25 (k0 : AV → AV → AV → AV → AV → AV → Heap → CR) : K0 := fun T H => j75_25 ev L k0 (getS 0 T) (getS 1 T) (getS 2 T) (getS 3 T) (getS 8 T) (getS 9 T) (getS 10 T) (getS 11 T) (getS 65 T) (getS 66 T) H
theorem p75_25 (k0 : AV → AV → AV → AV → AV → AV → Heap → CR) (n : K0) (hn : n = t75_22 ev L k0) : dOpers noG ev o75_23_6 n = t75_25 ev L k0 := by
  subst hn
  simp only [o75_23_6, dOpers]
  rw [p75_26 ev L k0 _ rfl]
  kernel_rfl
def t75_24 (k0 : AV → AV → AV → AV → AV → AV → Heap → CR) : K0 := fun T H => j75_24 ev L k0 (getS 0 T) (getS 1 T) (getS 2 T) (getS 3 T) (getS 8 T) (getS 9 T) (getS 10 T) (getS 11 T) (getS 12 T) (getS 62 T) (getS 63 T) H
theorem p75_24 (k0 : AV → AV → AV → AV → AV → AV → Heap → CR) (n : K0) (hn : n = t75_22 ev L k0) : dOpers noG ev o75_23_3 n = t75_24 ev L k0 := by
  subst hn
  simp only [o75_23_3, dOpers]
  rw [p75_25 ev L k0 _ rfl]
  kernel_rfl
def t75_4 (k0 : AV → AV → AV → AV → AV → AV → Heap → CR) : K0 := fun T H => j75_4 ev L k0 (getS 0 T) (getS 1 T) (getS 2 T) (getS 3 T) (getS 8 T) (getS 9 T) (getS 10 T) (getS 11 T) (getS 12 T) H
theorem p75_4 (k0 : AV → AV → AV → AV → AV → AV → Heap → CR) (ex : Nat → K0) (n : K0) (hn : n = s75_0 k0) (hx1 : ex 1 = s75_0 k0) : dCode noG ev (finR noG c75r) L c75_4 ex n = t75_4 ev L k0 := by
  subst hn
  simp only [c75_4, dCode, dOpers, dDrawn, dAgain, isPanic, cond_false]
  rw [p75_5 ev L k0 _ _ rfl (by first | rfl | exact hx1)]
  rw [p75_22 ev L k0 _ _ rfl]
  rw [p75_24 ev L k0 _ rfl]
  try rw [hx1]
  kernel_rfl
def t75_3 (k0 : AV → AV → AV → AV → AV → AV → Heap → CR) : K0 := fun T H => j75_3 ev L k0 (getS 0 T) (getS 1 T) (getS 2 T) (getS 3 T) (getS 8 T) (getS 9 T) (getS 10 T) H
theorem p75_3 (k0 : AV → AV → AV → AV → AV → AV → Heap → CR) (ex : Nat → K0) (n : K0) (hn : n = s75_0 k0) (hx1 : ex 1 = s75_0 k0) : dCode noG ev (finR noG c75r) L c75_3 ex n = t75_3 ev L k0 := by
  subst hn
  simp only [c75_3, dCode, dOpers, dDrawn, dAgain, isPanic, cond_false]
  rw [p75_4 ev L k0 _ _ rfl (by first | rfl | exact hx1)]
  try rw [hx1]
  kernel_rfl
def t75_2 (k0 : AV → AV → AV → AV → AV → AV → Heap → CR) : K0 := fun T H => j75_2 ev L k0 (getS 0 T) (getS 1 T) (getS 2 T) (getS 3 T) (getS 8 T) (getS 9 T) (getS 10 T) H
theorem p75_2 (k0 : AV → AV → AV → AV → AV → AV → Heap → CR) (ex : Nat → K0) (n : K0) (hn : n = s75_0 k0) (hx1 : ex 1 = s75_0 k0) : dCode noG ev (finR noG c75r) L c75_2 ex n = t75_2 ev L k0 := by
  subst hn
  simp only [c75_2, dCode, dOpers, dDrawn, dAgain, isPanic, cond_false]
  rw [p75_3 ev L k0 _ _ rfl (by first | rfl | exact hx1)]
  try rw [hx1]
  kernel_rfl
def t75_1 (k0 : AV → AV → AV → AV → AV → AV → Heap → CR) : K0 := fun T H => j75_1 ev L k0 (getS 0 T) (getS 1 T) (getS 2 T) (getS 3 T) (getS 8 T) (getS 9 T) (getS 10 T) H
theorem p75_1 (k0 : AV → AV → AV → AV → AV → AV → Heap → CR) (ex : Nat → K0) (n : K0) (hn : n = s75_0 k0) (hx1 : ex 1 = s75_0 k0) : dCode noG ev (finR noG c75r) L c75_1 ex n = t75_1 ev L k0 := by
  subst hn
  simp only [c75_1, dCode, dOpers, dDrawn, dAgain, isPanic, cond_false]
  rw [p75_2 ev L k0 _ _ rfl (by first | rfl | exact hx1)]
  try rw [hx1]
  kernel_rfl
theorem b75_0 (k0 : AV → AV → AV → AV → AV → AV → Heap → CR) (ex : Nat → K0) (n : K0) (hn : n = s75_0 k0) : dCode noG ev (finR noG c75r) L c75_0 ex n = fun T H => j75_0 ev L k0 (getS 0 T) (getS 1 T) (getS 2 T) (getS 3 T) (getS 8 T) (getS 9 T) H := by
  subst hn
  simp only [c75_0, dCode, dOpers, dDrawn, dAgain, isPanic, cond_false]
  rw [p75_1 ev L k0 _ _ rfl (by first | rfl | exact hx1)]
  kernel_rfl
theorem p75_0 (ex : Nat → K0) : ∀ m, pLoop (fun n => dCode noG ev (finR noG c75r) L c75_0 ex n) m = s75_0 (l75_0 ev L m) := by
  intro m
  induction m with
  | zero => kernel_rfl
  | succ m ih =>
    show dCode noG ev (finR noG c75r) L c75_0 ex (pLoop (fun n => dCode noG ev (finR noG c75r) L c75_0 ex n) m) = _
    rw [ih, b75_0 ev L (l75_0 ev L m) ex _ rfl]
    kernel_rfl
theorem e75 (args : List AV) (H : Heap) : Lq (q75 ev L args H) (dRun noG c75 ev L args H) := by
  unfold q75
  split
  · refine .inr ?_
    rename_i t0 t1 t2 t3
    show _ = ob (argsTm [t0, t1, t2, t3]) fun T => dCode noG ev (finR noG c75r) L c75b (fun _ => pFail) (finR noG c75r) T H
    simp only [c75b, dCode, dOpers, dDrawn, dAgain, isPanic, cond_false]
    rw [p75_0 ev L _]
    kernel_rfl
  · exact .inl rfl
def t76_0 : K0 := fun T H => j76_0 ev L (getS 0 T) H
theorem p76_0 (ex : Nat → K0) (n : K0) (hn : n = finR noG c76r) : dCode noG ev (finR noG c76r) L c76_0 ex n = t76_0 ev L := by
  subst hn
  simp only [c76_0, dCode, dOpers]
  kernel_rfl
theorem e76 (args : List AV) (H : Heap) : Lq (q76 ev L args H) (dRun noG c76 ev L args H) := by
  unfold q76
  split
  · refine .inr ?_
    rename_i t0
    show _ = ob (argsTm [t0]) fun T => dCode noG ev (finR noG c76r) L c76b (fun _ => pFail) (finR noG c76r) T H
    simp only [c76b, dCode, dOpers]
    rw [p76_0 ev L _ _ rfl]
    kernel_rfl
  · exact .inl rfl
def t77_1 : K0 := fun T H => j77_1 ev L (getS 7 T) H
theorem p77_1 (ex : Nat → K0) (n : K0) (hn : n = finR noG c77r) : dCode noG ev (finR noG c77r) L c77_1 ex n = t77_1 ev L := by
  subst hn
  simp only [c77_1, dCode, dOpers]
  kernel_rfl
def s77_2 (k2 : AV → AV → AV → AV → Heap → CR) : K0 := fun T H => k2 (getS 7 T) (getS 43 T) (getS 44 T) (getS 45 T) H
def t77_4 (k2 : AV → AV → AV → AV → Heap → CR) : K0 := fun T H => j77_4 ev L k2 (getS 7 T) (getS 43 T) (getS 44 T) (getS 45 T) H
theorem p77_4 (k2 : AV → AV → AV → AV → Heap → CR) (ex : Nat → K0) (n : K0) (hn : n = s77_2 k2) : dCode noG ev (finR noG c77r) L c77_4 ex n = t77_4 ev L k2 := by
  subst hn
  simp only [c77_4, dCode, dOpers]
  kernel_rfl
def t77_6 (k2 : AV → AV → AV → AV → Heap → CR) : K0 := fun T H => j77_6 ev L k2 (getS 7 T) (getS 9 T) (getS 10 T) (getS 43 T) (getS 44 T) (getS 45 T) (getS 63 T) H
theorem p77_6 (k2 : AV → AV → AV → AV → Heap → CR) (ex : Nat → K0) (n : K0) (hn : n = t77_4 ev L k2) : dCode noG ev (finR noG c77r) L c77_6 ex n = t77_6 ev L k2 := by
  subst hn
  simp only [c77_6, dCode, dOpers, dDrawn, dAgain, isPanic, cond_false]
  kernel_rfl
def t77_18 (k2 : AV → AV → AV → AV → Heap → CR) : K0 := fun T H => j77_18 ev L k2 (getS 7 T) (getS 9 T) (getS 10 T) (getS 43 T) (getS 44 T) (getS 45 T) (getS 53 T) (getS 62 T) H
theorem p77_18 (k2 : AV → AV → AV → AV → Heap → CR) (n : K0) (hn : n = t77_6 ev L k2) : dDrawn noG ev o77_9_12 n = t77_18 ev L k2 := by
  subst hn
  simp only [o77_9_12, dDrawn, dAgain, isPanic, cond_false]
  kernel_rfl
def t77_17 (k2 : AV → AV → AV → AV → Heap → CR) : K0 := fun T H => j77_17 ev L k2 (getS 7 T) (getS 9 T) (getS 10 T) (getS 43 T) (getS 44 T) (getS 45 T) (getS 53 T) (getS 55 T) (getS 61 T) H
theorem p77_17 (k2 : AV → AV → AV → AV → Heap → CR) (n : K0) (hn : n = t77_6 ev L k2) : dDrawn noG ev o77_9_11 n = t77_17 ev L k2 := by
  subst hn
  simp only [o77_9_11, dDrawn, dAgain, isPanic, cond_false]
  rw [p77_18 ev L k2 _ rfl]
  kernel_rfl
def t77_16 (k2 : AV → AV → AV → AV → Heap → CR) : K0 := fun T H => j77_16 ev L k2 (getS 7 T) (getS 9 T) (getS 10 T) (getS 43 T) (getS 44 T) (getS 45 T) (getS 53 T) (getS 55 T) (getS 60 T) H
theorem p77_16 (k2 : AV → AV → AV → AV → Heap → CR) (n : K0) (hn : n = t77_6 ev L k2) : dDrawn noG ev o77_9_10 n = t77_16 ev L k2 := by
  subst hn
  simp only [o77_9_10, dDrawn, dAgain, isPanic, cond_false]
  rw [p77_17 ev L k2 _ rfl]
  kernel_rfl
def t77_15 (k2 : AV → AV → AV → AV → Heap → CR) : K0 := fun T H => j77_15 ev L k2 (getS 7 T) (getS 9 T) (getS 10 T) (getS 43 T) (getS 44 T) (getS 45 T) (getS 53 T) (getS 55 T) (getS 59 T) H
theorem p77_15 (k2 : AV → AV → AV → AV → Heap → CR) (n : K0) (hn : n = t77_6 ev L k2) : dDrawn noG ev o77_9_9 n = t77_15 ev L k2 := by
  subst hn
  simp only [o77_9_9, dDrawn, dAgain, isPanic, cond_false]
  rw [p77_16 ev L k2 _ rfl]
  kernel_rfl
def t77_14 (k2 : AV → AV → AV → AV → Heap → CR) : K0 := fun T H => j77_14 ev L k2 (getS 7 T) (getS 9 T) (getS 10 T) (getS 43 T) (getS 44 T) (getS 45 T) (getS 53 T) (getS 55 T) (getS 56 T) (getS 58 T) H
theorem p77_14 (k2 : AV → AV → AV → AV → Heap → CR) (n : K0) (hn : n = t77_6 ev L k2) : dDrawn noG ev o77_9_8 n = t77_14 ev L k2 := by
  subst hn
  simp only [o77_9_8, dDrawn, dAgain, isPanic, cond_false]
  rw [p77_15 ev L k2 _ rfl]
  kernel_rfl
def t77_13 (k2 : AV → AV → AV → AV → Heap → CR) : K0 := fun T H => j77_13 ev L k2 (getS 7 T) (getS 9 T) (getS 10 T) (getS 43 T) (getS 44 T) (getS 45 T) (getS 53 T) (getS 55 T) (getS 56 T) (getS 57 T) H
theorem p77_13 (k2 : AV → AV → AV → AV → Heap → CR) (n : K0) (hn : n = t77_6 ev L k2) : dDrawn noG ev o77_9_7 n = t77_13 ev L k2 := by
  subst hn
  simp only [o77_9_7, dDrawn, dAgain, isPanic, cond_false]
  rw [p77_14 ev L k2 _ rfl]
  kernel_rfl
def t77_12 (k2 : AV → AV → AV → AV → Heap → CR) : K0 := fun T H => j77_12 ev L k2 (getS 7 T) (getS 9 T) (getS 10 T) (getS 43 T) (getS 44 T) (getS 45 T) (getS 53 T) (getS 55 T) (getS 56 T) H
theorem p77_12 (k2 : AV → AV → AV → AV → Heap → CR) (n : K0) (hn : n = t77_6 ev L k2) : dDrawn noG ev o77_9_6 n = t77_12 ev L k2 := by
  subst hn
  simp only [o77_9_6, dDrawn, dAgain, isPanic, cond_false]
  rw [p77_13 ev L k2 _ rfl]
  kernel_rfl
def t77_11 (k2 : AV → AV → AV → AV → Heap → CR) : K0 := fun T H => j77_11 ev L k2 (getS 7 T) (getS 9 T) (getS 10 T) (getS 43 T) (getS 44 T) (getS 45 T) (getS 53 T) (getS 55 T) H
theorem p77_11 (k2 : AV → AV → AV → AV → Heap → CR) (n : K0) (hn : n = t77_6 ev L k2) : dDrawn noG ev o77_9_5 n = t77_11 ev L k2 := by
  subst hn
  simp only [o77_9_5, dDrawn, dAgain, isPanic, cond_false]
  rw [p77_12 ev L k2 _ rfl]
  kernel_rfl
def t77_10 (k2 : AV → AV → AV → AV → Heap → CR) : K0 := fun T H => j77_10 ev L k2 (getS 7 T) (getS 9 T) (getS 10 T) (getS 43 T) (getS 44 T) (getS 45 T) (getS 53 T) (getS 54 T) H
theorem p77_10 (k2 : AV → AV → AV → AV → Heap → CR) (n : K0) (hn : n = t77_6 ev L k2) : dDrawn noG ev o77_9_4 n = t77_10 ev L k2 := by
  subst hn
  simp only [o77_9_4, dDrawn, dAgain, isPanic, cond_false]
  rw [p77_11 ev L k2 _ rfl]
  kernel_rfl
def t77_3 (k2 : AV → AV → AV → AV → Heap → CR) : K0 := fun T H => j77_3 ev L k2 (getS 7 T) (getS 43 T) (getS 44 T) (getS 45 T) H
theorem p77_3 (k2 : AV → AV → AV → AV → Heap → CR) (ex : Nat → K0) (n : K0) (hn : n = s77_2 k2) : dCode noG ev (finR noG c77r) L c77_3 ex n = t77_3 ev L k2 := by
  subst hn
  simp only [c77_3, dCode, dOpers, dDrawn, dAgain, isPanic, cond_false]
  rw [p77_4 ev L k2 _ _ rfl]
  rw [p77_6 ev L k2 _ _ rfl]
  rw [p77_10 ev L k2 _ rfl]
  kernel_rfl
theorem b77_2 (k2 : AV → AV → AV → AV → Heap → CR) (ex : Nat → K0) (n : K0) (hn : n = s77_2 k2) (hx2 : ex 2 = t77_1 ev L) : dCode noG ev (finR noG c77r) L c77_2 ex n = fun T H => j77_2 ev L k2 (getS 7 T) (getS 43 T) (getS 44 T) (getS 45 T) H := by
  subst hn
  simp only [c77_2, dCode, dOpers, dDrawn, dAgain, isPanic, cond_false]
  rw [p77_3 ev L k2 _ _ rfl]
  try rw [hx2]
  kernel_rfl
theorem p77_2 (ex : Nat → K0) (hx2 : ex 2 = t77_1 ev L) : ∀ m, pLoop (fun n => dCode noG ev (finR noG c77r) L c77_2 ex n) m = s77_2 (l77_2 ev L m) := by
  intro m
  induction m with
  | zero => kernel_rfl
  | succ m ih =>
    show dCode noG ev (finR noG c77r) L c77_2 ex (pLoop (fun n => dCode noG ev (finR noG c77r) L c77_2 ex n) m) = _
    rw [ih, b77_2 ev L (l77_2 ev L m) ex _ rfl hx2]
    kernel_rfl
def t77_0 : K0 := fun T H => j77_0 ev L (getS 3 T) H
theorem p77_0 (ex : Nat → K0) (n : K0) (hn : n = finR noG c77r) : dCode noG ev (finR noG c77r) L c77_0 ex n = t77_0 ev L := by
  subst hn
  simp only [c77_0, dCode, dOpers, dDrawn, dAgain, isPanic, cond_false]
  rw [p77_1 ev L _ _ rfl]
  rw [p77_2 ev L _ (by first | rfl | exact hx2)]
  kernel_rfl
def s77_19 (k19 : AV → AV → AV → AV → Heap → CR) : K0 := fun T H => k19 (getS 3 T) (getS 11 T) (getS 12 T) (getS 13 T) H
def t77_21 (k19 : AV → AV → AV → AV → Heap → CR) : K0 := fun T H => j77_21 ev L k19 (getS 3 T) (getS 11 T) (getS 12 T) (getS 13 T) H
theorem p77_21 (k19 : AV → AV → AV → AV → Heap → CR) (ex : Nat → K0) (n : K0) (hn : n = s77_19 k19) : dCode noG ev (finR noG c77r) L c77_21 ex n = t77_21 ev L k19 := by
  subst hn
  simp only [c77_21, dCode, dOpers]
  kernel_rfl
def t77_23 (k19 : AV → AV → AV → AV → Heap → CR) : K0 := fun T H => j77_23 ev L k19 (getS 3 T) (getS 6 T) (getS 11 T) (getS 12 T) (getS 13 T) (getS 35 T) H
theorem p77_23 (k19 : AV → AV → AV → AV → Heap → CR) (ex : Nat → K0) (n : K0) (hn : n = t77_21 ev L k19) : dCode noG ev (finR noG c77r) L c77_23 ex n = t77_23 ev L k19 := by
  subst hn
  simp only [c77_23, dCode, dOpers]
  kernel_rfl
def t77_30 (k19 : AV → AV → AV → AV → Heap → CR) : K0 := fun T H => j77_30 ev L k19 (getS 3 T) (getS 6 T) (getS 11 T) (getS 12 T) (getS 13 T) (getS 29 T) (getS 34 T) H
theorem p77_30 (k19 : AV → AV → AV → AV → Heap → CR) (n : K0) (hn : n = t77_23 ev L k19) : dOpers noG ev o77_25_11 n = t77_30 ev L k19 := by
  subst hn
  simp only [o77_25_11, dOpers]
  kernel_rfl
def t77_29 (k19 : AV → AV → AV → AV → Heap → CR) : K0 := fun T H => j77_29 ev L k19 (getS 3 T) (getS 6 T) (getS 11 T) (getS 12 T) (getS 13 T) (getS 29 T) (getS 31 T) (getS 33 T) H
theorem p77_29 (k19 : AV → AV → AV → AV → Heap → CR) (n : K0) (hn : n = t77_23 ev L k19) : dOpers noG ev o77_25_10 n = t77_29 ev L k19 := by
  subst hn
  simp only [o77_25_10, dOpers]
  rw [p77_30 ev L k19 _ rfl]
  kernel_rfl
def t77_28 (k19 : AV → AV → AV → AV → Heap → CR) : K0 := fun T H => j77_28 ev L k19 (getS 3 T) (getS 6 T) (getS 11 T) (getS 12 T) (getS 13 T) (getS 29 T) (getS 31 T) (getS 32 T) H
theorem p77_28 (k19 : AV → AV → AV → AV → Heap → CR) (n : K0) (hn : n = t77_23 ev L k19) : dOpers noG ev o77_25_9 n = t77_28 ev L k19 := by
  subst hn
  simp only [o77_25_9, dOpers]
  rw [p77_29 ev L k19 _ rfl]
  kernel_rfl
def t77_27 (k19 : AV → AV → AV → AV → Heap → CR) : K0 := fun T H => j77_27 ev L k19 (getS 3 T) (getS 6 T) (getS 11 T) (getS 12 T) (getS 13 T) (getS 29 T) (getS 31 T) H
theorem p77_27 (k19 : AV → AV → AV → AV → Heap → CR) (n : K0) (hn : n = t77_23 ev L k19) : dOpers noG ev o77_25_8 n = t77_27 ev L k19 := by
  subst hn
  simp only [o77_25_8, dOpers]
  rw [p77_28 ev L k19 _ rfl]
  kernel_rfl
def t77_26 (k19 : AV → AV → AV → AV → Heap → CR) : K0 := fun T H => j77_26 ev L k19 (getS 3 T) (getS 6 T) (getS 11 T) (getS 12 T) (getS 13 T) (getS 29 T) (getS 30 T) H
theorem p77_26 (k19 : AV → AV → AV → AV → Heap → CR) (n : K0) (hn : n = t77_23 ev L k19) : dOpers noG ev o77_25_7 n = t77_26 ev L k19 := by
  subst hn
  simp only [o77_25_7, dOpers]
  rw [p77_27 ev L k19 _ rfl]
  kernel_rfl
def t77_20 (k19 : AV → AV → AV → AV → Heap → CR) : K0 := fun T H => j77_20 ev L k19 (getS 3 T) (getS 11 T) (getS 12 T) (getS 13 T) H
theorem p77_20 (k19 : AV → AV → AV → AV → Heap → CR) (ex : Nat → K0) (n : K0) (hn : n = s77_19 k19) : dCode noG ev (finR noG c77r) L c77_20 ex n = t77_20 ev L k19 := by
  subst hn
  simp only [c77_20, dCode, dOpers, dDrawn, dAgain, isPanic, cond_false]
  rw [p77_21 ev L k19 _ _ rfl]
  rw [p77_23 ev L k19 _ _ rfl]
  rw [p77_26 ev L k19 _ rfl]
  kernel_rfl
theorem b77_19 (k19 : AV → AV → AV → AV → Heap → CR) (ex : Nat → K0) (n : K0) (hn : n = s77_19 k19) (hx0 : ex 0 = t77_0 ev L) : dCode noG ev (finR noG c77r) L c77_19 ex n = fun T H => j77_19 ev L k19 (getS 3 T) (getS 11 T) (getS 12 T) (getS 13 T) H := by
  subst hn
  simp only [c77_19, dCode, dOpers, dDrawn, dAgain, isPanic, cond_false]
  rw [p77_20 ev L k19 _ _ rfl]
  try rw [hx0]
  kernel_rfl
theorem p77_19 (ex : Nat → K0) (hx0 : ex 0 = t77_0 ev L) : ∀ m, pLoop (fun n => dCode noG ev (finR noG c77r) L c77_19 ex n) m = s77_19 (l77_19 ev L m) := by
  intro m
  induction m with
  | zero => kernel_rfl
  | succ m ih =>
    show dCode noG ev (finR noG c77r) L c77_19 ex (pLoop (fun n => dCode noG ev (finR noG c77r) L c77_19 ex n) m) = _
    rw [ih, b77_19 ev L (l77_19 ev L m) ex _ rfl hx0]
    kernel_rfl
theorem e77 (args : List AV) (H : Heap) : Lq (q77 ev L args H) (dRun noG c77 ev L args H) := by
  unfold q77
  split
  · refine .inr ?_
    rename_i t0
    show _ = ob (argsTm [t0]) fun T => dCode noG ev (finR noG c77r) L c77b (fun _ => pFail) (finR noG c77r) T H
    simp only [c77b, dCode, dOpers, dDrawn, dAgain, isPanic, cond_false]
    rw [p77_0 ev L _ _ rfl]
    rw [p77_19 ev L _ (by first | rfl | exact hx0)]
    kernel_rfl
  · exact .inl rfl
def t78_0 : K0 := fun T H => j78_0 ev L (getS 3 T) H
theorem p78_0 (ex : Nat → K0) (n : K0) (hn : n = finR noG c78r) : dCode noG ev (finR noG c78r) L c78_0 ex n = t78_0 ev L := by
  subst hn
  simp only [c78_0, dCode, dOpers]
  kernel_rfl
def s78_1 (k1 : AV → AV → AV → AV → Heap → CR) : K0 := fun T H => k1 (getS 3 T) (getS 6 T) (getS 7 T) (getS 8 T) H
def t78_3 (k1 : AV → AV → AV → AV → Heap → CR) : K0 := fun T H => j78_3 ev L k1 (getS 3 T) (getS 6 T) (getS 7 T) (getS 8 T) H
theorem p78_3 (k1 : AV → AV → AV → AV → Heap → CR) (ex : Nat → K0) (n : K0) (hn : n = s78_1 k1) : dCode noG ev (finR noG c78r) L c78_3 ex n = t78_3 ev L k1 := by
  subst hn
  simp only [c78_3, dCode, dOpers]
  kernel_rfl
def t78_2 (k1 : AV → AV → AV → AV → Heap → CR) : K0 := fun T H => j78_2 ev L k1 (getS 3 T) (getS 6 T) (getS 7 T) (getS 8 T) H
theorem p78_2 (k1 : AV → AV → AV → AV → Heap → CR) (ex : Nat → K0) (n : K0) (hn : n = s78_1 k1) : dCode noG ev (finR noG c78r) L c78_2 ex n = t78_2 ev L k1 := by
  subst hn
  simp only [c78_2, dCode, dOpers, dDrawn, dAgain, isPanic, cond_false]
  rw [p78_3 ev L k1 _ _ rfl]
  kernel_rfl
theorem b78_1 (k1 : AV → AV → AV → AV → Heap → CR) (ex : Nat → K0) (n : K0) (hn : n = s78_1 k1) (hx0 : ex 0 = t78_0 ev L) : dCode noG ev (finR noG c78r) L c78_1 ex n = fun T H => j78_1 ev L k1 (getS 3 T) (getS 6 T) (getS 7 T) (getS 8 T) H := by
  subst hn
  simp only [c78_1, dCode, dOpers, dDrawn, dAgain, isPanic, cond_false]
  rw [p78_2 ev L k1 _ _ rfl]
  try rw [hx0]
  kernel_rfl
theorem p78_1 (ex : Nat → K0) (hx0 : ex 0 = t78_0 ev L) : ∀ m, pLoop (fun n => dCode noG ev (finR noG c78r) L c78_1 ex n) m = s78_1 (l78_1 ev L m) := by
  intro m
  induction m with
  | zero => kernel_rfl
  | succ m ih =>
    show dCode noG ev (finR noG c78r) L c78_1 ex (pLoop (fun n => dCode noG ev (finR noG c78r) L c78_1 ex n) m) = _
    rw [ih, b78_1 ev L (l78_1 ev L m) ex _ rfl hx0]
    kernel_rfl
theorem e78 (args : List AV) (H : Heap) : Lq (q78 ev L args H) (dRun noG c78 ev L args H) := by
  unfold q78
  split
  · refine .inr ?_
    rename_i t0
    show _ = ob (argsTm [t0]) fun T => dCode noG ev (finR noG c78r) L c78b (fun _ => pFail) (finR noG c78r) T H
    simp only [c78b, dCode, dOpers, dDrawn, dAgain, isPanic, cond_false]
    rw [p78_0 ev L _ _ rfl]
    rw [p78_1 ev L _ (by first | rfl | exact hx0)]
    kernel_rfl
  · exact .inl rfl
def t79_0 : K0 := fun T H => j79_0 ev L (getS 0 T) (getS 2 T) (getS 7 T) H
theorem p79_0 (ex : Nat → K0) (n : K0) (hn : n = finR noG c79r) : dCode noG ev (finR noG c79r) L c79_0 ex n = t79_0 ev L := by
  subst hn
  simp only [c79_0, dCode, dOpers]
  kernel_rfl
theorem e79 (args : List AV) (H : Heap) : Lq (q79 ev L args H) (dRun noG c79 ev L args H) := by
  unfold q79
  split
  · refine .inr ?_
    rename_i t0 t1 t2
    show _ = ob (argsTm [t0, t1, t2]) fun T => dCode noG ev (finR noG c79r) L c79b (fun _ => pFail) (finR noG c79r) T H
    simp only [c79b, dCode, dOpers]
    rw [p79_0 ev L _ _ rfl]
    kernel_rfl
  · exact .inl rfl
def t80_0 : K0 := fun T H => j80_0 ev L (getS 2 T) H
theorem p80_0 (ex : Nat → K0) (n : K0) (hn : n = finR noG c80r) : dCode noG ev (finR noG c80r) L c80_0 ex n = t80_0 ev L := by
  subst hn
  simp only [c80_0, dCode, dOpers]
  kernel_rfl
def t80_9 : K0 := fun T H => j80_9 ev L (getS 9 T) (getS 15 T) H
theorem p80_9 (n : K0) (hn : n = t80_0 ev L) : dOpers noG ev o80_1_13 n = t80_9 ev L := by
  subst hn
  simp only [o80_1_13, dOpers]
  kernel_rfl
def t80_8 : K0 := fun T H => j80_8 ev L (getS 9 T) (getS 12 T) (getS 14 T) H
theorem p80_8 (n : K0) (hn : n = t80_0 ev L) : dOpers noG ev o80_1_12 n = t80_8 ev L := by
  subst hn
  simp only [o80_1_12, dOpers]
  rw [p80_9 ev L _ rfl]
  kernel_rfl
def t80_7 : K0 := fun T H => j80_7 ev L (getS 9 T) (getS 12 T) (getS 13 T) H
theorem p80_7 (n : K0) (hn : n = t80_0 ev L) : dOpers noG ev o80_1_11 n = t80_7 ev L := by
  subst hn
  simp only [o80_1_11, dOpers]
  rw [p80_8 ev L _ rfl]
  kernel_rfl
def t80_6 : K0 := fun T H => j80_6 ev L (getS 0 T) (getS 9 T) (getS 12 T) H
theorem p80_6 (n : K0) (hn : n = t80_0 ev L) : dOpers noG ev o80_1_10 n = t80_6 ev L := by
  subst hn
  simp only [o80_1_10, dOpers]
  rw [p80_7 ev L _ rfl]
  kernel_rfl
def t80_5 : K0 := fun T H => j80_5 ev L (getS 0 T) (getS 9 T) (getS 11 T) H
theorem p80_5 (n : K0) (hn : n = t80_0 ev L) : dOpers noG ev o80_1_9 n = t80_5 ev L := by
  subst hn
  simp only [o80_1_9, dOpers]
  rw [p80_6 ev L _ rfl]
  kernel_rfl
def t80_4 : K0 := fun T H => j80_4 ev L (getS 0 T) (getS 9 T) (getS 10 T) H
theorem p80_4 (n : K0) (hn : n = t80_0 ev L) : dOpers noG ev o80_1_8 n = t80_4 ev L := by
  subst hn
  simp only [o80_1_8, dOpers]
  rw [p80_5 ev L _ rfl]
  kernel_rfl
def t80_3 : K0 := fun T H => j80_3 ev L (getS 0 T) (getS 5 T) (getS 7 T) H
theorem p80_3 (n : K0) (hn : n = t80_0 ev L) : dOpers noG ev o80_1_5 n = t80_3 ev L := by
  subst hn
  simp only [o80_1_5, dOpers]
  rw [p80_4 ev L _ rfl]
  kernel_rfl
def t80_2 : K0 := fun T H => j80_2 ev L (getS 0 T) (getS 5 T) (getS 6 T) H
theorem p80_2 (n : K0) (hn : n = t80_0 ev L) : dOpers noG ev o80_1_4 n = t80_2 ev L := by
  subst hn
  simp only [o80_1_4, dOpers]
  rw [p80_3 ev L _ rfl]
  kernel_rfl
theorem e80 (args : List AV) (H : Heap) : Lq (q80 ev L args H) (dRun noG c80 ev L args H) := by
  unfold q80
  split
  · refine .inr ?_
    rename_i t0
    show _ = ob (argsTm [t0]) fun T => dCode noG ev (finR noG c80r) L c80b (fun _ => pFail) (finR noG c80r) T H
    simp only [c80b, dCode, dOpers]
    rw [p80_0 ev L _ _ rfl]
    rw [p80_2 ev L _ rfl]
    kernel_rfl
  · exact .inl rfl
theorem e81 (args : List AV) (H : Heap) : Lq (q81 ev L args H) (dRun noG c81 ev L args H) := by
  unfold q81
  split
  · refine .inr ?_
    rename_i t0 t1
    show _ = ob (argsTm [t0, t1]) fun T => dCode noG ev (finR noG c81r) L c81b (fun _ => pFail) (finR noG c81r) T H
    simp only [c81b, dCode, dOpers]
    kernel_rfl
  · exact .inl rfl
def t82_0 : K0 := fun T H => j82_0 ev L (getS 3 T) H
theorem p82_0 (ex : Nat → K0) (n : K0) (hn : n = finR noG c82r) : dCode noG ev (finR noG c82r) L c82_0 ex n = t82_0 ev L := by
  subst hn
  simp only [c82_0, dCode, dOpers]
  kernel_rfl
def t82_5 : K0 := fun T H => j82_5 ev L (getS 8 T) (getS 12 T) H
theorem p82_5 (n : K0) (hn : n = t82_0 ev L) : dOpers noG ev o82_1_9 n = t82_5 ev L := by
  subst hn
  simp only [o82_1_9, dOpers]
  kernel_rfl
def t82_4 : K0 := fun T H => j82_4 ev L (getS 8 T) (getS 9 T) (getS 11 T) H
theorem p82_4 (n : K0) (hn : n = t82_0 ev L) : dOpers noG ev o82_1_8 n = t82_4 ev L := by
  subst hn
  simp only [o82_1_8, dOpers]
  rw [p82_5 ev L _ rfl]
  kernel_rfl
def t82_3 : K0 := fun T H => j82_3 ev L (getS 8 T) (getS 9 T) (getS 10 T) H
theorem p82_3 (n : K0) (hn : n = t82_0 ev L) : dOpers noG ev o82_1_7 n = t82_3 ev L := by
  subst hn
  simp only [o82_1_7, dOpers]
  rw [p82_4 ev L _ rfl]
  kernel_rfl
def t82_2 : K0 := fun T H => j82_2 ev L (getS 2 T) (getS 8 T) (getS 9 T) H
theorem p82_2 (n : K0) (hn : n = t82_0 ev L) : dOpers noG ev o82_1_6 n = t82_2 ev L := by
  subst hn
  simp only [o82_1_6, dOpers]
  rw [p82_3 ev L _ rfl]
  kernel_rfl
theorem e82 (args : List AV) (H : Heap) : Lq (q82 ev L args H) (dRun noG c82 ev L args H) := by
  unfold q82
  split
  · refine .inr ?_
    rename_i t0 t1
    show _ = ob (argsTm [t0, t1]) fun T => dCode noG ev (finR noG c82r) L c82b (fun _ => pFail) (finR noG c82r) T H
    simp only [c82b, dCode, dOpers]
    rw [p82_0 ev L _ _ rfl]
    rw [p82_2 ev L _ rfl]
    kernel_rfl
  · exact .inl rfl
end
end Go.AM.Ly
set_option maxRecDepth 100000
namespace Go.AM.Ly
open Go
noncomputable section
variable (ev : Ev) (L : Nat)
def t84_0 : K0 := fun T H => j84_0 ev L (getS 0 T) H
theorem p84_0 (ex : Nat → K0) (n : K0) (hn : n = finR noG c84r) : dCode noG ev (finR noG c84r) L c84_0 ex n = t84_0 ev L := by
  subst hn
  simp only [c84_0, dCode, dOpers]
  kernel_rfl
def s84_1 (k1 : AV → AV → AV → AV → Heap → CR) : K0 := fun T H => k1 (getS 0 T) (getS 6 T) (getS 7 T) (getS 8 T) H
def t84_3 (k1 : AV → AV → AV → AV → Heap → CR) : K0 := fun T H => j84_3 ev L k1 (getS 0 T) (getS 6 T) (getS 7 T) (getS 8 T) H
theorem p84_3 (k1 : AV → AV → AV → AV → Heap → CR) (ex : Nat → K0) (n : K0) (hn : n = s84_1 k1) : dCode noG ev (finR noG c84r) L c84_3 ex n = t84_3 ev L k1 := by
  subst hn
  simp only [c84_3, dCode, dOpers]
  kernel_rfl
def t84_5 (k1 : AV → AV → AV → AV → Heap → CR) : K0 := fun T H => j84_5 ev L k1 (getS 0 T) H
theorem p84_5 (k1 : AV → AV → AV → AV → Heap → CR) (ex : Nat → K0) (n : K0) (hn : n = t84_3 ev L k1) (hx0 : ex 0 = t84_0 ev L) : dCode noG ev (finR noG c84r) L c84_5 ex n = t84_5 ev L k1 := by
  subst hn
  simp only [c84_5, dCode, dOpers]
  try rw [hx0]
  kernel_rfl
def t84_2 (k1 : AV → AV → AV → AV → Heap → CR) : K0 := fun T H => j84_2 ev L k1 (getS 0 T) (getS 6 T) (getS 8 T) H
theorem p84_2 (k1 : AV → AV → AV → AV → Heap → CR) (ex : Nat → K0) (n : K0) (hn : n = s84_1 k1) (hx0 : ex 0 = t84_0 ev L) : dCode noG ev (finR noG c84r) L c84_2 ex n = t84_2 ev L k1 := by
  subst hn
  simp only [c84_2, dCode, dOpers]
  rw [p84_3 ev L k1 _ _ rfl]
  rw [p84_5 ev L k1 _ _ rfl (by first | rfl | exact hx0)]
  try rw [hx0]
  kernel_rfl
theorem b84_1 (k1 : AV → AV → AV → AV → Heap → CR) (ex : Nat → K0) (n : K0) (hn : n = s84_1 k1) (hx0 : ex 0 = t84_0 ev L) : dCode noG ev (finR noG c84r) L c84_1 ex n = fun T H => j84_1 ev L k1 (getS 0 T) (getS 6 T) (getS 7 T) (getS 8 T) H := by
  subst hn
  simp only [c84_1, dCode, dOpers]
  rw [p84_2 ev L k1 _ _ rfl (by first | rfl | exact hx0)]
  try rw [hx0]
  kernel_rfl
theorem p84_1 (ex : Nat → K0) (hx0 : ex 0 = t84_0 ev L) : ∀ m, pLoop (fun n => dCode noG ev (finR noG c84r) L c84_1 ex n) m = s84_1 (l84_1 ev L m) := by
  intro m
  induction m with
  | zero => kernel_rfl
  | succ m ih =>
    show dCode noG ev (finR noG c84r) L c84_1 ex (pLoop (fun n => dCode noG ev (finR noG c84r) L c84_1 ex n) m) = _
    rw [ih, b84_1 ev L (l84_1 ev L m) ex _ rfl hx0]
    kernel_rfl
theorem e84 (args : List AV) (H : Heap) : Lq (q84 ev L args H) (dRun noG c84 ev L args H) := by
  unfold q84
  split
  · refine .inr ?_
    rename_i t0
    show _ = ob (argsTm [t0]) fun T => dCode noG ev (finR noG c84r) L c84b (fun _ => pFail) (finR noG c84r) T H
    simp only [c84b, dCode, dOpers]
    rw [p84_0 ev L _ _ rfl]
    rw [p84_1 ev L _ (by first | rfl | exact hx0)]
    kernel_rfl
  · exact .inl rfl
def t85_0 : K0 := fun T H => j85_0 ev L (getS 0 T) (getS 1 T) (getS 2 T) H
theorem p85_0 (ex : Nat → K0) (n : K0) (hn : n = finR noG c85r) : dCode noG ev (finR noG c85r) L c85_0 ex n = t85_0 ev L := by
  subst hn
  simp only [c85_0, dCode, dOpers]
  kernel_rfl
def t85_1 : K0 := fun T H => j85_1 ev L (getS 0 T) (getS 1 T) (getS 2 T) (getS 34 T) H
theorem p85_1 (ex : Nat → K0) (n : K0) (hn : n = t85_0 ev L) : dCode noG ev (finR noG c85r) L c85_1 ex n = t85_1 ev L := by
  subst hn
  simp only [c85_1, dCode, dOpers]
  kernel_rfl
def t85_20 : K0 := fun T H => j85_20 ev L (getS 0 T) (getS 1 T) (getS 2 T) (getS 26 T) (getS 33 T) H
theorem p85_20 (n : K0) (hn : n = t85_1 ev L) : dOpers noG ev o85_2_27 n = t85_20 ev L := by
  subst hn
  simp only [o85_2_27, dOpers]
  kernel_rfl
def t85_19 : K0 := fun T H => j85_19 ev L (getS 0 T) (getS 1 T) (getS 2 T) (getS 26 T) (getS 27 T) (getS 32 T) H
theorem p85_19 (n : K0) (hn : n = t85_1 ev L) : dOpers noG ev o85_2_26 n = t85_19 ev L := by
  subst hn
  simp only [o85_2_26, dOpers]
  rw [p85_20 ev L _ rfl]
  kernel_rfl
def t85_18 : K0 := fun T H => j85_18 ev L (getS 0 T) (getS 1 T) (getS 2 T) (getS 26 T) (getS 27 T) (getS 31 T) H
theorem p85_18 (n : K0) (hn : n = t85_1 ev L) : dOpers noG ev o85_2_25 n = t85_18 ev L := by
  subst hn
  simp only [o85_2_25, dOpers]
  rw [p85_19 ev L _ rfl]
  kernel_rfl
def t85_17 : K0 := fun T H => j85_17 ev L (getS 0 T) (getS 1 T) (getS 2 T) (getS 26 T) (getS 27 T) (getS 30 T) H
theorem p85_17 (n : K0) (hn : n = t85_1 ev L) : dOpers noG ev o85_2_24 n = t85_17 ev L := by
  subst hn
  simp only [o85_2_24, dOpers]
  rw [p85_18 ev L _ rfl]
  kernel_rfl
def t85_16 : K0 := fun T H => j85_16 ev L (getS 0 T) (getS 1 T) (getS 2 T) (getS 26 T) (getS 27 T) (getS 29 T) H
theorem p85_16 (n : K0) (hn : n = t85_1 ev L) : dOpers noG ev o85_2_23 n = t85_16 ev L := by
  subst hn
  simp only [o85_2_23, dOpers]
  rw [p85_17 ev L _ rfl]
  kernel_rfl
def t85_15 : K0 := fun T H => j85_15 ev L (getS 0 T) (getS 1 T) (getS 2 T) (getS 26 T) (getS 27 T) (getS 28 T) H
theorem p85_15 (n : K0) (hn : n = t85_1 ev L) : dOpers noG ev o85_2_22 n = t85_15 ev L := by
  subst hn
  simp only [o85_2_22, dOpers]
  rw [p85_16 ev L _ rfl]
  kernel_rfl
def t85_14 : K0 := fun T H => j85_14 ev L (getS 0 T) (getS 1 T) (getS 2 T) (getS 26 T) (getS 27 T) H
theorem p85_14 (n : K0) (hn : n = t85_1 ev L) : dOpers noG ev o85_2_21 n = t85_14 ev L := by
  subst hn
  simp only [o85_2_21, dOpers]
  rw [p85_15 ev L _ rfl]
  kernel_rfl
def t85_13 : K0 := fun T H => j85_13 ev L (getS 0 T) (getS 1 T) (getS 2 T) (getS 22 T) (getS 24 T) H
theorem p85_13 (n : K0) (hn : n = t85_1 ev L) : dOpers noG ev o85_2_18 n = t85_13 ev L := by
  subst hn
  simp only [o85_2_18, dOpers]
  rw [p85_14 ev L _ rfl]
  kernel_rfl
def t85_12 : K0 := fun T H => j85_12 ev L (getS 0 T) (getS 1 T) (getS 2 T) (getS 22 T) (getS 23 T) H
theorem p85_12 (n : K0) (hn : n = t85_1 ev L) : dOpers noG ev o85_2_17 n = t85_12 ev L := by
  subst hn
  simp only [o85_2_17, dOpers]
  rw [p85_13 ev L _ rfl]
  kernel_rfl
def t85_11 : K0 := fun T H => j85_11 ev L (getS 0 T) (getS 1 T) (getS 2 T) (getS 13 T) (getS 20 T) H
theorem p85_11 (n : K0) (hn : n = t85_1 ev L) : dOpers noG ev o85_2_14 n = t85_11 ev L := by
  subst hn
  simp only [o85_2_14, dOpers]
  rw [p85_12 ev L _ rfl]
  kernel_rfl
def t85_10 : K0 := fun T H => j85_10 ev L (getS 0 T) (getS 1 T) (getS 2 T) (getS 13 T) (getS 14 T) (getS 19 T) H
theorem p85_10 (n : K0) (hn : n = t85_1 ev L) : dOpers noG ev o85_2_13 n = t85_10 ev L := by
  subst hn
  simp only [o85_2_13, dOpers]
  rw [p85_11 ev L _ rfl]
  kernel_rfl
def t85_9 : K0 := fun T H => j85_9 ev L (getS 0 T) (getS 1 T) (getS 2 T) (getS 13 T) (getS 14 T) (getS 18 T) H
theorem p85_9 (n : K0) (hn : n = t85_1 ev L) : dOpers noG ev o85_2_12 n = t85_9 ev L := by
  subst hn
  simp only [o85_2_12, dOpers]
  rw [p85_10 ev L _ rfl]
  kernel_rfl
def t85_8 : K0 := fun T H => j85_8 ev L (getS 0 T) (getS 1 T) (getS 2 T) (getS 13 T) (getS 14 T) (getS 17 T) H
theorem p85_8 (n : K0) (hn : n = t85_1 ev L) : dOpers noG ev o85_2_11 n = t85_8 ev L := by
  subst hn
  simp only [o85_2_11, dOpers]
  rw [p85_9 ev L _ rfl]
  kernel_rfl
def t85_7 : K0 := fun T H => j85_7 ev L (getS 0 T) (getS 1 T) (getS 2 T) (getS 13 T) (getS 14 T) (getS 16 T) H
theorem p85_7 (n : K0) (hn : n = t85_1 ev L) : dOpers noG ev o85_2_10 n = t85_7 ev L := by
  subst hn
  simp only [o85_2_10, dOpers]
  rw [p85_8 ev L _ rfl]
  kernel_rfl
def t85_6 : K0 := fun T H => j85_6 ev L (getS 0 T) (getS 1 T) (getS 2 T) (getS 13 T) (getS 14 T) (getS 15 T) H
theorem p85_6 (n : K0) (hn : n = t85_1 ev L) : dOpers noG ev o85_2_9 n = t85_6 ev L := by
  subst hn
  simp only [o85_2_9, dOpers]
  rw [p85_7 ev L _ rfl]
  kernel_rfl
def t85_5 : K0 := fun T H => j85_5 ev L (getS 0 T) (getS 1 T) (getS 2 T) (getS 13 T) (getS 14 T) H
theorem p85_5 (n : K0) (hn : n = t85_1 ev L) : dOpers noG ev o85_2_8 n = t85_5 ev L := by
  subst hn
  simp only [o85_2_8, dOpers]
  rw [p85_6 ev L _ rfl]
  kernel_rfl
def t85_4 : K0 := fun T H => j85_4 ev L (getS 0 T) (getS 1 T) (getS 2 T) (getS 9 T) (getS 11 T) H
theorem p85_4 (n : K0) (hn : n = t85_1 ev L) : dOpers noG ev o85_2_5 n = t85_4 ev L := by
  subst hn
  simp only [o85_2_5, dOpers]
  rw [p85_5 ev L _ rfl]
  kernel_rfl
def t85_3 : K0 := fun T H => j85_3 ev L (getS 0 T) (getS 1 T) (getS 2 T) (getS 9 T) (getS 10 T) H
theorem p85_3 (n : K0) (hn : n = t85_1 ev L) : dOpers noG ev o85_2_4 n = t85_3 ev L := by
  subst hn
  simp only [o85_2_4, dOpers]
  rw [p85_4 ev L _ rfl]
  kernel_rfl
theorem e85 (args : List AV) (H : Heap) : Lq (q85 ev L args H) (dRun noG c85 ev L args H) := by
  unfold q85
  split
  · refine .inr ?_
    rename_i t0 t1 t2
    show _ = ob (argsTm [t0, t1, t2]) fun T => dCode noG ev (finR noG c85r) L c85b (fun _ => pFail) (finR noG c85r) T H
    simp only [c85b, dCode, dOpers]
    rw [p85_0 ev L _ _ rfl]
    rw [p85_1 ev L _ _ rfl]
    rw [p85_3 ev L _ rfl]
    kernel_rfl
  · exact .inl rfl
theorem e86 (args : List AV) (H : Heap) : Lq (q86 ev L args H) (dRun noG c86 ev L args H) := by
  unfold q86
  split
  · refine .inr ?_
    rename_i t0 t1
    show _ = ob (argsTm [t0, t1]) fun T => dCode noG ev (finR noG c86r) L c86b (fun _ => pFail) (finR noG c86r) T H
    simp only [c86b, dCode, dOpers]
    kernel_rfl
  · exact .inl rfl
def t87_1 : K0 := fun T H => j87_1 ev L H
theorem p87_1 (ex : Nat → K0) (n : K0) (hn : n = finR noG c87r) : dCode noG ev (finR noG c87r) L c87_1 ex n = t87_1 ev L := by
  subst hn
  simp only [c87_1, dCode, dOpers]
  kernel_rfl
def s87_2 (k2 : AV → AV → AV → AV → Heap → CR) : K0 := fun T H => k2 (getS 0 T) (getS 1 T) (getS 12 T) (getS 13 T) H
def t87_4 (k2 : AV → AV → AV → AV → Heap → CR) : K0 := fun T H => j87_4 ev L k2 (getS 0 T) (getS 1 T) (getS 12 T) (getS 13 T) H
theorem p87_4 (k2 : AV → AV → AV → AV → Heap → CR) (ex : Nat → K0) (n : K0) (hn : n = s87_2 k2) : dCode noG ev (finR noG c87r) L c87_4 ex n = t87_4 ev L k2 := by
  subst hn
  simp only [c87_4, dCode, dOpers]
  kernel_rfl
def t87_3 (k2 : AV → AV → AV → AV → Heap → CR) : K0 := fun T H => j87_3 ev L k2 (getS 0 T) (getS 1 T) (getS 12 T) (getS 13 T) H
theorem p87_3 (k2 : AV → AV → AV → AV → Heap → CR) (ex : Nat → K0) (n : K0) (hn : n = s87_2 k2) : dCode noG ev (finR noG c87r) L c87_3 ex n = t87_3 ev L k2 := by
  subst hn
  simp only [c87_3, dCode, dOpers, dDrawn, dAgain, isPanic, cond_false]
  rw [p87_4 ev L k2 _ _ rfl]
  kernel_rfl
theorem b87_2 (k2 : AV → AV → AV → AV → Heap → CR) (ex : Nat → K0) (n : K0) (hn : n = s87_2 k2) (hx0 : ex 0 = t87_1 ev L) : dCode noG ev (finR noG c87r) L c87_2 ex n = fun T H => j87_2 ev L k2 (getS 0 T) (getS 1 T) (getS 12 T) (getS 13 T) H := by
  subst hn
  simp only [c87_2, dCode, dOpers, dDrawn, dAgain, isPanic, cond_false]
  rw [p87_3 ev L k2 _ _ rfl]
  try rw [hx0]
  kernel_rfl
theorem p87_2 (ex : Nat → K0) (hx0 : ex 0 = t87_1 ev L) : ∀ m, pLoop (fun n => dCode noG ev (finR noG c87r) L c87_2 ex n) m = s87_2 (l87_2 ev L m) := by
  intro m
  induction m with
  | zero => kernel_rfl
  | succ m ih =>
    show dCode noG ev (finR noG c87r) L c87_2 ex (pLoop (fun n => dCode noG ev (finR noG c87r) L c87_2 ex n) m) = _
    rw [ih, b87_2 ev L (l87_2 ev L m) ex _ rfl hx0]
    kernel_rfl
def t87_0 : K0 := fun T H => j87_0 ev L (getS 0 T) (getS 1 T) H
theorem p87_0 (ex : Nat → K0) (n : K0) (hn : n = finR noG c87r) : dCode noG ev (finR noG c87r) L c87_0 ex n = t87_0 ev L := by
  subst hn
  simp only [c87_0, dCode, dOpers, dDrawn, dAgain, isPanic, cond_false]
  rw [p87_1 ev L _ _ rfl]
  rw [p87_2 ev L _ (by first | rfl | exact hx0)]
  kernel_rfl
theorem e87 (args : List AV) (H : Heap) : Lq (q87 ev L args H) (dRun noG c87 ev L args H) := by
  unfold q87
  split
  · refine .inr ?_
    rename_i t0 t1
    show _ = ob (argsTm [t0, t1]) fun T => dCode noG ev (finR noG c87r) L c87b (fun _ => pFail) (finR noG c87r) T H
    simp only [c87b, dCode, dOpers, dDrawn, dAgain, isPanic, cond_false]
    rw [p87_0 ev L _ _ rfl]
    kernel_rfl
  · exact .inl rfl
theorem e88 (args : List AV) (H : Heap) : Lq (q88 ev L args H) (dRun noG c88 ev L args H) := by
  unfold q88
  split
  · refine .inr ?_
    rename_i t0
    show _ = ob (argsTm [t0]) fun T => dCode noG ev (finR noG c88r) L c88b (fun _ => pFail) (finR noG c88r) T H
    simp only [c88b, dCode, dOpers]
    kernel_rfl
  · exact .inl rfl
def s89_0 (k0 : AV → AV → AV → AV → Heap → CR) : K0 := fun T H => k0 (getS 0 T) (getS 1 T) (getS 2 T) (getS 6 T) H
def t89_2 (k0 : AV → AV → AV → AV → Heap → CR) : K0 := fun T H => j89_2 ev L k0 (getS 0 T) (getS 1 T) (getS 2 T) (getS 6 T) H
theorem p89_2 (k0 : AV → AV → AV → AV → Heap → CR) (ex : Nat → K0) (n : K0) (hn : n = s89_0 k0) : dCode noG ev (finR noG c89r) L c89_2 ex n = t89_2 ev L k0 := by
  subst hn
  simp only [c89_2, dCode, dOpers]
  kernel_rfl
def s89_4 (k4 : AV → AV → AV → AV → AV → Heap → CR) : K0 := fun T H => k4 (getS 0 T) (getS 1 T) (getS 2 T) (getS 6 T) (getS 7 T) H
def t89_6 (k0 : AV → AV → AV → AV → Heap → CR) (k4 : AV → AV → AV → AV → AV → Heap → CR) : K0 := fun T H => j89_6 ev L k0 k4 (getS 0 T) (getS 1 T) (getS 2 T) (getS 6 T) (getS 7 T) H
theorem p89_6 (k0 : AV → AV → AV → AV → Heap → CR) (k4 : AV → AV → AV → AV → AV → Heap → CR) (ex : Nat → K0) (n : K0) (hn : n = s89_4 k4) : dCode noG ev (finR noG c89r) L c89_6 ex n = t89_6 ev L k0 k4 := by
  subst hn
  simp only [c89_6, dCode, dOpers]
  kernel_rfl
def t89_5 (k0 : AV → AV → AV → AV → Heap → CR) (k4 : AV → AV → AV → AV → AV → Heap → CR) : K0 := fun T H => j89_5 ev L k0 k4 (getS 0 T) (getS 1 T) (getS 2 T) (getS 6 T) (getS 7 T) H
theorem p89_5 (k0 : AV → AV → AV → AV → Heap → CR) (k4 : AV → AV → AV → AV → AV → Heap → CR) (ex : Nat → K0) (n : K0) (hn : n = s89_4 k4) : dCode noG ev (finR noG c89r) L c89_5 ex n = t89_5 ev L k0 k4 := by
  subst hn
  simp only [c89_5, dCode, dOpers, dDrawn, dAgain, isPanic, cond_false]
  rw [p89_6 ev L k0 k4 _ _ rfl]
  kernel_rfl
def t89_9 (k0 : AV → AV → AV → AV → Heap → CR) (k4 : AV → AV → AV → AV → AV → Heap → CR) : K0 := fun T H => j89_9 ev L k0 k4 (getS 0 T) (getS 1 T) (getS 2 T) (getS 6 T) (getS 7 T) (getS 30 T) H
theorem p89_9 (k0 : AV → AV → AV → AV → Heap → CR) (k4 : AV → AV → AV → AV → AV → Heap → CR) (ex : Nat → K0) (n : K0) (hn : n = t89_5 ev L k0 k4) (hx2 : ex 2 = t89_2 ev L k0) : dCode noG ev (finR noG c89r) L c89_9 ex n = t89_9 ev L k0 k4 := by
  subst hn
  simp only [c89_9, dCode, dOpers]
  try rw [hx2]
  kernel_rfl
def t89_20 (k0 : AV → AV → AV → AV → Heap → CR) (k4 : AV → AV → AV → AV → AV → Heap → CR) : K0 := fun T H => j89_20 ev L k0 k4 (getS 0 T) (getS 1 T) (getS 2 T) (getS 6 T) (getS 7 T) (getS 19 T) (getS 29 T) H
theorem p89_20 (k0 : AV → AV → AV → AV → Heap → CR) (k4 : AV → AV → AV → AV → AV → Heap → CR) (n : K0) (hn : n = t89_9 ev L k0 k4) : dDrawn noG ev o89_10_14 n = t89_20 ev L k0 k4 := by
  subst hn
  simp only [o89_10_14, dDrawn, dAgain, isPanic, cond_false]
  kernel_rfl
def t89_19 (k0 : AV → AV → AV → AV → Heap → CR) (k4 : AV → AV → AV → AV → AV → Heap → CR) : K0 := fun T H => j89_19 ev L k0 k4 (getS 0 T) (getS 1 T) (getS 2 T) (getS 6 T) (getS 7 T) (getS 19 T) (getS 23 T) (getS 28 T) H
theorem p89_19 (k0 : AV → AV → AV → AV → Heap → CR) (k4 : AV → AV → AV → AV → AV → Heap → CR) (n : K0) (hn : n = t89_9 ev L k0 k4) : dDrawn noG ev o89_10_13 n = t89_19 ev L k0 k4 := by
  subst hn
  simp only [o89_10_13, dDrawn, dAgain, isPanic, cond_false]
  rw [p89_20 ev L k0 k4 _ rfl]
  kernel_rfl
def t89_18 (k0 : AV → AV → AV → AV → Heap → CR) (k4 : AV → AV → AV → AV → AV → Heap → CR) : K0 := fun T H => j89_18 ev L k0 k4 (getS 0 T) (getS 1 T) (getS 2 T) (getS 6 T) (getS 7 T) (getS 19 T) (getS 23 T) (getS 27 T) H
theorem p89_18 (k0 : AV → AV → AV → AV → Heap → CR) (k4 : AV → AV → AV → AV → AV → Heap → CR) (n : K0) (hn : n = t89_9 ev L k0 k4) : dDrawn noG ev o89_10_12 n = t89_18 ev L k0 k4 := by
  subst hn
  simp only [o89_10_12, dDrawn, dAgain, isPanic, cond_false]
  rw [p89_19 ev L k0 k4 _ rfl]
  kernel_rfl
def t89_17 (k0 : AV → AV → AV → AV → Heap → CR) (k4 : AV → AV → AV → AV → AV → Heap → CR) : K0 := fun T H => j89_17 ev L k0 k4 (getS 0 T) (getS 1 T) (getS 2 T) (getS 6 T) (getS 7 T) (getS 19 T) (getS 23 T) (getS 24 T) (getS 26 T) H
theorem p89_17 (k0 : AV → AV → AV → AV → Heap → CR) (k4 : AV → AV → AV → AV → AV → Heap → CR) (n : K0) (hn : n = t89_9 ev L k0 k4) : dDrawn noG ev o89_10_11 n = t89_17 ev L k0 k4 := by
  subst hn
  simp only [o89_10_11, dDrawn, dAgain, isPanic, cond_false]
  rw [p89_18 ev L k0 k4 _ rfl]
  kernel_rfl
def t89_16 (k0 : AV → AV → AV → AV → Heap → CR) (k4 : AV → AV → AV → AV → AV → Heap → CR) : K0 := fun T H => j89_16 ev L k0 k4 (getS 0 T) (getS 1 T) (getS 2 T) (getS 6 T) (getS 7 T) (getS 19 T) (getS 23 T) (getS 24 T) (getS 25 T) H
theorem p89_16 (k0 : AV → AV → AV → AV → Heap → CR) (k4 : AV → AV → AV → AV → AV → Heap → CR) (n : K0) (hn : n = t89_9 ev L k0 k4) : dDrawn noG ev o89_10_10 n = t89_16 ev L k0 k4 := by
  subst hn
  simp only [o89_10_10, dDrawn, dAgain, isPanic, cond_false]
  rw [p89_17 ev L k0 k4 _ rfl]
  kernel_rfl
def t89_15 (k0 : AV → AV → AV → AV → Heap → CR) (k4 : AV → AV → AV → AV → AV → Heap → CR) : K0 := fun T H => j89_15 ev L k0 k4 (getS 0 T) (getS 1 T) (getS 2 T) (getS 6 T) (getS 7 T) (getS 19 T) (getS 23 T) (getS 24 T) H
theorem p89_15 (k0 : AV → AV → AV → AV → Heap → CR) (k4 : AV → AV → AV → AV → AV → Heap → CR) (n : K0) (hn : n = t89_9 ev L k0 k4) : dDrawn noG ev o89_10_9 n = t89_15 ev L k0 k4 := by
  subst hn
  simp only [o89_10_9, dDrawn, dAgain, isPanic, cond_false]
  rw [p89_16 ev L k0 k4 _ rfl]
  kernel_rfl
def t89_14 (k0 : AV → AV → AV → AV → Heap → CR) (k4 : AV → AV → AV → AV → AV → Heap → CR) : K0 := fun T H => j89_14 ev L k0 k4 (getS 0 T) (getS 1 T) (getS 2 T) (getS 6 T) (getS 7 T) (getS 19 T) (getS 23 T) H
theorem p89_14 (k0 : AV → AV → AV → AV → Heap → CR) (k4 : AV → AV → AV → AV → AV → Heap → CR) (n : K0) (hn : n = t89_9 ev L k0 k4) : dDrawn noG ev o89_10_8 n = t89_14 ev L k0 k4 := by
  subst hn
  simp only [o89_10_8, dDrawn, dAgain, isPanic, cond_false]
  rw [p89_15 ev L k0 k4 _ rfl]
  kernel_rfl
def t89_13 (k0 : AV → AV → AV → AV → Heap → CR) (k4 : AV → AV → AV → AV → AV → Heap → CR) : K0 := fun T H => j89_13 ev L k0 k4 (getS 0 T) (getS 1 T) (getS 2 T) (getS 6 T) (getS 7 T) (getS 19 T) (getS 22 T) H
theorem p89_13 (k0 : AV → AV → AV → AV → Heap → CR) (k4 : AV → AV → AV → AV → AV → Heap → CR) (n : K0) (hn : n = t89_9 ev L k0 k4) : dDrawn noG ev o89_10_7 n = t89_13 ev L k0 k4 := by
  subst hn
  simp only [o89_10_7, dDrawn, dAgain, isPanic, cond_false]
  rw [p89_14 ev L k0 k4 _ rfl]
  kernel_rfl
def t89_12 (k0 : AV → AV → AV → AV → Heap → CR) (k4 : AV → AV → AV → AV → AV → Heap → CR) : K0 := fun T H => j89_12 ev L k0 k4 (getS 0 T) (getS 1 T) (getS 2 T) (getS 6 T) (getS 7 T) (getS 19 T) (getS 20 T) (getS 21 T) H
theorem p89_12 (k0 : AV → AV → AV → AV → Heap → CR) (k4 : AV → AV → AV → AV → AV → Heap → CR) (n : K0) (hn : n = t89_9 ev L k0 k4) : dDrawn noG ev o89_10_6 n = t89_12 ev L k0 k4 := by
  subst hn
  simp only [o89_10_6, dDrawn, dAgain, isPanic, cond_false]
  rw [p89_13 ev L k0 k4 _ rfl]
  kernel_rfl
def t89_11 (k0 : AV → AV → AV → AV → Heap → CR) (k4 : AV → AV → AV → AV → AV → Heap → CR) : K0 := fun T H => j89_11 ev L k0 k4 (getS 0 T) (getS 1 T) (getS 2 T) (getS 6 T) (getS 7 T) (getS 19 T) (getS 20 T) H
theorem p89_11 (k0 : AV → AV → AV → AV → Heap → CR) (k4 : AV → AV → AV → AV → AV → Heap → CR) (n : K0) (hn : n = t89_9 ev L k0 k4) : dDrawn noG ev o89_10_5 n = t89_11 ev L k0 k4 := by
  subst hn
  simp only [o89_10_5, dDrawn, dAgain, isPanic, cond_false]
  rw [p89_12 ev L k0 k4 _ rfl]
  kernel_rfl
theorem b89_4 (k0 : AV → AV → AV → AV → Heap → CR) (k4 : AV → AV → AV → AV → AV → Heap → CR) (ex : Nat → K0) (n : K0) (hn : n = s89_4 k4) (hx2 : ex 2 = t89_2 ev L k0) : dCode noG ev (finR noG c89r) L c89_4 ex n = fun T H => j89_4 ev L k0 k4 (getS 0 T) (getS 1 T) (getS 2 T) (getS 6 T) (getS 7 T) H := by
  subst hn
  simp only [c89_4, dCode, dOpers, dDrawn, dAgain, isPanic, cond_false]
  rw [p89_5 ev L k0 k4 _ _ rfl]
  rw [p89_9 ev L k0 k4 _ _ rfl (by first | rfl | exact hx2)]
  rw [p89_11 ev L k0 k4 _ rfl]
  try rw [hx2]
  kernel_rfl
theorem p89_4 (k0 : AV → AV → AV → AV → Heap → CR) (ex : Nat → K0) (hx2 : ex 2 = t89_2 ev L k0) : ∀ m, pLoop (fun n => dCode noG ev (finR noG c89r) L c89_4 ex n) m = s89_4 (l89_4 ev L k0 m) := by
  intro m
  induction m with
  | zero => kernel_rfl
  | succ m ih =>
    show dCode noG ev (finR noG c89r) L c89_4 ex (pLoop (fun n => dCode noG ev (finR noG c89r) L c89_4 ex n) m) = _
    rw [ih, b89_4 ev L k0 (l89_4 ev L k0 m) ex _ rfl hx2]
    kernel_rfl
def t89_1 (k0 : AV → AV → AV → AV → Heap → CR) : K0 := fun T H => j89_1 ev L k0 (getS 0 T) (getS 1 T) (getS 2 T) (getS 6 T) H
theorem p89_1 (k0 : AV → AV → AV → AV → Heap → CR) (ex : Nat → K0) (n : K0) (hn : n = s89_0 k0) : dCode noG ev (finR noG c89r) L c89_1 ex n = t89_1 ev L k0 := by
  subst hn
  simp only [c89_1, dCode, dOpers, dDrawn, dAgain, isPanic, cond_false]
  rw [p89_2 ev L k0 _ _ rfl]
  rw [p89_4 ev L k0 _ (by first | rfl | exact hx2)]
  kernel_rfl
theorem b89_0 (k0 : AV → AV → AV → AV → Heap → CR) (ex : Nat → K0) (n : K0) (hn : n = s89_0 k0) (hx0 : ex 0 = finR noG c89r) : dCode noG ev (finR noG c89r) L c89_0 ex n = fun T H => j89_0 ev L k0 (getS 0 T) (getS 1 T) (getS 2 T) (getS 6 T) H := by
  subst hn
  simp only [c89_0, dCode, dOpers, dDrawn, dAgain, isPanic, cond_false]
  rw [p89_1 ev L k0 _ _ rfl]
  try rw [hx0]
  kernel_rfl
theorem p89_0 (ex : Nat → K0) (hx0 : ex 0 = finR noG c89r) : ∀ m, pLoop (fun n => dCode noG ev (finR noG c89r) L c89_0 ex n) m = s89_0 (l89_0 ev L m) := by
  intro m
  induction m with
  | zero => kernel_rfl
  | succ m ih =>
    show dCode noG ev (finR noG c89r) L c89_0 ex (pLoop (fun n => dCode noG ev (finR noG c89r) L c89_0 ex n) m) = _
    rw [ih, b89_0 ev L (l89_0 ev L m) ex _ rfl hx0]
    kernel_rfl
theorem e89 (args : List AV) (H : Heap) : Lq (q89 ev L args H) (dRun noG c89 ev L args H) := by
  unfold q89
  split
  · refine .inr ?_
    rename_i t0 t1 t2
    show _ = ob (argsTm [t0, t1, t2]) fun T => dCode noG ev (finR noG c89r) L c89b (fun _ => pFail) (finR noG c89r) T H
    simp only [c89b, dCode, dOpers, dDrawn, dAgain, isPanic, cond_false]
    rw [p89_0 ev L _ (by first | rfl | exact hx0)]
    kernel_rfl
  · exact .inl rfl
def t95_0 : K0 := fun T H => j95_0 ev L (getS 4 T) H
theorem p95_0 (ex : Nat → K0) (n : K0) (hn : n = finR noG c95r) : dCode noG ev (finR noG c95r) L c95_0 ex n = t95_0 ev L := by
  subst hn
  simp only [c95_0, dCode, dOpers]
  kernel_rfl
def t95_7 : K0 := fun T H => j95_7 ev L (getS 12 T) (getS 15 T) H
theorem p95_7 (n : K0) (hn : n = t95_0 ev L) : dOpers noG ev o95_1_11 n = t95_7 ev L := by
  subst hn
  simp only [o95_1_11, dOpers]
  kernel_rfl
def t95_6 : K0 := fun T H => j95_6 ev L (getS 12 T) (getS 13 T) (getS 14 T) H
theorem p95_6 (n : K0) (hn : n = t95_0 ev L) : dOpers noG ev o95_1_10 n = t95_6 ev L := by
  subst hn
  simp only [o95_1_10, dOpers]
  rw [p95_7 ev L _ rfl]
  kernel_rfl
def t95_5 : K0 := fun T H => j95_5 ev L (getS 1 T) (getS 12 T) (getS 13 T) H
theorem p95_5 (n : K0) (hn : n = t95_0 ev L) : dOpers noG ev o95_1_9 n = t95_5 ev L := by
  subst hn
  simp only [o95_1_9, dOpers]
  rw [p95_6 ev L _ rfl]
  kernel_rfl
def t95_4 : K0 := fun T H => j95_4 ev L (getS 0 T) (getS 1 T) (getS 7 T) (getS 10 T) H
theorem p95_4 (n : K0) (hn : n = t95_0 ev L) : dOpers noG ev o95_1_6 n = t95_4 ev L := by
  subst hn
  simp only [o95_1_6, dOpers]
  rw [p95_5 ev L _ rfl]
  kernel_rfl
def t95_3 : K0 := fun T H => j95_3 ev L (getS 0 T) (getS 1 T) (getS 7 T) (getS 9 T) H
theorem p95_3 (n : K0) (hn : n = t95_0 ev L) : dOpers noG ev o95_1_5 n = t95_3 ev L := by
  subst hn
  simp only [o95_1_5, dOpers]
  rw [p95_4 ev L _ rfl]
  kernel_rfl
def t95_2 : K0 := fun T H => j95_2 ev L (getS 0 T) (getS 1 T) (getS 7 T) (getS 8 T) H
theorem p95_2 (n : K0) (hn : n = t95_0 ev L) : dOpers noG ev o95_1_4 n = t95_2 ev L := by
  subst hn
  simp only [o95_1_4, dOpers]
  rw [p95_3 ev L _ rfl]
  kernel_rfl
theorem e95 (args : List AV) (H : Heap) : Lq (q95 ev L args H) (dRun noG c95 ev L args H) := by
  unfold q95
  split
  · refine .inr ?_
    rename_i t0 t1
    show _ = ob (argsTm [t0, t1]) fun T => dCode noG ev (finR noG c95r) L c95b (fun _ => pFail) (finR noG c95r) T H
    simp only [c95b, dCode, dOpers]
    rw [p95_0 ev L _ _ rfl]
    rw [p95_2 ev L _ rfl]
    kernel_rfl
  · exact .inl rfl
def t99_2 : K0 := fun T H => j99_2 ev L (getS 0 T) (getS 2 T) H
theorem p99_2 (ex : Nat → K0) (n : K0) (hn : n = finR noG c99r) : dCode noG ev (finR noG c99r) L c99_2 ex n = t99_2 ev L := by
  subst hn
  simp only [c99_2, dCode, dOpers]
  kernel_rfl
def t99_1 : K0 := fun T H => j99_1 ev L (getS 0 T) (getS 2 T) H
theorem p99_1 (ex : Nat → K0) (n : K0) (hn : n = finR noG c99r) : dCode noG ev (finR noG c99r) L c99_1 ex n = t99_1 ev L := by
  subst hn
  simp only [c99_1, dCode, dOpers]
  rw [p99_2 ev L _ _ rfl]
  kernel_rfl
def t99_0 : K0 := fun T H => j99_0 ev L (getS 0 T) (getS 2 T) H
theorem p99_0 (ex : Nat → K0) (n : K0) (hn : n = finR noG c99r) : dCode noG ev (finR noG c99r) L c99_0 ex n = t99_0 ev L := by
  subst hn
  simp only [c99_0, dCode, dOpers]
  rw [p99_1 ev L _ _ rfl]
  kernel_rfl
theorem e99 (args : List AV) (H : Heap) : Lq (q99 ev L args H) (dRun noG c99 ev L args H) := by
  unfold q99
  split
  · refine .inr ?_
    rename_i t0
    show _ = ob (argsTm [t0]) fun T => dCode noG ev (finR noG c99r) L c99b (fun _ => pFail) (finR noG c99r) T H
    simp only [c99b, dCode, dOpers]
    rw [p99_0 ev L _ _ rfl]
    kernel_rfl
  · exact .inl rfl
def t100_0 : K0 := fun T H => j100_0 ev L (getS 0 T) H
theorem p100_0 (ex : Nat → K0) (n : K0) (hn : n = finR noG c100r) : dCode noG ev (finR noG c100r) L c100_0 ex n = t100_0 ev L := by
  subst hn
  simp only [c100_0, dCode, dOpers]
  kernel_rfl
theorem e100 (args : List AV) (H : Heap) : Lq (q100 ev L args H) (dRun noG c100 ev L args H) := by
  unfold q100
  split
  · refine .inr ?_
    rename_i t0
    show _ = ob (argsTm [t0]) fun T => dCode noG ev (finR noG c100r) L c100b (fun _ => pFail) (finR noG c100r) T H
    simp only [c100b, dCode, dOpers]
    rw [p100_0 ev L _ _ rfl]
    kernel_rfl
  · exact .inl rfl
def t101_0 : K0 := fun T H => j101_0 ev L (getS 3 T) H
theorem p101_0 (ex : Nat → K0) (n : K0) (hn : n = finR noG c101r) : dCode noG ev (finR noG c101r) L c101_0 ex n = t101_0 ev L := by
  subst hn
  simp only [c101_0, dCode, dOpers]
  kernel_rfl
theorem e101 (args : List AV) (H : Heap) : Lq (q101 ev L args H) (dRun noG c101 ev L args H) := by
  unfold q101
  split
  · refine .inr ?_
    rename_i t0
    show _ = ob (argsTm [t0]) fun T => dCode noG ev (finR noG c101r) L c101b (fun _ => pFail) (finR noG c101r) T H
    simp only [c101b, dCode, dOpers]
    rw [p101_0 ev L _ _ rfl]
    kernel_rfl
  · exact .inl rfl
theorem e102 (args : List AV) (H : Heap) : Lq (q102 ev L args H) (dRun noG c102 ev L args H) := by
  unfold q102
  split
  · refine .inr ?_
    rename_i t0 t1
    show _ = ob (argsTm [t0, t1]) fun T => dCode noG ev (finR noG c102r) L c102b (fun _ => pFail) (finR noG c102r) T H
    simp only [c102b, dCode, dOpers]
    kernel_rfl
  · exact .inl rfl
theorem e103 (args : List AV) (H : Heap) : Lq (q103 ev L args H) (dRun noG c103 ev L args H) := by
  unfold q103
  split
  · refine .inr ?_
    rename_i t0 t1
    show _ = ob (argsTm [t0, t1]) fun T => dCode noG ev (finR noG c103r) L c103b (fun _ => pFail) (finR noG c103r) T H
    simp only [c103b, dCode, dOpers]
    kernel_rfl
  · exact .inl rfl
def t104_3 : K0 := fun T H => j104_3 ev L H
theorem p104_3 (ex : Nat → K0) (n : K0) (hn : n = finR noG c104r) : dCode noG ev (finR noG c104r) L c104_3 ex n = t104_3 ev L := by
  subst hn
  simp only [c104_3, dCode, dOpers]
  kernel_rfl
def t104_2 : K0 := fun T H => j104_2 ev L (getS 0 T) (getS 1 T) H
theorem p104_2 (ex : Nat → K0) (n : K0) (hn : n = finR noG c104r) : dCode noG ev (finR noG c104r) L c104_2 ex n = t104_2 ev L := by
  subst hn
  simp only [c104_2, dCode, dOpers]
  rw [p104_3 ev L _ _ rfl]
  kernel_rfl
def t104_1 : K0 := fun T H => j104_1 ev L (getS 0 T) (getS 1 T) H
theorem p104_1 (ex : Nat → K0) (n : K0) (hn : n = finR noG c104r) : dCode noG ev (finR noG c104r) L c104_1 ex n = t104_1 ev L := by
  subst hn
  simp only [c104_1, dCode, dOpers]
  rw [p104_2 ev L _ _ rfl]
  kernel_rfl
def t104_0 : K0 := fun T H => j104_0 ev L (getS 0 T) (getS 1 T) (getS 6 T) H
theorem p104_0 (ex : Nat → K0) (n : K0) (hn : n = finR noG c104r) : dCode noG ev (finR noG c104r) L c104_0 ex n = t104_0 ev L := by
  subst hn
  simp only [c104_0, dCode, dOpers]
  rw [p104_1 ev L _ _ rfl]
  kernel_rfl
def t104_4 : K0 := fun T H => j104_4 ev L H
theorem p104_4 (ex : Nat → K0) (n : K0) (hn : n = t104_0 ev L) : dCode noG ev (finR noG c104r) L c104_4 ex n = t104_4 ev L := by
  subst hn
  simp only [c104_4, dCode, dOpers]
  kernel_rfl
theorem e104 (args : List AV) (H : Heap) : Lq (q104 ev L args H) (dRun noG c104 ev L args H) := by
  unfold q104
  split
  · refine .inr ?_
    rename_i t0 t1
    show _ = ob (argsTm [t0, t1]) fun T => dCode noG ev (finR noG c104r) L c104b (fun _ => pFail) (finR noG c104r) T H
    simp only [c104b, dCode, dOpers]
    rw [p104_0 ev L _ _ rfl]
    rw [p104_4 ev L _ _ rfl]
    kernel_rfl
  · exact .inl rfl
def t105_0 : K0 := fun T H => j105_0 ev L (getS 0 T) H
theorem p105_0 (ex : Nat → K0) (n : K0) (hn : n = finR noG c105r) : dCode noG ev (finR noG c105r) L c105_0 ex n = t105_0 ev L := by
  subst hn
  simp only [c105_0, dCode, dOpers]
  kernel_rfl
theorem e105 (args : List AV) (H : Heap) : Lq (q105 ev L args H) (dRun noG c105 ev L args H) := by
  unfold q105
  split
  · refine .inr ?_
    rename_i t0
    show _ = ob (argsTm [t0]) fun T => dCode noG ev (finR noG c105r) L c105b (fun _ => pFail) (finR noG c105r) T H
    simp only [c105b, dCode, dOpers]
    rw [p105_0 ev L _ _ rfl]
    kernel_rfl
  · exact .inl rfl
def t106_0 : K0 := fun T H => j106_0 ev L (getS 0 T) (getS 1 T) (getS 2 T) H
theorem p106_0 (ex : Nat → K0) (n : K0) (hn : n = finR noG c106r) : dCode noG ev (finR noG c106r) L c106_0 ex n = t106_0 ev L := by
  subst hn
  simp only [c106_0, dCode, dOpers]
  kernel_rfl
def t106_1 : K0 := fun T H => j106_1 ev L (getS 0 T) (getS 1 T) H
theorem p106_1 (ex : Nat → K0) (n : K0) (hn : n = t106_0 ev L) : dCode noG ev (finR noG c106r) L c106_1 ex n = t106_1 ev L := by
  subst hn
  simp only [c106_1, dCode, dOpers]
  kernel_rfl
theorem e106 (args : List AV) (H : Heap) : Lq (q106 ev L args H) (dRun noG c106 ev L args H) := by
  unfold q106
  split
  · refine .inr ?_
    rename_i t0 t1 t2
    show _ = ob (argsTm [t0, t1, t2]) fun T => dCode noG ev (finR noG c106r) L c106b (fun _ => pFail) (finR noG c106r) T H
    simp only [c106b, dCode, dOpers]
    rw [p106_0 ev L _ _ rfl]
    rw [p106_1 ev L _ _ rfl]
    kernel_rfl
  · exact .inl rfl
def t107_0 : K0 := fun T H => j107_0 ev L H
theorem p107_0 (ex : Nat → K0) (n : K0) (hn : n = finR noG c107r) : dCode noG ev (finR noG c107r) L c107_0 ex n = t107_0 ev L := by
  subst hn
  simp only [c107_0, dCode, dOpers]
  kernel_rfl
def s107_1 (k1 : AV → AV → AV → AV → Heap → CR) : K0 := fun T H => k1 (getS 0 T) (getS 1 T) (getS 7 T) (getS 8 T) H
def t107_3 (k1 : AV → AV → AV → AV → Heap → CR) : K0 := fun T H => j107_3 ev L k1 (getS 0 T) (getS 1 T) (getS 7 T) (getS 8 T) H
theorem p107_3 (k1 : AV → AV → AV → AV → Heap → CR) (ex : Nat → K0) (n : K0) (hn : n = s107_1 k1) : dCode noG ev (finR noG c107r) L c107_3 ex n = t107_3 ev L k1 := by
  subst hn
  simp only [c107_3, dCode, dOpers]
  kernel_rfl
def t107_2 (k1 : AV → AV → AV → AV → Heap → CR) : K0 := fun T H => j107_2 ev L k1 (getS 0 T) (getS 1 T) (getS 7 T) (getS 8 T) H
theorem p107_2 (k1 : AV → AV → AV → AV → Heap → CR) (ex : Nat → K0) (n : K0) (hn : n = s107_1 k1) : dCode noG ev (finR noG c107r) L c107_2 ex n = t107_2 ev L k1 := by
  subst hn
  simp only [c107_2, dCode, dOpers]
  rw [p107_3 ev L k1 _ _ rfl]
  kernel_rfl
theorem b107_1 (k1 : AV → AV → AV → AV → Heap → CR) (ex : Nat → K0) (n : K0) (hn : n = s107_1 k1) (hx0 : ex 0 = t107_0 ev L) : dCode noG ev (finR noG c107r) L c107_1 ex n = fun T H => j107_1 ev L k1 (getS 0 T) (getS 1 T) (getS 7 T) (getS 8 T) H := by
  subst hn
  simp only [c107_1, dCode, dOpers]
  rw [p107_2 ev L k1 _ _ rfl]
  try rw [hx0]
  kernel_rfl
theorem p107_1 (ex : Nat → K0) (hx0 : ex 0 = t107_0 ev L) : ∀ m, pLoop (fun n => dCode noG ev (finR noG c107r) L c107_1 ex n) m = s107_1 (l107_1 ev L m) := by
  intro m
  induction m with
  | zero => kernel_rfl
  | succ m ih =>
    show dCode noG ev (finR noG c107r) L c107_1 ex (pLoop (fun n => dCode noG ev (finR noG c107r) L c107_1 ex n) m) = _
    rw [ih, b107_1 ev L (l107_1 ev L m) ex _ rfl hx0]
    kernel_rfl
theorem e107 (args : List AV) (H : Heap) : Lq (q107 ev L args H) (dRun noG c107 ev L args H) := by
  unfold q107
  split
  · refine .inr ?_
    rename_i t0 t1
    show _ = ob (argsTm [t0, t1]) fun T => dCode noG ev (finR noG c107r) L c107b (fun _ => pFail) (finR noG c107r) T H
    simp only [c107b, dCode, dOpers]
    rw [p107_0 ev L _ _ rfl]
    rw [p107_1 ev L _ (by first | rfl | exact hx0)]
    kernel_rfl
  · exact .inl rfl
def t109_1 : K0 := fun T H => j109_1 ev L (getS 0 T) (getS 1 T) H
theorem p109_1 (ex : Nat → K0) (n : K0) (hn : n = finR noG c109r) : dCode noG ev (finR noG c109r) L c109_1 ex n = t109_1 ev L := by
  subst hn
  simp only [c109_1, dCode, dOpers]
  kernel_rfl
def t109_2 : K0 := fun T H => j109_2 ev L (getS 0 T) (getS 1 T) (getS 39 T) H
theorem p109_2 (ex : Nat → K0) (n : K0) (hn : n = t109_1 ev L) : dCode noG ev (finR noG c109r) L c109_2 ex n = t109_2 ev L := by
  subst hn
  simp only [c109_2, dCode, dOpers]
  kernel_rfl
def t109_20 : K0 := fun T H => j109_20 ev L (getS 0 T) (getS 1 T) (getS 25 T) (getS 38 T) H
theorem p109_20 (n : K0) (hn : n = t109_2 ev L) : dOpers noG ev o109_4_22 n = t109_20 ev L := by
  subst hn
  simp only [o109_4_22, dOpers]
  kernel_rfl
def t109_19 : K0 := fun T H => j109_19 ev L (getS 0 T) (getS 1 T) (getS 25 T) (getS 29 T) (getS 37 T) H
theorem p109_19 (n : K0) (hn : n = t109_2 ev L) : dOpers noG ev o109_4_21 n = t109_19 ev L := by
  subst hn
  simp only [o109_4_21, dOpers]
  rw [p109_20 ev L _ rfl]
  kernel_rfl
def t109_18 : K0 := fun T H => j109_18 ev L (getS 0 T) (getS 1 T) (getS 25 T) (getS 29 T) (getS 33 T) (getS 36 T) H
theorem p109_18 (n : K0) (hn : n = t109_2 ev L) : dOpers noG ev o109_4_20 n = t109_18 ev L := by
  subst hn
  simp only [o109_4_20, dOpers]
  rw [p109_19 ev L _ rfl]
  kernel_rfl
def t109_17 : K0 := fun T H => j109_17 ev L (getS 0 T) (getS 1 T) (getS 25 T) (getS 29 T) (getS 33 T) (getS 34 T) (getS 35 T) H
theorem p109_17 (n : K0) (hn : n = t109_2 ev L) : dOpers noG ev o109_4_19 n = t109_17 ev L := by
  subst hn
  simp only [o109_4_19, dOpers]
  rw [p109_18 ev L _ rfl]
  kernel_rfl
def t109_16 : K0 := fun T H => j109_16 ev L (getS 0 T) (getS 1 T) (getS 6 T) (getS 25 T) (getS 29 T) (getS 33 T) (getS 34 T) H
theorem p109_16 (n : K0) (hn : n = t109_2 ev L) : dOpers noG ev o109_4_18 n = t109_16 ev L := by
  subst hn
  simp only [o109_4_18, dOpers]
  rw [p109_17 ev L _ rfl]
  kernel_rfl
def t109_15 : K0 := fun T H => j109_15 ev L (getS 0 T) (getS 1 T) (getS 6 T) (getS 25 T) (getS 29 T) (getS 33 T) H
theorem p109_15 (n : K0) (hn : n = t109_2 ev L) : dOpers noG ev o109_4_17 n = t109_15 ev L := by
  subst hn
  simp only [o109_4_17, dOpers]
  rw [p109_16 ev L _ rfl]
  kernel_rfl
def t109_14 : K0 := fun T H => j109_14 ev L (getS 0 T) (getS 1 T) (getS 6 T) (getS 25 T) (getS 29 T) (getS 32 T) H
theorem p109_14 (n : K0) (hn : n = t109_2 ev L) : dOpers noG ev o109_4_16 n = t109_14 ev L := by
  subst hn
  simp only [o109_4_16, dOpers]
  rw [p109_15 ev L _ rfl]
  kernel_rfl
def t109_13 : K0 := fun T H => j109_13 ev L (getS 0 T) (getS 1 T) (getS 6 T) (getS 25 T) (getS 29 T) (getS 30 T) (getS 31 T) H
theorem p109_13 (n : K0) (hn : n = t109_2 ev L) : dOpers noG ev o109_4_15 n = t109_13 ev L := by
  subst hn
  simp only [o109_4_15, dOpers]
  rw [p109_14 ev L _ rfl]
  kernel_rfl
def t109_12 : K0 := fun T H => j109_12 ev L (getS 0 T) (getS 1 T) (getS 5 T) (getS 6 T) (getS 25 T) (getS 29 T) (getS 30 T) H
theorem p109_12 (n : K0) (hn : n = t109_2 ev L) : dOpers noG ev o109_4_14 n = t109_12 ev L := by
  subst hn
  simp only [o109_4_14, dOpers]
  rw [p109_13 ev L _ rfl]
  kernel_rfl
def t109_11 : K0 := fun T H => j109_11 ev L (getS 0 T) (getS 1 T) (getS 5 T) (getS 6 T) (getS 25 T) (getS 29 T) H
theorem p109_11 (n : K0) (hn : n = t109_2 ev L) : dOpers noG ev o109_4_13 n = t109_11 ev L := by
  subst hn
  simp only [o109_4_13, dOpers]
  rw [p109_12 ev L _ rfl]
  kernel_rfl
def t109_10 : K0 := fun T H => j109_10 ev L (getS 0 T) (getS 1 T) (getS 5 T) (getS 6 T) (getS 25 T) (getS 28 T) H
theorem p109_10 (n : K0) (hn : n = t109_2 ev L) : dOpers noG ev o109_4_12 n = t109_10 ev L := by
  subst hn
  simp only [o109_4_12, dOpers]
  rw [p109_11 ev L _ rfl]
  kernel_rfl
def t109_9 : K0 := fun T H => j109_9 ev L (getS 0 T) (getS 1 T) (getS 5 T) (getS 6 T) (getS 25 T) (getS 27 T) H
theorem p109_9 (n : K0) (hn : n = t109_2 ev L) : dOpers noG ev o109_4_11 n = t109_9 ev L := by
  subst hn
  simp only [o109_4_11, dOpers]
  rw [p109_10 ev L _ rfl]
  kernel_rfl
def t109_8 : K0 := fun T H => j109_8 ev L (getS 0 T) (getS 1 T) (getS 5 T) (getS 6 T) (getS 25 T) (getS 26 T) H
theorem p109_8 (n : K0) (hn : n = t109_2 ev L) : dOpers noG ev o109_4_10 n = t109_8 ev L := by
  subst hn
  simp only [o109_4_10, dOpers]
  rw [p109_9 ev L _ rfl]
  kernel_rfl
def t109_7 : K0 := fun T H => j109_7 ev L (getS 0 T) (getS 1 T) (getS 5 T) (getS 6 T) (getS 20 T) (getS 23 T) H
theorem p109_7 (n : K0) (hn : n = t109_2 ev L) : dOpers noG ev o109_4_7 n = t109_7 ev L := by
  subst hn
  simp only [o109_4_7, dOpers]
  rw [p109_8 ev L _ rfl]
  kernel_rfl
def t109_6 : K0 := fun T H => j109_6 ev L (getS 0 T) (getS 1 T) (getS 5 T) (getS 6 T) (getS 20 T) (getS 22 T) H
theorem p109_6 (n : K0) (hn : n = t109_2 ev L) : dOpers noG ev o109_4_6 n = t109_6 ev L := by
  subst hn
  simp only [o109_4_6, dOpers]
  rw [p109_7 ev L _ rfl]
  kernel_rfl
def t109_5 : K0 := fun T H => j109_5 ev L (getS 0 T) (getS 1 T) (getS 5 T) (getS 6 T) (getS 20 T) (getS 21 T) H
theorem p109_5 (n : K0) (hn : n = t109_2 ev L) : dOpers noG ev o109_4_5 n = t109_5 ev L := by
  subst hn
  simp only [o109_4_5, dOpers]
  rw [p109_6 ev L _ rfl]
  kernel_rfl
def t109_0 : K0 := fun T H => j109_0 ev L (getS 0 T) (getS 1 T) (getS 5 T) (getS 6 T) H
theorem p109_0 (ex : Nat → K0) (n : K0) (hn : n = finR noG c109r) : dCode noG ev (finR noG c109r) L c109_0 ex n = t109_0 ev L := by
  subst hn
  simp only [c109_0, dCode, dOpers]
  rw [p109_1 ev L _ _ rfl]
  rw [p109_2 ev L _ _ rfl]
  rw [p109_5 ev L _ rfl]
  kernel_rfl
theorem e109 (args : List AV) (H : Heap) : Lq (q109 ev L args H) (dRun noG c109 ev L args H) := by
  unfold q109
  split
  · refine .inr ?_
    rename_i t0 t1
    show _ = ob (argsTm [t0, t1]) fun T => dCode noG ev (finR noG c109r) L c109b (fun _ => pFail) (finR noG c109r) T H
    simp only [c109b, dCode, dOpers]
    rw [p109_0 ev L _ _ rfl]
    kernel_rfl
  · exact .inl rfl
def t110_0 : K0 := fun T H => j110_0 ev L H
theorem p110_0 (ex : Nat → K0) (n : K0) (hn : n = finR noG c110r) : dCode noG ev (finR noG c110r) L c110_0 ex n = t110_0 ev L := by
  subst hn
  simp only [c110_0, dCode, dOpers]
  kernel_rfl
def t110_3 : K0 := fun T H => j110_3 ev L (getS 20 T) H
theorem p110_3 (ex : Nat → K0) (n : K0) (hn : n = t110_0 ev L) : dCode noG ev (finR noG c110r) L c110_3 ex n = t110_3 ev L := by
  subst hn
  simp only [c110_3, dCode, dOpers]
  kernel_rfl
def t110_6 : K0 := fun T H => j110_6 ev L (getS 23 T) (getS 25 T) H
theorem p110_6 (n : K0) (hn : n = t110_3 ev L) : dOpers noG ev o110_4_5 n = t110_6 ev L := by
  subst hn
  simp only [o110_4_5, dOpers]
  kernel_rfl
def t110_5 : K0 := fun T H => j110_5 ev L (getS 23 T) (getS 24 T) H
theorem p110_5 (n : K0) (hn : n = t110_3 ev L) : dOpers noG ev o110_4_4 n = t110_5 ev L := by
  subst hn
  simp only [o110_4_4, dOpers]
  rw [p110_6 ev L _ rfl]
  kernel_rfl
def t110_2 : K0 := fun T H => j110_2 ev L (getS 0 T) (getS 13 T) H
theorem p110_2 (ex : Nat → K0) (n : K0) (hn : n = t110_0 ev L) : dCode noG ev (finR noG c110r) L c110_2 ex n = t110_2 ev L := by
  subst hn
  simp only [c110_2, dCode, dOpers]
  rw [p110_3 ev L _ _ rfl]
  rw [p110_5 ev L _ rfl]
  kernel_rfl
def t110_9 : K0 := fun T H => j110_9 ev L (getS 0 T) (getS 16 T) (getS 18 T) H
theorem p110_9 (n : K0) (hn : n = t110_2 ev L) : dOpers noG ev o110_7_5 n = t110_9 ev L := by
  subst hn
  simp only [o110_7_5, dOpers]
  kernel_rfl
def t110_8 : K0 := fun T H => j110_8 ev L (getS 0 T) (getS 16 T) (getS 17 T) H
theorem p110_8 (n : K0) (hn : n = t110_2 ev L) : dOpers noG ev o110_7_4 n = t110_8 ev L := by
  subst hn
  simp only [o110_7_4, dOpers]
  rw [p110_9 ev L _ rfl]
  kernel_rfl
def t110_1 : K0 := fun T H => j110_1 ev L (getS 0 T) (getS 6 T) H
theorem p110_1 (ex : Nat → K0) (n : K0) (hn : n = t110_0 ev L) : dCode noG ev (finR noG c110r) L c110_1 ex n = t110_1 ev L := by
  subst hn
  simp only [c110_1, dCode, dOpers]
  rw [p110_2 ev L _ _ rfl]
  rw [p110_8 ev L _ rfl]
  kernel_rfl
def t110_12 : K0 := fun T H => j110_12 ev L (getS 0 T) (getS 9 T) (getS 11 T) H
theorem p110_12 (n : K0) (hn : n = t110_1 ev L) : dOpers noG ev o110_10_5 n = t110_12 ev L := by
  subst hn
  simp only [o110_10_5, dOpers]
  kernel_rfl
def t110_11 : K0 := fun T H => j110_11 ev L (getS 0 T) (getS 9 T) (getS 10 T) H
theorem p110_11 (n : K0) (hn : n = t110_1 ev L) : dOpers noG ev o110_10_4 n = t110_11 ev L := by
  subst hn
  simp only [o110_10_4, dOpers]
  rw [p110_12 ev L _ rfl]
  kernel_rfl
theorem e110 (args : List AV) (H : Heap) : Lq (q110 ev L args H) (dRun noG c110 ev L args H) := by
  unfold q110
  split
  · refine .inr ?_
    rename_i t0
    show _ = ob (argsTm [t0]) fun T => dCode noG ev (finR noG c110r) L c110b (fun _ => pFail) (finR noG c110r) T H
    simp only [c110b, dCode, dOpers]
    rw [p110_0 ev L _ _ rfl]
    rw [p110_1 ev L _ _ rfl]
    rw [p110_11 ev L _ rfl]
    kernel_rfl
  · exact .inl rfl
theorem e112 (args : List AV) (H : Heap) : Lq (q112 ev L args H) (dRun noG c112 ev L args H) := by
  unfold q112
  split
  · refine .inr ?_
    rename_i t0 t1
    show _ = ob (argsTm [t0, t1]) fun T => dCode noG ev (finR noG c112r) L c112b (fun _ => pFail) (finR noG c112r) T H
    simp only [c112b, dCode, dOpers]
    kernel_rfl
  · exact .inl rfl
theorem e118 (args : List AV) (H : Heap) : Lq (q118 ev L args H) (dRun noG c118 ev L args H) := by
  unfold q118
  split
  · refine .inr ?_
    rename_i t0
    show _ = ob (argsTm [t0]) fun T => dCode noG ev (finR noG c118r) L c118b (fun _ => pFail) (finR noG c118r) T H
    simp only [c118b, dCode, dOpers]
    kernel_rfl
  · exact .inl rfl
def s119_0 (k0 : AV → AV → AV → AV → AV → AV → AV → Heap → CR) : K0 := fun T H => k0 (getS 0 T) (getS 1 T) (getS 2 T) (getS 3 T) (getS 4 T) (getS 10 T) (getS 11 T) H
def t119_6 (k0 : AV → AV → AV → AV → AV → AV → AV → Heap → CR) : K0 := fun T H => j119_6 ev L k0 (getS 0 T) (getS 1 T) (getS 2 T) (getS 3 T) (getS 4 T) (getS 12 T) (getS 13 T) H
theorem p119_6 (k0 : AV → AV → AV → AV → AV → AV → AV → Heap → CR) (ex : Nat → K0) (n : K0) (hn : n = s119_0 k0) : dCode noG ev (finR noG c119r) L c119_6 ex n = t119_6 ev L k0 := by
  subst hn
  simp only [c119_6, dCode, dOpers]
  kernel_rfl
def t119_9 (k0 : AV → AV → AV → AV → AV → AV → AV → Heap → CR) : K0 := fun T H => j119_9 ev L k0 (getS 0 T) (getS 1 T) (getS 2 T) (getS 3 T) (getS 4 T) (getS 10 T) (getS 11 T) (getS 12 T) (getS 13 T) (getS 97 T) H
theorem p119_9 (k0 : AV → AV → AV → AV → AV → AV → AV → Heap → CR) (ex : Nat → K0) (n : K0) (hn : n = t119_6 ev L k0) (hx1 : ex 1 = s119_0 k0) : dCode noG ev (finR noG c119r) L c119_9 ex n = t119_9 ev L k0 := by
  subst hn
  simp only [c119_9, dCode, dOpers]
  try rw [hx1]
  kernel_rfl
def t119_23 (k0 : AV → AV → AV → AV → AV → AV → AV → Heap → CR) : K0 := fun T H => j119_23 ev L k0 (getS 0 T) (getS 1 T) (getS 2 T) (getS 3 T) (getS 4 T) (getS 10 T) (getS 11 T) (getS 12 T) (getS 13 T) (getS 83 T) (getS 96 T) H
theorem p119_23 (k0 : AV → AV → AV → AV → AV → AV → AV → Heap → CR) (n : K0) (hn : n = t119_9 ev L k0) : dDrawn noG ev o119_10_16 n = t119_23 ev L k0 := by
  subst hn
  simp only [o119_10_16, dDrawn, dAgain, isPanic, cond_false]
  kernel_rfl
def t119_22 (k0 : AV → AV → AV → AV → AV → AV → AV → Heap → CR) : K0 := fun T H => j119_22 ev L k0 (getS 0 T) (getS 1 T) (getS 2 T) (getS 3 T) (getS 4 T) (getS 10 T) (getS 11 T) (getS 12 T) (getS 13 T) (getS 83 T) (getS 95 T) H
theorem p119_22 (k0 : AV → AV → AV → AV → AV → AV → AV → Heap → CR) (n : K0) (hn : n = t119_9 ev L k0) : dDrawn noG ev o119_10_15 n = t119_22 ev L k0 := by
  subst hn
  simp only [o119_10_15, dDrawn, dAgain, isPanic, cond_false]
  rw [p119_23 ev L k0 _ rfl]
  kernel_rfl
def t119_21 (k0 : AV → AV → AV → AV → AV → AV → AV → Heap → CR) : K0 := fun T H => j119_21 ev L k0 (getS 0 T) (getS 1 T) (getS 2 T) (getS 3 T) (getS 4 T) (getS 10 T) (getS 11 T) (getS 12 T) (getS 13 T) (getS 83 T) (getS 94 T) H
theorem p119_21 (k0 : AV → AV → AV → AV → AV → AV → AV → Heap → CR) (n : K0) (hn : n = t119_9 ev L k0) : dDrawn noG ev o119_10_14 n = t119_21 ev L k0 := by
  subst hn
  simp only [o119_10_14, dDrawn, dAgain, isPanic, cond_false]
  rw [p119_22 ev L k0 _ rfl]
  kernel_rfl
def t119_20 (k0 : AV → AV → AV → AV → AV → AV → AV → Heap → CR) : K0 := fun T H => j119_20 ev L k0 (getS 0 T) (getS 1 T) (getS 2 T) (getS 3 T) (getS 4 T) (getS 10 T) (getS 11 T) (getS 12 T) (getS 13 T) (getS 83 T) (getS 84 T) (getS 89 T) (getS 93 T) H
theorem p119_20 (k0 : AV → AV → AV → AV → AV → AV → AV → Heap → CR) (n : K0) (hn : n = t119_9 ev L k0) : dDrawn noG ev o119_10_13 n = t119_20 ev L k0 := by
  subst hn
  simp only [o119_10_13, dDrawn, dAgain, isPanic, cond_false]
  rw [p119_21 ev L k0 _ rfl]
  kernel_rfl
def t119_19 (k0 : AV → AV → AV → AV → AV → AV → AV → Heap → CR) : K0 := fun T H => j119_19 ev L k0 (getS 0 T) (getS 1 T) (getS 2 T) (getS 3 T) (getS 4 T) (getS 10 T) (getS 11 T) (getS 12 T) (getS 13 T) (getS 83 T) (getS 84 T) (getS 89 T) (getS 92 T) H
theorem p119_19 (k0 : AV → AV → AV → AV → AV → AV → AV → Heap → CR) (n : K0) (hn : n = t119_9 ev L k0) : dDrawn noG ev o119_10_12 n = t119_19 ev L k0 := by
  subst hn
  simp only [o119_10_12, dDrawn, dAgain, isPanic, cond_false]
  rw [p119_20 ev L k0 _ rfl]
  kernel_rfl
def t119_18 (k0 : AV → AV → AV → AV → AV → AV → AV → Heap → CR) : K0 := fun T H => j119_18 ev L k0 (getS 0 T) (getS 1 T) (getS 2 T) (getS 3 T) (getS 4 T) (getS 10 T) (getS 11 T) (getS 12 T) (getS 13 T) (getS 83 T) (getS 84 T) (getS 89 T) (getS 90 T) (getS 91 T) H
theorem p119_18 (k0 : AV → AV → AV → AV → AV → AV → AV → Heap → CR) (n : K0) (hn : n = t119_9 ev L k0) : dDrawn noG ev o119_10_11 n = t119_18 ev L k0 := by
  subst hn
  simp only [o119_10_11, dDrawn, dAgain, isPanic, cond_false]
  rw [p119_19 ev L k0 _ rfl]
  kernel_rfl
def t119_17 (k0 : AV → AV → AV → AV → AV → AV → AV → Heap → CR) : K0 := fun T H => j119_17 ev L k0 (getS 0 T) (getS 1 T) (getS 2 T) (getS 3 T) (getS 4 T) (getS 10 T) (getS 11 T) (getS 12 T) (getS 13 T) (getS 83 T) (getS 84 T) (getS 89 T) (getS 90 T) H
theorem p119_17 (k0 : AV → AV → AV → AV → AV → AV → AV → Heap → CR) (n : K0) (hn : n = t119_9 ev L k0) : dDrawn noG ev o119_10_10 n = t119_17 ev L k0 := by
  subst hn
  simp only [o119_10_10, dDrawn, dAgain, isPanic, cond_false]
  rw [p119_18 ev L k0 _ rfl]
  kernel_rfl
def t119_16 (k0 : AV → AV → AV → AV → AV → AV → AV → Heap → CR) : K0 := fun T H => j119_16 ev L k0 (getS 0 T) (getS 1 T) (getS 2 T) (getS 3 T) (getS 4 T) (getS 10 T) (getS 11 T) (getS 12 T) (getS 13 T) (getS 83 T) (getS 84 T) (getS 89 T) H
theorem p119_16 (k0 : AV → AV → AV → AV → AV → AV → AV → Heap → CR) (n : K0) (hn : n = t119_9 ev L k0) : dDrawn noG ev o119_10_9 n = t119_16 ev L k0 := by
  subst hn
  simp only [o119_10_9, dDrawn, dAgain, isPanic, cond_false]
  rw [p119_17 ev L k0 _ rfl]
  kernel_rfl
def t119_15 (k0 : AV → AV → AV → AV → AV → AV → AV → Heap → CR) : K0 := fun T H => j119_15 ev L k0 (getS 0 T) (getS 1 T) (getS 2 T) (getS 3 T) (getS 4 T) (getS 10 T) (getS 11 T) (getS 12 T) (getS 13 T) (getS 83 T) (getS 84 T) (getS 88 T) H
theorem p119_15 (k0 : AV → AV → AV → AV → AV → AV → AV → Heap → CR) (n : K0) (hn : n = t119_9 ev L k0) : dDrawn noG ev o119_10_8 n = t119_15 ev L k0 := by
  subst hn
  simp only [o119_10_8, dDrawn, dAgain, isPanic, cond_false]
  rw [p119_16 ev L k0 _ rfl]
  kernel_rfl
def t119_14 (k0 : AV → AV → AV → AV → AV → AV → AV → Heap → CR) : K0 := fun T H => j119_14 ev L k0 (getS 0 T) (getS 1 T) (getS 2 T) (getS 3 T) (getS 4 T) (getS 10 T) (getS 11 T) (getS 12 T) (getS 13 T) (getS 83 T) (getS 84 T) (getS 85 T) (getS 87 T) H
theorem p119_14 (k0 : AV → AV → AV → AV → AV → AV → AV → Heap → CR) (n : K0) (hn : n = t119_9 ev L k0) : dDrawn noG ev o119_10_7 n = t119_14 ev L k0 := by
  subst hn
  simp only [o119_10_7, dDrawn, dAgain, isPanic, cond_false]
  rw [p119_15 ev L k0 _ rfl]
  kernel_rfl
def t119_13 (k0 : AV → AV → AV → AV → AV → AV → AV → Heap → CR) : K0 := fun T H => j119_13 ev L k0 (getS 0 T) (getS 1 T) (getS 2 T) (getS 3 T) (getS 4 T) (getS 10 T) (getS 11 T) (getS 12 T) (getS 13 T) (getS 83 T) (getS 84 T) (getS 85 T) (getS 86 T) H
theorem p119_13 (k0 : AV → AV → AV → AV → AV → AV → AV → Heap → CR) (n : K0) (hn : n = t119_9 ev L k0) : dDrawn noG ev o119_10_6 n = t119_13 ev L k0 := by
  subst hn
  simp only [o119_10_6, dDrawn, dAgain, isPanic, cond_false]
  rw [p119_14 ev L k0 _ rfl]
  kernel_rfl
def t119_12 (k0 : AV → AV → AV → AV → AV → AV → AV → Heap → CR) : K0 := fun T H => j119_12 ev L k0 (getS 0 T) (getS 1 T) (getS 2 T) (getS 3 T) (getS 4 T) (getS 10 T) (getS 11 T) (getS 12 T) (getS 13 T) (getS 83 T) (getS 84 T) (getS 85 T) H
theorem p119_12 (k0 : AV → AV → AV → AV → AV → AV → AV → Heap → CR) (n : K0) (hn : n = t119_9 ev L k0) : dDrawn noG ev o119_10_5 n = t119_12 ev L k0 := by
  subst hn
  simp only [o119_10_5, dDrawn, dAgain, isPanic, cond_false]
  rw [p119_13 ev L k0 _ rfl]
  kernel_rfl
def t119_11 (k0 : AV → AV → AV → AV → AV → AV → AV → Heap → CR) : K0 := fun T H => j119_11 ev L k0 (getS 0 T) (getS 1 T) (getS 2 T) (getS 3 T) (getS 4 T) (getS 10 T) (getS 11 T) (getS 12 T) (getS 13 T) (getS 83 T) (getS 84 T) H
theorem p119_11 (k0 : AV → AV → AV → AV → AV → AV → AV → Heap → CR) (n : K0) (hn : n = t119_9 ev L k0) : dDrawn noG ev o119_10_4 n = t119_11 ev L k0 := by
  subst hn
  simp only [o119_10_4, dDrawn, dAgain, isPanic, cond_false]
  rw [p119_12 ev L k0 _ rfl]
  kernel_rfl
def t119_5 (k0 : AV → AV → AV → AV → AV → AV → AV → Heap → CR) : K0 := fun T H => j119_5 ev L k0 (getS 0 T) (getS 1 T) (getS 2 T) (getS 3 T) (getS 4 T) (getS 10 T) (getS 11 T) (getS 12 T) (getS 13 T) H
theorem p119_5 (k0 : AV → AV → AV → AV → AV → AV → AV → Heap → CR) (ex : Nat → K0) (n : K0) (hn : n = s119_0 k0) (hx1 : ex 1 = s119_0 k0) : dCode noG ev (finR noG c119r) L c119_5 ex n = t119_5 ev L k0 := by
  subst hn
  simp only [c119_5, dCode, dOpers, dDrawn, dAgain, isPanic, cond_false]
  rw [p119_6 ev L k0 _ _ rfl]
  rw [p119_9 ev L k0 _ _ rfl (by first | rfl | exact hx1)]
  rw [p119_11 ev L k0 _ rfl]
  try rw [hx1]
  kernel_rfl
def t119_24 (k0 : AV → AV → AV → AV → AV → AV → AV → Heap → CR) : K0 := fun T H => j119_24 ev L k0 (getS 0 T) (getS 1 T) (getS 2 T) (getS 3 T) (getS 4 T) (getS 10 T) (getS 11 T) (getS 12 T) (getS 13 T) (getS 75 T) H
theorem p119_24 (k0 : AV → AV → AV → AV → AV → AV → AV → Heap → CR) (ex : Nat → K0) (n : K0) (hn : n = t119_5 ev L k0) : dCode noG ev (finR noG c119r) L c119_24 ex n = t119_24 ev L k0 := by
  subst hn
  simp only [c119_24, dCode, dOpers]
  kernel_rfl
def t119_28 (k0 : AV → AV → AV → AV → AV → AV → AV → Heap → CR) : K0 := fun T H => j119_28 ev L k0 (getS 0 T) (getS 1 T) (getS 2 T) (getS 3 T) (getS 4 T) (getS 10 T) (getS 11 T) (getS 12 T) (getS 13 T) (getS 72 T) (getS 74 T) H
theorem p119_28 (k0 : AV → AV → AV → AV → AV → AV → AV → Heap → CR) (n : K0) (hn : n = t119_24 ev L k0) : dOpers noG ev o119_25_7 n = t119_28 ev L k0 := by
  subst hn
  simp only [o119_25_7, dOpers]
  kernel_rfl
def t119_27 (k0 : AV → AV → AV → AV → AV → AV → AV → Heap → CR) : K0 := fun T H => j119_27 ev L k0 (getS 0 T) (getS 1 T) (getS 2 T) (getS 3 T) (getS 4 T) (getS 10 T) (getS 11 T) (getS 12 T) (getS 13 T) (getS 72 T) (getS 73 T) H
theorem p119_27 (k0 : AV → AV → AV → AV → AV → AV → AV → Heap → CR) (n : K0) (hn : n = t119_24 ev L k0) : dOpers noG ev o119_25_6 n = t119_27 ev L k0 := by
  subst hn
  simp only [o119_25_6, dOpers]
  rw [p119_28 ev L k0 _ rfl]
  kernel_rfl
def t119_26 (k0 : AV → AV → AV → AV → AV → AV → AV → Heap → CR) : K0 := fun T H => j119_26 ev L k0 (getS 0 T) (getS 1 T) (getS 2 T) (getS 3 T) (getS 4 T) (getS 10 T) (getS 11 T) (getS 12 T) (getS 13 T) (getS 14 T) (getS 69 T) (getS 70 T) H
theorem p119_26 (k0 : AV → AV → AV → AV → AV → AV → AV → Heap → CR) (n : K0) (hn : n = t119_24 ev L k0) : dOpers noG ev o119_25_3 n = t119_26 ev L k0 := by
  subst hn
  simp only [o119_25_3, dOpers]
  rw [p119_27 ev L k0 _ rfl]
  kernel_rfl
def t119_4 (k0 : AV → AV → AV → AV → AV → AV → AV → Heap → CR) : K0 := fun T H => j119_4 ev L k0 (getS 0 T) (getS 1 T) (getS 2 T) (getS 3 T) (getS 4 T) (getS 10 T) (getS 11 T) (getS 12 T) (getS 13 T) (getS 14 T) H
theorem p119_4 (k0 : AV → AV → AV → AV → AV → AV → AV → Heap → CR) (ex : Nat → K0) (n : K0) (hn : n = s119_0 k0) (hx1 : ex 1 = s119_0 k0) : dCode noG ev (finR noG c119r) L c119_4 ex n = t119_4 ev L k0 := by
  subst hn
  simp only [c119_4, dCode, dOpers, dDrawn, dAgain, isPanic, cond_false]
  rw [p119_5 ev L k0 _ _ rfl (by first | rfl | exact hx1)]
  rw [p119_24 ev L k0 _ _ rfl]
  rw [p119_26 ev L k0 _ rfl]
  try rw [hx1]
  kernel_rfl
def t119_3 (k0 : AV → AV → AV → AV → AV → AV → AV → Heap → CR) : K0 := fun T H => j119_3 ev L k0 (getS 0 T) (getS 1 T) (getS 2 T) (getS 3 T) (getS 4 T) (getS 10 T) (getS 11 T) (getS 12 T) H
theorem p119_3 (k0 : AV → AV → AV → AV → AV → AV → AV → Heap → CR) (ex : Nat → K0) (n : K0) (hn : n = s119_0 k0) (hx1 : ex 1 = s119_0 k0) : dCode noG ev (finR noG c119r) L c119_3 ex n = t119_3 ev L k0 := by
  subst hn
  simp only [c119_3, dCode, dOpers, dDrawn, dAgain, isPanic, cond_false]
  rw [p119_4 ev L k0 _ _ rfl (by first | rfl | exact hx1)]
  try rw [hx1]
  kernel_rfl
def t119_2 (k0 : AV → AV → AV → AV → AV → AV → AV → Heap → CR) : K0 := fun T H => j119_2 ev L k0 (getS 0 T) (getS 1 T) (getS 2 T) (getS 3 T) (getS 4 T) (getS 10 T) (getS 11 T) (getS 12 T) H
theorem p119_2 (k0 : AV → AV → AV → AV → AV → AV → AV → Heap → CR) (ex : Nat → K0) (n : K0) (hn : n = s119_0 k0) (hx1 : ex 1 = s119_0 k0) : dCode noG ev (finR noG c119r) L c119_2 ex n = t119_2 ev L k0 := by
  subst hn
  simp only [c119_2, dCode, dOpers, dDrawn, dAgain, isPanic, cond_false]
  rw [p119_3 ev L k0 _ _ rfl (by first | rfl | exact hx1)]
  try rw [hx1]
  kernel_rfl
def t119_1 (k0 : AV → AV → AV → AV → AV → AV → AV → Heap → CR) : K0 := fun T H => j119_1 ev L k0 (getS 0 T) (getS 1 T) (getS 2 T) (getS 3 T) (getS 4 T) (getS 10 T) (getS 11 T) (getS 12 T) H
theorem p119_1 (k0 : AV → AV → AV → AV → AV → AV → AV → Heap → CR) (ex : Nat → K0) (n : K0) (hn : n = s119_0 k0) (hx1 : ex 1 = s119_0 k0) : dCode noG ev (finR noG c119r) L c119_1 ex n = t119_1 ev L k0 := by
  subst hn
  simp only [c119_1, dCode, dOpers, dDrawn, dAgain, isPanic, cond_false]
  rw [p119_2 ev L k0 _ _ rfl (by first | rfl | exact hx1)]
  try rw [hx1]
  kernel_rfl
theorem b119_0 (k0 : AV → AV → AV → AV → AV → AV → AV → Heap → CR) (ex : Nat → K0) (n : K0) (hn : n = s119_0 k0) : dCode noG ev (finR noG c119r) L c119_0 ex n = fun T H => j119_0 ev L k0 (getS 0 T) (getS 1 T) (getS 2 T) (getS 3 T) (getS 4 T) (getS 10 T) (getS 11 T) H := by
  subst hn
  simp only [c119_0, dCode, dOpers, dDrawn, dAgain, isPanic, cond_false]
  rw [p119_1 ev L k0 _ _ rfl (by first | rfl | exact hx1)]
  kernel_rfl
theorem p119_0 (ex : Nat → K0) : ∀ m, pLoop (fun n => dCode noG ev (finR noG c119r) L c119_0 ex n) m = s119_0 (l119_0 ev L m) := by
  intro m
  induction m with
  | zero => kernel_rfl
  | succ m ih =>
    show dCode noG ev (finR noG c119r) L c119_0 ex (pLoop (fun n => dCode noG ev (finR noG c119r) L c119_0 ex n) m) = _
    rw [ih, b119_0 ev L (l119_0 ev L m) ex _ rfl]
    kernel_rfl
theorem e119 (args : List AV) (H : Heap) : Lq (q119 ev L args H) (dRun noG c119 ev L args H) := by
  unfold q119
  split
  · refine .inr ?_
    rename_i t0 t1 t2 t3 t4
    show _ = ob (argsTm [t0, t1, t2, t3, t4]) fun T => dCode noG ev (finR noG c119r) L c119b (fun _ => pFail) (finR noG c119r) T H
    simp only [c119b, dCode, dOpers, dDrawn, dAgain, isPanic, cond_false]
    rw [p119_0 ev L _]
    kernel_rfl
  · exact .inl rfl
def t120_0 : K0 := fun T H => j120_0 ev L (getS 0 T) H
theorem p120_0 (ex : Nat → K0) (n : K0) (hn : n = finR noG c120r) : dCode noG ev (finR noG c120r) L c120_0 ex n = t120_0 ev L := by
  subst hn
  simp only [c120_0, dCode, dOpers]
  kernel_rfl
theorem e120 (args : List AV) (H : Heap) : Lq (q120 ev L args H) (dRun noG c120 ev L args H) := by
  unfold q120
  split
  · refine .inr ?_
    rename_i t0
    show _ = ob (argsTm [t0]) fun T => dCode noG ev (finR noG c120r) L c120b (fun _ => pFail) (finR noG c120r) T H
    simp only [c120b, dCode, dOpers]
    rw [p120_0 ev L _ _ rfl]
    kernel_rfl
  · exact .inl rfl
def t125_0 : K0 := fun T H => j125_0 ev L (getS 0 T) H
theorem p125_0 (ex : Nat → K0) (n : K0) (hn : n = finR noG c125r) : dCode noG ev (finR noG c125r) L c125_0 ex n = t125_0 ev L := by
  subst hn
  simp only [c125_0, dCode, dOpers]
  kernel_rfl
theorem e125 (args : List AV) (H : Heap) : Lq (q125 ev L args H) (dRun noG c125 ev L args H) := by
  unfold q125
  split
  · refine .inr ?_
    rename_i t0
    show _ = ob (argsTm [t0]) fun T => dCode noG ev (finR noG c125r) L c125b (fun _ => pFail) (finR noG c125r) T H
    simp only [c125b, dCode, dOpers]
    rw [p125_0 ev L _ _ rfl]
    kernel_rfl
  · exact .inl rfl
def s127_0 (k0 : AV → AV → AV → AV → AV → Heap → CR) : K0 := fun T H => k0 (getS 0 T) (getS 1 T) (getS 2 T) (getS 3 T) (getS 8 T) H
def t127_2 (k0 : AV → AV → AV → AV → AV → Heap → CR) : K0 := fun T H => j127_2 ev L k0 (getS 0 T) (getS 1 T) (getS 2 T) (getS 3 T) (getS 8 T) H
theorem p127_2 (k0 : AV → AV → AV → AV → AV → Heap → CR) (ex : Nat → K0) (n : K0) (hn : n = s127_0 k0) : dCode noG ev (finR noG c127r) L c127_2 ex n = t127_2 ev L k0 := by
  subst hn
  simp only [c127_2, dCode, dOpers]
  kernel_rfl
def s127_4 (k4 : AV → AV → AV → AV → AV → AV → Heap → CR) : K0 := fun T H => k4 (getS 0 T) (getS 1 T) (getS 2 T) (getS 3 T) (getS 8 T) (getS 9 T) H
def t127_6 (k0 : AV → AV → AV → AV → AV → Heap → CR) (k4 : AV → AV → AV → AV → AV → AV → Heap → CR) : K0 := fun T H => j127_6 ev L k0 k4 (getS 0 T) (getS 1 T) (getS 2 T) (getS 3 T) (getS 8 T) (getS 9 T) H
theorem p127_6 (k0 : AV → AV → AV → AV → AV → Heap → CR) (k4 : AV → AV → AV → AV → AV → AV → Heap → CR) (ex : Nat → K0) (n : K0) (hn : n = s127_4 k4) : dCode noG ev (finR noG c127r) L c127_6 ex n = t127_6 ev L k0 k4 := by
  subst hn
  simp only [c127_6, dCode, dOpers]
  kernel_rfl
def t127_5 (k0 : AV → AV → AV → AV → AV → Heap → CR) (k4 : AV → AV → AV → AV → AV → AV → Heap → CR) : K0 := fun T H => j127_5 ev L k0 k4 (getS 0 T) (getS 1 T) (getS 2 T) (getS 3 T) (getS 8 T) (getS 9 T) H
theorem p127_5 (k0 : AV → AV → AV → AV → AV → Heap → CR) (k4 : AV → AV → AV → AV → AV → AV → Heap → CR) (ex : Nat → K0) (n : K0) (hn : n = s127_4 k4) : dCode noG ev (finR noG c127r) L c127_5 ex n = t127_5 ev L k0 k4 := by
  subst hn
  simp only [c127_5, dCode, dOpers, dDrawn, dAgain, isPanic, cond_false]
  rw [p127_6 ev L k0 k4 _ _ rfl]
  kernel_rfl
def t127_9 (k0 : AV → AV → AV → AV → AV → Heap → CR) (k4 : AV → AV → AV → AV → AV → AV → Heap → CR) : K0 := fun T H => j127_9 ev L k0 k4 (getS 0 T) (getS 1 T) (getS 2 T) (getS 3 T) (getS 8 T) (getS 9 T) (getS 34 T) H
theorem p127_9 (k0 : AV → AV → AV → AV → AV → Heap → CR) (k4 : AV → AV → AV → AV → AV → AV → Heap → CR) (ex : Nat → K0) (n : K0) (hn : n = t127_5 ev L k0 k4) (hx2 : ex 2 = t127_2 ev L k0) : dCode noG ev (finR noG c127r) L c127_9 ex n = t127_9 ev L k0 k4 := by
  subst hn
  simp only [c127_9, dCode, dOpers]
  try rw [hx2]
  kernel_rfl
def t127_22 (k0 : AV → AV → AV → AV → AV → Heap → CR) (k4 : AV → AV → AV → AV → AV → AV → Heap → CR) : K0 := fun T H => j127_22 ev L k0 k4 (getS 0 T) (getS 1 T) (getS 2 T) (getS 3 T) (getS 8 T) (getS 9 T) (getS 21 T) (getS 33 T) H
theorem p127_22 (k0 : AV → AV → AV → AV → AV → Heap → CR) (k4 : AV → AV → AV → AV → AV → AV → Heap → CR) (n : K0) (hn : n = t127_9 ev L k0 k4) : dDrawn noG ev o127_10_16 n = t127_22 ev L k0 k4 := by
  subst hn
  simp only [o127_10_16, dDrawn, dAgain, isPanic, cond_false]
  kernel_rfl
def t127_21 (k0 : AV → AV → AV → AV → AV → Heap → CR) (k4 : AV → AV → AV → AV → AV → AV → Heap → CR) : K0 := fun T H => j127_21 ev L k0 k4 (getS 0 T) (getS 1 T) (getS 2 T) (getS 3 T) (getS 8 T) (getS 9 T) (getS 21 T) (getS 32 T) H
theorem p127_21 (k0 : AV → AV → AV → AV → AV → Heap → CR) (k4 : AV → AV → AV → AV → AV → AV → Heap → CR) (n : K0) (hn : n = t127_9 ev L k0 k4) : dDrawn noG ev o127_10_15 n = t127_21 ev L k0 k4 := by
  subst hn
  simp only [o127_10_15, dDrawn, dAgain, isPanic, cond_false]
  rw [p127_22 ev L k0 k4 _ rfl]
  kernel_rfl
def t127_20 (k0 : AV → AV → AV → AV → AV → Heap → CR) (k4 : AV → AV → AV → AV → AV → AV → Heap → CR) : K0 := fun T H => j127_20 ev L k0 k4 (getS 0 T) (getS 1 T) (getS 2 T) (getS 3 T) (getS 8 T) (getS 9 T) (getS 21 T) (getS 22 T) (getS 26 T) (getS 31 T) H
theorem p127_20 (k0 : AV → AV → AV → AV → AV → Heap → CR) (k4 : AV → AV → AV → AV → AV → AV → Heap → CR) (n : K0) (hn : n = t127_9 ev L k0 k4) : dDrawn noG ev o127_10_14 n = t127_20 ev L k0 k4 := by
  subst hn
  simp only [o127_10_14, dDrawn, dAgain, isPanic, cond_false]
  rw [p127_21 ev L k0 k4 _ rfl]
  kernel_rfl
def t127_19 (k0 : AV → AV → AV → AV → AV → Heap → CR) (k4 : AV → AV → AV → AV → AV → AV → Heap → CR) : K0 := fun T H => j127_19 ev L k0 k4 (getS 0 T) (getS 1 T) (getS 2 T) (getS 3 T) (getS 8 T) (getS 9 T) (getS 21 T) (getS 22 T) (getS 26 T) (getS 30 T) H
theorem p127_19 (k0 : AV → AV → AV → AV → AV → Heap → CR) (k4 : AV → AV → AV → AV → AV → AV → Heap → CR) (n : K0) (hn : n = t127_9 ev L k0 k4) : dDrawn noG ev o127_10_13 n = t127_19 ev L k0 k4 := by
  subst hn
  simp only [o127_10_13, dDrawn, dAgain, isPanic, cond_false]
  rw [p127_20 ev L k0 k4 _ rfl]
  kernel_rfl
def t127_18 (k0 : AV → AV → AV → AV → AV → Heap → CR) (k4 : AV → AV → AV → AV → AV → AV → Heap → CR) : K0 := fun T H => j127_18 ev L k0 k4 (getS 0 T) (getS 1 T) (getS 2 T) (getS 3 T) (getS 8 T) (getS 9 T) (getS 21 T) (getS 22 T) (getS 26 T) (getS 27 T) (getS 29 T) H
theorem p127_18 (k0 : AV → AV → AV → AV → AV → Heap → CR) (k4 : AV → AV → AV → AV → AV → AV → Heap → CR) (n : K0) (hn : n = t127_9 ev L k0 k4) : dDrawn noG ev o127_10_12 n = t127_18 ev L k0 k4 := by
  subst hn
  simp only [o127_10_12, dDrawn, dAgain, isPanic, cond_false]
  rw [p127_19 ev L k0 k4 _ rfl]
  kernel_rfl
def t127_17 (k0 : AV → AV → AV → AV → AV → Heap → CR) (k4 : AV → AV → AV → AV → AV → AV → Heap → CR) : K0 := fun T H => j127_17 ev L k0 k4 (getS 0 T) (getS 1 T) (getS 2 T) (getS 3 T) (getS 8 T) (getS 9 T) (getS 21 T) (getS 22 T) (getS 26 T) (getS 27 T) (getS 28 T) H
theorem p127_17 (k0 : AV → AV → AV → AV → AV → Heap → CR) (k4 : AV → AV → AV → AV → AV → AV → Heap → CR) (n : K0) (hn : n = t127_9 ev L k0 k4) : dDrawn noG ev o127_10_11 n = t127_17 ev L k0 k4 := by
  subst hn
  simp only [o127_10_11, dDrawn, dAgain, isPanic, cond_false]
  rw [p127_18 ev L k0 k4 _ rfl]
  kernel_rfl
def t127_16 (k0 : AV → AV → AV → AV → AV → Heap → CR) (k4 : AV → AV → AV → AV → AV → AV → Heap → CR) : K0 := fun T H => j127_16 ev L k0 k4 (getS 0 T) (getS 1 T) (getS 2 T) (getS 3 T) (getS 8 T) (getS 9 T) (getS 21 T) (getS 22 T) (getS 26 T) (getS 27 T) H
theorem p127_16 (k0 : AV → AV → AV → AV → AV → Heap → CR) (k4 : AV → AV → AV → AV → AV → AV → Heap → CR) (n : K0) (hn : n = t127_9 ev L k0 k4) : dDrawn noG ev o127_10_10 n = t127_16 ev L k0 k4 := by
  subst hn
  simp only [o127_10_10, dDrawn, dAgain, isPanic, cond_false]
  rw [p127_17 ev L k0 k4 _ rfl]
  kernel_rfl
def t127_15 (k0 : AV → AV → AV → AV → AV → Heap → CR) (k4 : AV → AV → AV → AV → AV → AV → Heap → CR) : K0 := fun T H => j127_15 ev L k0 k4 (getS 0 T) (getS 1 T) (getS 2 T) (getS 3 T) (getS 8 T) (getS 9 T) (getS 21 T) (getS 22 T) (getS 26 T) H
theorem p127_15 (k0 : AV → AV → AV → AV → AV → Heap → CR) (k4 : AV → AV → AV → AV → AV → AV → Heap → CR) (n : K0) (hn : n = t127_9 ev L k0 k4) : dDrawn noG ev o127_10_9 n = t127_15 ev L k0 k4 := by
  subst hn
  simp only [o127_10_9, dDrawn, dAgain, isPanic, cond_false]
  rw [p127_16 ev L k0 k4 _ rfl]
  kernel_rfl
def t127_14 (k0 : AV → AV → AV → AV → AV → Heap → CR) (k4 : AV → AV → AV → AV → AV → AV → Heap → CR) : K0 := fun T H => j127_14 ev L k0 k4 (getS 0 T) (getS 1 T) (getS 2 T) (getS 3 T) (getS 8 T) (getS 9 T) (getS 21 T) (getS 22 T) (getS 25 T) H
theorem p127_14 (k0 : AV → AV → AV → AV → AV → Heap → CR) (k4 : AV → AV → AV → AV → AV → AV → Heap → CR) (n : K0) (hn : n = t127_9 ev L k0 k4) : dDrawn noG ev o127_10_8 n = t127_14 ev L k0 k4 := by
  subst hn
  simp only [o127_10_8, dDrawn, dAgain, isPanic, cond_false]
  rw [p127_15 ev L k0 k4 _ rfl]
  kernel_rfl
def t127_13 (k0 : AV → AV → AV → AV → AV → Heap → CR) (k4 : AV → AV → AV → AV → AV → AV → Heap → CR) : K0 := fun T H => j127_13 ev L k0 k4 (getS 0 T) (getS 1 T) (getS 2 T) (getS 3 T) (getS 8 T) (getS 9 T) (getS 21 T) (getS 22 T) (getS 23 T) (getS 24 T) H
theorem p127_13 (k0 : AV → AV → AV → AV → AV → Heap → CR) (k4 : AV → AV → AV → AV → AV → AV → Heap → CR) (n : K0) (hn : n = t127_9 ev L k0 k4) : dDrawn noG ev o127_10_7 n = t127_13 ev L k0 k4 := by
  subst hn
  simp only [o127_10_7, dDrawn, dAgain, isPanic, cond_false]
  rw [p127_14 ev L k0 k4 _ rfl]
  kernel_rfl
def t127_12 (k0 : AV → AV → AV → AV → AV → Heap → CR) (k4 : AV → AV → AV → AV → AV → AV → Heap → CR) : K0 := fun T H => j127_12 ev L k0 k4 (getS 0 T) (getS 1 T) (getS 2 T) (getS 3 T) (getS 8 T) (getS 9 T) (getS 21 T) (getS 22 T) (getS 23 T) H
theorem p127_12 (k0 : AV → AV → AV → AV → AV → Heap → CR) (k4 : AV → AV → AV → AV → AV → AV → Heap → CR) (n : K0) (hn : n = t127_9 ev L k0 k4) : dDrawn noG ev o127_10_6 n = t127_12 ev L k0 k4 := by
  subst hn
  simp only [o127_10_6, dDrawn, dAgain, isPanic, cond_false]
  rw [p127_13 ev L k0 k4 _ rfl]
  kernel_rfl
def t127_11 (k0 : AV → AV → AV → AV → AV → Heap → CR) (k4 : AV → AV → AV → AV → AV → AV → Heap → CR) : K0 := fun T H => j127_11 ev L k0 k4 (getS 0 T) (getS 1 T) (getS 2 T) (getS 3 T) (getS 8 T) (getS 9 T) (getS 21 T) (getS 22 T) H
theorem p127_11 (k0 : AV → AV → AV → AV → AV → Heap → CR) (k4 : AV → AV → AV → AV → AV → AV → Heap → CR) (n : K0) (hn : n = t127_9 ev L k0 k4) : dDrawn noG ev o127_10_5 n = t127_11 ev L k0 k4 := by
  subst hn
  simp only [o127_10_5, dDrawn, dAgain, isPanic, cond_false]
  rw [p127_12 ev L k0 k4 _ rfl]
  kernel_rfl
theorem b127_4 (k0 : AV → AV → AV → AV → AV → Heap → CR) (k4 : AV → AV → AV → AV → AV → AV → Heap → CR) (ex : Nat → K0) (n : K0) (hn : n = s127_4 k4) (hx2 : ex 2 = t127_2 ev L k0) : dCode noG ev (finR noG c127r) L c127_4 ex n = fun T H => j127_4 ev L k0 k4 (getS 0 T) (getS 1 T) (getS 2 T) (getS 3 T) (getS 8 T) (getS 9 T) H := by
  subst hn
  simp only [c127_4, dCode, dOpers, dDrawn, dAgain, isPanic, cond_false]
  rw [p127_5 ev L k0 k4 _ _ rfl]
  rw [p127_9 ev L k0 k4 _ _ rfl (by first | rfl | exact hx2)]
  rw [p127_11 ev L k0 k4 _ rfl]
  try rw [hx2]
  kernel_rfl
theorem p127_4 (k0 : AV → AV → AV → AV → AV → Heap → CR) (ex : Nat → K0) (hx2 : ex 2 = t127_2 ev L k0) : ∀ m, pLoop (fun n => dCode noG ev (finR noG c127r) L c127_4 ex n) m = s127_4 (l127_4 ev L k0 m) := by
  intro m
  induction m with
  | zero => kernel_rfl
  | succ m ih =>
    show dCode noG ev (finR noG c127r) L c127_4 ex (pLoop (fun n => dCode noG ev (finR noG c127r) L c127_4 ex n) m) = _
    rw [ih, b127_4 ev L k0 (l127_4 ev L k0 m) ex _ rfl hx2]
    kernel_rfl
def t127_1 (k0 : AV → AV → AV → AV → AV → Heap → CR) : K0 := fun T H => j127_1 ev L k0 (getS 0 T) (getS 1 T) (getS 2 T) (getS 3 T) (getS 8 T) H
theorem p127_1 (k0 : AV → AV → AV → AV → AV → Heap → CR) (ex : Nat → K0) (n : K0) (hn : n = s127_0 k0) : dCode noG ev (finR noG c127r) L c127_1 ex n = t127_1 ev L k0 := by
  subst hn
  simp only [c127_1, dCode, dOpers, dDrawn, dAgain, isPanic, cond_false]
  rw [p127_2 ev L k0 _ _ rfl]
  rw [p127_4 ev L k0 _ (by first | rfl | exact hx2)]
  kernel_rfl
theorem b127_0 (k0 : AV → AV → AV → AV → AV → Heap → CR) (ex : Nat → K0) (n : K0) (hn : n = s127_0 k0) (hx0 : ex 0 = finR noG c127r) : dCode noG ev (finR noG c127r) L c127_0 ex n = fun T H => j127_0 ev L k0 (getS 0 T) (getS 1 T) (getS 2 T) (getS 3 T) (getS 8 T) H := by
  subst hn
  simp only [c127_0, dCode, dOpers, dDrawn, dAgain, isPanic, cond_false]
  rw [p127_1 ev L k0 _ _ rfl]
  try rw [hx0]
  kernel_rfl
theorem p127_0 (ex : Nat → K0) (hx0 : ex 0 = finR noG c127r) : ∀ m, pLoop (fun n => dCode noG ev (finR noG c127r) L c127_0 ex n) m = s127_0 (l127_0 ev L m) := by
  intro m
  induction m with
  | zero => kernel_rfl
  | succ m ih =>
    show dCode noG ev (finR noG c127r) L c127_0 ex (pLoop (fun n => dCode noG ev (finR noG c127r) L c127_0 ex n) m) = _
    rw [ih, b127_0 ev L (l127_0 ev L m) ex _ rfl hx0]
    kernel_rfl
theorem e127 (args : List AV) (H : Heap) : Lq (q127 ev L args H) (dRun noG c127 ev L args H) := by
  unfold q127
  split
  · refine .inr ?_
    rename_i t0 t1 t2 t3
    show _ = ob (argsTm [t0, t1, t2, t3]) fun T => dCode noG ev (finR noG c127r) L c127b (fun _ => pFail) (finR noG c127r) T H
    simp only [c127b, dCode, dOpers, dDrawn, dAgain, isPanic, cond_false]
    rw [p127_0 ev L _ (by first | rfl | exact hx0)]
    kernel_rfl
  · exact .inl rfl
end
end Go.AM.Ly
