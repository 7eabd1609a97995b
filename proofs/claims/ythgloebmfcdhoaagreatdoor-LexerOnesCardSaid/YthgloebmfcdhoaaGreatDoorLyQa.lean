import Derived.Test.YthgloebmfcdhoaaGreatDoorLyCa
import Derived.Test.YthgloebmfcdhoaaGreatDoorLyJa
set_option maxRecDepth 100000
set_option linter.unusedVariables false
set_option linter.unusedSimpArgs false
namespace Go.AM.Ly
open Go
noncomputable section
variable (ev : Ev) (L : Nat)
def t3_2 : K0 := fun T H => j3_2 ev L (getS 2 T) H
theorem p3_2 (ex : Nat → K0) (n : K0) (hn : n = finR noG c3r) : dCode noG ev (finR noG c3r) L c3_2 ex n = t3_2 ev L := by
  subst hn
  simp only [c3_2, dCode, dOpers]
  kernel_rfl
def t3_48 : K0 := fun T H => j3_48 ev L (getS 119 T) (getS 124 T) H
theorem p3_48 (n : K0) (hn : n = t3_2 ev L) : dOpers noG ev o3_3_61 n = t3_48 ev L := by
  subst hn
  simp only [o3_3_61, dOpers]
  kernel_rfl
def t3_47 : K0 := fun T H => j3_47 ev L (getS 119 T) (getS 123 T) H
theorem p3_47 (n : K0) (hn : n = t3_2 ev L) : dOpers noG ev o3_3_60 n = t3_47 ev L := by
  subst hn
  simp only [o3_3_60, dOpers]
  rw [p3_48 ev L _ rfl]
  kernel_rfl
def t3_46 : K0 := fun T H => j3_46 ev L (getS 119 T) (getS 122 T) H
theorem p3_46 (n : K0) (hn : n = t3_2 ev L) : dOpers noG ev o3_3_59 n = t3_46 ev L := by
  subst hn
  simp only [o3_3_59, dOpers]
  rw [p3_47 ev L _ rfl]
  kernel_rfl
def t3_45 : K0 := fun T H => j3_45 ev L (getS 119 T) (getS 121 T) H
theorem p3_45 (n : K0) (hn : n = t3_2 ev L) : dOpers noG ev o3_3_58 n = t3_45 ev L := by
  subst hn
  simp only [o3_3_58, dOpers]
  rw [p3_46 ev L _ rfl]
  kernel_rfl
def t3_44 : K0 := fun T H => j3_44 ev L (getS 119 T) (getS 120 T) H
theorem p3_44 (n : K0) (hn : n = t3_2 ev L) : dOpers noG ev o3_3_57 n = t3_44 ev L := by
  subst hn
  simp only [o3_3_57, dOpers]
  rw [p3_45 ev L _ rfl]
  kernel_rfl
def t3_43 : K0 := fun T H => j3_43 ev L (getS 13 T) (getS 109 T) (getS 117 T) H
theorem p3_43 (n : K0) (hn : n = t3_2 ev L) : dOpers noG ev o3_3_54 n = t3_43 ev L := by
  subst hn
  simp only [o3_3_54, dOpers]
  rw [p3_44 ev L _ rfl]
  kernel_rfl
def t3_42 : K0 := fun T H => j3_42 ev L (getS 13 T) (getS 109 T) (getS 112 T) (getS 116 T) H
theorem p3_42 (n : K0) (hn : n = t3_2 ev L) : dOpers noG ev o3_3_53 n = t3_42 ev L := by
  subst hn
  simp only [o3_3_53, dOpers]
  rw [p3_43 ev L _ rfl]
  kernel_rfl
def t3_41 : K0 := fun T H => j3_41 ev L (getS 13 T) (getS 109 T) (getS 112 T) (getS 113 T) (getS 115 T) H
theorem p3_41 (n : K0) (hn : n = t3_2 ev L) : dOpers noG ev o3_3_52 n = t3_41 ev L := by
  subst hn
  simp only [o3_3_52, dOpers]
  rw [p3_42 ev L _ rfl]
  kernel_rfl
def t3_40 : K0 := fun T H => j3_40 ev L (getS 13 T) (getS 109 T) (getS 112 T) (getS 113 T) (getS 114 T) H
theorem p3_40 (n : K0) (hn : n = t3_2 ev L) : dOpers noG ev o3_3_51 n = t3_40 ev L := by
  subst hn
  simp only [o3_3_51, dOpers]
  rw [p3_41 ev L _ rfl]
  kernel_rfl
def t3_39 : K0 := fun T H => j3_39 ev L (getS 3 T) (getS 13 T) (getS 109 T) (getS 112 T) (getS 113 T) H
theorem p3_39 (n : K0) (hn : n = t3_2 ev L) : dOpers noG ev o3_3_50 n = t3_39 ev L := by
  subst hn
  simp only [o3_3_50, dOpers]
  rw [p3_40 ev L _ rfl]
  kernel_rfl
def t3_38 : K0 := fun T H => j3_38 ev L (getS 3 T) (getS 13 T) (getS 109 T) (getS 112 T) H
theorem p3_38 (n : K0) (hn : n = t3_2 ev L) : dOpers noG ev o3_3_49 n = t3_38 ev L := by
  subst hn
  simp only [o3_3_49, dOpers]
  rw [p3_39 ev L _ rfl]
  kernel_rfl
def t3_37 : K0 := fun T H => j3_37 ev L (getS 3 T) (getS 13 T) (getS 109 T) (getS 111 T) H
theorem p3_37 (n : K0) (hn : n = t3_2 ev L) : dOpers noG ev o3_3_48 n = t3_37 ev L := by
  subst hn
  simp only [o3_3_48, dOpers]
  rw [p3_38 ev L _ rfl]
  kernel_rfl
def t3_36 : K0 := fun T H => j3_36 ev L (getS 3 T) (getS 13 T) (getS 109 T) (getS 110 T) H
theorem p3_36 (n : K0) (hn : n = t3_2 ev L) : dOpers noG ev o3_3_47 n = t3_36 ev L := by
  subst hn
  simp only [o3_3_47, dOpers]
  rw [p3_37 ev L _ rfl]
  kernel_rfl
def t3_35 : K0 := fun T H => j3_35 ev L (getS 3 T) (getS 13 T) (getS 104 T) (getS 107 T) H
theorem p3_35 (n : K0) (hn : n = t3_2 ev L) : dOpers noG ev o3_3_44 n = t3_35 ev L := by
  subst hn
  simp only [o3_3_44, dOpers]
  rw [p3_36 ev L _ rfl]
  kernel_rfl
def t3_34 : K0 := fun T H => j3_34 ev L (getS 3 T) (getS 13 T) (getS 104 T) (getS 106 T) H
theorem p3_34 (n : K0) (hn : n = t3_2 ev L) : dOpers noG ev o3_3_43 n = t3_34 ev L := by
  subst hn
  simp only [o3_3_43, dOpers]
  rw [p3_35 ev L _ rfl]
  kernel_rfl
def t3_33 : K0 := fun T H => j3_33 ev L (getS 3 T) (getS 13 T) (getS 104 T) (getS 105 T) H
theorem p3_33 (n : K0) (hn : n = t3_2 ev L) : dOpers noG ev o3_3_42 n = t3_33 ev L := by
  subst hn
  simp only [o3_3_42, dOpers]
  rw [p3_34 ev L _ rfl]
  kernel_rfl
def t3_32 : K0 := fun T H => j3_32 ev L (getS 3 T) (getS 13 T) (getS 94 T) (getS 102 T) H
theorem p3_32 (n : K0) (hn : n = t3_2 ev L) : dOpers noG ev o3_3_39 n = t3_32 ev L := by
  subst hn
  simp only [o3_3_39, dOpers]
  rw [p3_33 ev L _ rfl]
  kernel_rfl
def t3_31 : K0 := fun T H => j3_31 ev L (getS 3 T) (getS 13 T) (getS 94 T) (getS 97 T) (getS 101 T) H
theorem p3_31 (n : K0) (hn : n = t3_2 ev L) : dOpers noG ev o3_3_38 n = t3_31 ev L := by
  subst hn
  simp only [o3_3_38, dOpers]
  rw [p3_32 ev L _ rfl]
  kernel_rfl
def t3_30 : K0 := fun T H => j3_30 ev L (getS 3 T) (getS 13 T) (getS 94 T) (getS 97 T) (getS 98 T) (getS 100 T) H
theorem p3_30 (n : K0) (hn : n = t3_2 ev L) : dOpers noG ev o3_3_37 n = t3_30 ev L := by
  subst hn
  simp only [o3_3_37, dOpers]
  rw [p3_31 ev L _ rfl]
  kernel_rfl
def t3_29 : K0 := fun T H => j3_29 ev L (getS 3 T) (getS 13 T) (getS 94 T) (getS 97 T) (getS 98 T) (getS 99 T) H
theorem p3_29 (n : K0) (hn : n = t3_2 ev L) : dOpers noG ev o3_3_36 n = t3_29 ev L := by
  subst hn
  simp only [o3_3_36, dOpers]
  rw [p3_30 ev L _ rfl]
  kernel_rfl
def t3_28 : K0 := fun T H => j3_28 ev L (getS 3 T) (getS 13 T) (getS 94 T) (getS 97 T) (getS 98 T) H
theorem p3_28 (n : K0) (hn : n = t3_2 ev L) : dOpers noG ev o3_3_35 n = t3_28 ev L := by
  subst hn
  simp only [o3_3_35, dOpers]
  rw [p3_29 ev L _ rfl]
  kernel_rfl
def t3_27 : K0 := fun T H => j3_27 ev L (getS 3 T) (getS 13 T) (getS 94 T) (getS 97 T) H
theorem p3_27 (n : K0) (hn : n = t3_2 ev L) : dOpers noG ev o3_3_34 n = t3_27 ev L := by
  subst hn
  simp only [o3_3_34, dOpers]
  rw [p3_28 ev L _ rfl]
  kernel_rfl
def t3_26 : K0 := fun T H => j3_26 ev L (getS 3 T) (getS 13 T) (getS 94 T) (getS 96 T) H
theorem p3_26 (n : K0) (hn : n = t3_2 ev L) : dOpers noG ev o3_3_33 n = t3_26 ev L := by
  subst hn
  simp only [o3_3_33, dOpers]
  rw [p3_27 ev L _ rfl]
  kernel_rfl
def t3_25 : K0 := fun T H => j3_25 ev L (getS 3 T) (getS 13 T) (getS 94 T) (getS 95 T) H
theorem p3_25 (n : K0) (hn : n = t3_2 ev L) : dOpers noG ev o3_3_32 n = t3_25 ev L := by
  subst hn
  simp only [o3_3_32, dOpers]
  rw [p3_26 ev L _ rfl]
  kernel_rfl
def t3_24 : K0 := fun T H => j3_24 ev L (getS 3 T) (getS 12 T) (getS 13 T) (getS 89 T) (getS 92 T) H
theorem p3_24 (n : K0) (hn : n = t3_2 ev L) : dOpers noG ev o3_3_29 n = t3_24 ev L := by
  subst hn
  simp only [o3_3_29, dOpers]
  rw [p3_25 ev L _ rfl]
  kernel_rfl
def t3_23 : K0 := fun T H => j3_23 ev L (getS 3 T) (getS 12 T) (getS 13 T) (getS 89 T) (getS 91 T) H
theorem p3_23 (n : K0) (hn : n = t3_2 ev L) : dOpers noG ev o3_3_28 n = t3_23 ev L := by
  subst hn
  simp only [o3_3_28, dOpers]
  rw [p3_24 ev L _ rfl]
  kernel_rfl
def t3_22 : K0 := fun T H => j3_22 ev L (getS 3 T) (getS 12 T) (getS 13 T) (getS 89 T) (getS 90 T) H
theorem p3_22 (n : K0) (hn : n = t3_2 ev L) : dOpers noG ev o3_3_27 n = t3_22 ev L := by
  subst hn
  simp only [o3_3_27, dOpers]
  rw [p3_23 ev L _ rfl]
  kernel_rfl
def t3_21 : K0 := fun T H => j3_21 ev L (getS 3 T) (getS 12 T) (getS 13 T) (getS 78 T) (getS 87 T) H
theorem p3_21 (n : K0) (hn : n = t3_2 ev L) : dOpers noG ev o3_3_24 n = t3_21 ev L := by
  subst hn
  simp only [o3_3_24, dOpers]
  rw [p3_22 ev L _ rfl]
  kernel_rfl
def t3_20 : K0 := fun T H => j3_20 ev L (getS 3 T) (getS 12 T) (getS 13 T) (getS 78 T) (getS 84 T) (getS 86 T) H
theorem p3_20 (n : K0) (hn : n = t3_2 ev L) : dOpers noG ev o3_3_23 n = t3_20 ev L := by
  subst hn
  simp only [o3_3_23, dOpers]
  rw [p3_21 ev L _ rfl]
  kernel_rfl
def t3_19 : K0 := fun T H => j3_19 ev L (getS 3 T) (getS 12 T) (getS 13 T) (getS 78 T) (getS 84 T) (getS 85 T) H
theorem p3_19 (n : K0) (hn : n = t3_2 ev L) : dOpers noG ev o3_3_22 n = t3_19 ev L := by
  subst hn
  simp only [o3_3_22, dOpers]
  rw [p3_20 ev L _ rfl]
  kernel_rfl
def t3_18 : K0 := fun T H => j3_18 ev L (getS 3 T) (getS 12 T) (getS 13 T) (getS 78 T) (getS 84 T) H
theorem p3_18 (n : K0) (hn : n = t3_2 ev L) : dOpers noG ev o3_3_21 n = t3_18 ev L := by
  subst hn
  simp only [o3_3_21, dOpers]
  rw [p3_19 ev L _ rfl]
  kernel_rfl
def t3_17 : K0 := fun T H => j3_17 ev L (getS 3 T) (getS 12 T) (getS 13 T) (getS 78 T) (getS 83 T) H
theorem p3_17 (n : K0) (hn : n = t3_2 ev L) : dOpers noG ev o3_3_20 n = t3_17 ev L := by
  subst hn
  simp only [o3_3_20, dOpers]
  rw [p3_18 ev L _ rfl]
  kernel_rfl
def t3_16 : K0 := fun T H => j3_16 ev L (getS 3 T) (getS 12 T) (getS 13 T) (getS 78 T) (getS 82 T) H
theorem p3_16 (n : K0) (hn : n = t3_2 ev L) : dOpers noG ev o3_3_19 n = t3_16 ev L := by
  subst hn
  simp only [o3_3_19, dOpers]
  rw [p3_17 ev L _ rfl]
  kernel_rfl
def t3_15 : K0 := fun T H => j3_15 ev L (getS 3 T) (getS 12 T) (getS 13 T) (getS 78 T) (getS 79 T) (getS 81 T) H
theorem p3_15 (n : K0) (hn : n = t3_2 ev L) : dOpers noG ev o3_3_18 n = t3_15 ev L := by
  subst hn
  simp only [o3_3_18, dOpers]
  rw [p3_16 ev L _ rfl]
  kernel_rfl
def t3_14 : K0 := fun T H => j3_14 ev L (getS 3 T) (getS 12 T) (getS 13 T) (getS 78 T) (getS 79 T) (getS 80 T) H
theorem p3_14 (n : K0) (hn : n = t3_2 ev L) : dOpers noG ev o3_3_17 n = t3_14 ev L := by
  subst hn
  simp only [o3_3_17, dOpers]
  rw [p3_15 ev L _ rfl]
  kernel_rfl
def t3_13 : K0 := fun T H => j3_13 ev L (getS 3 T) (getS 12 T) (getS 13 T) (getS 78 T) (getS 79 T) H
theorem p3_13 (n : K0) (hn : n = t3_2 ev L) : dOpers noG ev o3_3_16 n = t3_13 ev L := by
  subst hn
  simp only [o3_3_16, dOpers]
  rw [p3_14 ev L _ rfl]
  kernel_rfl
def t3_12 : K0 := fun T H => j3_12 ev L (getS 3 T) (getS 11 T) (getS 12 T) (getS 13 T) (getS 71 T) (getS 76 T) H
theorem p3_12 (n : K0) (hn : n = t3_2 ev L) : dOpers noG ev o3_3_13 n = t3_12 ev L := by
  subst hn
  simp only [o3_3_13, dOpers]
  rw [p3_13 ev L _ rfl]
  kernel_rfl
def t3_11 : K0 := fun T H => j3_11 ev L (getS 3 T) (getS 11 T) (getS 12 T) (getS 13 T) (getS 71 T) (getS 75 T) H
theorem p3_11 (n : K0) (hn : n = t3_2 ev L) : dOpers noG ev o3_3_12 n = t3_11 ev L := by
  subst hn
  simp only [o3_3_12, dOpers]
  rw [p3_12 ev L _ rfl]
  kernel_rfl
def t3_10 : K0 := fun T H => j3_10 ev L (getS 3 T) (getS 11 T) (getS 12 T) (getS 13 T) (getS 71 T) (getS 74 T) H
theorem p3_10 (n : K0) (hn : n = t3_2 ev L) : dOpers noG ev o3_3_11 n = t3_10 ev L := by
  subst hn
  simp only [o3_3_11, dOpers]
  rw [p3_11 ev L _ rfl]
  kernel_rfl
def t3_9 : K0 := fun T H => j3_9 ev L (getS 3 T) (getS 11 T) (getS 12 T) (getS 13 T) (getS 71 T) (getS 73 T) H
theorem p3_9 (n : K0) (hn : n = t3_2 ev L) : dOpers noG ev o3_3_10 n = t3_9 ev L := by
  subst hn
  simp only [o3_3_10, dOpers]
  rw [p3_10 ev L _ rfl]
  kernel_rfl
def t3_8 : K0 := fun T H => j3_8 ev L (getS 3 T) (getS 11 T) (getS 12 T) (getS 13 T) (getS 71 T) (getS 72 T) H
theorem p3_8 (n : K0) (hn : n = t3_2 ev L) : dOpers noG ev o3_3_9 n = t3_8 ev L := by
  subst hn
  simp only [o3_3_9, dOpers]
  rw [p3_9 ev L _ rfl]
  kernel_rfl
def t3_7 : K0 := fun T H => j3_7 ev L (getS 3 T) (getS 11 T) (getS 12 T) (getS 13 T) (getS 65 T) (getS 69 T) H
theorem p3_7 (n : K0) (hn : n = t3_2 ev L) : dOpers noG ev o3_3_6 n = t3_7 ev L := by
  subst hn
  simp only [o3_3_6, dOpers]
  rw [p3_8 ev L _ rfl]
  kernel_rfl
def t3_6 : K0 := fun T H => j3_6 ev L (getS 3 T) (getS 11 T) (getS 12 T) (getS 13 T) (getS 65 T) (getS 67 T) (getS 68 T) H
theorem p3_6 (n : K0) (hn : n = t3_2 ev L) : dOpers noG ev o3_3_5 n = t3_6 ev L := by
  subst hn
  simp only [o3_3_5, dOpers]
  rw [p3_7 ev L _ rfl]
  kernel_rfl
def t3_5 : K0 := fun T H => j3_5 ev L (getS 3 T) (getS 11 T) (getS 12 T) (getS 13 T) (getS 65 T) (getS 67 T) H
theorem p3_5 (n : K0) (hn : n = t3_2 ev L) : dOpers noG ev o3_3_4 n = t3_5 ev L := by
  subst hn
  simp only [o3_3_4, dOpers]
  rw [p3_6 ev L _ rfl]
  kernel_rfl
def t3_4 : K0 := fun T H => j3_4 ev L (getS 3 T) (getS 11 T) (getS 12 T) (getS 13 T) (getS 65 T) (getS 66 T) H
theorem p3_4 (n : K0) (hn : n = t3_2 ev L) : dOpers noG ev o3_3_3 n = t3_4 ev L := by
  subst hn
  simp only [o3_3_3, dOpers]
  rw [p3_5 ev L _ rfl]
  kernel_rfl
def t3_1 : K0 := fun T H => j3_1 ev L (getS 3 T) (getS 5 T) (getS 7 T) (getS 9 T) H
theorem p3_1 (ex : Nat → K0) (n : K0) (hn : n = finR noG c3r) : dCode noG ev (finR noG c3r) L c3_1 ex n = t3_1 ev L := by
  subst hn
  simp only [c3_1, dCode, dOpers]
  rw [p3_2 ev L _ _ rfl]
  rw [p3_4 ev L _ rfl]
  kernel_rfl
def s3_49 (k49 : AV → AV → AV → AV → AV → Heap → CR) : K0 := fun T H => k49 (getS 3 T) (getS 5 T) (getS 7 T) (getS 9 T) (getS 10 T) H
def t3_51 (k49 : AV → AV → AV → AV → AV → Heap → CR) : K0 := fun T H => j3_51 ev L k49 (getS 3 T) (getS 5 T) (getS 7 T) (getS 9 T) (getS 10 T) H
theorem p3_51 (k49 : AV → AV → AV → AV → AV → Heap → CR) (ex : Nat → K0) (n : K0) (hn : n = s3_49 k49) : dCode noG ev (finR noG c3r) L c3_51 ex n = t3_51 ev L k49 := by
  subst hn
  simp only [c3_51, dCode, dOpers]
  kernel_rfl
def t3_50 (k49 : AV → AV → AV → AV → AV → Heap → CR) : K0 := fun T H => j3_50 ev L k49 (getS 3 T) (getS 5 T) (getS 7 T) (getS 9 T) (getS 10 T) H
theorem p3_50 (k49 : AV → AV → AV → AV → AV → Heap → CR) (ex : Nat → K0) (n : K0) (hn : n = s3_49 k49) : dCode noG ev (finR noG c3r) L c3_50 ex n = t3_50 ev L k49 := by
  subst hn
  simp only [c3_50, dCode, dOpers]
  rw [p3_51 ev L k49 _ _ rfl]
  kernel_rfl
theorem b3_49 (k49 : AV → AV → AV → AV → AV → Heap → CR) (ex : Nat → K0) (n : K0) (hn : n = s3_49 k49) (hx0 : ex 0 = t3_1 ev L) : dCode noG ev (finR noG c3r) L c3_49 ex n = fun T H => j3_49 ev L k49 (getS 3 T) (getS 5 T) (getS 7 T) (getS 9 T) (getS 10 T) H := by
  subst hn
  simp only [c3_49, dCode, dOpers]
  rw [p3_50 ev L k49 _ _ rfl]
  try rw [hx0]
  kernel_rfl
theorem p3_49 (ex : Nat → K0) (hx0 : ex 0 = t3_1 ev L) : ∀ m, pLoop (fun n => dCode noG ev (finR noG c3r) L c3_49 ex n) m = s3_49 (l3_49 ev L m) := by
  intro m
  induction m with
  | zero => kernel_rfl
  | succ m ih =>
    show dCode noG ev (finR noG c3r) L c3_49 ex (pLoop (fun n => dCode noG ev (finR noG c3r) L c3_49 ex n) m) = _
    rw [ih, b3_49 ev L (l3_49 ev L m) ex _ rfl hx0]
    kernel_rfl
def t3_0 : K0 := fun T H => j3_0 ev L (getS 3 T) (getS 5 T) (getS 7 T) H
theorem p3_0 (ex : Nat → K0) (n : K0) (hn : n = finR noG c3r) : dCode noG ev (finR noG c3r) L c3_0 ex n = t3_0 ev L := by
  subst hn
  simp only [c3_0, dCode, dOpers]
  rw [p3_1 ev L _ _ rfl]
  rw [p3_49 ev L _ (by first | rfl | exact hx0)]
  kernel_rfl
def t3_54 : K0 := fun T H => j3_54 ev L (getS 3 T) (getS 5 T) (getS 7 T) (getS 42 T) H
theorem p3_54 (ex : Nat → K0) (n : K0) (hn : n = t3_0 ev L) : dCode noG ev (finR noG c3r) L c3_54 ex n = t3_54 ev L := by
  subst hn
  simp only [c3_54, dCode, dOpers]
  kernel_rfl
def t3_57 : K0 := fun T H => j3_57 ev L (getS 3 T) (getS 5 T) (getS 7 T) (getS 39 T) (getS 41 T) H
theorem p3_57 (n : K0) (hn : n = t3_54 ev L) : dOpers noG ev o3_55_5 n = t3_57 ev L := by
  subst hn
  simp only [o3_55_5, dOpers]
  kernel_rfl
def t3_56 : K0 := fun T H => j3_56 ev L (getS 3 T) (getS 5 T) (getS 7 T) (getS 39 T) (getS 40 T) H
theorem p3_56 (n : K0) (hn : n = t3_54 ev L) : dOpers noG ev o3_55_4 n = t3_56 ev L := by
  subst hn
  simp only [o3_55_4, dOpers]
  rw [p3_57 ev L _ rfl]
  kernel_rfl
theorem e3 (args : List AV) (H : Heap) : Lq (q3 ev L args H) (dRun noG c3 ev L args H) := by
  unfold q3
  split
  · refine .inr ?_
    rename_i t0
    show _ = ob (argsTm [t0]) fun T => dCode noG ev (finR noG c3r) L c3b (fun _ => pFail) (finR noG c3r) T H
    simp only [c3b, dCode, dOpers]
    rw [p3_0 ev L _ _ rfl]
    rw [p3_54 ev L _ _ rfl]
    rw [p3_56 ev L _ rfl]
    kernel_rfl
  · exact .inl rfl
def t4_2 : K0 := fun T H => j4_2 ev L (getS 4 T) H
theorem p4_2 (ex : Nat → K0) (n : K0) (hn : n = finR noG c4r) : dCode noG ev (finR noG c4r) L c4_2 ex n = t4_2 ev L := by
  subst hn
  simp only [c4_2, dCode, dOpers]
  kernel_rfl
def t4_19 : K0 := fun T H => j4_19 ev L (getS 55 T) (getS 60 T) H
theorem p4_19 (n : K0) (hn : n = t4_2 ev L) : dOpers noG ev o4_3_24 n = t4_19 ev L := by
  subst hn
  simp only [o4_3_24, dOpers]
  kernel_rfl
def t4_18 : K0 := fun T H => j4_18 ev L (getS 55 T) (getS 59 T) H
theorem p4_18 (n : K0) (hn : n = t4_2 ev L) : dOpers noG ev o4_3_23 n = t4_18 ev L := by
  subst hn
  simp only [o4_3_23, dOpers]
  rw [p4_19 ev L _ rfl]
  kernel_rfl
def t4_17 : K0 := fun T H => j4_17 ev L (getS 55 T) (getS 58 T) H
theorem p4_17 (n : K0) (hn : n = t4_2 ev L) : dOpers noG ev o4_3_22 n = t4_17 ev L := by
  subst hn
  simp only [o4_3_22, dOpers]
  rw [p4_18 ev L _ rfl]
  kernel_rfl
def t4_16 : K0 := fun T H => j4_16 ev L (getS 55 T) (getS 57 T) H
theorem p4_16 (n : K0) (hn : n = t4_2 ev L) : dOpers noG ev o4_3_21 n = t4_16 ev L := by
  subst hn
  simp only [o4_3_21, dOpers]
  rw [p4_17 ev L _ rfl]
  kernel_rfl
def t4_15 : K0 := fun T H => j4_15 ev L (getS 55 T) (getS 56 T) H
theorem p4_15 (n : K0) (hn : n = t4_2 ev L) : dOpers noG ev o4_3_20 n = t4_15 ev L := by
  subst hn
  simp only [o4_3_20, dOpers]
  rw [p4_16 ev L _ rfl]
  kernel_rfl
def t4_14 : K0 := fun T H => j4_14 ev L (getS 11 T) (getS 47 T) (getS 53 T) H
theorem p4_14 (n : K0) (hn : n = t4_2 ev L) : dOpers noG ev o4_3_17 n = t4_14 ev L := by
  subst hn
  simp only [o4_3_17, dOpers]
  rw [p4_15 ev L _ rfl]
  kernel_rfl
def t4_13 : K0 := fun T H => j4_13 ev L (getS 11 T) (getS 47 T) (getS 51 T) (getS 52 T) H
theorem p4_13 (n : K0) (hn : n = t4_2 ev L) : dOpers noG ev o4_3_16 n = t4_13 ev L := by
  subst hn
  simp only [o4_3_16, dOpers]
  rw [p4_14 ev L _ rfl]
  kernel_rfl
def t4_12 : K0 := fun T H => j4_12 ev L (getS 8 T) (getS 11 T) (getS 47 T) (getS 51 T) H
theorem p4_12 (n : K0) (hn : n = t4_2 ev L) : dOpers noG ev o4_3_15 n = t4_12 ev L := by
  subst hn
  simp only [o4_3_15, dOpers]
  rw [p4_13 ev L _ rfl]
  kernel_rfl
def t4_11 : K0 := fun T H => j4_11 ev L (getS 8 T) (getS 11 T) (getS 47 T) (getS 50 T) H
theorem p4_11 (n : K0) (hn : n = t4_2 ev L) : dOpers noG ev o4_3_14 n = t4_11 ev L := by
  subst hn
  simp only [o4_3_14, dOpers]
  rw [p4_12 ev L _ rfl]
  kernel_rfl
def t4_10 : K0 := fun T H => j4_10 ev L (getS 8 T) (getS 11 T) (getS 47 T) (getS 49 T) H
theorem p4_10 (n : K0) (hn : n = t4_2 ev L) : dOpers noG ev o4_3_13 n = t4_10 ev L := by
  subst hn
  simp only [o4_3_13, dOpers]
  rw [p4_11 ev L _ rfl]
  kernel_rfl
def t4_9 : K0 := fun T H => j4_9 ev L (getS 8 T) (getS 11 T) (getS 47 T) (getS 48 T) H
theorem p4_9 (n : K0) (hn : n = t4_2 ev L) : dOpers noG ev o4_3_12 n = t4_9 ev L := by
  subst hn
  simp only [o4_3_12, dOpers]
  rw [p4_10 ev L _ rfl]
  kernel_rfl
def t4_8 : K0 := fun T H => j4_8 ev L (getS 8 T) (getS 11 T) (getS 42 T) (getS 45 T) H
theorem p4_8 (n : K0) (hn : n = t4_2 ev L) : dOpers noG ev o4_3_9 n = t4_8 ev L := by
  subst hn
  simp only [o4_3_9, dOpers]
  rw [p4_9 ev L _ rfl]
  kernel_rfl
def t4_7 : K0 := fun T H => j4_7 ev L (getS 8 T) (getS 11 T) (getS 42 T) (getS 44 T) H
theorem p4_7 (n : K0) (hn : n = t4_2 ev L) : dOpers noG ev o4_3_8 n = t4_7 ev L := by
  subst hn
  simp only [o4_3_8, dOpers]
  rw [p4_8 ev L _ rfl]
  kernel_rfl
def t4_6 : K0 := fun T H => j4_6 ev L (getS 8 T) (getS 11 T) (getS 42 T) (getS 43 T) H
theorem p4_6 (n : K0) (hn : n = t4_2 ev L) : dOpers noG ev o4_3_7 n = t4_6 ev L := by
  subst hn
  simp only [o4_3_7, dOpers]
  rw [p4_7 ev L _ rfl]
  kernel_rfl
def t4_5 : K0 := fun T H => j4_5 ev L (getS 8 T) (getS 11 T) (getS 38 T) (getS 40 T) H
theorem p4_5 (n : K0) (hn : n = t4_2 ev L) : dOpers noG ev o4_3_4 n = t4_5 ev L := by
  subst hn
  simp only [o4_3_4, dOpers]
  rw [p4_6 ev L _ rfl]
  kernel_rfl
def t4_4 : K0 := fun T H => j4_4 ev L (getS 8 T) (getS 11 T) (getS 38 T) (getS 39 T) H
theorem p4_4 (n : K0) (hn : n = t4_2 ev L) : dOpers noG ev o4_3_3 n = t4_4 ev L := by
  subst hn
  simp only [o4_3_3, dOpers]
  rw [p4_5 ev L _ rfl]
  kernel_rfl
def t4_1 : K0 := fun T H => j4_1 ev L (getS 7 T) (getS 8 T) H
theorem p4_1 (ex : Nat → K0) (n : K0) (hn : n = finR noG c4r) : dCode noG ev (finR noG c4r) L c4_1 ex n = t4_1 ev L := by
  subst hn
  simp only [c4_1, dCode, dOpers]
  rw [p4_2 ev L _ _ rfl]
  rw [p4_4 ev L _ rfl]
  kernel_rfl
def t4_0 : K0 := fun T H => j4_0 ev L (getS 1 T) (getS 6 T) (getS 7 T) (getS 8 T) H
theorem p4_0 (ex : Nat → K0) (n : K0) (hn : n = finR noG c4r) : dCode noG ev (finR noG c4r) L c4_0 ex n = t4_0 ev L := by
  subst hn
  simp only [c4_0, dCode, dOpers]
  rw [p4_1 ev L _ _ rfl]
  kernel_rfl
theorem e4 (args : List AV) (H : Heap) : Lq (q4 ev L args H) (dRun noG c4 ev L args H) := by
  unfold q4
  split
  · refine .inr ?_
    rename_i t0 t1
    show _ = ob (argsTm [t0, t1]) fun T => dCode noG ev (finR noG c4r) L c4b (fun _ => pFail) (finR noG c4r) T H
    simp only [c4b, dCode, dOpers]
    rw [p4_0 ev L _ _ rfl]
    kernel_rfl
  · exact .inl rfl
theorem e5 (args : List AV) (H : Heap) : Lq (q5 ev L args H) (dRun noG c5 ev L args H) := by
  unfold q5
  split
  · refine .inr ?_
    rename_i t0
    show _ = ob (argsTm [t0]) fun T => dCode noG ev (finR noG c5r) L c5b (fun _ => pFail) (finR noG c5r) T H
    simp only [c5b, dCode, dOpers]
    kernel_rfl
  · exact .inl rfl
theorem e6 (args : List AV) (H : Heap) : Lq (q6 ev L args H) (dRun noG c6 ev L args H) := by
  unfold q6
  split
  · refine .inr ?_
    rename_i t0 t1
    show _ = ob (argsTm [t0, t1]) fun T => dCode noG ev (finR noG c6r) L c6b (fun _ => pFail) (finR noG c6r) T H
    simp only [c6b, dCode, dOpers]
    kernel_rfl
  · exact .inl rfl
def t7_0 : K0 := fun T H => j7_0 ev L (getS 5 T) H
theorem p7_0 (ex : Nat → K0) (n : K0) (hn : n = finR noG c7r) : dCode noG ev (finR noG c7r) L c7_0 ex n = t7_0 ev L := by
  subst hn
  simp only [c7_0, dCode, dOpers]
  kernel_rfl
def s7_1 (k1 : AV → AV → AV → AV → Heap → CR) : K0 := fun T H => k1 (getS 0 T) (getS 5 T) (getS 6 T) (getS 7 T) H
def t7_2 (k1 : AV → AV → AV → AV → Heap → CR) : K0 := fun T H => j7_2 ev L k1 (getS 0 T) (getS 5 T) (getS 6 T) (getS 7 T) H
theorem p7_2 (k1 : AV → AV → AV → AV → Heap → CR) (ex : Nat → K0) (n : K0) (hn : n = s7_1 k1) : dCode noG ev (finR noG c7r) L c7_2 ex n = t7_2 ev L k1 := by
  subst hn
  simp only [c7_2, dCode, dOpers]
  kernel_rfl
def t7_4 (k1 : AV → AV → AV → AV → Heap → CR) : K0 := fun T H => j7_4 ev L k1 (getS 0 T) (getS 5 T) (getS 6 T) (getS 7 T) (getS 19 T) H
theorem p7_4 (k1 : AV → AV → AV → AV → Heap → CR) (ex : Nat → K0) (n : K0) (hn : n = t7_2 ev L k1) (hx0 : ex 0 = t7_0 ev L) : dCode noG ev (finR noG c7r) L c7_4 ex n = t7_4 ev L k1 := by
  subst hn
  simp only [c7_4, dCode, dOpers]
  try rw [hx0]
  kernel_rfl
def t7_9 (k1 : AV → AV → AV → AV → Heap → CR) : K0 := fun T H => j7_9 ev L k1 (getS 0 T) (getS 5 T) (getS 6 T) (getS 7 T) (getS 14 T) (getS 18 T) H
theorem p7_9 (k1 : AV → AV → AV → AV → Heap → CR) (n : K0) (hn : n = t7_4 ev L k1) : dOpers noG ev o7_5_7 n = t7_9 ev L k1 := by
  subst hn
  simp only [o7_5_7, dOpers]
  kernel_rfl
def t7_8 (k1 : AV → AV → AV → AV → Heap → CR) : K0 := fun T H => j7_8 ev L k1 (getS 0 T) (getS 5 T) (getS 6 T) (getS 7 T) (getS 14 T) (getS 15 T) (getS 17 T) H
theorem p7_8 (k1 : AV → AV → AV → AV → Heap → CR) (n : K0) (hn : n = t7_4 ev L k1) : dOpers noG ev o7_5_6 n = t7_8 ev L k1 := by
  subst hn
  simp only [o7_5_6, dOpers]
  rw [p7_9 ev L k1 _ rfl]
  kernel_rfl
def t7_7 (k1 : AV → AV → AV → AV → Heap → CR) : K0 := fun T H => j7_7 ev L k1 (getS 0 T) (getS 5 T) (getS 6 T) (getS 7 T) (getS 14 T) (getS 15 T) (getS 16 T) H
theorem p7_7 (k1 : AV → AV → AV → AV → Heap → CR) (n : K0) (hn : n = t7_4 ev L k1) : dOpers noG ev o7_5_5 n = t7_7 ev L k1 := by
  subst hn
  simp only [o7_5_5, dOpers]
  rw [p7_8 ev L k1 _ rfl]
  kernel_rfl
def t7_6 (k1 : AV → AV → AV → AV → Heap → CR) : K0 := fun T H => j7_6 ev L k1 (getS 0 T) (getS 5 T) (getS 6 T) (getS 7 T) (getS 14 T) (getS 15 T) H
theorem p7_6 (k1 : AV → AV → AV → AV → Heap → CR) (n : K0) (hn : n = t7_4 ev L k1) : dOpers noG ev o7_5_4 n = t7_6 ev L k1 := by
  subst hn
  simp only [o7_5_4, dOpers]
  rw [p7_7 ev L k1 _ rfl]
  kernel_rfl
theorem b7_1 (k1 : AV → AV → AV → AV → Heap → CR) (ex : Nat → K0) (n : K0) (hn : n = s7_1 k1) (hx0 : ex 0 = t7_0 ev L) : dCode noG ev (finR noG c7r) L c7_1 ex n = fun T H => j7_1 ev L k1 (getS 0 T) (getS 5 T) (getS 6 T) (getS 7 T) H := by
  subst hn
  simp only [c7_1, dCode, dOpers]
  rw [p7_2 ev L k1 _ _ rfl]
  rw [p7_4 ev L k1 _ _ rfl (by first | rfl | exact hx0)]
  rw [p7_6 ev L k1 _ rfl]
  try rw [hx0]
  kernel_rfl
theorem p7_1 (ex : Nat → K0) (hx0 : ex 0 = t7_0 ev L) : ∀ m, pLoop (fun n => dCode noG ev (finR noG c7r) L c7_1 ex n) m = s7_1 (l7_1 ev L m) := by
  intro m
  induction m with
  | zero => kernel_rfl
  | succ m ih =>
    show dCode noG ev (finR noG c7r) L c7_1 ex (pLoop (fun n => dCode noG ev (finR noG c7r) L c7_1 ex n) m) = _
    rw [ih, b7_1 ev L (l7_1 ev L m) ex _ rfl hx0]
    kernel_rfl
theorem e7 (args : List AV) (H : Heap) : Lq (q7 ev L args H) (dRun noG c7 ev L args H) := by
  unfold q7
  split
  · refine .inr ?_
    rename_i t0 t1
    show _ = ob (argsTm [t0, t1]) fun T => dCode noG ev (finR noG c7r) L c7b (fun _ => pFail) (finR noG c7r) T H
    simp only [c7b, dCode, dOpers]
    rw [p7_0 ev L _ _ rfl]
    rw [p7_1 ev L _ (by first | rfl | exact hx0)]
    kernel_rfl
  · exact .inl rfl
def t8_0 : K0 := fun T H => j8_0 ev L (getS 0 T) H
theorem p8_0 (ex : Nat → K0) (n : K0) (hn : n = finR noG c8r) : dCode noG ev (finR noG c8r) L c8_0 ex n = t8_0 ev L := by
  subst hn
  simp only [c8_0, dCode, dOpers]
  kernel_rfl
def t8_41 : K0 := fun T H => j8_41 ev L (getS 109 T) (getS 114 T) H
theorem p8_41 (n : K0) (hn : n = t8_0 ev L) : dDrawn noG ev o8_1_63 n = t8_41 ev L := by
  subst hn
  simp only [o8_1_63, dDrawn, dAgain, isPanic, cond_false]
  kernel_rfl
def t8_40 : K0 := fun T H => j8_40 ev L (getS 109 T) (getS 113 T) H
theorem p8_40 (n : K0) (hn : n = t8_0 ev L) : dDrawn noG ev o8_1_62 n = t8_40 ev L := by
  subst hn
  simp only [o8_1_62, dDrawn, dAgain, isPanic, cond_false]
  rw [p8_41 ev L _ rfl]
  kernel_rfl
def t8_39 : K0 := fun T H => j8_39 ev L (getS 109 T) (getS 110 T) (getS 112 T) H
theorem p8_39 (n : K0) (hn : n = t8_0 ev L) : dDrawn noG ev o8_1_61 n = t8_39 ev L := by
  subst hn
  simp only [o8_1_61, dDrawn, dAgain, isPanic, cond_false]
  rw [p8_40 ev L _ rfl]
  kernel_rfl
def t8_38 : K0 := fun T H => j8_38 ev L (getS 109 T) (getS 110 T) (getS 111 T) H
theorem p8_38 (n : K0) (hn : n = t8_0 ev L) : dDrawn noG ev o8_1_60 n = t8_38 ev L := by
  subst hn
  simp only [o8_1_60, dDrawn, dAgain, isPanic, cond_false]
  rw [p8_39 ev L _ rfl]
  kernel_rfl
def t8_37 : K0 := fun T H => j8_37 ev L (getS 8 T) (getS 109 T) (getS 110 T) H
theorem p8_37 (n : K0) (hn : n = t8_0 ev L) : dDrawn noG ev o8_1_59 n = t8_37 ev L := by
  subst hn
  simp only [o8_1_59, dDrawn, dAgain, isPanic, cond_false]
  rw [p8_38 ev L _ rfl]
  kernel_rfl
def t8_36 : K0 := fun T H => j8_36 ev L (getS 3 T) (getS 8 T) (getS 104 T) (getS 107 T) H
theorem p8_36 (n : K0) (hn : n = t8_0 ev L) : dDrawn noG ev o8_1_56 n = t8_36 ev L := by
  subst hn
  simp only [o8_1_56, dDrawn, dAgain, isPanic, cond_false]
  rw [p8_37 ev L _ rfl]
  kernel_rfl
def t8_35 : K0 := fun T H => j8_35 ev L (getS 3 T) (getS 8 T) (getS 104 T) (getS 105 T) (getS 106 T) H
theorem p8_35 (n : K0) (hn : n = t8_0 ev L) : dDrawn noG ev o8_1_55 n = t8_35 ev L := by
  subst hn
  simp only [o8_1_55, dDrawn, dAgain, isPanic, cond_false]
  rw [p8_36 ev L _ rfl]
  kernel_rfl
def t8_34 : K0 := fun T H => j8_34 ev L (getS 3 T) (getS 8 T) (getS 104 T) (getS 105 T) H
theorem p8_34 (n : K0) (hn : n = t8_0 ev L) : dDrawn noG ev o8_1_54 n = t8_34 ev L := by
  subst hn
  simp only [o8_1_54, dDrawn, dAgain, isPanic, cond_false]
  rw [p8_35 ev L _ rfl]
  kernel_rfl
def t8_33 : K0 := fun T H => j8_33 ev L (getS 3 T) (getS 8 T) (getS 100 T) (getS 102 T) H
theorem p8_33 (n : K0) (hn : n = t8_0 ev L) : dDrawn noG ev o8_1_51 n = t8_33 ev L := by
  subst hn
  simp only [o8_1_51, dDrawn, dAgain, isPanic, cond_false]
  rw [p8_34 ev L _ rfl]
  kernel_rfl
def t8_32 : K0 := fun T H => j8_32 ev L (getS 3 T) (getS 8 T) (getS 100 T) (getS 101 T) H
theorem p8_32 (n : K0) (hn : n = t8_0 ev L) : dDrawn noG ev o8_1_50 n = t8_32 ev L := by
  subst hn
  simp only [o8_1_50, dDrawn, dAgain, isPanic, cond_false]
  rw [p8_33 ev L _ rfl]
  kernel_rfl
def t8_31 : K0 := fun T H => j8_31 ev L (getS 3 T) (getS 8 T) (getS 12 T) (getS 95 T) (getS 98 T) H
theorem p8_31 (n : K0) (hn : n = t8_0 ev L) : dDrawn noG ev o8_1_47 n = t8_31 ev L := by
  subst hn
  simp only [o8_1_47, dDrawn, dAgain, isPanic, cond_false]
  rw [p8_32 ev L _ rfl]
  kernel_rfl
def t8_30 : K0 := fun T H => j8_30 ev L (getS 3 T) (getS 8 T) (getS 12 T) (getS 95 T) (getS 96 T) (getS 97 T) H
theorem p8_30 (n : K0) (hn : n = t8_0 ev L) : dDrawn noG ev o8_1_46 n = t8_30 ev L := by
  subst hn
  simp only [o8_1_46, dDrawn, dAgain, isPanic, cond_false]
  rw [p8_31 ev L _ rfl]
  kernel_rfl
def t8_29 : K0 := fun T H => j8_29 ev L (getS 3 T) (getS 8 T) (getS 12 T) (getS 95 T) (getS 96 T) H
theorem p8_29 (n : K0) (hn : n = t8_0 ev L) : dDrawn noG ev o8_1_45 n = t8_29 ev L := by
  subst hn
  simp only [o8_1_45, dDrawn, dAgain, isPanic, cond_false]
  rw [p8_30 ev L _ rfl]
  kernel_rfl
def t8_28 : K0 := fun T H => j8_28 ev L (getS 3 T) (getS 8 T) (getS 11 T) (getS 12 T) (getS 91 T) (getS 93 T) H
theorem p8_28 (n : K0) (hn : n = t8_0 ev L) : dDrawn noG ev o8_1_42 n = t8_28 ev L := by
  subst hn
  simp only [o8_1_42, dDrawn, dAgain, isPanic, cond_false]
  rw [p8_29 ev L _ rfl]
  kernel_rfl
def t8_27 : K0 := fun T H => j8_27 ev L (getS 3 T) (getS 8 T) (getS 11 T) (getS 12 T) (getS 91 T) (getS 92 T) H
theorem p8_27 (n : K0) (hn : n = t8_0 ev L) : dDrawn noG ev o8_1_41 n = t8_27 ev L := by
  subst hn
  simp only [o8_1_41, dDrawn, dAgain, isPanic, cond_false]
  rw [p8_28 ev L _ rfl]
  kernel_rfl
def t8_26 : K0 := fun T H => j8_26 ev L (getS 3 T) (getS 8 T) (getS 10 T) (getS 11 T) (getS 12 T) (getS 84 T) (getS 89 T) H
theorem p8_26 (n : K0) (hn : n = t8_0 ev L) : dDrawn noG ev o8_1_38 n = t8_26 ev L := by
  subst hn
  simp only [o8_1_38, dDrawn, dAgain, isPanic, cond_false]
  rw [p8_27 ev L _ rfl]
  kernel_rfl
def t8_25 : K0 := fun T H => j8_25 ev L (getS 3 T) (getS 8 T) (getS 10 T) (getS 11 T) (getS 12 T) (getS 84 T) (getS 85 T) (getS 88 T) H
theorem p8_25 (n : K0) (hn : n = t8_0 ev L) : dDrawn noG ev o8_1_37 n = t8_25 ev L := by
  subst hn
  simp only [o8_1_37, dDrawn, dAgain, isPanic, cond_false]
  rw [p8_26 ev L _ rfl]
  kernel_rfl
def t8_24 : K0 := fun T H => j8_24 ev L (getS 3 T) (getS 8 T) (getS 10 T) (getS 11 T) (getS 12 T) (getS 84 T) (getS 85 T) (getS 87 T) H
theorem p8_24 (n : K0) (hn : n = t8_0 ev L) : dDrawn noG ev o8_1_36 n = t8_24 ev L := by
  subst hn
  simp only [o8_1_36, dDrawn, dAgain, isPanic, cond_false]
  rw [p8_25 ev L _ rfl]
  kernel_rfl
def t8_23 : K0 := fun T H => j8_23 ev L (getS 3 T) (getS 8 T) (getS 10 T) (getS 11 T) (getS 12 T) (getS 84 T) (getS 85 T) (getS 86 T) H
theorem p8_23 (n : K0) (hn : n = t8_0 ev L) : dDrawn noG ev o8_1_35 n = t8_23 ev L := by
  subst hn
  simp only [o8_1_35, dDrawn, dAgain, isPanic, cond_false]
  rw [p8_24 ev L _ rfl]
  kernel_rfl
def t8_22 : K0 := fun T H => j8_22 ev L (getS 3 T) (getS 7 T) (getS 8 T) (getS 10 T) (getS 11 T) (getS 12 T) (getS 84 T) (getS 85 T) H
theorem p8_22 (n : K0) (hn : n = t8_0 ev L) : dDrawn noG ev o8_1_34 n = t8_22 ev L := by
  subst hn
  simp only [o8_1_34, dDrawn, dAgain, isPanic, cond_false]
  rw [p8_23 ev L _ rfl]
  kernel_rfl
def t8_21 : K0 := fun T H => j8_21 ev L (getS 3 T) (getS 7 T) (getS 8 T) (getS 9 T) (getS 10 T) (getS 11 T) (getS 12 T) (getS 77 T) (getS 82 T) H
theorem p8_21 (n : K0) (hn : n = t8_0 ev L) : dDrawn noG ev o8_1_31 n = t8_21 ev L := by
  subst hn
  simp only [o8_1_31, dDrawn, dAgain, isPanic, cond_false]
  rw [p8_22 ev L _ rfl]
  kernel_rfl
def t8_20 : K0 := fun T H => j8_20 ev L (getS 3 T) (getS 7 T) (getS 8 T) (getS 9 T) (getS 10 T) (getS 11 T) (getS 12 T) (getS 77 T) (getS 80 T) (getS 81 T) H
theorem p8_20 (n : K0) (hn : n = t8_0 ev L) : dDrawn noG ev o8_1_30 n = t8_20 ev L := by
  subst hn
  simp only [o8_1_30, dDrawn, dAgain, isPanic, cond_false]
  rw [p8_21 ev L _ rfl]
  kernel_rfl
def t8_19 : K0 := fun T H => j8_19 ev L (getS 3 T) (getS 7 T) (getS 8 T) (getS 9 T) (getS 10 T) (getS 11 T) (getS 12 T) (getS 77 T) (getS 80 T) H
theorem p8_19 (n : K0) (hn : n = t8_0 ev L) : dDrawn noG ev o8_1_29 n = t8_19 ev L := by
  subst hn
  simp only [o8_1_29, dDrawn, dAgain, isPanic, cond_false]
  rw [p8_20 ev L _ rfl]
  kernel_rfl
def t8_18 : K0 := fun T H => j8_18 ev L (getS 3 T) (getS 7 T) (getS 8 T) (getS 9 T) (getS 10 T) (getS 11 T) (getS 12 T) (getS 77 T) (getS 79 T) H
theorem p8_18 (n : K0) (hn : n = t8_0 ev L) : dDrawn noG ev o8_1_28 n = t8_18 ev L := by
  subst hn
  simp only [o8_1_28, dDrawn, dAgain, isPanic, cond_false]
  rw [p8_19 ev L _ rfl]
  kernel_rfl
def t8_17 : K0 := fun T H => j8_17 ev L (getS 3 T) (getS 7 T) (getS 8 T) (getS 9 T) (getS 10 T) (getS 11 T) (getS 12 T) (getS 77 T) (getS 78 T) H
theorem p8_17 (n : K0) (hn : n = t8_0 ev L) : dDrawn noG ev o8_1_27 n = t8_17 ev L := by
  subst hn
  simp only [o8_1_27, dDrawn, dAgain, isPanic, cond_false]
  rw [p8_18 ev L _ rfl]
  kernel_rfl
def t8_16 : K0 := fun T H => j8_16 ev L (getS 3 T) (getS 7 T) (getS 8 T) (getS 9 T) (getS 10 T) (getS 11 T) (getS 12 T) (getS 70 T) (getS 75 T) H
theorem p8_16 (n : K0) (hn : n = t8_0 ev L) : dDrawn noG ev o8_1_24 n = t8_16 ev L := by
  subst hn
  simp only [o8_1_24, dDrawn, dAgain, isPanic, cond_false]
  rw [p8_17 ev L _ rfl]
  kernel_rfl
def t8_15 : K0 := fun T H => j8_15 ev L (getS 3 T) (getS 7 T) (getS 8 T) (getS 9 T) (getS 10 T) (getS 11 T) (getS 12 T) (getS 70 T) (getS 73 T) (getS 74 T) H
theorem p8_15 (n : K0) (hn : n = t8_0 ev L) : dDrawn noG ev o8_1_23 n = t8_15 ev L := by
  subst hn
  simp only [o8_1_23, dDrawn, dAgain, isPanic, cond_false]
  rw [p8_16 ev L _ rfl]
  kernel_rfl
def t8_14 : K0 := fun T H => j8_14 ev L (getS 3 T) (getS 7 T) (getS 8 T) (getS 9 T) (getS 10 T) (getS 11 T) (getS 12 T) (getS 70 T) (getS 73 T) H
theorem p8_14 (n : K0) (hn : n = t8_0 ev L) : dDrawn noG ev o8_1_22 n = t8_14 ev L := by
  subst hn
  simp only [o8_1_22, dDrawn, dAgain, isPanic, cond_false]
  rw [p8_15 ev L _ rfl]
  kernel_rfl
def t8_13 : K0 := fun T H => j8_13 ev L (getS 3 T) (getS 7 T) (getS 8 T) (getS 9 T) (getS 10 T) (getS 11 T) (getS 12 T) (getS 70 T) (getS 72 T) H
theorem p8_13 (n : K0) (hn : n = t8_0 ev L) : dDrawn noG ev o8_1_21 n = t8_13 ev L := by
  subst hn
  simp only [o8_1_21, dDrawn, dAgain, isPanic, cond_false]
  rw [p8_14 ev L _ rfl]
  kernel_rfl
def t8_12 : K0 := fun T H => j8_12 ev L (getS 3 T) (getS 7 T) (getS 8 T) (getS 9 T) (getS 10 T) (getS 11 T) (getS 12 T) (getS 70 T) (getS 71 T) H
theorem p8_12 (n : K0) (hn : n = t8_0 ev L) : dDrawn noG ev o8_1_20 n = t8_12 ev L := by
  subst hn
  simp only [o8_1_20, dDrawn, dAgain, isPanic, cond_false]
  rw [p8_13 ev L _ rfl]
  kernel_rfl
def t8_11 : K0 := fun T H => j8_11 ev L (getS 3 T) (getS 7 T) (getS 8 T) (getS 9 T) (getS 10 T) (getS 11 T) (getS 12 T) (getS 63 T) (getS 68 T) H
theorem p8_11 (n : K0) (hn : n = t8_0 ev L) : dDrawn noG ev o8_1_17 n = t8_11 ev L := by
  subst hn
  simp only [o8_1_17, dDrawn, dAgain, isPanic, cond_false]
  rw [p8_12 ev L _ rfl]
  kernel_rfl
def t8_10 : K0 := fun T H => j8_10 ev L (getS 3 T) (getS 7 T) (getS 8 T) (getS 9 T) (getS 10 T) (getS 11 T) (getS 12 T) (getS 63 T) (getS 66 T) (getS 67 T) H
theorem p8_10 (n : K0) (hn : n = t8_0 ev L) : dDrawn noG ev o8_1_16 n = t8_10 ev L := by
  subst hn
  simp only [o8_1_16, dDrawn, dAgain, isPanic, cond_false]
  rw [p8_11 ev L _ rfl]
  kernel_rfl
def t8_9 : K0 := fun T H => j8_9 ev L (getS 3 T) (getS 7 T) (getS 8 T) (getS 9 T) (getS 10 T) (getS 11 T) (getS 12 T) (getS 63 T) (getS 66 T) H
theorem p8_9 (n : K0) (hn : n = t8_0 ev L) : dDrawn noG ev o8_1_15 n = t8_9 ev L := by
  subst hn
  simp only [o8_1_15, dDrawn, dAgain, isPanic, cond_false]
  rw [p8_10 ev L _ rfl]
  kernel_rfl
def t8_8 : K0 := fun T H => j8_8 ev L (getS 3 T) (getS 7 T) (getS 8 T) (getS 9 T) (getS 10 T) (getS 11 T) (getS 12 T) (getS 63 T) (getS 65 T) H
theorem p8_8 (n : K0) (hn : n = t8_0 ev L) : dDrawn noG ev o8_1_14 n = t8_8 ev L := by
  subst hn
  simp only [o8_1_14, dDrawn, dAgain, isPanic, cond_false]
  rw [p8_9 ev L _ rfl]
  kernel_rfl
def t8_7 : K0 := fun T H => j8_7 ev L (getS 3 T) (getS 7 T) (getS 8 T) (getS 9 T) (getS 10 T) (getS 11 T) (getS 12 T) (getS 63 T) (getS 64 T) H
theorem p8_7 (n : K0) (hn : n = t8_0 ev L) : dDrawn noG ev o8_1_13 n = t8_7 ev L := by
  subst hn
  simp only [o8_1_13, dDrawn, dAgain, isPanic, cond_false]
  rw [p8_8 ev L _ rfl]
  kernel_rfl
def t8_6 : K0 := fun T H => j8_6 ev L (getS 3 T) (getS 7 T) (getS 8 T) (getS 9 T) (getS 10 T) (getS 11 T) (getS 12 T) (getS 58 T) (getS 61 T) H
theorem p8_6 (n : K0) (hn : n = t8_0 ev L) : dDrawn noG ev o8_1_10 n = t8_6 ev L := by
  subst hn
  simp only [o8_1_10, dDrawn, dAgain, isPanic, cond_false]
  rw [p8_7 ev L _ rfl]
  kernel_rfl
def t8_5 : K0 := fun T H => j8_5 ev L (getS 3 T) (getS 7 T) (getS 8 T) (getS 9 T) (getS 10 T) (getS 11 T) (getS 12 T) (getS 58 T) (getS 60 T) H
theorem p8_5 (n : K0) (hn : n = t8_0 ev L) : dDrawn noG ev o8_1_9 n = t8_5 ev L := by
  subst hn
  simp only [o8_1_9, dDrawn, dAgain, isPanic, cond_false]
  rw [p8_6 ev L _ rfl]
  kernel_rfl
def t8_4 : K0 := fun T H => j8_4 ev L (getS 3 T) (getS 7 T) (getS 8 T) (getS 9 T) (getS 10 T) (getS 11 T) (getS 12 T) (getS 58 T) (getS 59 T) H
theorem p8_4 (n : K0) (hn : n = t8_0 ev L) : dDrawn noG ev o8_1_8 n = t8_4 ev L := by
  subst hn
  simp only [o8_1_8, dDrawn, dAgain, isPanic, cond_false]
  rw [p8_5 ev L _ rfl]
  kernel_rfl
def t8_3 : K0 := fun T H => j8_3 ev L (getS 3 T) (getS 7 T) (getS 8 T) (getS 9 T) (getS 10 T) (getS 11 T) (getS 12 T) (getS 54 T) (getS 56 T) H
theorem p8_3 (n : K0) (hn : n = t8_0 ev L) : dDrawn noG ev o8_1_5 n = t8_3 ev L := by
  subst hn
  simp only [o8_1_5, dDrawn, dAgain, isPanic, cond_false]
  rw [p8_4 ev L _ rfl]
  kernel_rfl
def t8_2 : K0 := fun T H => j8_2 ev L (getS 3 T) (getS 7 T) (getS 8 T) (getS 9 T) (getS 10 T) (getS 11 T) (getS 12 T) (getS 54 T) (getS 55 T) H
theorem p8_2 (n : K0) (hn : n = t8_0 ev L) : dDrawn noG ev o8_1_4 n = t8_2 ev L := by
  subst hn
  simp only [o8_1_4, dDrawn, dAgain, isPanic, cond_false]
  rw [p8_3 ev L _ rfl]
  kernel_rfl
theorem e8 (args : List AV) (H : Heap) : Lq (q8 ev L args H) (dRun noG c8 ev L args H) := by
  unfold q8
  split
  · refine .inr ?_
    show _ = ob (argsTm []) fun T => dCode noG ev (finR noG c8r) L c8b (fun _ => pFail) (finR noG c8r) T H
    simp only [c8b, dCode, dOpers, dDrawn, dAgain, isPanic, cond_false]
    rw [p8_0 ev L _ _ rfl]
    rw [p8_2 ev L _ rfl]
    kernel_rfl
  · exact .inl rfl
theorem e10 (args : List AV) (H : Heap) : Lq (q10 ev L args H) (dRun noG c10 ev L args H) := by
  unfold q10
  split
  · refine .inr ?_
    rename_i t0 t1 t2
    show _ = ob (argsTm [t0, t1, t2]) fun T => dCode noG ev (finR noG c10r) L c10b (fun _ => pFail) (finR noG c10r) T H
    simp only [c10b, dCode, dOpers]
    kernel_rfl
  · exact .inl rfl
def t11_1 : K0 := fun T H => j11_1 ev L (getS 4 T) H
theorem p11_1 (ex : Nat → K0) (n : K0) (hn : n = finR noG c11r) : dCode noG ev (finR noG c11r) L c11_1 ex n = t11_1 ev L := by
  subst hn
  simp only [c11_1, dCode, dOpers]
  kernel_rfl
def s11_2 (k2 : AV → AV → AV → AV → AV → Heap → CR) : K0 := fun T H => k2 (getS 4 T) (getS 6 T) (getS 31 T) (getS 32 T) (getS 33 T) H
def t11_4 (k2 : AV → AV → AV → AV → AV → Heap → CR) : K0 := fun T H => j11_4 ev L k2 (getS 4 T) (getS 6 T) (getS 31 T) (getS 32 T) (getS 33 T) H
theorem p11_4 (k2 : AV → AV → AV → AV → AV → Heap → CR) (ex : Nat → K0) (n : K0) (hn : n = s11_2 k2) : dCode noG ev (finR noG c11r) L c11_4 ex n = t11_4 ev L k2 := by
  subst hn
  simp only [c11_4, dCode, dOpers]
  kernel_rfl
def t11_6 (k2 : AV → AV → AV → AV → AV → Heap → CR) : K0 := fun T H => j11_6 ev L k2 (getS 4 T) (getS 6 T) (getS 7 T) (getS 9 T) (getS 31 T) (getS 32 T) (getS 33 T) H
theorem p11_6 (k2 : AV → AV → AV → AV → AV → Heap → CR) (ex : Nat → K0) (n : K0) (hn : n = t11_4 ev L k2) : dCode noG ev (finR noG c11r) L c11_6 ex n = t11_6 ev L k2 := by
  subst hn
  simp only [c11_6, dCode, dOpers, dDrawn, dAgain, isPanic, cond_false]
  kernel_rfl
def s11_8 (k8 : AV → AV → AV → AV → AV → AV → AV → AV → AV → AV → Heap → CR) : K0 := fun T H => k8 (getS 4 T) (getS 6 T) (getS 7 T) (getS 9 T) (getS 31 T) (getS 32 T) (getS 33 T) (getS 56 T) (getS 57 T) (getS 58 T) H
def t11_10 (k2 : AV → AV → AV → AV → AV → Heap → CR) (k8 : AV → AV → AV → AV → AV → AV → AV → AV → AV → AV → Heap → CR) : K0 := fun T H => j11_10 ev L k2 k8 (getS 4 T) (getS 6 T) (getS 7 T) (getS 9 T) (getS 31 T) (getS 32 T) (getS 33 T) (getS 56 T) (getS 57 T) (getS 58 T) H
theorem p11_10 (k2 : AV → AV → AV → AV → AV → Heap → CR) (k8 : AV → AV → AV → AV → AV → AV → AV → AV → AV → AV → Heap → CR) (ex : Nat → K0) (n : K0) (hn : n = s11_8 k8) : dCode noG ev (finR noG c11r) L c11_10 ex n = t11_10 ev L k2 k8 := by
  subst hn
  simp only [c11_10, dCode, dOpers]
  kernel_rfl
def t11_9 (k2 : AV → AV → AV → AV → AV → Heap → CR) (k8 : AV → AV → AV → AV → AV → AV → AV → AV → AV → AV → Heap → CR) : K0 := fun T H => j11_9 ev L k2 k8 (getS 4 T) (getS 6 T) (getS 7 T) (getS 9 T) (getS 31 T) (getS 32 T) (getS 33 T) (getS 56 T) (getS 57 T) (getS 58 T) H
theorem p11_9 (k2 : AV → AV → AV → AV → AV → Heap → CR) (k8 : AV → AV → AV → AV → AV → AV → AV → AV → AV → AV → Heap → CR) (ex : Nat → K0) (n : K0) (hn : n = s11_8 k8) : dCode noG ev (finR noG c11r) L c11_9 ex n = t11_9 ev L k2 k8 := by
  subst hn
  simp only [c11_9, dCode, dOpers, dDrawn, dAgain, isPanic, cond_false]
  rw [p11_10 ev L k2 k8 _ _ rfl]
  kernel_rfl
theorem b11_8 (k2 : AV → AV → AV → AV → AV → Heap → CR) (k8 : AV → AV → AV → AV → AV → AV → AV → AV → AV → AV → Heap → CR) (ex : Nat → K0) (n : K0) (hn : n = s11_8 k8) (hx2 : ex 2 = t11_6 ev L k2) : dCode noG ev (finR noG c11r) L c11_8 ex n = fun T H => j11_8 ev L k2 k8 (getS 4 T) (getS 6 T) (getS 7 T) (getS 9 T) (getS 31 T) (getS 32 T) (getS 33 T) (getS 56 T) (getS 57 T) (getS 58 T) H := by
  subst hn
  simp only [c11_8, dCode, dOpers, dDrawn, dAgain, isPanic, cond_false]
  rw [p11_9 ev L k2 k8 _ _ rfl]
  try rw [hx2]
  kernel_rfl
theorem p11_8 (k2 : AV → AV → AV → AV → AV → Heap → CR) (ex : Nat → K0) (hx2 : ex 2 = t11_6 ev L k2) : ∀ m, pLoop (fun n => dCode noG ev (finR noG c11r) L c11_8 ex n) m = s11_8 (l11_8 ev L k2 m) := by
  intro m
  induction m with
  | zero => kernel_rfl
  | succ m ih =>
    show dCode noG ev (finR noG c11r) L c11_8 ex (pLoop (fun n => dCode noG ev (finR noG c11r) L c11_8 ex n) m) = _
    rw [ih, b11_8 ev L k2 (l11_8 ev L k2 m) ex _ rfl hx2]
    kernel_rfl
def t11_3 (k2 : AV → AV → AV → AV → AV → Heap → CR) : K0 := fun T H => j11_3 ev L k2 (getS 4 T) (getS 6 T) (getS 31 T) (getS 32 T) (getS 33 T) H
theorem p11_3 (k2 : AV → AV → AV → AV → AV → Heap → CR) (ex : Nat → K0) (n : K0) (hn : n = s11_2 k2) : dCode noG ev (finR noG c11r) L c11_3 ex n = t11_3 ev L k2 := by
  subst hn
  simp only [c11_3, dCode, dOpers, dDrawn, dAgain, isPanic, cond_false]
  rw [p11_4 ev L k2 _ _ rfl]
  rw [p11_6 ev L k2 _ _ rfl]
  rw [p11_8 ev L k2 _ (by first | rfl | exact hx2)]
  kernel_rfl
theorem b11_2 (k2 : AV → AV → AV → AV → AV → Heap → CR) (ex : Nat → K0) (n : K0) (hn : n = s11_2 k2) (hx0 : ex 0 = t11_1 ev L) : dCode noG ev (finR noG c11r) L c11_2 ex n = fun T H => j11_2 ev L k2 (getS 4 T) (getS 6 T) (getS 31 T) (getS 32 T) (getS 33 T) H := by
  subst hn
  simp only [c11_2, dCode, dOpers, dDrawn, dAgain, isPanic, cond_false]
  rw [p11_3 ev L k2 _ _ rfl]
  try rw [hx0]
  kernel_rfl
theorem p11_2 (ex : Nat → K0) (hx0 : ex 0 = t11_1 ev L) : ∀ m, pLoop (fun n => dCode noG ev (finR noG c11r) L c11_2 ex n) m = s11_2 (l11_2 ev L m) := by
  intro m
  induction m with
  | zero => kernel_rfl
  | succ m ih =>
    show dCode noG ev (finR noG c11r) L c11_2 ex (pLoop (fun n => dCode noG ev (finR noG c11r) L c11_2 ex n) m) = _
    rw [ih, b11_2 ev L (l11_2 ev L m) ex _ rfl hx0]
    kernel_rfl
def t11_0 : K0 := fun T H => j11_0 ev L (getS 0 T) H
theorem p11_0 (ex : Nat → K0) (n : K0) (hn : n = finR noG c11r) : dCode noG ev (finR noG c11r) L c11_0 ex n = t11_0 ev L := by
  subst hn
  simp only [c11_0, dCode, dOpers, dDrawn, dAgain, isPanic, cond_false]
  rw [p11_1 ev L _ _ rfl]
  rw [p11_2 ev L _ (by first | rfl | exact hx0)]
  kernel_rfl
def t11_13 : K0 := fun T H => j11_13 ev L (getS 0 T) (getS 23 T) H
theorem p11_13 (ex : Nat → K0) (n : K0) (hn : n = t11_0 ev L) : dCode noG ev (finR noG c11r) L c11_13 ex n = t11_13 ev L := by
  subst hn
  simp only [c11_13, dCode, dOpers]
  kernel_rfl
def t11_19 : K0 := fun T H => j11_19 ev L (getS 0 T) (getS 20 T) (getS 22 T) H
theorem p11_19 (n : K0) (hn : n = t11_13 ev L) : dOpers noG ev o11_14_11 n = t11_19 ev L := by
  subst hn
  simp only [o11_14_11, dOpers]
  kernel_rfl
def t11_18 : K0 := fun T H => j11_18 ev L (getS 0 T) (getS 20 T) (getS 21 T) H
theorem p11_18 (n : K0) (hn : n = t11_13 ev L) : dOpers noG ev o11_14_10 n = t11_18 ev L := by
  subst hn
  simp only [o11_14_10, dOpers]
  rw [p11_19 ev L _ rfl]
  kernel_rfl
def t11_17 : K0 := fun T H => j11_17 ev L (getS 0 T) (getS 15 T) (getS 18 T) H
theorem p11_17 (n : K0) (hn : n = t11_13 ev L) : dOpers noG ev o11_14_7 n = t11_17 ev L := by
  subst hn
  simp only [o11_14_7, dOpers]
  rw [p11_18 ev L _ rfl]
  kernel_rfl
def t11_16 : K0 := fun T H => j11_16 ev L (getS 0 T) (getS 15 T) (getS 17 T) H
theorem p11_16 (n : K0) (hn : n = t11_13 ev L) : dOpers noG ev o11_14_6 n = t11_16 ev L := by
  subst hn
  simp only [o11_14_6, dOpers]
  rw [p11_17 ev L _ rfl]
  kernel_rfl
def t11_15 : K0 := fun T H => j11_15 ev L (getS 0 T) (getS 15 T) (getS 16 T) H
theorem p11_15 (n : K0) (hn : n = t11_13 ev L) : dOpers noG ev o11_14_5 n = t11_15 ev L := by
  subst hn
  simp only [o11_14_5, dOpers]
  rw [p11_16 ev L _ rfl]
  kernel_rfl
theorem e11 (args : List AV) (H : Heap) : Lq (q11 ev L args H) (dRun noG c11 ev L args H) := by
  unfold q11
  split
  · refine .inr ?_
    rename_i t0
    show _ = ob (argsTm [t0]) fun T => dCode noG ev (finR noG c11r) L c11b (fun _ => pFail) (finR noG c11r) T H
    simp only [c11b, dCode, dOpers, dDrawn, dAgain, isPanic, cond_false]
    rw [p11_0 ev L _ _ rfl]
    rw [p11_13 ev L _ _ rfl]
    rw [p11_15 ev L _ rfl]
    kernel_rfl
  · exact .inl rfl
theorem e12 (args : List AV) (H : Heap) : Lq (q12 ev L args H) (dRun noG c12 ev L args H) := by
  unfold q12
  split
  · refine .inr ?_
    rename_i t0 t1
    show _ = ob (argsTm [t0, t1]) fun T => dCode noG ev (finR noG c12r) L c12b (fun _ => pFail) (finR noG c12r) T H
    simp only [c12b, dCode, dOpers]
    kernel_rfl
  · exact .inl rfl
def t13_1 : K0 := fun T H => j13_1 ev L (getS 6 T) H
theorem p13_1 (ex : Nat → K0) (n : K0) (hn : n = finR noG c13r) : dCode noG ev (finR noG c13r) L c13_1 ex n = t13_1 ev L := by
  subst hn
  simp only [c13_1, dCode, dOpers]
  kernel_rfl
def s13_2 (k2 : AV → AV → AV → AV → AV → AV → Heap → CR) : K0 := fun T H => k2 (getS 0 T) (getS 1 T) (getS 6 T) (getS 7 T) (getS 8 T) (getS 9 T) H
def t13_4 (k2 : AV → AV → AV → AV → AV → AV → Heap → CR) : K0 := fun T H => j13_4 ev L k2 (getS 0 T) (getS 1 T) (getS 6 T) (getS 7 T) (getS 8 T) (getS 9 T) H
theorem p13_4 (k2 : AV → AV → AV → AV → AV → AV → Heap → CR) (ex : Nat → K0) (n : K0) (hn : n = s13_2 k2) : dCode noG ev (finR noG c13r) L c13_4 ex n = t13_4 ev L k2 := by
  subst hn
  simp only [c13_4, dCode, dOpers]
  kernel_rfl
def t13_7 (k2 : AV → AV → AV → AV → AV → AV → Heap → CR) : K0 := fun T H => j13_7 ev L k2 (getS 0 T) (getS 1 T) (getS 6 T) (getS 7 T) (getS 8 T) (getS 9 T) (getS 10 T) (getS 16 T) H
theorem p13_7 (k2 : AV → AV → AV → AV → AV → AV → Heap → CR) (ex : Nat → K0) (n : K0) (hn : n = t13_4 ev L k2) : dCode noG ev (finR noG c13r) L c13_7 ex n = t13_7 ev L k2 := by
  subst hn
  simp only [c13_7, dCode, dOpers, dDrawn, dAgain, isPanic, cond_false]
  kernel_rfl
def t13_6 (k2 : AV → AV → AV → AV → AV → AV → Heap → CR) : K0 := fun T H => j13_6 ev L k2 (getS 0 T) (getS 1 T) (getS 6 T) (getS 7 T) (getS 8 T) (getS 9 T) (getS 10 T) H
theorem p13_6 (k2 : AV → AV → AV → AV → AV → AV → Heap → CR) (ex : Nat → K0) (n : K0) (hn : n = t13_4 ev L k2) : dCode noG ev (finR noG c13r) L c13_6 ex n = t13_6 ev L k2 := by
  subst hn
  simp only [c13_6, dCode, dOpers, dDrawn, dAgain, isPanic, cond_false]
  rw [p13_7 ev L k2 _ _ rfl]
  kernel_rfl
def s13_10 (k10 : AV → AV → AV → AV → AV → AV → AV → AV → AV → AV → Heap → CR) : K0 := fun T H => k10 (getS 0 T) (getS 1 T) (getS 6 T) (getS 7 T) (getS 8 T) (getS 9 T) (getS 10 T) (getS 55 T) (getS 56 T) (getS 57 T) H
def t13_12 (k2 : AV → AV → AV → AV → AV → AV → Heap → CR) (k10 : AV → AV → AV → AV → AV → AV → AV → AV → AV → AV → Heap → CR) : K0 := fun T H => j13_12 ev L k2 k10 (getS 0 T) (getS 1 T) (getS 6 T) (getS 7 T) (getS 8 T) (getS 9 T) (getS 10 T) (getS 55 T) (getS 56 T) (getS 57 T) H
theorem p13_12 (k2 : AV → AV → AV → AV → AV → AV → Heap → CR) (k10 : AV → AV → AV → AV → AV → AV → AV → AV → AV → AV → Heap → CR) (ex : Nat → K0) (n : K0) (hn : n = s13_10 k10) : dCode noG ev (finR noG c13r) L c13_12 ex n = t13_12 ev L k2 k10 := by
  subst hn
  simp only [c13_12, dCode, dOpers]
  kernel_rfl
def t13_15 (k2 : AV → AV → AV → AV → AV → AV → Heap → CR) (k10 : AV → AV → AV → AV → AV → AV → AV → AV → AV → AV → Heap → CR) : K0 := fun T H => j13_15 ev L k2 k10 (getS 0 T) (getS 1 T) (getS 6 T) (getS 7 T) (getS 8 T) (getS 9 T) (getS 10 T) (getS 11 T) (getS 14 T) (getS 55 T) (getS 56 T) (getS 57 T) H
theorem p13_15 (k2 : AV → AV → AV → AV → AV → AV → Heap → CR) (k10 : AV → AV → AV → AV → AV → AV → AV → AV → AV → AV → Heap → CR) (ex : Nat → K0) (n : K0) (hn : n = t13_12 ev L k2 k10) : dCode noG ev (finR noG c13r) L c13_15 ex n = t13_15 ev L k2 k10 := by
  subst hn
  simp only [c13_15, dCode, dOpers]
  kernel_rfl
def t13_14 (k2 : AV → AV → AV → AV → AV → AV → Heap → CR) (k10 : AV → AV → AV → AV → AV → AV → AV → AV → AV → AV → Heap → CR) : K0 := fun T H => j13_14 ev L k2 k10 (getS 0 T) (getS 1 T) (getS 6 T) (getS 7 T) (getS 8 T) (getS 9 T) (getS 10 T) (getS 11 T) (getS 13 T) (getS 55 T) (getS 56 T) (getS 57 T) H
theorem p13_14 (k2 : AV → AV → AV → AV → AV → AV → Heap → CR) (k10 : AV → AV → AV → AV → AV → AV → AV → AV → AV → AV → Heap → CR) (ex : Nat → K0) (n : K0) (hn : n = t13_12 ev L k2 k10) : dCode noG ev (finR noG c13r) L c13_14 ex n = t13_14 ev L k2 k10 := by
  subst hn
  simp only [c13_14, dCode, dOpers]
  rw [p13_15 ev L k2 k10 _ _ rfl]
  kernel_rfl
def t13_11 (k2 : AV → AV → AV → AV → AV → AV → Heap → CR) (k10 : AV → AV → AV → AV → AV → AV → AV → AV → AV → AV → Heap → CR) : K0 := fun T H => j13_11 ev L k2 k10 (getS 0 T) (getS 1 T) (getS 6 T) (getS 7 T) (getS 8 T) (getS 9 T) (getS 10 T) (getS 55 T) (getS 56 T) (getS 57 T) H
theorem p13_11 (k2 : AV → AV → AV → AV → AV → AV → Heap → CR) (k10 : AV → AV → AV → AV → AV → AV → AV → AV → AV → AV → Heap → CR) (ex : Nat → K0) (n : K0) (hn : n = s13_10 k10) : dCode noG ev (finR noG c13r) L c13_11 ex n = t13_11 ev L k2 k10 := by
  subst hn
  simp only [c13_11, dCode, dOpers, dDrawn, dAgain, isPanic, cond_false]
  rw [p13_12 ev L k2 k10 _ _ rfl]
  rw [p13_14 ev L k2 k10 _ _ rfl]
  kernel_rfl
theorem b13_10 (k2 : AV → AV → AV → AV → AV → AV → Heap → CR) (k10 : AV → AV → AV → AV → AV → AV → AV → AV → AV → AV → Heap → CR) (ex : Nat → K0) (n : K0) (hn : n = s13_10 k10) (hx2 : ex 2 = t13_6 ev L k2) : dCode noG ev (finR noG c13r) L c13_10 ex n = fun T H => j13_10 ev L k2 k10 (getS 0 T) (getS 1 T) (getS 6 T) (getS 7 T) (getS 8 T) (getS 9 T) (getS 10 T) (getS 55 T) (getS 56 T) (getS 57 T) H := by
  subst hn
  simp only [c13_10, dCode, dOpers, dDrawn, dAgain, isPanic, cond_false]
  rw [p13_11 ev L k2 k10 _ _ rfl]
  try rw [hx2]
  kernel_rfl
theorem p13_10 (k2 : AV → AV → AV → AV → AV → AV → Heap → CR) (ex : Nat → K0) (hx2 : ex 2 = t13_6 ev L k2) : ∀ m, pLoop (fun n => dCode noG ev (finR noG c13r) L c13_10 ex n) m = s13_10 (l13_10 ev L k2 m) := by
  intro m
  induction m with
  | zero => kernel_rfl
  | succ m ih =>
    show dCode noG ev (finR noG c13r) L c13_10 ex (pLoop (fun n => dCode noG ev (finR noG c13r) L c13_10 ex n) m) = _
    rw [ih, b13_10 ev L k2 (l13_10 ev L k2 m) ex _ rfl hx2]
    kernel_rfl
def t13_3 (k2 : AV → AV → AV → AV → AV → AV → Heap → CR) : K0 := fun T H => j13_3 ev L k2 (getS 0 T) (getS 1 T) (getS 6 T) (getS 7 T) (getS 8 T) (getS 9 T) H
theorem p13_3 (k2 : AV → AV → AV → AV → AV → AV → Heap → CR) (ex : Nat → K0) (n : K0) (hn : n = s13_2 k2) : dCode noG ev (finR noG c13r) L c13_3 ex n = t13_3 ev L k2 := by
  subst hn
  simp only [c13_3, dCode, dOpers, dDrawn, dAgain, isPanic, cond_false]
  rw [p13_4 ev L k2 _ _ rfl]
  rw [p13_6 ev L k2 _ _ rfl]
  rw [p13_10 ev L k2 _ (by first | rfl | exact hx2)]
  kernel_rfl
theorem b13_2 (k2 : AV → AV → AV → AV → AV → AV → Heap → CR) (ex : Nat → K0) (n : K0) (hn : n = s13_2 k2) (hx0 : ex 0 = t13_1 ev L) : dCode noG ev (finR noG c13r) L c13_2 ex n = fun T H => j13_2 ev L k2 (getS 0 T) (getS 1 T) (getS 6 T) (getS 7 T) (getS 8 T) (getS 9 T) H := by
  subst hn
  simp only [c13_2, dCode, dOpers, dDrawn, dAgain, isPanic, cond_false]
  rw [p13_3 ev L k2 _ _ rfl]
  try rw [hx0]
  kernel_rfl
theorem p13_2 (ex : Nat → K0) (hx0 : ex 0 = t13_1 ev L) : ∀ m, pLoop (fun n => dCode noG ev (finR noG c13r) L c13_2 ex n) m = s13_2 (l13_2 ev L m) := by
  intro m
  induction m with
  | zero => kernel_rfl
  | succ m ih =>
    show dCode noG ev (finR noG c13r) L c13_2 ex (pLoop (fun n => dCode noG ev (finR noG c13r) L c13_2 ex n) m) = _
    rw [ih, b13_2 ev L (l13_2 ev L m) ex _ rfl hx0]
    kernel_rfl
def t13_0 : K0 := fun T H => j13_0 ev L (getS 0 T) (getS 1 T) H
theorem p13_0 (ex : Nat → K0) (n : K0) (hn : n = finR noG c13r) : dCode noG ev (finR noG c13r) L c13_0 ex n = t13_0 ev L := by
  subst hn
  simp only [c13_0, dCode, dOpers, dDrawn, dAgain, isPanic, cond_false]
  rw [p13_1 ev L _ _ rfl]
  rw [p13_2 ev L _ (by first | rfl | exact hx0)]
  kernel_rfl
def t13_17 : K0 := fun T H => j13_17 ev L (getS 0 T) (getS 1 T) (getS 27 T) H
theorem p13_17 (ex : Nat → K0) (n : K0) (hn : n = t13_0 ev L) : dCode noG ev (finR noG c13r) L c13_17 ex n = t13_17 ev L := by
  subst hn
  simp only [c13_17, dCode, dOpers]
  kernel_rfl
def t13_22 : K0 := fun T H => j13_22 ev L (getS 0 T) (getS 1 T) (getS 24 T) (getS 26 T) H
theorem p13_22 (n : K0) (hn : n = t13_17 ev L) : dOpers noG ev o13_18_9 n = t13_22 ev L := by
  subst hn
  simp only [o13_18_9, dOpers]
  kernel_rfl
def t13_21 : K0 := fun T H => j13_21 ev L (getS 0 T) (getS 1 T) (getS 24 T) (getS 25 T) H
theorem p13_21 (n : K0) (hn : n = t13_17 ev L) : dOpers noG ev o13_18_8 n = t13_21 ev L := by
  subst hn
  simp only [o13_18_8, dOpers]
  rw [p13_22 ev L _ rfl]
  kernel_rfl
def t13_20 : K0 := fun T H => j13_20 ev L (getS 0 T) (getS 1 T) (getS 20 T) (getS 22 T) H
theorem p13_20 (n : K0) (hn : n = t13_17 ev L) : dOpers noG ev o13_18_5 n = t13_20 ev L := by
  subst hn
  simp only [o13_18_5, dOpers]
  rw [p13_21 ev L _ rfl]
  kernel_rfl
def t13_19 : K0 := fun T H => j13_19 ev L (getS 0 T) (getS 1 T) (getS 20 T) (getS 21 T) H
theorem p13_19 (n : K0) (hn : n = t13_17 ev L) : dOpers noG ev o13_18_4 n = t13_19 ev L := by
  subst hn
  simp only [o13_18_4, dOpers]
  rw [p13_20 ev L _ rfl]
  kernel_rfl
theorem e13 (args : List AV) (H : Heap) : Lq (q13 ev L args H) (dRun noG c13 ev L args H) := by
  unfold q13
  split
  · refine .inr ?_
    rename_i t0 t1
    show _ = ob (argsTm [t0, t1]) fun T => dCode noG ev (finR noG c13r) L c13b (fun _ => pFail) (finR noG c13r) T H
    simp only [c13b, dCode, dOpers, dDrawn, dAgain, isPanic, cond_false]
    rw [p13_0 ev L _ _ rfl]
    rw [p13_17 ev L _ _ rfl]
    rw [p13_19 ev L _ rfl]
    kernel_rfl
  · exact .inl rfl
theorem e14 (args : List AV) (H : Heap) : Lq (q14 ev L args H) (dRun noG c14 ev L args H) := by
  unfold q14
  split
  · refine .inr ?_
    rename_i t0
    show _ = ob (argsTm [t0]) fun T => dCode noG ev (finR noG c14r) L c14b (fun _ => pFail) (finR noG c14r) T H
    simp only [c14b, dCode, dOpers]
    kernel_rfl
  · exact .inl rfl
def t15_1 : K0 := fun T H => j15_1 ev L (getS 3 T) H
theorem p15_1 (ex : Nat → K0) (n : K0) (hn : n = finR noG c15r) : dCode noG ev (finR noG c15r) L c15_1 ex n = t15_1 ev L := by
  subst hn
  simp only [c15_1, dCode, dOpers]
  kernel_rfl
def s15_2 (k2 : AV → AV → AV → AV → AV → AV → AV → Heap → CR) : K0 := fun T H => k2 (getS 0 T) (getS 3 T) (getS 4 T) (getS 5 T) (getS 6 T) (getS 7 T) (getS 8 T) H
def t15_4 (k2 : AV → AV → AV → AV → AV → AV → AV → Heap → CR) : K0 := fun T H => j15_4 ev L k2 (getS 0 T) (getS 3 T) (getS 4 T) (getS 5 T) (getS 6 T) (getS 7 T) (getS 8 T) H
theorem p15_4 (k2 : AV → AV → AV → AV → AV → AV → AV → Heap → CR) (ex : Nat → K0) (n : K0) (hn : n = s15_2 k2) : dCode noG ev (finR noG c15r) L c15_4 ex n = t15_4 ev L k2 := by
  subst hn
  simp only [c15_4, dCode, dOpers]
  kernel_rfl
def t15_6 (k2 : AV → AV → AV → AV → AV → AV → AV → Heap → CR) : K0 := fun T H => j15_6 ev L k2 (getS 0 T) (getS 3 T) (getS 4 T) (getS 5 T) (getS 6 T) (getS 7 T) (getS 8 T) (getS 9 T) H
theorem p15_6 (k2 : AV → AV → AV → AV → AV → AV → AV → Heap → CR) (ex : Nat → K0) (n : K0) (hn : n = t15_4 ev L k2) : dCode noG ev (finR noG c15r) L c15_6 ex n = t15_6 ev L k2 := by
  subst hn
  simp only [c15_6, dCode, dOpers, dDrawn, dAgain, isPanic, cond_false]
  kernel_rfl
def s15_8 (k8 : AV → AV → AV → AV → AV → AV → AV → AV → AV → AV → Heap → CR) : K0 := fun T H => k8 (getS 0 T) (getS 3 T) (getS 4 T) (getS 5 T) (getS 6 T) (getS 7 T) (getS 8 T) (getS 9 T) (getS 47 T) (getS 48 T) H
def t15_10 (k2 : AV → AV → AV → AV → AV → AV → AV → Heap → CR) (k8 : AV → AV → AV → AV → AV → AV → AV → AV → AV → AV → Heap → CR) : K0 := fun T H => j15_10 ev L k2 k8 (getS 0 T) (getS 3 T) (getS 4 T) (getS 5 T) (getS 6 T) (getS 7 T) (getS 8 T) (getS 9 T) (getS 47 T) (getS 48 T) H
theorem p15_10 (k2 : AV → AV → AV → AV → AV → AV → AV → Heap → CR) (k8 : AV → AV → AV → AV → AV → AV → AV → AV → AV → AV → Heap → CR) (ex : Nat → K0) (n : K0) (hn : n = s15_8 k8) : dCode noG ev (finR noG c15r) L c15_10 ex n = t15_10 ev L k2 k8 := by
  subst hn
  simp only [c15_10, dCode, dOpers]
  kernel_rfl
def t15_13 (k2 : AV → AV → AV → AV → AV → AV → AV → Heap → CR) (k8 : AV → AV → AV → AV → AV → AV → AV → AV → AV → AV → Heap → CR) : K0 := fun T H => j15_13 ev L k2 k8 (getS 0 T) (getS 3 T) (getS 4 T) (getS 5 T) (getS 6 T) (getS 7 T) (getS 8 T) (getS 9 T) (getS 10 T) (getS 12 T) (getS 47 T) (getS 48 T) H
theorem p15_13 (k2 : AV → AV → AV → AV → AV → AV → AV → Heap → CR) (k8 : AV → AV → AV → AV → AV → AV → AV → AV → AV → AV → Heap → CR) (ex : Nat → K0) (n : K0) (hn : n = t15_10 ev L k2 k8) : dCode noG ev (finR noG c15r) L c15_13 ex n = t15_13 ev L k2 k8 := by
  subst hn
  simp only [c15_13, dCode, dOpers]
  kernel_rfl
def t15_12 (k2 : AV → AV → AV → AV → AV → AV → AV → Heap → CR) (k8 : AV → AV → AV → AV → AV → AV → AV → AV → AV → AV → Heap → CR) : K0 := fun T H => j15_12 ev L k2 k8 (getS 0 T) (getS 3 T) (getS 4 T) (getS 5 T) (getS 6 T) (getS 7 T) (getS 8 T) (getS 9 T) (getS 10 T) (getS 11 T) (getS 47 T) (getS 48 T) H
theorem p15_12 (k2 : AV → AV → AV → AV → AV → AV → AV → Heap → CR) (k8 : AV → AV → AV → AV → AV → AV → AV → AV → AV → AV → Heap → CR) (ex : Nat → K0) (n : K0) (hn : n = t15_10 ev L k2 k8) : dCode noG ev (finR noG c15r) L c15_12 ex n = t15_12 ev L k2 k8 := by
  subst hn
  simp only [c15_12, dCode, dOpers]
  rw [p15_13 ev L k2 k8 _ _ rfl]
  kernel_rfl
def t15_16 (k2 : AV → AV → AV → AV → AV → AV → AV → Heap → CR) (k8 : AV → AV → AV → AV → AV → AV → AV → AV → AV → AV → Heap → CR) : K0 := fun T H => j15_16 ev L k2 k8 (getS 0 T) (getS 3 T) (getS 4 T) (getS 5 T) (getS 6 T) (getS 7 T) (getS 8 T) (getS 9 T) (getS 10 T) (getS 11 T) (getS 47 T) (getS 48 T) (getS 69 T) H
theorem p15_16 (k2 : AV → AV → AV → AV → AV → AV → AV → Heap → CR) (k8 : AV → AV → AV → AV → AV → AV → AV → AV → AV → AV → Heap → CR) (ex : Nat → K0) (n : K0) (hn : n = t15_12 ev L k2 k8) (hx3 : ex 3 = t15_10 ev L k2 k8) : dCode noG ev (finR noG c15r) L c15_16 ex n = t15_16 ev L k2 k8 := by
  subst hn
  simp only [c15_16, dCode, dOpers]
  try rw [hx3]
  kernel_rfl
def t15_22 (k2 : AV → AV → AV → AV → AV → AV → AV → Heap → CR) (k8 : AV → AV → AV → AV → AV → AV → AV → AV → AV → AV → Heap → CR) : K0 := fun T H => j15_22 ev L k2 k8 (getS 0 T) (getS 3 T) (getS 4 T) (getS 5 T) (getS 6 T) (getS 7 T) (getS 8 T) (getS 9 T) (getS 10 T) (getS 11 T) (getS 47 T) (getS 48 T) (getS 63 T) (getS 68 T) H
theorem p15_22 (k2 : AV → AV → AV → AV → AV → AV → AV → Heap → CR) (k8 : AV → AV → AV → AV → AV → AV → AV → AV → AV → AV → Heap → CR) (n : K0) (hn : n = t15_16 ev L k2 k8) : dOpers noG ev o15_17_8 n = t15_22 ev L k2 k8 := by
  subst hn
  simp only [o15_17_8, dOpers]
  kernel_rfl
def t15_21 (k2 : AV → AV → AV → AV → AV → AV → AV → Heap → CR) (k8 : AV → AV → AV → AV → AV → AV → AV → AV → AV → AV → Heap → CR) : K0 := fun T H => j15_21 ev L k2 k8 (getS 0 T) (getS 3 T) (getS 4 T) (getS 5 T) (getS 6 T) (getS 7 T) (getS 8 T) (getS 9 T) (getS 10 T) (getS 11 T) (getS 47 T) (getS 48 T) (getS 63 T) (getS 67 T) H
theorem p15_21 (k2 : AV → AV → AV → AV → AV → AV → AV → Heap → CR) (k8 : AV → AV → AV → AV → AV → AV → AV → AV → AV → AV → Heap → CR) (n : K0) (hn : n = t15_16 ev L k2 k8) : dOpers noG ev o15_17_7 n = t15_21 ev L k2 k8 := by
  subst hn
  simp only [o15_17_7, dOpers]
  rw [p15_22 ev L k2 k8 _ rfl]
  kernel_rfl
def t15_20 (k2 : AV → AV → AV → AV → AV → AV → AV → Heap → CR) (k8 : AV → AV → AV → AV → AV → AV → AV → AV → AV → AV → Heap → CR) : K0 := fun T H => j15_20 ev L k2 k8 (getS 0 T) (getS 3 T) (getS 4 T) (getS 5 T) (getS 6 T) (getS 7 T) (getS 8 T) (getS 9 T) (getS 10 T) (getS 11 T) (getS 47 T) (getS 48 T) (getS 63 T) (getS 66 T) H
theorem p15_20 (k2 : AV → AV → AV → AV → AV → AV → AV → Heap → CR) (k8 : AV → AV → AV → AV → AV → AV → AV → AV → AV → AV → Heap → CR) (n : K0) (hn : n = t15_16 ev L k2 k8) : dOpers noG ev o15_17_6 n = t15_20 ev L k2 k8 := by
  subst hn
  simp only [o15_17_6, dOpers]
  rw [p15_21 ev L k2 k8 _ rfl]
  kernel_rfl
def t15_19 (k2 : AV → AV → AV → AV → AV → AV → AV → Heap → CR) (k8 : AV → AV → AV → AV → AV → AV → AV → AV → AV → AV → Heap → CR) : K0 := fun T H => j15_19 ev L k2 k8 (getS 0 T) (getS 3 T) (getS 4 T) (getS 5 T) (getS 6 T) (getS 7 T) (getS 8 T) (getS 9 T) (getS 10 T) (getS 11 T) (getS 47 T) (getS 48 T) (getS 63 T) (getS 64 T) (getS 65 T) H
theorem p15_19 (k2 : AV → AV → AV → AV → AV → AV → AV → Heap → CR) (k8 : AV → AV → AV → AV → AV → AV → AV → AV → AV → AV → Heap → CR) (n : K0) (hn : n = t15_16 ev L k2 k8) : dOpers noG ev o15_17_5 n = t15_19 ev L k2 k8 := by
  subst hn
  simp only [o15_17_5, dOpers]
  rw [p15_20 ev L k2 k8 _ rfl]
  kernel_rfl
def t15_18 (k2 : AV → AV → AV → AV → AV → AV → AV → Heap → CR) (k8 : AV → AV → AV → AV → AV → AV → AV → AV → AV → AV → Heap → CR) : K0 := fun T H => j15_18 ev L k2 k8 (getS 0 T) (getS 3 T) (getS 4 T) (getS 5 T) (getS 6 T) (getS 7 T) (getS 8 T) (getS 9 T) (getS 10 T) (getS 11 T) (getS 47 T) (getS 48 T) (getS 63 T) (getS 64 T) H
theorem p15_18 (k2 : AV → AV → AV → AV → AV → AV → AV → Heap → CR) (k8 : AV → AV → AV → AV → AV → AV → AV → AV → AV → AV → Heap → CR) (n : K0) (hn : n = t15_16 ev L k2 k8) : dOpers noG ev o15_17_4 n = t15_18 ev L k2 k8 := by
  subst hn
  simp only [o15_17_4, dOpers]
  rw [p15_19 ev L k2 k8 _ rfl]
  kernel_rfl
def t15_9 (k2 : AV → AV → AV → AV → AV → AV → AV → Heap → CR) (k8 : AV → AV → AV → AV → AV → AV → AV → AV → AV → AV → Heap → CR) : K0 := fun T H => j15_9 ev L k2 k8 (getS 0 T) (getS 3 T) (getS 4 T) (getS 5 T) (getS 6 T) (getS 7 T) (getS 8 T) (getS 9 T) (getS 47 T) (getS 48 T) H
theorem p15_9 (k2 : AV → AV → AV → AV → AV → AV → AV → Heap → CR) (k8 : AV → AV → AV → AV → AV → AV → AV → AV → AV → AV → Heap → CR) (ex : Nat → K0) (n : K0) (hn : n = s15_8 k8) : dCode noG ev (finR noG c15r) L c15_9 ex n = t15_9 ev L k2 k8 := by
  subst hn
  simp only [c15_9, dCode, dOpers]
  rw [p15_10 ev L k2 k8 _ _ rfl]
  rw [p15_12 ev L k2 k8 _ _ rfl]
  rw [p15_16 ev L k2 k8 _ _ rfl (by first | rfl | exact hx3)]
  rw [p15_18 ev L k2 k8 _ rfl]
  kernel_rfl
theorem b15_8 (k2 : AV → AV → AV → AV → AV → AV → AV → Heap → CR) (k8 : AV → AV → AV → AV → AV → AV → AV → AV → AV → AV → Heap → CR) (ex : Nat → K0) (n : K0) (hn : n = s15_8 k8) (hx2 : ex 2 = t15_6 ev L k2) : dCode noG ev (finR noG c15r) L c15_8 ex n = fun T H => j15_8 ev L k2 k8 (getS 0 T) (getS 3 T) (getS 4 T) (getS 5 T) (getS 6 T) (getS 7 T) (getS 8 T) (getS 9 T) (getS 47 T) (getS 48 T) H := by
  subst hn
  simp only [c15_8, dCode, dOpers]
  rw [p15_9 ev L k2 k8 _ _ rfl]
  try rw [hx2]
  kernel_rfl
theorem p15_8 (k2 : AV → AV → AV → AV → AV → AV → AV → Heap → CR) (ex : Nat → K0) (hx2 : ex 2 = t15_6 ev L k2) : ∀ m, pLoop (fun n => dCode noG ev (finR noG c15r) L c15_8 ex n) m = s15_8 (l15_8 ev L k2 m) := by
  intro m
  induction m with
  | zero => kernel_rfl
  | succ m ih =>
    show dCode noG ev (finR noG c15r) L c15_8 ex (pLoop (fun n => dCode noG ev (finR noG c15r) L c15_8 ex n) m) = _
    rw [ih, b15_8 ev L k2 (l15_8 ev L k2 m) ex _ rfl hx2]
    kernel_rfl
def t15_3 (k2 : AV → AV → AV → AV → AV → AV → AV → Heap → CR) : K0 := fun T H => j15_3 ev L k2 (getS 0 T) (getS 3 T) (getS 4 T) (getS 5 T) (getS 6 T) (getS 7 T) (getS 8 T) H
theorem p15_3 (k2 : AV → AV → AV → AV → AV → AV → AV → Heap → CR) (ex : Nat → K0) (n : K0) (hn : n = s15_2 k2) : dCode noG ev (finR noG c15r) L c15_3 ex n = t15_3 ev L k2 := by
  subst hn
  simp only [c15_3, dCode, dOpers, dDrawn, dAgain, isPanic, cond_false]
  rw [p15_4 ev L k2 _ _ rfl]
  rw [p15_6 ev L k2 _ _ rfl]
  rw [p15_8 ev L k2 _ (by first | rfl | exact hx2)]
  kernel_rfl
theorem b15_2 (k2 : AV → AV → AV → AV → AV → AV → AV → Heap → CR) (ex : Nat → K0) (n : K0) (hn : n = s15_2 k2) (hx0 : ex 0 = t15_1 ev L) : dCode noG ev (finR noG c15r) L c15_2 ex n = fun T H => j15_2 ev L k2 (getS 0 T) (getS 3 T) (getS 4 T) (getS 5 T) (getS 6 T) (getS 7 T) (getS 8 T) H := by
  subst hn
  simp only [c15_2, dCode, dOpers, dDrawn, dAgain, isPanic, cond_false]
  rw [p15_3 ev L k2 _ _ rfl]
  try rw [hx0]
  kernel_rfl
theorem p15_2 (ex : Nat → K0) (hx0 : ex 0 = t15_1 ev L) : ∀ m, pLoop (fun n => dCode noG ev (finR noG c15r) L c15_2 ex n) m = s15_2 (l15_2 ev L m) := by
  intro m
  induction m with
  | zero => kernel_rfl
  | succ m ih =>
    show dCode noG ev (finR noG c15r) L c15_2 ex (pLoop (fun n => dCode noG ev (finR noG c15r) L c15_2 ex n) m) = _
    rw [ih, b15_2 ev L (l15_2 ev L m) ex _ rfl hx0]
    kernel_rfl
def t15_0 : K0 := fun T H => j15_0 ev L (getS 0 T) H
theorem p15_0 (ex : Nat → K0) (n : K0) (hn : n = finR noG c15r) : dCode noG ev (finR noG c15r) L c15_0 ex n = t15_0 ev L := by
  subst hn
  simp only [c15_0, dCode, dOpers, dDrawn, dAgain, isPanic, cond_false]
  rw [p15_1 ev L _ _ rfl]
  rw [p15_2 ev L _ (by first | rfl | exact hx0)]
  kernel_rfl
theorem e15 (args : List AV) (H : Heap) : Lq (q15 ev L args H) (dRun noG c15 ev L args H) := by
  unfold q15
  split
  · refine .inr ?_
    rename_i t0
    show _ = ob (argsTm [t0]) fun T => dCode noG ev (finR noG c15r) L c15b (fun _ => pFail) (finR noG c15r) T H
    simp only [c15b, dCode, dOpers, dDrawn, dAgain, isPanic, cond_false]
    rw [p15_0 ev L _ _ rfl]
    kernel_rfl
  · exact .inl rfl
theorem e16 (args : List AV) (H : Heap) : Lq (q16 ev L args H) (dRun noG c16 ev L args H) := by
  unfold q16
  split
  · refine .inr ?_
    rename_i t0
    show _ = ob (argsTm [t0]) fun T => dCode noG ev (finR noG c16r) L c16b (fun _ => pFail) (finR noG c16r) T H
    simp only [c16b, dCode, dOpers]
    kernel_rfl
  · exact .inl rfl
theorem e17 (args : List AV) (H : Heap) : Lq (q17 ev L args H) (dRun noG c17 ev L args H) := by
  unfold q17
  split
  · refine .inr ?_
    rename_i t0 t1 t2
    show _ = ob (argsTm [t0, t1, t2]) fun T => dCode noG ev (finR noG c17r) L c17b (fun _ => pFail) (finR noG c17r) T H
    simp only [c17b, dCode, dOpers]
    kernel_rfl
  · exact .inl rfl
def t18_0 : K0 := fun T H => j18_0 ev L (getS 1 T) (getS 2 T) (getS 6 T) (getS 8 T) H
theorem p18_0 (ex : Nat → K0) (n : K0) (hn : n = finR noG c18r) : dCode noG ev (finR noG c18r) L c18_0 ex n = t18_0 ev L := by
  subst hn
  simp only [c18_0, dCode, dOpers]
  kernel_rfl
def t18_1 : K0 := fun T H => j18_1 ev L (getS 1 T) (getS 2 T) (getS 6 T) (getS 8 T) (getS 25 T) H
theorem p18_1 (ex : Nat → K0) (n : K0) (hn : n = t18_0 ev L) : dCode noG ev (finR noG c18r) L c18_1 ex n = t18_1 ev L := by
  subst hn
  simp only [c18_1, dCode, dOpers]
  kernel_rfl
def t18_4 : K0 := fun T H => j18_4 ev L (getS 1 T) (getS 2 T) (getS 6 T) (getS 8 T) (getS 22 T) (getS 24 T) H
theorem p18_4 (n : K0) (hn : n = t18_1 ev L) : dOpers noG ev o18_2_5 n = t18_4 ev L := by
  subst hn
  simp only [o18_2_5, dOpers]
  kernel_rfl
def t18_3 : K0 := fun T H => j18_3 ev L (getS 1 T) (getS 2 T) (getS 6 T) (getS 8 T) (getS 22 T) (getS 23 T) H
theorem p18_3 (n : K0) (hn : n = t18_1 ev L) : dOpers noG ev o18_2_4 n = t18_3 ev L := by
  subst hn
  simp only [o18_2_4, dOpers]
  rw [p18_4 ev L _ rfl]
  kernel_rfl
theorem e18 (args : List AV) (H : Heap) : Lq (q18 ev L args H) (dRun noG c18 ev L args H) := by
  unfold q18
  split
  · refine .inr ?_
    rename_i t0 t1 t2
    show _ = ob (argsTm [t0, t1, t2]) fun T => dCode noG ev (finR noG c18r) L c18b (fun _ => pFail) (finR noG c18r) T H
    simp only [c18b, dCode, dOpers]
    rw [p18_0 ev L _ _ rfl]
    rw [p18_1 ev L _ _ rfl]
    rw [p18_3 ev L _ rfl]
    kernel_rfl
  · exact .inl rfl
theorem e19 (args : List AV) (H : Heap) : Lq (q19 ev L args H) (dRun noG c19 ev L args H) := by
  unfold q19
  split
  · refine .inr ?_
    rename_i t0 t1 t2
    show _ = ob (argsTm [t0, t1, t2]) fun T => dCode noG ev (finR noG c19r) L c19b (fun _ => pFail) (finR noG c19r) T H
    simp only [c19b, dCode, dOpers]
    kernel_rfl
  · exact .inl rfl
theorem e21 (args : List AV) (H : Heap) : Lq (q21 ev L args H) (dRun noG c21 ev L args H) := by
  unfold q21
  split
  · refine .inr ?_
    rename_i t0 t1
    show _ = ob (argsTm [t0, t1]) fun T => dCode noG ev (finR noG c21r) L c21b (fun _ => pFail) (finR noG c21r) T H
    simp only [c21b, dCode, dOpers]
    kernel_rfl
  · exact .inl rfl
theorem e22 (args : List AV) (H : Heap) : Lq (q22 ev L args H) (dRun noG c22 ev L args H) := by
  unfold q22
  split
  · refine .inr ?_
    rename_i t0
    show _ = ob (argsTm [t0]) fun T => dCode noG ev (finR noG c22r) L c22b (fun _ => pFail) (finR noG c22r) T H
    simp only [c22b, dCode, dOpers]
    kernel_rfl
  · exact .inl rfl
def t23_0 : K0 := fun T H => j23_0 ev L (getS 2 T) H
theorem p23_0 (ex : Nat → K0) (n : K0) (hn : n = finR noG c23r) : dCode noG ev (finR noG c23r) L c23_0 ex n = t23_0 ev L := by
  subst hn
  simp only [c23_0, dCode, dOpers]
  kernel_rfl
def t23_3 : K0 := fun T H => j23_3 ev L (getS 5 T) (getS 7 T) H
theorem p23_3 (n : K0) (hn : n = t23_0 ev L) : dOpers noG ev o23_1_5 n = t23_3 ev L := by
  subst hn
  simp only [o23_1_5, dOpers]
  kernel_rfl
def t23_2 : K0 := fun T H => j23_2 ev L (getS 5 T) (getS 6 T) H
theorem p23_2 (n : K0) (hn : n = t23_0 ev L) : dOpers noG ev o23_1_4 n = t23_2 ev L := by
  subst hn
  simp only [o23_1_4, dOpers]
  rw [p23_3 ev L _ rfl]
  kernel_rfl
theorem e23 (args : List AV) (H : Heap) : Lq (q23 ev L args H) (dRun noG c23 ev L args H) := by
  unfold q23
  split
  · refine .inr ?_
    rename_i t0
    show _ = ob (argsTm [t0]) fun T => dCode noG ev (finR noG c23r) L c23b (fun _ => pFail) (finR noG c23r) T H
    simp only [c23b, dCode, dOpers]
    rw [p23_0 ev L _ _ rfl]
    rw [p23_2 ev L _ rfl]
    kernel_rfl
  · exact .inl rfl
def s24_0 (k0 : AV → AV → AV → AV → AV → Heap → CR) : K0 := fun T H => k0 (getS 1 T) (getS 2 T) (getS 7 T) (getS 8 T) (getS 9 T) H
def t24_2 (k0 : AV → AV → AV → AV → AV → Heap → CR) : K0 := fun T H => j24_2 ev L k0 (getS 1 T) (getS 2 T) (getS 7 T) (getS 8 T) (getS 9 T) H
theorem p24_2 (k0 : AV → AV → AV → AV → AV → Heap → CR) (ex : Nat → K0) (n : K0) (hn : n = s24_0 k0) : dCode noG ev (finR noG c24r) L c24_2 ex n = t24_2 ev L k0 := by
  subst hn
  simp only [c24_2, dCode, dOpers]
  kernel_rfl
def t24_1 (k0 : AV → AV → AV → AV → AV → Heap → CR) : K0 := fun T H => j24_1 ev L k0 (getS 1 T) (getS 2 T) (getS 7 T) (getS 8 T) (getS 9 T) H
theorem p24_1 (k0 : AV → AV → AV → AV → AV → Heap → CR) (ex : Nat → K0) (n : K0) (hn : n = s24_0 k0) : dCode noG ev (finR noG c24r) L c24_1 ex n = t24_1 ev L k0 := by
  subst hn
  simp only [c24_1, dCode, dOpers, dDrawn, dAgain, isPanic, cond_false]
  rw [p24_2 ev L k0 _ _ rfl]
  kernel_rfl
theorem b24_0 (k0 : AV → AV → AV → AV → AV → Heap → CR) (ex : Nat → K0) (n : K0) (hn : n = s24_0 k0) (hx0 : ex 0 = finR noG c24r) : dCode noG ev (finR noG c24r) L c24_0 ex n = fun T H => j24_0 ev L k0 (getS 1 T) (getS 2 T) (getS 7 T) (getS 8 T) (getS 9 T) H := by
  subst hn
  simp only [c24_0, dCode, dOpers, dDrawn, dAgain, isPanic, cond_false]
  rw [p24_1 ev L k0 _ _ rfl]
  try rw [hx0]
  kernel_rfl
theorem p24_0 (ex : Nat → K0) (hx0 : ex 0 = finR noG c24r) : ∀ m, pLoop (fun n => dCode noG ev (finR noG c24r) L c24_0 ex n) m = s24_0 (l24_0 ev L m) := by
  intro m
  induction m with
  | zero => kernel_rfl
  | succ m ih =>
    show dCode noG ev (finR noG c24r) L c24_0 ex (pLoop (fun n => dCode noG ev (finR noG c24r) L c24_0 ex n) m) = _
    rw [ih, b24_0 ev L (l24_0 ev L m) ex _ rfl hx0]
    kernel_rfl
theorem e24 (args : List AV) (H : Heap) : Lq (q24 ev L args H) (dRun noG c24 ev L args H) := by
  unfold q24
  split
  · refine .inr ?_
    rename_i t0 t1 t2
    show _ = ob (argsTm [t0, t1, t2]) fun T => dCode noG ev (finR noG c24r) L c24b (fun _ => pFail) (finR noG c24r) T H
    simp only [c24b, dCode, dOpers, dDrawn, dAgain, isPanic, cond_false]
    rw [p24_0 ev L _ (by first | rfl | exact hx0)]
    kernel_rfl
  · exact .inl rfl
theorem e25 (args : List AV) (H : Heap) : Lq (q25 ev L args H) (dRun noG c25 ev L args H) := by
  unfold q25
  split
  · refine .inr ?_
    rename_i t0 t1
    show _ = ob (argsTm [t0, t1]) fun T => dCode noG ev (finR noG c25r) L c25b (fun _ => pFail) (finR noG c25r) T H
    simp only [c25b, dCode, dOpers]
    kernel_rfl
  · exact .inl rfl
end
end Go.AM.Ly
set_option maxRecDepth 100000
namespace Go.AM.Ly
open Go
noncomputable section
variable (ev : Ev) (L : Nat)
def t26_1 : K0 := fun T H => j26_1 ev L (getS 4 T) (getS 5 T) H
theorem p26_1 (ex : Nat → K0) (n : K0) (hn : n = finR noG c26r) : dCode noG ev (finR noG c26r) L c26_1 ex n = t26_1 ev L := by
  subst hn
  simp only [c26_1, dCode, dOpers]
  kernel_rfl
def t26_4 : K0 := fun T H => j26_4 ev L (getS 5 T) (getS 12 T) H
theorem p26_4 (ex : Nat → K0) (n : K0) (hn : n = t26_1 ev L) : dCode noG ev (finR noG c26r) L c26_4 ex n = t26_4 ev L := by
  subst hn
  simp only [c26_4, dCode, dOpers]
  kernel_rfl
def t26_3 : K0 := fun T H => j26_3 ev L (getS 5 T) (getS 10 T) (getS 11 T) (getS 12 T) H
theorem p26_3 (ex : Nat → K0) (n : K0) (hn : n = t26_1 ev L) : dCode noG ev (finR noG c26r) L c26_3 ex n = t26_3 ev L := by
  subst hn
  simp only [c26_3, dCode, dOpers]
  rw [p26_4 ev L _ _ rfl]
  kernel_rfl
def t26_2 : K0 := fun T H => j26_2 ev L (getS 5 T) (getS 10 T) (getS 11 T) (getS 12 T) H
theorem p26_2 (ex : Nat → K0) (n : K0) (hn : n = t26_1 ev L) : dCode noG ev (finR noG c26r) L c26_2 ex n = t26_2 ev L := by
  subst hn
  simp only [c26_2, dCode, dOpers]
  rw [p26_3 ev L _ _ rfl]
  kernel_rfl
def t26_9 : K0 := fun T H => j26_9 ev L (getS 5 T) (getS 10 T) (getS 11 T) (getS 85 T) (getS 87 T) (getS 90 T) (getS 92 T) H
theorem p26_9 (n : K0) (hn : n = t26_2 ev L) : dOpers noG ev o26_7_9 n = t26_9 ev L := by
  subst hn
  simp only [o26_7_9, dOpers]
  kernel_rfl
def t26_8 : K0 := fun T H => j26_8 ev L (getS 5 T) (getS 10 T) (getS 11 T) (getS 85 T) (getS 87 T) (getS 90 T) (getS 91 T) H
theorem p26_8 (n : K0) (hn : n = t26_2 ev L) : dOpers noG ev o26_7_8 n = t26_8 ev L := by
  subst hn
  simp only [o26_7_8, dOpers]
  rw [p26_9 ev L _ rfl]
  kernel_rfl
def t26_10 : K0 := fun T H => j26_10 ev L (getS 5 T) H
theorem p26_10 (ex : Nat → K0) (n : K0) (hn : n = t26_1 ev L) : dCode noG ev (finR noG c26r) L c26_10 ex n = t26_10 ev L := by
  subst hn
  simp only [c26_10, dCode, dOpers]
  kernel_rfl
def t26_15 : K0 := fun T H => j26_15 ev L (getS 5 T) (getS 122 T) (getS 131 T) (getS 136 T) (getS 140 T) H
theorem p26_15 (n : K0) (hn : n = t26_10 ev L) : dDrawn noG ev o26_11_27 n = t26_15 ev L := by
  subst hn
  simp only [o26_11_27, dDrawn, dAgain, isPanic, cond_false]
  kernel_rfl
def t26_14 : K0 := fun T H => j26_14 ev L (getS 5 T) (getS 122 T) (getS 131 T) (getS 136 T) (getS 139 T) H
theorem p26_14 (n : K0) (hn : n = t26_10 ev L) : dDrawn noG ev o26_11_26 n = t26_14 ev L := by
  subst hn
  simp only [o26_11_26, dDrawn, dAgain, isPanic, cond_false]
  rw [p26_15 ev L _ rfl]
  kernel_rfl
def t26_13 : K0 := fun T H => j26_13 ev L (getS 5 T) (getS 122 T) (getS 131 T) (getS 136 T) (getS 138 T) H
theorem p26_13 (n : K0) (hn : n = t26_10 ev L) : dDrawn noG ev o26_11_25 n = t26_13 ev L := by
  subst hn
  simp only [o26_11_25, dDrawn, dAgain, isPanic, cond_false]
  rw [p26_14 ev L _ rfl]
  kernel_rfl
def t26_12 : K0 := fun T H => j26_12 ev L (getS 5 T) (getS 122 T) (getS 131 T) (getS 136 T) (getS 137 T) H
theorem p26_12 (n : K0) (hn : n = t26_10 ev L) : dDrawn noG ev o26_11_24 n = t26_12 ev L := by
  subst hn
  simp only [o26_11_24, dDrawn, dAgain, isPanic, cond_false]
  rw [p26_13 ev L _ rfl]
  kernel_rfl
def t26_16 : K0 := fun T H => j26_16 ev L (getS 5 T) (getS 6 T) H
theorem p26_16 (ex : Nat → K0) (n : K0) (hn : n = t26_1 ev L) : dCode noG ev (finR noG c26r) L c26_16 ex n = t26_16 ev L := by
  subst hn
  simp only [c26_16, dCode, dOpers, dDrawn, dAgain, isPanic, cond_false]
  kernel_rfl
def t26_0 : K0 := fun T H => j26_0 ev L (getS 2 T) (getS 3 T) (getS 4 T) (getS 5 T) (getS 6 T) H
theorem p26_0 (ex : Nat → K0) (n : K0) (hn : n = finR noG c26r) : dCode noG ev (finR noG c26r) L c26_0 ex n = t26_0 ev L := by
  subst hn
  simp only [c26_0, dCode, dOpers, dDrawn, dAgain, isPanic, cond_false]
  rw [p26_1 ev L _ _ rfl]
  rw [p26_2 ev L _ _ rfl]
  rw [p26_8 ev L _ rfl]
  rw [p26_10 ev L _ _ rfl]
  rw [p26_12 ev L _ rfl]
  rw [p26_16 ev L _ _ rfl]
  kernel_rfl
def s26_18 (k18 : AV → AV → AV → AV → AV → AV → AV → AV → AV → Heap → CR) : K0 := fun T H => k18 (getS 1 T) (getS 2 T) (getS 3 T) (getS 4 T) (getS 5 T) (getS 6 T) (getS 14 T) (getS 15 T) (getS 16 T) H
def t26_20 (k18 : AV → AV → AV → AV → AV → AV → AV → AV → AV → Heap → CR) : K0 := fun T H => j26_20 ev L k18 (getS 1 T) (getS 2 T) (getS 3 T) (getS 4 T) (getS 5 T) (getS 6 T) (getS 14 T) (getS 15 T) (getS 16 T) H
theorem p26_20 (k18 : AV → AV → AV → AV → AV → AV → AV → AV → AV → Heap → CR) (ex : Nat → K0) (n : K0) (hn : n = s26_18 k18) : dCode noG ev (finR noG c26r) L c26_20 ex n = t26_20 ev L k18 := by
  subst hn
  simp only [c26_20, dCode, dOpers]
  kernel_rfl
def t26_19 (k18 : AV → AV → AV → AV → AV → AV → AV → AV → AV → Heap → CR) : K0 := fun T H => j26_19 ev L k18 (getS 1 T) (getS 2 T) (getS 3 T) (getS 4 T) (getS 5 T) (getS 6 T) (getS 14 T) (getS 15 T) (getS 16 T) H
theorem p26_19 (k18 : AV → AV → AV → AV → AV → AV → AV → AV → AV → Heap → CR) (ex : Nat → K0) (n : K0) (hn : n = s26_18 k18) : dCode noG ev (finR noG c26r) L c26_19 ex n = t26_19 ev L k18 := by
  subst hn
  simp only [c26_19, dCode, dOpers]
  rw [p26_20 ev L k18 _ _ rfl]
  kernel_rfl
theorem b26_18 (k18 : AV → AV → AV → AV → AV → AV → AV → AV → AV → Heap → CR) (ex : Nat → K0) (n : K0) (hn : n = s26_18 k18) (hx0 : ex 0 = t26_0 ev L) : dCode noG ev (finR noG c26r) L c26_18 ex n = fun T H => j26_18 ev L k18 (getS 1 T) (getS 2 T) (getS 3 T) (getS 4 T) (getS 5 T) (getS 6 T) (getS 14 T) (getS 15 T) (getS 16 T) H := by
  subst hn
  simp only [c26_18, dCode, dOpers]
  rw [p26_19 ev L k18 _ _ rfl]
  try rw [hx0]
  kernel_rfl
theorem p26_18 (ex : Nat → K0) (hx0 : ex 0 = t26_0 ev L) : ∀ m, pLoop (fun n => dCode noG ev (finR noG c26r) L c26_18 ex n) m = s26_18 (l26_18 ev L m) := by
  intro m
  induction m with
  | zero => kernel_rfl
  | succ m ih =>
    show dCode noG ev (finR noG c26r) L c26_18 ex (pLoop (fun n => dCode noG ev (finR noG c26r) L c26_18 ex n) m) = _
    rw [ih, b26_18 ev L (l26_18 ev L m) ex _ rfl hx0]
    kernel_rfl
theorem e26 (args : List AV) (H : Heap) : Lq (q26 ev L args H) (dRun noG c26 ev L args H) := by
  unfold q26
  split
  · refine .inr ?_
    rename_i t0 t1 t2 t3
    show _ = ob (argsTm [t0, t1, t2, t3]) fun T => dCode noG ev (finR noG c26r) L c26b (fun _ => pFail) (finR noG c26r) T H
    simp only [c26b, dCode, dOpers, dDrawn, dAgain, isPanic, cond_false]
    rw [p26_0 ev L _ _ rfl]
    rw [p26_18 ev L _ (by first | rfl | exact hx0)]
    kernel_rfl
  · exact .inl rfl
def t27_0 : K0 := fun T H => j27_0 ev L (getS 0 T) H
theorem p27_0 (ex : Nat → K0) (n : K0) (hn : n = finR noG c27r) : dCode noG ev (finR noG c27r) L c27_0 ex n = t27_0 ev L := by
  subst hn
  simp only [c27_0, dCode, dOpers]
  kernel_rfl
theorem e27 (args : List AV) (H : Heap) : Lq (q27 ev L args H) (dRun noG c27 ev L args H) := by
  unfold q27
  split
  · refine .inr ?_
    rename_i t0
    show _ = ob (argsTm [t0]) fun T => dCode noG ev (finR noG c27r) L c27b (fun _ => pFail) (finR noG c27r) T H
    simp only [c27b, dCode, dOpers]
    rw [p27_0 ev L _ _ rfl]
    kernel_rfl
  · exact .inl rfl
def t28_0 : K0 := fun T H => j28_0 ev L (getS 3 T) H
theorem p28_0 (ex : Nat → K0) (n : K0) (hn : n = finR noG c28r) : dCode noG ev (finR noG c28r) L c28_0 ex n = t28_0 ev L := by
  subst hn
  simp only [c28_0, dCode, dOpers]
  kernel_rfl
def s28_1 (k1 : AV → AV → AV → AV → Heap → CR) : K0 := fun T H => k1 (getS 3 T) (getS 6 T) (getS 7 T) (getS 8 T) H
def t28_3 (k1 : AV → AV → AV → AV → Heap → CR) : K0 := fun T H => j28_3 ev L k1 (getS 3 T) (getS 6 T) (getS 7 T) (getS 8 T) H
theorem p28_3 (k1 : AV → AV → AV → AV → Heap → CR) (ex : Nat → K0) (n : K0) (hn : n = s28_1 k1) : dCode noG ev (finR noG c28r) L c28_3 ex n = t28_3 ev L k1 := by
  subst hn
  simp only [c28_3, dCode, dOpers]
  kernel_rfl
def t28_2 (k1 : AV → AV → AV → AV → Heap → CR) : K0 := fun T H => j28_2 ev L k1 (getS 3 T) (getS 6 T) (getS 7 T) (getS 8 T) H
theorem p28_2 (k1 : AV → AV → AV → AV → Heap → CR) (ex : Nat → K0) (n : K0) (hn : n = s28_1 k1) : dCode noG ev (finR noG c28r) L c28_2 ex n = t28_2 ev L k1 := by
  subst hn
  simp only [c28_2, dCode, dOpers]
  rw [p28_3 ev L k1 _ _ rfl]
  kernel_rfl
theorem b28_1 (k1 : AV → AV → AV → AV → Heap → CR) (ex : Nat → K0) (n : K0) (hn : n = s28_1 k1) (hx0 : ex 0 = t28_0 ev L) : dCode noG ev (finR noG c28r) L c28_1 ex n = fun T H => j28_1 ev L k1 (getS 3 T) (getS 6 T) (getS 7 T) (getS 8 T) H := by
  subst hn
  simp only [c28_1, dCode, dOpers]
  rw [p28_2 ev L k1 _ _ rfl]
  try rw [hx0]
  kernel_rfl
theorem p28_1 (ex : Nat → K0) (hx0 : ex 0 = t28_0 ev L) : ∀ m, pLoop (fun n => dCode noG ev (finR noG c28r) L c28_1 ex n) m = s28_1 (l28_1 ev L m) := by
  intro m
  induction m with
  | zero => kernel_rfl
  | succ m ih =>
    show dCode noG ev (finR noG c28r) L c28_1 ex (pLoop (fun n => dCode noG ev (finR noG c28r) L c28_1 ex n) m) = _
    rw [ih, b28_1 ev L (l28_1 ev L m) ex _ rfl hx0]
    kernel_rfl
theorem e28 (args : List AV) (H : Heap) : Lq (q28 ev L args H) (dRun noG c28 ev L args H) := by
  unfold q28
  split
  · refine .inr ?_
    rename_i t0
    show _ = ob (argsTm [t0]) fun T => dCode noG ev (finR noG c28r) L c28b (fun _ => pFail) (finR noG c28r) T H
    simp only [c28b, dCode, dOpers]
    rw [p28_0 ev L _ _ rfl]
    rw [p28_1 ev L _ (by first | rfl | exact hx0)]
    kernel_rfl
  · exact .inl rfl
def t29_1 : K0 := fun T H => j29_1 ev L (getS 7 T) H
theorem p29_1 (ex : Nat → K0) (n : K0) (hn : n = finR noG c29r) : dCode noG ev (finR noG c29r) L c29_1 ex n = t29_1 ev L := by
  subst hn
  simp only [c29_1, dCode, dOpers]
  kernel_rfl
def s29_2 (k2 : AV → AV → AV → AV → AV → AV → Heap → CR) : K0 := fun T H => k2 (getS 0 T) (getS 2 T) (getS 7 T) (getS 14 T) (getS 15 T) (getS 16 T) H
def t29_4 (k2 : AV → AV → AV → AV → AV → AV → Heap → CR) : K0 := fun T H => j29_4 ev L k2 (getS 0 T) (getS 2 T) (getS 7 T) (getS 14 T) (getS 15 T) (getS 16 T) H
theorem p29_4 (k2 : AV → AV → AV → AV → AV → AV → Heap → CR) (ex : Nat → K0) (n : K0) (hn : n = s29_2 k2) : dCode noG ev (finR noG c29r) L c29_4 ex n = t29_4 ev L k2 := by
  subst hn
  simp only [c29_4, dCode, dOpers]
  kernel_rfl
def s29_7 (k7 : AV → AV → AV → AV → AV → AV → AV → AV → AV → Heap → CR) : K0 := fun T H => k7 (getS 0 T) (getS 2 T) (getS 7 T) (getS 14 T) (getS 15 T) (getS 16 T) (getS 30 T) (getS 31 T) (getS 32 T) H
def t29_9 (k2 : AV → AV → AV → AV → AV → AV → Heap → CR) (k7 : AV → AV → AV → AV → AV → AV → AV → AV → AV → Heap → CR) : K0 := fun T H => j29_9 ev L k2 k7 (getS 0 T) (getS 2 T) (getS 7 T) (getS 14 T) (getS 15 T) (getS 16 T) (getS 30 T) (getS 31 T) (getS 32 T) H
theorem p29_9 (k2 : AV → AV → AV → AV → AV → AV → Heap → CR) (k7 : AV → AV → AV → AV → AV → AV → AV → AV → AV → Heap → CR) (ex : Nat → K0) (n : K0) (hn : n = s29_7 k7) : dCode noG ev (finR noG c29r) L c29_9 ex n = t29_9 ev L k2 k7 := by
  subst hn
  simp only [c29_9, dCode, dOpers]
  kernel_rfl
def t29_8 (k2 : AV → AV → AV → AV → AV → AV → Heap → CR) (k7 : AV → AV → AV → AV → AV → AV → AV → AV → AV → Heap → CR) : K0 := fun T H => j29_8 ev L k2 k7 (getS 0 T) (getS 2 T) (getS 7 T) (getS 14 T) (getS 15 T) (getS 16 T) (getS 30 T) (getS 31 T) (getS 32 T) H
theorem p29_8 (k2 : AV → AV → AV → AV → AV → AV → Heap → CR) (k7 : AV → AV → AV → AV → AV → AV → AV → AV → AV → Heap → CR) (ex : Nat → K0) (n : K0) (hn : n = s29_7 k7) : dCode noG ev (finR noG c29r) L c29_8 ex n = t29_8 ev L k2 k7 := by
  subst hn
  simp only [c29_8, dCode, dOpers]
  rw [p29_9 ev L k2 k7 _ _ rfl]
  kernel_rfl
theorem b29_7 (k2 : AV → AV → AV → AV → AV → AV → Heap → CR) (k7 : AV → AV → AV → AV → AV → AV → AV → AV → AV → Heap → CR) (ex : Nat → K0) (n : K0) (hn : n = s29_7 k7) (hx2 : ex 2 = t29_4 ev L k2) : dCode noG ev (finR noG c29r) L c29_7 ex n = fun T H => j29_7 ev L k2 k7 (getS 0 T) (getS 2 T) (getS 7 T) (getS 14 T) (getS 15 T) (getS 16 T) (getS 30 T) (getS 31 T) (getS 32 T) H := by
  subst hn
  simp only [c29_7, dCode, dOpers]
  rw [p29_8 ev L k2 k7 _ _ rfl]
  try rw [hx2]
  kernel_rfl
theorem p29_7 (k2 : AV → AV → AV → AV → AV → AV → Heap → CR) (ex : Nat → K0) (hx2 : ex 2 = t29_4 ev L k2) : ∀ m, pLoop (fun n => dCode noG ev (finR noG c29r) L c29_7 ex n) m = s29_7 (l29_7 ev L k2 m) := by
  intro m
  induction m with
  | zero => kernel_rfl
  | succ m ih =>
    show dCode noG ev (finR noG c29r) L c29_7 ex (pLoop (fun n => dCode noG ev (finR noG c29r) L c29_7 ex n) m) = _
    rw [ih, b29_7 ev L k2 (l29_7 ev L k2 m) ex _ rfl hx2]
    kernel_rfl
def t29_6 (k2 : AV → AV → AV → AV → AV → AV → Heap → CR) : K0 := fun T H => j29_6 ev L k2 (getS 0 T) (getS 2 T) (getS 7 T) (getS 9 T) (getS 14 T) (getS 15 T) (getS 16 T) H
theorem p29_6 (k2 : AV → AV → AV → AV → AV → AV → Heap → CR) (ex : Nat → K0) (n : K0) (hn : n = t29_4 ev L k2) : dCode noG ev (finR noG c29r) L c29_6 ex n = t29_6 ev L k2 := by
  subst hn
  simp only [c29_6, dCode, dOpers]
  rw [p29_7 ev L k2 _ (by first | rfl | exact hx2)]
  kernel_rfl
def t29_3 (k2 : AV → AV → AV → AV → AV → AV → Heap → CR) : K0 := fun T H => j29_3 ev L k2 (getS 0 T) (getS 2 T) (getS 7 T) (getS 14 T) (getS 15 T) (getS 16 T) H
theorem p29_3 (k2 : AV → AV → AV → AV → AV → AV → Heap → CR) (ex : Nat → K0) (n : K0) (hn : n = s29_2 k2) : dCode noG ev (finR noG c29r) L c29_3 ex n = t29_3 ev L k2 := by
  subst hn
  simp only [c29_3, dCode, dOpers]
  rw [p29_4 ev L k2 _ _ rfl]
  rw [p29_6 ev L k2 _ _ rfl]
  kernel_rfl
theorem b29_2 (k2 : AV → AV → AV → AV → AV → AV → Heap → CR) (ex : Nat → K0) (n : K0) (hn : n = s29_2 k2) (hx0 : ex 0 = t29_1 ev L) : dCode noG ev (finR noG c29r) L c29_2 ex n = fun T H => j29_2 ev L k2 (getS 0 T) (getS 2 T) (getS 7 T) (getS 14 T) (getS 15 T) (getS 16 T) H := by
  subst hn
  simp only [c29_2, dCode, dOpers]
  rw [p29_3 ev L k2 _ _ rfl]
  try rw [hx0]
  kernel_rfl
theorem p29_2 (ex : Nat → K0) (hx0 : ex 0 = t29_1 ev L) : ∀ m, pLoop (fun n => dCode noG ev (finR noG c29r) L c29_2 ex n) m = s29_2 (l29_2 ev L m) := by
  intro m
  induction m with
  | zero => kernel_rfl
  | succ m ih =>
    show dCode noG ev (finR noG c29r) L c29_2 ex (pLoop (fun n => dCode noG ev (finR noG c29r) L c29_2 ex n) m) = _
    rw [ih, b29_2 ev L (l29_2 ev L m) ex _ rfl hx0]
    kernel_rfl
def t29_0 : K0 := fun T H => j29_0 ev L (getS 0 T) (getS 1 T) (getS 2 T) H
theorem p29_0 (ex : Nat → K0) (n : K0) (hn : n = finR noG c29r) : dCode noG ev (finR noG c29r) L c29_0 ex n = t29_0 ev L := by
  subst hn
  simp only [c29_0, dCode, dOpers]
  rw [p29_1 ev L _ _ rfl]
  rw [p29_2 ev L _ (by first | rfl | exact hx0)]
  kernel_rfl
theorem e29 (args : List AV) (H : Heap) : Lq (q29 ev L args H) (dRun noG c29 ev L args H) := by
  unfold q29
  split
  · refine .inr ?_
    rename_i t0 t1 t2
    show _ = ob (argsTm [t0, t1, t2]) fun T => dCode noG ev (finR noG c29r) L c29b (fun _ => pFail) (finR noG c29r) T H
    simp only [c29b, dCode, dOpers]
    rw [p29_0 ev L _ _ rfl]
    kernel_rfl
  · exact .inl rfl
def t30_1 : K0 := fun T H => j30_1 ev L (getS 5 T) H
theorem p30_1 (ex : Nat → K0) (n : K0) (hn : n = finR noG c30r) : dCode noG ev (finR noG c30r) L c30_1 ex n = t30_1 ev L := by
  subst hn
  simp only [c30_1, dCode, dOpers]
  kernel_rfl
def s30_2 (k2 : AV → AV → AV → AV → AV → Heap → CR) : K0 := fun T H => k2 (getS 0 T) (getS 5 T) (getS 10 T) (getS 11 T) (getS 12 T) H
def t30_4 (k2 : AV → AV → AV → AV → AV → Heap → CR) : K0 := fun T H => j30_4 ev L k2 (getS 0 T) (getS 5 T) (getS 10 T) (getS 11 T) (getS 12 T) H
theorem p30_4 (k2 : AV → AV → AV → AV → AV → Heap → CR) (ex : Nat → K0) (n : K0) (hn : n = s30_2 k2) : dCode noG ev (finR noG c30r) L c30_4 ex n = t30_4 ev L k2 := by
  subst hn
  simp only [c30_4, dCode, dOpers]
  kernel_rfl
def t30_3 (k2 : AV → AV → AV → AV → AV → Heap → CR) : K0 := fun T H => j30_3 ev L k2 (getS 0 T) (getS 5 T) (getS 10 T) (getS 11 T) (getS 12 T) H
theorem p30_3 (k2 : AV → AV → AV → AV → AV → Heap → CR) (ex : Nat → K0) (n : K0) (hn : n = s30_2 k2) : dCode noG ev (finR noG c30r) L c30_3 ex n = t30_3 ev L k2 := by
  subst hn
  simp only [c30_3, dCode, dOpers]
  rw [p30_4 ev L k2 _ _ rfl]
  kernel_rfl
theorem b30_2 (k2 : AV → AV → AV → AV → AV → Heap → CR) (ex : Nat → K0) (n : K0) (hn : n = s30_2 k2) (hx0 : ex 0 = t30_1 ev L) : dCode noG ev (finR noG c30r) L c30_2 ex n = fun T H => j30_2 ev L k2 (getS 0 T) (getS 5 T) (getS 10 T) (getS 11 T) (getS 12 T) H := by
  subst hn
  simp only [c30_2, dCode, dOpers]
  rw [p30_3 ev L k2 _ _ rfl]
  try rw [hx0]
  kernel_rfl
theorem p30_2 (ex : Nat → K0) (hx0 : ex 0 = t30_1 ev L) : ∀ m, pLoop (fun n => dCode noG ev (finR noG c30r) L c30_2 ex n) m = s30_2 (l30_2 ev L m) := by
  intro m
  induction m with
  | zero => kernel_rfl
  | succ m ih =>
    show dCode noG ev (finR noG c30r) L c30_2 ex (pLoop (fun n => dCode noG ev (finR noG c30r) L c30_2 ex n) m) = _
    rw [ih, b30_2 ev L (l30_2 ev L m) ex _ rfl hx0]
    kernel_rfl
def t30_0 : K0 := fun T H => j30_0 ev L (getS 0 T) (getS 1 T) H
theorem p30_0 (ex : Nat → K0) (n : K0) (hn : n = finR noG c30r) : dCode noG ev (finR noG c30r) L c30_0 ex n = t30_0 ev L := by
  subst hn
  simp only [c30_0, dCode, dOpers]
  rw [p30_1 ev L _ _ rfl]
  rw [p30_2 ev L _ (by first | rfl | exact hx0)]
  kernel_rfl
theorem e30 (args : List AV) (H : Heap) : Lq (q30 ev L args H) (dRun noG c30 ev L args H) := by
  unfold q30
  split
  · refine .inr ?_
    rename_i t0 t1
    show _ = ob (argsTm [t0, t1]) fun T => dCode noG ev (finR noG c30r) L c30b (fun _ => pFail) (finR noG c30r) T H
    simp only [c30b, dCode, dOpers]
    rw [p30_0 ev L _ _ rfl]
    kernel_rfl
  · exact .inl rfl
def t31_0 : K0 := fun T H => j31_0 ev L (getS 2 T) H
theorem p31_0 (ex : Nat → K0) (n : K0) (hn : n = finR noG c31r) : dCode noG ev (finR noG c31r) L c31_0 ex n = t31_0 ev L := by
  subst hn
  simp only [c31_0, dCode, dOpers]
  kernel_rfl
def t31_3 : K0 := fun T H => j31_3 ev L (getS 5 T) (getS 7 T) H
theorem p31_3 (n : K0) (hn : n = t31_0 ev L) : dOpers noG ev o31_1_5 n = t31_3 ev L := by
  subst hn
  simp only [o31_1_5, dOpers]
  kernel_rfl
def t31_2 : K0 := fun T H => j31_2 ev L (getS 5 T) (getS 6 T) H
theorem p31_2 (n : K0) (hn : n = t31_0 ev L) : dOpers noG ev o31_1_4 n = t31_2 ev L := by
  subst hn
  simp only [o31_1_4, dOpers]
  rw [p31_3 ev L _ rfl]
  kernel_rfl
theorem e31 (args : List AV) (H : Heap) : Lq (q31 ev L args H) (dRun noG c31 ev L args H) := by
  unfold q31
  split
  · refine .inr ?_
    rename_i t0
    show _ = ob (argsTm [t0]) fun T => dCode noG ev (finR noG c31r) L c31b (fun _ => pFail) (finR noG c31r) T H
    simp only [c31b, dCode, dOpers]
    rw [p31_0 ev L _ _ rfl]
    rw [p31_2 ev L _ rfl]
    kernel_rfl
  · exact .inl rfl
def t32_0 : K0 := fun T H => j32_0 ev L (getS 0 T) H
theorem p32_0 (ex : Nat → K0) (n : K0) (hn : n = finR noG c32r) : dCode noG ev (finR noG c32r) L c32_0 ex n = t32_0 ev L := by
  subst hn
  simp only [c32_0, dCode, dOpers]
  kernel_rfl
theorem e32 (args : List AV) (H : Heap) : Lq (q32 ev L args H) (dRun noG c32 ev L args H) := by
  unfold q32
  split
  · refine .inr ?_
    rename_i t0
    show _ = ob (argsTm [t0]) fun T => dCode noG ev (finR noG c32r) L c32b (fun _ => pFail) (finR noG c32r) T H
    simp only [c32b, dCode, dOpers]
    rw [p32_0 ev L _ _ rfl]
    kernel_rfl
  · exact .inl rfl
def t33_0 : K0 := fun T H => j33_0 ev L (getS 3 T) H
theorem p33_0 (ex : Nat → K0) (n : K0) (hn : n = finR noG c33r) : dCode noG ev (finR noG c33r) L c33_0 ex n = t33_0 ev L := by
  subst hn
  simp only [c33_0, dCode, dOpers]
  kernel_rfl
def s33_1 (k1 : AV → AV → AV → Heap → CR) : K0 := fun T H => k1 (getS 0 T) (getS 3 T) (getS 4 T) H
def s33_3 (k3 : AV → AV → AV → AV → AV → Heap → CR) : K0 := fun T H => k3 (getS 0 T) (getS 3 T) (getS 4 T) (getS 14 T) (getS 15 T) H
def t33_5 (k1 : AV → AV → AV → Heap → CR) (k3 : AV → AV → AV → AV → AV → Heap → CR) : K0 := fun T H => j33_5 ev L k1 k3 (getS 0 T) (getS 3 T) (getS 4 T) (getS 14 T) (getS 15 T) H
theorem p33_5 (k1 : AV → AV → AV → Heap → CR) (k3 : AV → AV → AV → AV → AV → Heap → CR) (ex : Nat → K0) (n : K0) (hn : n = s33_3 k3) : dCode noG ev (finR noG c33r) L c33_5 ex n = t33_5 ev L k1 k3 := by
  subst hn
  simp only [c33_5, dCode, dOpers]
  kernel_rfl
def t33_8 (k1 : AV → AV → AV → Heap → CR) (k3 : AV → AV → AV → AV → AV → Heap → CR) : K0 := fun T H => j33_8 ev L k1 k3 (getS 0 T) (getS 3 T) (getS 4 T) (getS 5 T) (getS 6 T) (getS 14 T) (getS 15 T) H
theorem p33_8 (k1 : AV → AV → AV → Heap → CR) (k3 : AV → AV → AV → AV → AV → Heap → CR) (ex : Nat → K0) (n : K0) (hn : n = t33_5 ev L k1 k3) : dCode noG ev (finR noG c33r) L c33_8 ex n = t33_8 ev L k1 k3 := by
  subst hn
  simp only [c33_8, dCode, dOpers]
  kernel_rfl
def t33_18 (k1 : AV → AV → AV → Heap → CR) (k3 : AV → AV → AV → AV → AV → Heap → CR) : K0 := fun T H => j33_18 ev L k1 k3 (getS 0 T) (getS 3 T) (getS 5 T) (getS 6 T) (getS 14 T) (getS 15 T) (getS 45 T) (getS 53 T) H
theorem p33_18 (k1 : AV → AV → AV → Heap → CR) (k3 : AV → AV → AV → AV → AV → Heap → CR) (n : K0) (hn : n = t33_8 ev L k1 k3) : dOpers noG ev o33_10_10 n = t33_18 ev L k1 k3 := by
  subst hn
  simp only [o33_10_10, dOpers]
  kernel_rfl
def t33_17 (k1 : AV → AV → AV → Heap → CR) (k3 : AV → AV → AV → AV → AV → Heap → CR) : K0 := fun T H => j33_17 ev L k1 k3 (getS 0 T) (getS 3 T) (getS 5 T) (getS 6 T) (getS 14 T) (getS 15 T) (getS 45 T) (getS 47 T) (getS 52 T) H
theorem p33_17 (k1 : AV → AV → AV → Heap → CR) (k3 : AV → AV → AV → AV → AV → Heap → CR) (n : K0) (hn : n = t33_8 ev L k1 k3) : dOpers noG ev o33_10_9 n = t33_17 ev L k1 k3 := by
  subst hn
  simp only [o33_10_9, dOpers]
  rw [p33_18 ev L k1 k3 _ rfl]
  kernel_rfl
def t33_16 (k1 : AV → AV → AV → Heap → CR) (k3 : AV → AV → AV → AV → AV → Heap → CR) : K0 := fun T H => j33_16 ev L k1 k3 (getS 0 T) (getS 3 T) (getS 5 T) (getS 6 T) (getS 14 T) (getS 15 T) (getS 45 T) (getS 47 T) (getS 51 T) H
theorem p33_16 (k1 : AV → AV → AV → Heap → CR) (k3 : AV → AV → AV → AV → AV → Heap → CR) (n : K0) (hn : n = t33_8 ev L k1 k3) : dOpers noG ev o33_10_8 n = t33_16 ev L k1 k3 := by
  subst hn
  simp only [o33_10_8, dOpers]
  rw [p33_17 ev L k1 k3 _ rfl]
  kernel_rfl
def t33_15 (k1 : AV → AV → AV → Heap → CR) (k3 : AV → AV → AV → AV → AV → Heap → CR) : K0 := fun T H => j33_15 ev L k1 k3 (getS 0 T) (getS 3 T) (getS 5 T) (getS 6 T) (getS 14 T) (getS 15 T) (getS 45 T) (getS 47 T) (getS 50 T) H
theorem p33_15 (k1 : AV → AV → AV → Heap → CR) (k3 : AV → AV → AV → AV → AV → Heap → CR) (n : K0) (hn : n = t33_8 ev L k1 k3) : dOpers noG ev o33_10_7 n = t33_15 ev L k1 k3 := by
  subst hn
  simp only [o33_10_7, dOpers]
  rw [p33_16 ev L k1 k3 _ rfl]
  kernel_rfl
def t33_14 (k1 : AV → AV → AV → Heap → CR) (k3 : AV → AV → AV → AV → AV → Heap → CR) : K0 := fun T H => j33_14 ev L k1 k3 (getS 0 T) (getS 3 T) (getS 5 T) (getS 6 T) (getS 14 T) (getS 15 T) (getS 45 T) (getS 47 T) (getS 48 T) (getS 49 T) H
theorem p33_14 (k1 : AV → AV → AV → Heap → CR) (k3 : AV → AV → AV → AV → AV → Heap → CR) (n : K0) (hn : n = t33_8 ev L k1 k3) : dOpers noG ev o33_10_6 n = t33_14 ev L k1 k3 := by
  subst hn
  simp only [o33_10_6, dOpers]
  rw [p33_15 ev L k1 k3 _ rfl]
  kernel_rfl
def t33_13 (k1 : AV → AV → AV → Heap → CR) (k3 : AV → AV → AV → AV → AV → Heap → CR) : K0 := fun T H => j33_13 ev L k1 k3 (getS 0 T) (getS 3 T) (getS 5 T) (getS 6 T) (getS 14 T) (getS 15 T) (getS 45 T) (getS 47 T) (getS 48 T) H
theorem p33_13 (k1 : AV → AV → AV → Heap → CR) (k3 : AV → AV → AV → AV → AV → Heap → CR) (n : K0) (hn : n = t33_8 ev L k1 k3) : dOpers noG ev o33_10_5 n = t33_13 ev L k1 k3 := by
  subst hn
  simp only [o33_10_5, dOpers]
  rw [p33_14 ev L k1 k3 _ rfl]
  kernel_rfl
def t33_12 (k1 : AV → AV → AV → Heap → CR) (k3 : AV → AV → AV → AV → AV → Heap → CR) : K0 := fun T H => j33_12 ev L k1 k3 (getS 0 T) (getS 3 T) (getS 5 T) (getS 6 T) (getS 14 T) (getS 15 T) (getS 45 T) (getS 47 T) H
theorem p33_12 (k1 : AV → AV → AV → Heap → CR) (k3 : AV → AV → AV → AV → AV → Heap → CR) (n : K0) (hn : n = t33_8 ev L k1 k3) : dOpers noG ev o33_10_4 n = t33_12 ev L k1 k3 := by
  subst hn
  simp only [o33_10_4, dOpers]
  rw [p33_13 ev L k1 k3 _ rfl]
  kernel_rfl
def t33_11 (k1 : AV → AV → AV → Heap → CR) (k3 : AV → AV → AV → AV → AV → Heap → CR) : K0 := fun T H => j33_11 ev L k1 k3 (getS 0 T) (getS 3 T) (getS 5 T) (getS 6 T) (getS 14 T) (getS 15 T) (getS 45 T) (getS 46 T) H
theorem p33_11 (k1 : AV → AV → AV → Heap → CR) (k3 : AV → AV → AV → AV → AV → Heap → CR) (n : K0) (hn : n = t33_8 ev L k1 k3) : dOpers noG ev o33_10_3 n = t33_11 ev L k1 k3 := by
  subst hn
  simp only [o33_10_3, dOpers]
  rw [p33_12 ev L k1 k3 _ rfl]
  kernel_rfl
def t33_7 (k1 : AV → AV → AV → Heap → CR) (k3 : AV → AV → AV → AV → AV → Heap → CR) : K0 := fun T H => j33_7 ev L k1 k3 (getS 0 T) (getS 3 T) (getS 4 T) (getS 5 T) (getS 6 T) (getS 14 T) (getS 15 T) H
theorem p33_7 (k1 : AV → AV → AV → Heap → CR) (k3 : AV → AV → AV → AV → AV → Heap → CR) (ex : Nat → K0) (n : K0) (hn : n = t33_5 ev L k1 k3) : dCode noG ev (finR noG c33r) L c33_7 ex n = t33_7 ev L k1 k3 := by
  subst hn
  simp only [c33_7, dCode, dOpers]
  rw [p33_8 ev L k1 k3 _ _ rfl]
  rw [p33_11 ev L k1 k3 _ rfl]
  kernel_rfl
def s33_19 (k19 : AV → AV → AV → AV → AV → AV → AV → AV → AV → Heap → CR) : K0 := fun T H => k19 (getS 0 T) (getS 3 T) (getS 4 T) (getS 5 T) (getS 6 T) (getS 14 T) (getS 15 T) (getS 24 T) (getS 25 T) H
def t33_21 (k1 : AV → AV → AV → Heap → CR) (k3 : AV → AV → AV → AV → AV → Heap → CR) (k19 : AV → AV → AV → AV → AV → AV → AV → AV → AV → Heap → CR) : K0 := fun T H => j33_21 ev L k1 k3 k19 (getS 0 T) (getS 3 T) (getS 4 T) (getS 5 T) (getS 6 T) (getS 14 T) (getS 15 T) (getS 24 T) (getS 25 T) H
theorem p33_21 (k1 : AV → AV → AV → Heap → CR) (k3 : AV → AV → AV → AV → AV → Heap → CR) (k19 : AV → AV → AV → AV → AV → AV → AV → AV → AV → Heap → CR) (ex : Nat → K0) (n : K0) (hn : n = s33_19 k19) : dCode noG ev (finR noG c33r) L c33_21 ex n = t33_21 ev L k1 k3 k19 := by
  subst hn
  simp only [c33_21, dCode, dOpers]
  kernel_rfl
def t33_31 (k1 : AV → AV → AV → Heap → CR) (k3 : AV → AV → AV → AV → AV → Heap → CR) (k19 : AV → AV → AV → AV → AV → AV → AV → AV → AV → Heap → CR) : K0 := fun T H => j33_31 ev L k1 k3 k19 (getS 0 T) (getS 3 T) (getS 4 T) (getS 5 T) (getS 14 T) (getS 15 T) (getS 24 T) (getS 25 T) (getS 33 T) (getS 41 T) H
theorem p33_31 (k1 : AV → AV → AV → Heap → CR) (k3 : AV → AV → AV → AV → AV → Heap → CR) (k19 : AV → AV → AV → AV → AV → AV → AV → AV → AV → Heap → CR) (n : K0) (hn : n = t33_21 ev L k1 k3 k19) : dOpers noG ev o33_23_10 n = t33_31 ev L k1 k3 k19 := by
  subst hn
  simp only [o33_23_10, dOpers]
  kernel_rfl
def t33_30 (k1 : AV → AV → AV → Heap → CR) (k3 : AV → AV → AV → AV → AV → Heap → CR) (k19 : AV → AV → AV → AV → AV → AV → AV → AV → AV → Heap → CR) : K0 := fun T H => j33_30 ev L k1 k3 k19 (getS 0 T) (getS 3 T) (getS 4 T) (getS 5 T) (getS 14 T) (getS 15 T) (getS 24 T) (getS 25 T) (getS 33 T) (getS 36 T) (getS 40 T) H
theorem p33_30 (k1 : AV → AV → AV → Heap → CR) (k3 : AV → AV → AV → AV → AV → Heap → CR) (k19 : AV → AV → AV → AV → AV → AV → AV → AV → AV → Heap → CR) (n : K0) (hn : n = t33_21 ev L k1 k3 k19) : dOpers noG ev o33_23_9 n = t33_30 ev L k1 k3 k19 := by
  subst hn
  simp only [o33_23_9, dOpers]
  rw [p33_31 ev L k1 k3 k19 _ rfl]
  kernel_rfl
def t33_29 (k1 : AV → AV → AV → Heap → CR) (k3 : AV → AV → AV → AV → AV → Heap → CR) (k19 : AV → AV → AV → AV → AV → AV → AV → AV → AV → Heap → CR) : K0 := fun T H => j33_29 ev L k1 k3 k19 (getS 0 T) (getS 3 T) (getS 4 T) (getS 5 T) (getS 14 T) (getS 15 T) (getS 24 T) (getS 25 T) (getS 33 T) (getS 36 T) (getS 39 T) H
theorem p33_29 (k1 : AV → AV → AV → Heap → CR) (k3 : AV → AV → AV → AV → AV → Heap → CR) (k19 : AV → AV → AV → AV → AV → AV → AV → AV → AV → Heap → CR) (n : K0) (hn : n = t33_21 ev L k1 k3 k19) : dOpers noG ev o33_23_8 n = t33_29 ev L k1 k3 k19 := by
  subst hn
  simp only [o33_23_8, dOpers]
  rw [p33_30 ev L k1 k3 k19 _ rfl]
  kernel_rfl
def t33_28 (k1 : AV → AV → AV → Heap → CR) (k3 : AV → AV → AV → AV → AV → Heap → CR) (k19 : AV → AV → AV → AV → AV → AV → AV → AV → AV → Heap → CR) : K0 := fun T H => j33_28 ev L k1 k3 k19 (getS 0 T) (getS 3 T) (getS 4 T) (getS 5 T) (getS 14 T) (getS 15 T) (getS 24 T) (getS 25 T) (getS 33 T) (getS 36 T) (getS 37 T) (getS 38 T) H
theorem p33_28 (k1 : AV → AV → AV → Heap → CR) (k3 : AV → AV → AV → AV → AV → Heap → CR) (k19 : AV → AV → AV → AV → AV → AV → AV → AV → AV → Heap → CR) (n : K0) (hn : n = t33_21 ev L k1 k3 k19) : dOpers noG ev o33_23_7 n = t33_28 ev L k1 k3 k19 := by
  subst hn
  simp only [o33_23_7, dOpers]
  rw [p33_29 ev L k1 k3 k19 _ rfl]
  kernel_rfl
def t33_27 (k1 : AV → AV → AV → Heap → CR) (k3 : AV → AV → AV → AV → AV → Heap → CR) (k19 : AV → AV → AV → AV → AV → AV → AV → AV → AV → Heap → CR) : K0 := fun T H => j33_27 ev L k1 k3 k19 (getS 0 T) (getS 3 T) (getS 4 T) (getS 5 T) (getS 8 T) (getS 14 T) (getS 15 T) (getS 24 T) (getS 25 T) (getS 33 T) (getS 36 T) (getS 37 T) H
theorem p33_27 (k1 : AV → AV → AV → Heap → CR) (k3 : AV → AV → AV → AV → AV → Heap → CR) (k19 : AV → AV → AV → AV → AV → AV → AV → AV → AV → Heap → CR) (n : K0) (hn : n = t33_21 ev L k1 k3 k19) : dOpers noG ev o33_23_6 n = t33_27 ev L k1 k3 k19 := by
  subst hn
  simp only [o33_23_6, dOpers]
  rw [p33_28 ev L k1 k3 k19 _ rfl]
  kernel_rfl
def t33_26 (k1 : AV → AV → AV → Heap → CR) (k3 : AV → AV → AV → AV → AV → Heap → CR) (k19 : AV → AV → AV → AV → AV → AV → AV → AV → AV → Heap → CR) : K0 := fun T H => j33_26 ev L k1 k3 k19 (getS 0 T) (getS 3 T) (getS 4 T) (getS 5 T) (getS 8 T) (getS 14 T) (getS 15 T) (getS 24 T) (getS 25 T) (getS 33 T) (getS 36 T) H
theorem p33_26 (k1 : AV → AV → AV → Heap → CR) (k3 : AV → AV → AV → AV → AV → Heap → CR) (k19 : AV → AV → AV → AV → AV → AV → AV → AV → AV → Heap → CR) (n : K0) (hn : n = t33_21 ev L k1 k3 k19) : dOpers noG ev o33_23_5 n = t33_26 ev L k1 k3 k19 := by
  subst hn
  simp only [o33_23_5, dOpers]
  rw [p33_27 ev L k1 k3 k19 _ rfl]
  kernel_rfl
def t33_25 (k1 : AV → AV → AV → Heap → CR) (k3 : AV → AV → AV → AV → AV → Heap → CR) (k19 : AV → AV → AV → AV → AV → AV → AV → AV → AV → Heap → CR) : K0 := fun T H => j33_25 ev L k1 k3 k19 (getS 0 T) (getS 3 T) (getS 4 T) (getS 5 T) (getS 8 T) (getS 14 T) (getS 15 T) (getS 24 T) (getS 25 T) (getS 33 T) (getS 35 T) H
theorem p33_25 (k1 : AV → AV → AV → Heap → CR) (k3 : AV → AV → AV → AV → AV → Heap → CR) (k19 : AV → AV → AV → AV → AV → AV → AV → AV → AV → Heap → CR) (n : K0) (hn : n = t33_21 ev L k1 k3 k19) : dOpers noG ev o33_23_4 n = t33_25 ev L k1 k3 k19 := by
  subst hn
  simp only [o33_23_4, dOpers]
  rw [p33_26 ev L k1 k3 k19 _ rfl]
  kernel_rfl
def t33_24 (k1 : AV → AV → AV → Heap → CR) (k3 : AV → AV → AV → AV → AV → Heap → CR) (k19 : AV → AV → AV → AV → AV → AV → AV → AV → AV → Heap → CR) : K0 := fun T H => j33_24 ev L k1 k3 k19 (getS 0 T) (getS 3 T) (getS 4 T) (getS 5 T) (getS 8 T) (getS 14 T) (getS 15 T) (getS 24 T) (getS 25 T) (getS 33 T) (getS 34 T) H
theorem p33_24 (k1 : AV → AV → AV → Heap → CR) (k3 : AV → AV → AV → AV → AV → Heap → CR) (k19 : AV → AV → AV → AV → AV → AV → AV → AV → AV → Heap → CR) (n : K0) (hn : n = t33_21 ev L k1 k3 k19) : dOpers noG ev o33_23_3 n = t33_24 ev L k1 k3 k19 := by
  subst hn
  simp only [o33_23_3, dOpers]
  rw [p33_25 ev L k1 k3 k19 _ rfl]
  kernel_rfl
def t33_20 (k1 : AV → AV → AV → Heap → CR) (k3 : AV → AV → AV → AV → AV → Heap → CR) (k19 : AV → AV → AV → AV → AV → AV → AV → AV → AV → Heap → CR) : K0 := fun T H => j33_20 ev L k1 k3 k19 (getS 0 T) (getS 3 T) (getS 4 T) (getS 5 T) (getS 6 T) (getS 14 T) (getS 15 T) (getS 24 T) (getS 25 T) H
theorem p33_20 (k1 : AV → AV → AV → Heap → CR) (k3 : AV → AV → AV → AV → AV → Heap → CR) (k19 : AV → AV → AV → AV → AV → AV → AV → AV → AV → Heap → CR) (ex : Nat → K0) (n : K0) (hn : n = s33_19 k19) : dCode noG ev (finR noG c33r) L c33_20 ex n = t33_20 ev L k1 k3 k19 := by
  subst hn
  simp only [c33_20, dCode, dOpers]
  rw [p33_21 ev L k1 k3 k19 _ _ rfl]
  rw [p33_24 ev L k1 k3 k19 _ rfl]
  kernel_rfl
theorem b33_19 (k1 : AV → AV → AV → Heap → CR) (k3 : AV → AV → AV → AV → AV → Heap → CR) (k19 : AV → AV → AV → AV → AV → AV → AV → AV → AV → Heap → CR) (ex : Nat → K0) (n : K0) (hn : n = s33_19 k19) (hx4 : ex 4 = t33_7 ev L k1 k3) : dCode noG ev (finR noG c33r) L c33_19 ex n = fun T H => j33_19 ev L k1 k3 k19 (getS 0 T) (getS 3 T) (getS 4 T) (getS 5 T) (getS 6 T) (getS 14 T) (getS 15 T) (getS 24 T) (getS 25 T) H := by
  subst hn
  simp only [c33_19, dCode, dOpers]
  rw [p33_20 ev L k1 k3 k19 _ _ rfl]
  try rw [hx4]
  kernel_rfl
theorem p33_19 (k1 : AV → AV → AV → Heap → CR) (k3 : AV → AV → AV → AV → AV → Heap → CR) (ex : Nat → K0) (hx4 : ex 4 = t33_7 ev L k1 k3) : ∀ m, pLoop (fun n => dCode noG ev (finR noG c33r) L c33_19 ex n) m = s33_19 (l33_19 ev L k1 k3 m) := by
  intro m
  induction m with
  | zero => kernel_rfl
  | succ m ih =>
    show dCode noG ev (finR noG c33r) L c33_19 ex (pLoop (fun n => dCode noG ev (finR noG c33r) L c33_19 ex n) m) = _
    rw [ih, b33_19 ev L k1 k3 (l33_19 ev L k1 k3 m) ex _ rfl hx4]
    kernel_rfl
def t33_4 (k1 : AV → AV → AV → Heap → CR) (k3 : AV → AV → AV → AV → AV → Heap → CR) : K0 := fun T H => j33_4 ev L k1 k3 (getS 0 T) (getS 3 T) (getS 4 T) (getS 14 T) (getS 15 T) H
theorem p33_4 (k1 : AV → AV → AV → Heap → CR) (k3 : AV → AV → AV → AV → AV → Heap → CR) (ex : Nat → K0) (n : K0) (hn : n = s33_3 k3) : dCode noG ev (finR noG c33r) L c33_4 ex n = t33_4 ev L k1 k3 := by
  subst hn
  simp only [c33_4, dCode, dOpers]
  rw [p33_5 ev L k1 k3 _ _ rfl]
  rw [p33_7 ev L k1 k3 _ _ rfl]
  rw [p33_19 ev L k1 k3 _ (by first | rfl | exact hx4)]
  kernel_rfl
theorem b33_3 (k1 : AV → AV → AV → Heap → CR) (k3 : AV → AV → AV → AV → AV → Heap → CR) (ex : Nat → K0) (n : K0) (hn : n = s33_3 k3) (hx2 : ex 2 = s33_1 k1) : dCode noG ev (finR noG c33r) L c33_3 ex n = fun T H => j33_3 ev L k1 k3 (getS 0 T) (getS 3 T) (getS 4 T) (getS 14 T) (getS 15 T) H := by
  subst hn
  simp only [c33_3, dCode, dOpers]
  rw [p33_4 ev L k1 k3 _ _ rfl]
  try rw [hx2]
  kernel_rfl
theorem p33_3 (k1 : AV → AV → AV → Heap → CR) (ex : Nat → K0) (hx2 : ex 2 = s33_1 k1) : ∀ m, pLoop (fun n => dCode noG ev (finR noG c33r) L c33_3 ex n) m = s33_3 (l33_3 ev L k1 m) := by
  intro m
  induction m with
  | zero => kernel_rfl
  | succ m ih =>
    show dCode noG ev (finR noG c33r) L c33_3 ex (pLoop (fun n => dCode noG ev (finR noG c33r) L c33_3 ex n) m) = _
    rw [ih, b33_3 ev L k1 (l33_3 ev L k1 m) ex _ rfl hx2]
    kernel_rfl
def t33_2 (k1 : AV → AV → AV → Heap → CR) : K0 := fun T H => j33_2 ev L k1 (getS 0 T) (getS 3 T) H
theorem p33_2 (k1 : AV → AV → AV → Heap → CR) (ex : Nat → K0) (n : K0) (hn : n = s33_1 k1) : dCode noG ev (finR noG c33r) L c33_2 ex n = t33_2 ev L k1 := by
  subst hn
  simp only [c33_2, dCode, dOpers]
  rw [p33_3 ev L k1 _ (by first | rfl | exact hx2)]
  kernel_rfl
theorem b33_1 (k1 : AV → AV → AV → Heap → CR) (ex : Nat → K0) (n : K0) (hn : n = s33_1 k1) (hx0 : ex 0 = t33_0 ev L) : dCode noG ev (finR noG c33r) L c33_1 ex n = fun T H => j33_1 ev L k1 (getS 0 T) (getS 3 T) (getS 4 T) H := by
  subst hn
  simp only [c33_1, dCode, dOpers]
  rw [p33_2 ev L k1 _ _ rfl]
  try rw [hx0]
  kernel_rfl
theorem p33_1 (ex : Nat → K0) (hx0 : ex 0 = t33_0 ev L) : ∀ m, pLoop (fun n => dCode noG ev (finR noG c33r) L c33_1 ex n) m = s33_1 (l33_1 ev L m) := by
  intro m
  induction m with
  | zero => kernel_rfl
  | succ m ih =>
    show dCode noG ev (finR noG c33r) L c33_1 ex (pLoop (fun n => dCode noG ev (finR noG c33r) L c33_1 ex n) m) = _
    rw [ih, b33_1 ev L (l33_1 ev L m) ex _ rfl hx0]
    kernel_rfl
theorem e33 (args : List AV) (H : Heap) : Lq (q33 ev L args H) (dRun noG c33 ev L args H) := by
  unfold q33
  split
  · refine .inr ?_
    rename_i t0
    show _ = ob (argsTm [t0]) fun T => dCode noG ev (finR noG c33r) L c33b (fun _ => pFail) (finR noG c33r) T H
    simp only [c33b, dCode, dOpers]
    rw [p33_0 ev L _ _ rfl]
    rw [p33_1 ev L _ (by first | rfl | exact hx0)]
    kernel_rfl
  · exact .inl rfl
def s34_0 (k0 : AV → AV → AV → AV → Heap → CR) : K0 := fun T H => k0 (getS 0 T) (getS 1 T) (getS 5 T) (getS 6 T) H
def t34_2 (k0 : AV → AV → AV → AV → Heap → CR) : K0 := fun T H => j34_2 ev L k0 (getS 0 T) (getS 1 T) (getS 5 T) (getS 7 T) H
theorem p34_2 (k0 : AV → AV → AV → AV → Heap → CR) (ex : Nat → K0) (n : K0) (hn : n = s34_0 k0) : dCode noG ev (finR noG c34r) L c34_2 ex n = t34_2 ev L k0 := by
  subst hn
  simp only [c34_2, dCode, dOpers]
  kernel_rfl
def t34_1 (k0 : AV → AV → AV → AV → Heap → CR) : K0 := fun T H => j34_1 ev L k0 (getS 0 T) (getS 1 T) (getS 6 T) (getS 7 T) (getS 8 T) H
theorem p34_1 (k0 : AV → AV → AV → AV → Heap → CR) (ex : Nat → K0) (n : K0) (hn : n = s34_0 k0) : dCode noG ev (finR noG c34r) L c34_1 ex n = t34_1 ev L k0 := by
  subst hn
  simp only [c34_1, dCode, dOpers]
  rw [p34_2 ev L k0 _ _ rfl]
  kernel_rfl
def s34_4 (k4 : AV → AV → AV → AV → AV → AV → AV → AV → Heap → CR) : K0 := fun T H => k4 (getS 0 T) (getS 1 T) (getS 5 T) (getS 6 T) (getS 7 T) (getS 8 T) (getS 23 T) (getS 24 T) H
def t34_6 (k0 : AV → AV → AV → AV → Heap → CR) (k4 : AV → AV → AV → AV → AV → AV → AV → AV → Heap → CR) : K0 := fun T H => j34_6 ev L k0 k4 (getS 0 T) (getS 1 T) (getS 5 T) (getS 6 T) (getS 7 T) (getS 8 T) (getS 23 T) (getS 24 T) H
theorem p34_6 (k0 : AV → AV → AV → AV → Heap → CR) (k4 : AV → AV → AV → AV → AV → AV → AV → AV → Heap → CR) (ex : Nat → K0) (n : K0) (hn : n = s34_4 k4) : dCode noG ev (finR noG c34r) L c34_6 ex n = t34_6 ev L k0 k4 := by
  subst hn
  simp only [c34_6, dCode, dOpers]
  kernel_rfl
def t34_9 (k0 : AV → AV → AV → AV → Heap → CR) (k4 : AV → AV → AV → AV → AV → AV → AV → AV → Heap → CR) : K0 := fun T H => j34_9 ev L k0 k4 (getS 0 T) (getS 1 T) (getS 5 T) (getS 6 T) (getS 7 T) (getS 8 T) (getS 9 T) (getS 10 T) (getS 23 T) (getS 24 T) H
theorem p34_9 (k0 : AV → AV → AV → AV → Heap → CR) (k4 : AV → AV → AV → AV → AV → AV → AV → AV → Heap → CR) (ex : Nat → K0) (n : K0) (hn : n = t34_6 ev L k0 k4) : dCode noG ev (finR noG c34r) L c34_9 ex n = t34_9 ev L k0 k4 := by
  subst hn
  simp only [c34_9, dCode, dOpers]
  kernel_rfl
def t34_8 (k0 : AV → AV → AV → AV → Heap → CR) (k4 : AV → AV → AV → AV → AV → AV → AV → AV → Heap → CR) : K0 := fun T H => j34_8 ev L k0 k4 (getS 0 T) (getS 1 T) (getS 5 T) (getS 6 T) (getS 7 T) (getS 8 T) (getS 9 T) (getS 10 T) (getS 23 T) (getS 24 T) H
theorem p34_8 (k0 : AV → AV → AV → AV → Heap → CR) (k4 : AV → AV → AV → AV → AV → AV → AV → AV → Heap → CR) (ex : Nat → K0) (n : K0) (hn : n = t34_6 ev L k0 k4) : dCode noG ev (finR noG c34r) L c34_8 ex n = t34_8 ev L k0 k4 := by
  subst hn
  simp only [c34_8, dCode, dOpers]
  rw [p34_9 ev L k0 k4 _ _ rfl]
  kernel_rfl
def s34_12 (k12 : AV → AV → AV → AV → AV → AV → AV → AV → AV → AV → AV → AV → Heap → CR) : K0 := fun T H => k12 (getS 0 T) (getS 1 T) (getS 5 T) (getS 6 T) (getS 7 T) (getS 8 T) (getS 9 T) (getS 10 T) (getS 23 T) (getS 24 T) (getS 41 T) (getS 42 T) H
def t34_14 (k0 : AV → AV → AV → AV → Heap → CR) (k4 : AV → AV → AV → AV → AV → AV → AV → AV → Heap → CR) (k12 : AV → AV → AV → AV → AV → AV → AV → AV → AV → AV → AV → AV → Heap → CR) : K0 := fun T H => j34_14 ev L k0 k4 k12 (getS 0 T) (getS 1 T) (getS 5 T) (getS 6 T) (getS 7 T) (getS 8 T) (getS 9 T) (getS 10 T) (getS 23 T) (getS 24 T) (getS 41 T) (getS 42 T) H
theorem p34_14 (k0 : AV → AV → AV → AV → Heap → CR) (k4 : AV → AV → AV → AV → AV → AV → AV → AV → Heap → CR) (k12 : AV → AV → AV → AV → AV → AV → AV → AV → AV → AV → AV → AV → Heap → CR) (ex : Nat → K0) (n : K0) (hn : n = s34_12 k12) : dCode noG ev (finR noG c34r) L c34_14 ex n = t34_14 ev L k0 k4 k12 := by
  subst hn
  simp only [c34_14, dCode, dOpers]
  kernel_rfl
def t34_16 (k0 : AV → AV → AV → AV → Heap → CR) (k4 : AV → AV → AV → AV → AV → AV → AV → AV → Heap → CR) (k12 : AV → AV → AV → AV → AV → AV → AV → AV → AV → AV → AV → AV → Heap → CR) : K0 := fun T H => j34_16 ev L k0 k4 k12 (getS 0 T) (getS 1 T) (getS 5 T) (getS 6 T) (getS 7 T) (getS 8 T) (getS 9 T) (getS 10 T) (getS 12 T) (getS 23 T) (getS 24 T) (getS 41 T) (getS 42 T) H
theorem p34_16 (k0 : AV → AV → AV → AV → Heap → CR) (k4 : AV → AV → AV → AV → AV → AV → AV → AV → Heap → CR) (k12 : AV → AV → AV → AV → AV → AV → AV → AV → AV → AV → AV → AV → Heap → CR) (ex : Nat → K0) (n : K0) (hn : n = t34_14 ev L k0 k4 k12) : dCode noG ev (finR noG c34r) L c34_16 ex n = t34_16 ev L k0 k4 k12 := by
  subst hn
  simp only [c34_16, dCode, dOpers]
  kernel_rfl
def t34_18 (k0 : AV → AV → AV → AV → Heap → CR) (k4 : AV → AV → AV → AV → AV → AV → AV → AV → Heap → CR) (k12 : AV → AV → AV → AV → AV → AV → AV → AV → AV → AV → AV → AV → Heap → CR) : K0 := fun T H => j34_18 ev L k0 k4 k12 (getS 0 T) (getS 1 T) (getS 5 T) (getS 6 T) (getS 7 T) (getS 8 T) (getS 9 T) (getS 10 T) (getS 12 T) (getS 23 T) (getS 24 T) (getS 41 T) (getS 42 T) (getS 56 T) H
theorem p34_18 (k0 : AV → AV → AV → AV → Heap → CR) (k4 : AV → AV → AV → AV → AV → AV → AV → AV → Heap → CR) (k12 : AV → AV → AV → AV → AV → AV → AV → AV → AV → AV → AV → AV → Heap → CR) (ex : Nat → K0) (n : K0) (hn : n = t34_16 ev L k0 k4 k12) : dCode noG ev (finR noG c34r) L c34_18 ex n = t34_18 ev L k0 k4 k12 := by
  subst hn
  simp only [c34_18, dCode, dOpers]
  kernel_rfl
def t34_25 (k0 : AV → AV → AV → AV → Heap → CR) (k4 : AV → AV → AV → AV → AV → AV → AV → AV → Heap → CR) (k12 : AV → AV → AV → AV → AV → AV → AV → AV → AV → AV → AV → AV → Heap → CR) : K0 := fun T H => j34_25 ev L k0 k4 k12 (getS 0 T) (getS 1 T) (getS 5 T) (getS 6 T) (getS 7 T) (getS 8 T) (getS 9 T) (getS 10 T) (getS 12 T) (getS 23 T) (getS 24 T) (getS 41 T) (getS 42 T) (getS 51 T) (getS 55 T) H
theorem p34_25 (k0 : AV → AV → AV → AV → Heap → CR) (k4 : AV → AV → AV → AV → AV → AV → AV → AV → Heap → CR) (k12 : AV → AV → AV → AV → AV → AV → AV → AV → AV → AV → AV → AV → Heap → CR) (n : K0) (hn : n = t34_18 ev L k0 k4 k12) : dOpers noG ev o34_21_7 n = t34_25 ev L k0 k4 k12 := by
  subst hn
  simp only [o34_21_7, dOpers]
  kernel_rfl
def t34_24 (k0 : AV → AV → AV → AV → Heap → CR) (k4 : AV → AV → AV → AV → AV → AV → AV → AV → Heap → CR) (k12 : AV → AV → AV → AV → AV → AV → AV → AV → AV → AV → AV → AV → Heap → CR) : K0 := fun T H => j34_24 ev L k0 k4 k12 (getS 0 T) (getS 1 T) (getS 5 T) (getS 6 T) (getS 7 T) (getS 8 T) (getS 9 T) (getS 10 T) (getS 12 T) (getS 23 T) (getS 24 T) (getS 41 T) (getS 42 T) (getS 51 T) (getS 54 T) H
theorem p34_24 (k0 : AV → AV → AV → AV → Heap → CR) (k4 : AV → AV → AV → AV → AV → AV → AV → AV → Heap → CR) (k12 : AV → AV → AV → AV → AV → AV → AV → AV → AV → AV → AV → AV → Heap → CR) (n : K0) (hn : n = t34_18 ev L k0 k4 k12) : dOpers noG ev o34_21_6 n = t34_24 ev L k0 k4 k12 := by
  subst hn
  simp only [o34_21_6, dOpers]
  rw [p34_25 ev L k0 k4 k12 _ rfl]
  kernel_rfl
def t34_23 (k0 : AV → AV → AV → AV → Heap → CR) (k4 : AV → AV → AV → AV → AV → AV → AV → AV → Heap → CR) (k12 : AV → AV → AV → AV → AV → AV → AV → AV → AV → AV → AV → AV → Heap → CR) : K0 := fun T H => j34_23 ev L k0 k4 k12 (getS 0 T) (getS 1 T) (getS 5 T) (getS 6 T) (getS 7 T) (getS 8 T) (getS 9 T) (getS 10 T) (getS 12 T) (getS 23 T) (getS 24 T) (getS 41 T) (getS 42 T) (getS 51 T) (getS 52 T) (getS 53 T) H
theorem p34_23 (k0 : AV → AV → AV → AV → Heap → CR) (k4 : AV → AV → AV → AV → AV → AV → AV → AV → Heap → CR) (k12 : AV → AV → AV → AV → AV → AV → AV → AV → AV → AV → AV → AV → Heap → CR) (n : K0) (hn : n = t34_18 ev L k0 k4 k12) : dOpers noG ev o34_21_5 n = t34_23 ev L k0 k4 k12 := by
  subst hn
  simp only [o34_21_5, dOpers]
  rw [p34_24 ev L k0 k4 k12 _ rfl]
  kernel_rfl
def t34_22 (k0 : AV → AV → AV → AV → Heap → CR) (k4 : AV → AV → AV → AV → AV → AV → AV → AV → Heap → CR) (k12 : AV → AV → AV → AV → AV → AV → AV → AV → AV → AV → AV → AV → Heap → CR) : K0 := fun T H => j34_22 ev L k0 k4 k12 (getS 0 T) (getS 1 T) (getS 5 T) (getS 6 T) (getS 7 T) (getS 8 T) (getS 9 T) (getS 10 T) (getS 12 T) (getS 23 T) (getS 24 T) (getS 41 T) (getS 42 T) (getS 51 T) (getS 52 T) H
theorem p34_22 (k0 : AV → AV → AV → AV → Heap → CR) (k4 : AV → AV → AV → AV → AV → AV → AV → AV → Heap → CR) (k12 : AV → AV → AV → AV → AV → AV → AV → AV → AV → AV → AV → AV → Heap → CR) (n : K0) (hn : n = t34_18 ev L k0 k4 k12) : dOpers noG ev o34_21_4 n = t34_22 ev L k0 k4 k12 := by
  subst hn
  simp only [o34_21_4, dOpers]
  rw [p34_23 ev L k0 k4 k12 _ rfl]
  kernel_rfl
def t34_13 (k0 : AV → AV → AV → AV → Heap → CR) (k4 : AV → AV → AV → AV → AV → AV → AV → AV → Heap → CR) (k12 : AV → AV → AV → AV → AV → AV → AV → AV → AV → AV → AV → AV → Heap → CR) : K0 := fun T H => j34_13 ev L k0 k4 k12 (getS 0 T) (getS 1 T) (getS 5 T) (getS 6 T) (getS 7 T) (getS 8 T) (getS 9 T) (getS 10 T) (getS 23 T) (getS 24 T) (getS 41 T) (getS 42 T) H
theorem p34_13 (k0 : AV → AV → AV → AV → Heap → CR) (k4 : AV → AV → AV → AV → AV → AV → AV → AV → Heap → CR) (k12 : AV → AV → AV → AV → AV → AV → AV → AV → AV → AV → AV → AV → Heap → CR) (ex : Nat → K0) (n : K0) (hn : n = s34_12 k12) : dCode noG ev (finR noG c34r) L c34_13 ex n = t34_13 ev L k0 k4 k12 := by
  subst hn
  simp only [c34_13, dCode, dOpers]
  rw [p34_14 ev L k0 k4 k12 _ _ rfl]
  rw [p34_16 ev L k0 k4 k12 _ _ rfl]
  rw [p34_18 ev L k0 k4 k12 _ _ rfl]
  rw [p34_22 ev L k0 k4 k12 _ rfl]
  kernel_rfl
theorem b34_12 (k0 : AV → AV → AV → AV → Heap → CR) (k4 : AV → AV → AV → AV → AV → AV → AV → AV → Heap → CR) (k12 : AV → AV → AV → AV → AV → AV → AV → AV → AV → AV → AV → AV → Heap → CR) (ex : Nat → K0) (n : K0) (hn : n = s34_12 k12) (hx4 : ex 4 = t34_8 ev L k0 k4) : dCode noG ev (finR noG c34r) L c34_12 ex n = fun T H => j34_12 ev L k0 k4 k12 (getS 0 T) (getS 1 T) (getS 5 T) (getS 6 T) (getS 7 T) (getS 8 T) (getS 9 T) (getS 10 T) (getS 23 T) (getS 24 T) (getS 41 T) (getS 42 T) H := by
  subst hn
  simp only [c34_12, dCode, dOpers]
  rw [p34_13 ev L k0 k4 k12 _ _ rfl]
  try rw [hx4]
  kernel_rfl
theorem p34_12 (k0 : AV → AV → AV → AV → Heap → CR) (k4 : AV → AV → AV → AV → AV → AV → AV → AV → Heap → CR) (ex : Nat → K0) (hx4 : ex 4 = t34_8 ev L k0 k4) : ∀ m, pLoop (fun n => dCode noG ev (finR noG c34r) L c34_12 ex n) m = s34_12 (l34_12 ev L k0 k4 m) := by
  intro m
  induction m with
  | zero => kernel_rfl
  | succ m ih =>
    show dCode noG ev (finR noG c34r) L c34_12 ex (pLoop (fun n => dCode noG ev (finR noG c34r) L c34_12 ex n) m) = _
    rw [ih, b34_12 ev L k0 k4 (l34_12 ev L k0 k4 m) ex _ rfl hx4]
    kernel_rfl
def t34_5 (k0 : AV → AV → AV → AV → Heap → CR) (k4 : AV → AV → AV → AV → AV → AV → AV → AV → Heap → CR) : K0 := fun T H => j34_5 ev L k0 k4 (getS 0 T) (getS 1 T) (getS 5 T) (getS 6 T) (getS 7 T) (getS 8 T) (getS 23 T) (getS 24 T) H
theorem p34_5 (k0 : AV → AV → AV → AV → Heap → CR) (k4 : AV → AV → AV → AV → AV → AV → AV → AV → Heap → CR) (ex : Nat → K0) (n : K0) (hn : n = s34_4 k4) : dCode noG ev (finR noG c34r) L c34_5 ex n = t34_5 ev L k0 k4 := by
  subst hn
  simp only [c34_5, dCode, dOpers]
  rw [p34_6 ev L k0 k4 _ _ rfl]
  rw [p34_8 ev L k0 k4 _ _ rfl]
  rw [p34_12 ev L k0 k4 _ (by first | rfl | exact hx4)]
  kernel_rfl
theorem b34_4 (k0 : AV → AV → AV → AV → Heap → CR) (k4 : AV → AV → AV → AV → AV → AV → AV → AV → Heap → CR) (ex : Nat → K0) (n : K0) (hn : n = s34_4 k4) (hx2 : ex 2 = t34_1 ev L k0) : dCode noG ev (finR noG c34r) L c34_4 ex n = fun T H => j34_4 ev L k0 k4 (getS 0 T) (getS 1 T) (getS 5 T) (getS 6 T) (getS 7 T) (getS 8 T) (getS 23 T) (getS 24 T) H := by
  subst hn
  simp only [c34_4, dCode, dOpers]
  rw [p34_5 ev L k0 k4 _ _ rfl]
  try rw [hx2]
  kernel_rfl
theorem p34_4 (k0 : AV → AV → AV → AV → Heap → CR) (ex : Nat → K0) (hx2 : ex 2 = t34_1 ev L k0) : ∀ m, pLoop (fun n => dCode noG ev (finR noG c34r) L c34_4 ex n) m = s34_4 (l34_4 ev L k0 m) := by
  intro m
  induction m with
  | zero => kernel_rfl
  | succ m ih =>
    show dCode noG ev (finR noG c34r) L c34_4 ex (pLoop (fun n => dCode noG ev (finR noG c34r) L c34_4 ex n) m) = _
    rw [ih, b34_4 ev L k0 (l34_4 ev L k0 m) ex _ rfl hx2]
    kernel_rfl
theorem b34_0 (k0 : AV → AV → AV → AV → Heap → CR) (ex : Nat → K0) (n : K0) (hn : n = s34_0 k0) : dCode noG ev (finR noG c34r) L c34_0 ex n = fun T H => j34_0 ev L k0 (getS 0 T) (getS 1 T) (getS 5 T) (getS 6 T) H := by
  subst hn
  simp only [c34_0, dCode, dOpers]
  rw [p34_1 ev L k0 _ _ rfl]
  rw [p34_4 ev L k0 _ (by first | rfl | exact hx2)]
  kernel_rfl
theorem p34_0 (ex : Nat → K0) : ∀ m, pLoop (fun n => dCode noG ev (finR noG c34r) L c34_0 ex n) m = s34_0 (l34_0 ev L m) := by
  intro m
  induction m with
  | zero => kernel_rfl
  | succ m ih =>
    show dCode noG ev (finR noG c34r) L c34_0 ex (pLoop (fun n => dCode noG ev (finR noG c34r) L c34_0 ex n) m) = _
    rw [ih, b34_0 ev L (l34_0 ev L m) ex _ rfl]
    kernel_rfl
theorem e34 (args : List AV) (H : Heap) : Lq (q34 ev L args H) (dRun noG c34 ev L args H) := by
  unfold q34
  split
  · refine .inr ?_
    rename_i t0 t1
    show _ = ob (argsTm [t0, t1]) fun T => dCode noG ev (finR noG c34r) L c34b (fun _ => pFail) (finR noG c34r) T H
    simp only [c34b, dCode, dOpers]
    rw [p34_0 ev L _]
    kernel_rfl
  · exact .inl rfl
def t35_0 : K0 := fun T H => j35_0 ev L (getS 0 T) (getS 1 T) (getS 2 T) H
theorem p35_0 (ex : Nat → K0) (n : K0) (hn : n = finR noG c35r) : dCode noG ev (finR noG c35r) L c35_0 ex n = t35_0 ev L := by
  subst hn
  simp only [c35_0, dCode, dOpers]
  kernel_rfl
def t35_1 : K0 := fun T H => j35_1 ev L (getS 0 T) (getS 1 T) (getS 2 T) (getS 34 T) H
theorem p35_1 (ex : Nat → K0) (n : K0) (hn : n = t35_0 ev L) : dCode noG ev (finR noG c35r) L c35_1 ex n = t35_1 ev L := by
  subst hn
  simp only [c35_1, dCode, dOpers]
  kernel_rfl
def t35_20 : K0 := fun T H => j35_20 ev L (getS 0 T) (getS 1 T) (getS 2 T) (getS 26 T) (getS 33 T) H
theorem p35_20 (n : K0) (hn : n = t35_1 ev L) : dOpers noG ev o35_2_27 n = t35_20 ev L := by
  subst hn
  simp only [o35_2_27, dOpers]
  kernel_rfl
def t35_19 : K0 := fun T H => j35_19 ev L (getS 0 T) (getS 1 T) (getS 2 T) (getS 26 T) (getS 27 T) (getS 32 T) H
theorem p35_19 (n : K0) (hn : n = t35_1 ev L) : dOpers noG ev o35_2_26 n = t35_19 ev L := by
  subst hn
  simp only [o35_2_26, dOpers]
  rw [p35_20 ev L _ rfl]
  kernel_rfl
def t35_18 : K0 := fun T H => j35_18 ev L (getS 0 T) (getS 1 T) (getS 2 T) (getS 26 T) (getS 27 T) (getS 31 T) H
theorem p35_18 (n : K0) (hn : n = t35_1 ev L) : dOpers noG ev o35_2_25 n = t35_18 ev L := by
  subst hn
  simp only [o35_2_25, dOpers]
  rw [p35_19 ev L _ rfl]
  kernel_rfl
def t35_17 : K0 := fun T H => j35_17 ev L (getS 0 T) (getS 1 T) (getS 2 T) (getS 26 T) (getS 27 T) (getS 30 T) H
theorem p35_17 (n : K0) (hn : n = t35_1 ev L) : dOpers noG ev o35_2_24 n = t35_17 ev L := by
  subst hn
  simp only [o35_2_24, dOpers]
  rw [p35_18 ev L _ rfl]
  kernel_rfl
def t35_16 : K0 := fun T H => j35_16 ev L (getS 0 T) (getS 1 T) (getS 2 T) (getS 26 T) (getS 27 T) (getS 29 T) H
theorem p35_16 (n : K0) (hn : n = t35_1 ev L) : dOpers noG ev o35_2_23 n = t35_16 ev L := by
  subst hn
  simp only [o35_2_23, dOpers]
  rw [p35_17 ev L _ rfl]
  kernel_rfl
def t35_15 : K0 := fun T H => j35_15 ev L (getS 0 T) (getS 1 T) (getS 2 T) (getS 26 T) (getS 27 T) (getS 28 T) H
theorem p35_15 (n : K0) (hn : n = t35_1 ev L) : dOpers noG ev o35_2_22 n = t35_15 ev L := by
  subst hn
  simp only [o35_2_22, dOpers]
  rw [p35_16 ev L _ rfl]
  kernel_rfl
def t35_14 : K0 := fun T H => j35_14 ev L (getS 0 T) (getS 1 T) (getS 2 T) (getS 26 T) (getS 27 T) H
theorem p35_14 (n : K0) (hn : n = t35_1 ev L) : dOpers noG ev o35_2_21 n = t35_14 ev L := by
  subst hn
  simp only [o35_2_21, dOpers]
  rw [p35_15 ev L _ rfl]
  kernel_rfl
def t35_13 : K0 := fun T H => j35_13 ev L (getS 0 T) (getS 1 T) (getS 2 T) (getS 22 T) (getS 24 T) H
theorem p35_13 (n : K0) (hn : n = t35_1 ev L) : dOpers noG ev o35_2_18 n = t35_13 ev L := by
  subst hn
  simp only [o35_2_18, dOpers]
  rw [p35_14 ev L _ rfl]
  kernel_rfl
def t35_12 : K0 := fun T H => j35_12 ev L (getS 0 T) (getS 1 T) (getS 2 T) (getS 22 T) (getS 23 T) H
theorem p35_12 (n : K0) (hn : n = t35_1 ev L) : dOpers noG ev o35_2_17 n = t35_12 ev L := by
  subst hn
  simp only [o35_2_17, dOpers]
  rw [p35_13 ev L _ rfl]
  kernel_rfl
def t35_11 : K0 := fun T H => j35_11 ev L (getS 0 T) (getS 1 T) (getS 2 T) (getS 13 T) (getS 20 T) H
theorem p35_11 (n : K0) (hn : n = t35_1 ev L) : dOpers noG ev o35_2_14 n = t35_11 ev L := by
  subst hn
  simp only [o35_2_14, dOpers]
  rw [p35_12 ev L _ rfl]
  kernel_rfl
def t35_10 : K0 := fun T H => j35_10 ev L (getS 0 T) (getS 1 T) (getS 2 T) (getS 13 T) (getS 14 T) (getS 19 T) H
theorem p35_10 (n : K0) (hn : n = t35_1 ev L) : dOpers noG ev o35_2_13 n = t35_10 ev L := by
  subst hn
  simp only [o35_2_13, dOpers]
  rw [p35_11 ev L _ rfl]
  kernel_rfl
def t35_9 : K0 := fun T H => j35_9 ev L (getS 0 T) (getS 1 T) (getS 2 T) (getS 13 T) (getS 14 T) (getS 18 T) H
theorem p35_9 (n : K0) (hn : n = t35_1 ev L) : dOpers noG ev o35_2_12 n = t35_9 ev L := by
  subst hn
  simp only [o35_2_12, dOpers]
  rw [p35_10 ev L _ rfl]
  kernel_rfl
def t35_8 : K0 := fun T H => j35_8 ev L (getS 0 T) (getS 1 T) (getS 2 T) (getS 13 T) (getS 14 T) (getS 17 T) H
theorem p35_8 (n : K0) (hn : n = t35_1 ev L) : dOpers noG ev o35_2_11 n = t35_8 ev L := by
  subst hn
  simp only [o35_2_11, dOpers]
  rw [p35_9 ev L _ rfl]
  kernel_rfl
def t35_7 : K0 := fun T H => j35_7 ev L (getS 0 T) (getS 1 T) (getS 2 T) (getS 13 T) (getS 14 T) (getS 16 T) H
theorem p35_7 (n : K0) (hn : n = t35_1 ev L) : dOpers noG ev o35_2_10 n = t35_7 ev L := by
  subst hn
  simp only [o35_2_10, dOpers]
  rw [p35_8 ev L _ rfl]
  kernel_rfl
def t35_6 : K0 := fun T H => j35_6 ev L (getS 0 T) (getS 1 T) (getS 2 T) (getS 13 T) (getS 14 T) (getS 15 T) H
theorem p35_6 (n : K0) (hn : n = t35_1 ev L) : dOpers noG ev o35_2_9 n = t35_6 ev L := by
  subst hn
  simp only [o35_2_9, dOpers]
  rw [p35_7 ev L _ rfl]
  kernel_rfl
def t35_5 : K0 := fun T H => j35_5 ev L (getS 0 T) (getS 1 T) (getS 2 T) (getS 13 T) (getS 14 T) H
theorem p35_5 (n : K0) (hn : n = t35_1 ev L) : dOpers noG ev o35_2_8 n = t35_5 ev L := by
  subst hn
  simp only [o35_2_8, dOpers]
  rw [p35_6 ev L _ rfl]
  kernel_rfl
def t35_4 : K0 := fun T H => j35_4 ev L (getS 0 T) (getS 1 T) (getS 2 T) (getS 9 T) (getS 11 T) H
theorem p35_4 (n : K0) (hn : n = t35_1 ev L) : dOpers noG ev o35_2_5 n = t35_4 ev L := by
  subst hn
  simp only [o35_2_5, dOpers]
  rw [p35_5 ev L _ rfl]
  kernel_rfl
def t35_3 : K0 := fun T H => j35_3 ev L (getS 0 T) (getS 1 T) (getS 2 T) (getS 9 T) (getS 10 T) H
theorem p35_3 (n : K0) (hn : n = t35_1 ev L) : dOpers noG ev o35_2_4 n = t35_3 ev L := by
  subst hn
  simp only [o35_2_4, dOpers]
  rw [p35_4 ev L _ rfl]
  kernel_rfl
theorem e35 (args : List AV) (H : Heap) : Lq (q35 ev L args H) (dRun noG c35 ev L args H) := by
  unfold q35
  split
  · refine .inr ?_
    rename_i t0 t1 t2
    show _ = ob (argsTm [t0, t1, t2]) fun T => dCode noG ev (finR noG c35r) L c35b (fun _ => pFail) (finR noG c35r) T H
    simp only [c35b, dCode, dOpers]
    rw [p35_0 ev L _ _ rfl]
    rw [p35_1 ev L _ _ rfl]
    rw [p35_3 ev L _ rfl]
    kernel_rfl
  · exact .inl rfl
def t36_0 : K0 := fun T H => j36_0 ev L (getS 0 T) (getS 1 T) H
theorem p36_0 (ex : Nat → K0) (n : K0) (hn : n = finR noG c36r) : dCode noG ev (finR noG c36r) L c36_0 ex n = t36_0 ev L := by
  subst hn
  simp only [c36_0, dCode, dOpers]
  kernel_rfl
def t36_1 : K0 := fun T H => j36_1 ev L (getS 0 T) (getS 1 T) (getS 19 T) H
theorem p36_1 (ex : Nat → K0) (n : K0) (hn : n = t36_0 ev L) : dCode noG ev (finR noG c36r) L c36_1 ex n = t36_1 ev L := by
  subst hn
  simp only [c36_1, dCode, dOpers]
  kernel_rfl
def t36_11 : K0 := fun T H => j36_11 ev L (getS 0 T) (getS 1 T) (getS 11 T) (getS 18 T) H
theorem p36_11 (n : K0) (hn : n = t36_1 ev L) : dOpers noG ev o36_2_14 n = t36_11 ev L := by
  subst hn
  simp only [o36_2_14, dOpers]
  kernel_rfl
def t36_10 : K0 := fun T H => j36_10 ev L (getS 0 T) (getS 1 T) (getS 11 T) (getS 12 T) (getS 17 T) H
theorem p36_10 (n : K0) (hn : n = t36_1 ev L) : dOpers noG ev o36_2_13 n = t36_10 ev L := by
  subst hn
  simp only [o36_2_13, dOpers]
  rw [p36_11 ev L _ rfl]
  kernel_rfl
def t36_9 : K0 := fun T H => j36_9 ev L (getS 0 T) (getS 1 T) (getS 11 T) (getS 12 T) (getS 16 T) H
theorem p36_9 (n : K0) (hn : n = t36_1 ev L) : dOpers noG ev o36_2_12 n = t36_9 ev L := by
  subst hn
  simp only [o36_2_12, dOpers]
  rw [p36_10 ev L _ rfl]
  kernel_rfl
def t36_8 : K0 := fun T H => j36_8 ev L (getS 0 T) (getS 1 T) (getS 11 T) (getS 12 T) (getS 15 T) H
theorem p36_8 (n : K0) (hn : n = t36_1 ev L) : dOpers noG ev o36_2_11 n = t36_8 ev L := by
  subst hn
  simp only [o36_2_11, dOpers]
  rw [p36_9 ev L _ rfl]
  kernel_rfl
def t36_7 : K0 := fun T H => j36_7 ev L (getS 0 T) (getS 1 T) (getS 11 T) (getS 12 T) (getS 14 T) H
theorem p36_7 (n : K0) (hn : n = t36_1 ev L) : dOpers noG ev o36_2_10 n = t36_7 ev L := by
  subst hn
  simp only [o36_2_10, dOpers]
  rw [p36_8 ev L _ rfl]
  kernel_rfl
def t36_6 : K0 := fun T H => j36_6 ev L (getS 0 T) (getS 1 T) (getS 11 T) (getS 12 T) (getS 13 T) H
theorem p36_6 (n : K0) (hn : n = t36_1 ev L) : dOpers noG ev o36_2_9 n = t36_6 ev L := by
  subst hn
  simp only [o36_2_9, dOpers]
  rw [p36_7 ev L _ rfl]
  kernel_rfl
def t36_5 : K0 := fun T H => j36_5 ev L (getS 0 T) (getS 1 T) (getS 11 T) (getS 12 T) H
theorem p36_5 (n : K0) (hn : n = t36_1 ev L) : dOpers noG ev o36_2_8 n = t36_5 ev L := by
  subst hn
  simp only [o36_2_8, dOpers]
  rw [p36_6 ev L _ rfl]
  kernel_rfl
def t36_4 : K0 := fun T H => j36_4 ev L (getS 0 T) (getS 1 T) (getS 7 T) (getS 9 T) H
theorem p36_4 (n : K0) (hn : n = t36_1 ev L) : dOpers noG ev o36_2_5 n = t36_4 ev L := by
  subst hn
  simp only [o36_2_5, dOpers]
  rw [p36_5 ev L _ rfl]
  kernel_rfl
def t36_3 : K0 := fun T H => j36_3 ev L (getS 0 T) (getS 1 T) (getS 7 T) (getS 8 T) H
theorem p36_3 (n : K0) (hn : n = t36_1 ev L) : dOpers noG ev o36_2_4 n = t36_3 ev L := by
  subst hn
  simp only [o36_2_4, dOpers]
  rw [p36_4 ev L _ rfl]
  kernel_rfl
theorem e36 (args : List AV) (H : Heap) : Lq (q36 ev L args H) (dRun noG c36 ev L args H) := by
  unfold q36
  split
  · refine .inr ?_
    rename_i t0 t1
    show _ = ob (argsTm [t0, t1]) fun T => dCode noG ev (finR noG c36r) L c36b (fun _ => pFail) (finR noG c36r) T H
    simp only [c36b, dCode, dOpers]
    rw [p36_0 ev L _ _ rfl]
    rw [p36_1 ev L _ _ rfl]
    rw [p36_3 ev L _ rfl]
    kernel_rfl
  · exact .inl rfl
theorem e37 (args : List AV) (H : Heap) : Lq (q37 ev L args H) (dRun noG c37 ev L args H) := by
  unfold q37
  split
  · refine .inr ?_
    show _ = ob (argsTm []) fun T => dCode noG ev (finR noG c37r) L c37b (fun _ => pFail) (finR noG c37r) T H
    simp only [c37b, dCode, dOpers]
    kernel_rfl
  · exact .inl rfl
def t38_1 : K0 := fun T H => j38_1 ev L (getS 0 T) H
theorem p38_1 (ex : Nat → K0) (n : K0) (hn : n = finR noG c38r) : dCode noG ev (finR noG c38r) L c38_1 ex n = t38_1 ev L := by
  subst hn
  simp only [c38_1, dCode, dOpers]
  kernel_rfl
def s38_2 (k2 : AV → AV → AV → AV → Heap → CR) : K0 := fun T H => k2 (getS 0 T) (getS 15 T) (getS 16 T) (getS 17 T) H
def t38_4 (k2 : AV → AV → AV → AV → Heap → CR) : K0 := fun T H => j38_4 ev L k2 (getS 0 T) (getS 15 T) (getS 16 T) (getS 17 T) H
theorem p38_4 (k2 : AV → AV → AV → AV → Heap → CR) (ex : Nat → K0) (n : K0) (hn : n = s38_2 k2) : dCode noG ev (finR noG c38r) L c38_4 ex n = t38_4 ev L k2 := by
  subst hn
  simp only [c38_4, dCode, dOpers]
  kernel_rfl
def t38_3 (k2 : AV → AV → AV → AV → Heap → CR) : K0 := fun T H => j38_3 ev L k2 (getS 0 T) (getS 15 T) (getS 16 T) (getS 17 T) H
theorem p38_3 (k2 : AV → AV → AV → AV → Heap → CR) (ex : Nat → K0) (n : K0) (hn : n = s38_2 k2) : dCode noG ev (finR noG c38r) L c38_3 ex n = t38_3 ev L k2 := by
  subst hn
  simp only [c38_3, dCode, dOpers]
  rw [p38_4 ev L k2 _ _ rfl]
  kernel_rfl
theorem b38_2 (k2 : AV → AV → AV → AV → Heap → CR) (ex : Nat → K0) (n : K0) (hn : n = s38_2 k2) (hx0 : ex 0 = t38_1 ev L) : dCode noG ev (finR noG c38r) L c38_2 ex n = fun T H => j38_2 ev L k2 (getS 0 T) (getS 15 T) (getS 16 T) (getS 17 T) H := by
  subst hn
  simp only [c38_2, dCode, dOpers]
  rw [p38_3 ev L k2 _ _ rfl]
  try rw [hx0]
  kernel_rfl
theorem p38_2 (ex : Nat → K0) (hx0 : ex 0 = t38_1 ev L) : ∀ m, pLoop (fun n => dCode noG ev (finR noG c38r) L c38_2 ex n) m = s38_2 (l38_2 ev L m) := by
  intro m
  induction m with
  | zero => kernel_rfl
  | succ m ih =>
    show dCode noG ev (finR noG c38r) L c38_2 ex (pLoop (fun n => dCode noG ev (finR noG c38r) L c38_2 ex n) m) = _
    rw [ih, b38_2 ev L (l38_2 ev L m) ex _ rfl hx0]
    kernel_rfl
def t38_0 : K0 := fun T H => j38_0 ev L (getS 0 T) (getS 1 T) H
theorem p38_0 (ex : Nat → K0) (n : K0) (hn : n = finR noG c38r) : dCode noG ev (finR noG c38r) L c38_0 ex n = t38_0 ev L := by
  subst hn
  simp only [c38_0, dCode, dOpers]
  rw [p38_1 ev L _ _ rfl]
  rw [p38_2 ev L _ (by first | rfl | exact hx0)]
  kernel_rfl
def t38_7 : K0 := fun T H => j38_7 ev L (getS 0 T) (getS 1 T) (getS 14 T) H
theorem p38_7 (ex : Nat → K0) (n : K0) (hn : n = t38_0 ev L) : dCode noG ev (finR noG c38r) L c38_7 ex n = t38_7 ev L := by
  subst hn
  simp only [c38_7, dCode, dOpers]
  kernel_rfl
def t38_12 : K0 := fun T H => j38_12 ev L (getS 0 T) (getS 1 T) (getS 9 T) (getS 13 T) H
theorem p38_12 (n : K0) (hn : n = t38_7 ev L) : dOpers noG ev o38_8_7 n = t38_12 ev L := by
  subst hn
  simp only [o38_8_7, dOpers]
  kernel_rfl
def t38_11 : K0 := fun T H => j38_11 ev L (getS 0 T) (getS 1 T) (getS 9 T) (getS 12 T) H
theorem p38_11 (n : K0) (hn : n = t38_7 ev L) : dOpers noG ev o38_8_6 n = t38_11 ev L := by
  subst hn
  simp only [o38_8_6, dOpers]
  rw [p38_12 ev L _ rfl]
  kernel_rfl
def t38_10 : K0 := fun T H => j38_10 ev L (getS 0 T) (getS 1 T) (getS 9 T) (getS 11 T) H
theorem p38_10 (n : K0) (hn : n = t38_7 ev L) : dOpers noG ev o38_8_5 n = t38_10 ev L := by
  subst hn
  simp only [o38_8_5, dOpers]
  rw [p38_11 ev L _ rfl]
  kernel_rfl
def t38_9 : K0 := fun T H => j38_9 ev L (getS 0 T) (getS 1 T) (getS 9 T) (getS 10 T) H
theorem p38_9 (n : K0) (hn : n = t38_7 ev L) : dOpers noG ev o38_8_4 n = t38_9 ev L := by
  subst hn
  simp only [o38_8_4, dOpers]
  rw [p38_10 ev L _ rfl]
  kernel_rfl
theorem e38 (args : List AV) (H : Heap) : Lq (q38 ev L args H) (dRun noG c38 ev L args H) := by
  unfold q38
  split
  · refine .inr ?_
    rename_i t0 t1
    show _ = ob (argsTm [t0, t1]) fun T => dCode noG ev (finR noG c38r) L c38b (fun _ => pFail) (finR noG c38r) T H
    simp only [c38b, dCode, dOpers]
    rw [p38_0 ev L _ _ rfl]
    rw [p38_7 ev L _ _ rfl]
    rw [p38_9 ev L _ rfl]
    kernel_rfl
  · exact .inl rfl
def t39_1 : K0 := fun T H => j39_1 ev L (getS 0 T) H
theorem p39_1 (ex : Nat → K0) (n : K0) (hn : n = finR noG c39r) : dCode noG ev (finR noG c39r) L c39_1 ex n = t39_1 ev L := by
  subst hn
  simp only [c39_1, dCode, dOpers]
  kernel_rfl
def t39_0 : K0 := fun T H => j39_0 ev L (getS 0 T) H
theorem p39_0 (ex : Nat → K0) (n : K0) (hn : n = finR noG c39r) : dCode noG ev (finR noG c39r) L c39_0 ex n = t39_0 ev L := by
  subst hn
  simp only [c39_0, dCode, dOpers]
  rw [p39_1 ev L _ _ rfl]
  kernel_rfl
def t39_3 : K0 := fun T H => j39_3 ev L (getS 0 T) (getS 10 T) H
theorem p39_3 (ex : Nat → K0) (n : K0) (hn : n = t39_0 ev L) : dCode noG ev (finR noG c39r) L c39_3 ex n = t39_3 ev L := by
  subst hn
  simp only [c39_3, dCode, dOpers]
  kernel_rfl
def t39_8 : K0 := fun T H => j39_8 ev L (getS 0 T) (getS 5 T) (getS 9 T) H
theorem p39_8 (n : K0) (hn : n = t39_3 ev L) : dOpers noG ev o39_4_7 n = t39_8 ev L := by
  subst hn
  simp only [o39_4_7, dOpers]
  kernel_rfl
def t39_7 : K0 := fun T H => j39_7 ev L (getS 0 T) (getS 5 T) (getS 8 T) H
theorem p39_7 (n : K0) (hn : n = t39_3 ev L) : dOpers noG ev o39_4_6 n = t39_7 ev L := by
  subst hn
  simp only [o39_4_6, dOpers]
  rw [p39_8 ev L _ rfl]
  kernel_rfl
def t39_6 : K0 := fun T H => j39_6 ev L (getS 0 T) (getS 5 T) (getS 7 T) H
theorem p39_6 (n : K0) (hn : n = t39_3 ev L) : dOpers noG ev o39_4_5 n = t39_6 ev L := by
  subst hn
  simp only [o39_4_5, dOpers]
  rw [p39_7 ev L _ rfl]
  kernel_rfl
def t39_5 : K0 := fun T H => j39_5 ev L (getS 0 T) (getS 5 T) (getS 6 T) H
theorem p39_5 (n : K0) (hn : n = t39_3 ev L) : dOpers noG ev o39_4_4 n = t39_5 ev L := by
  subst hn
  simp only [o39_4_4, dOpers]
  rw [p39_6 ev L _ rfl]
  kernel_rfl
theorem e39 (args : List AV) (H : Heap) : Lq (q39 ev L args H) (dRun noG c39 ev L args H) := by
  unfold q39
  split
  · refine .inr ?_
    rename_i t0
    show _ = ob (argsTm [t0]) fun T => dCode noG ev (finR noG c39r) L c39b (fun _ => pFail) (finR noG c39r) T H
    simp only [c39b, dCode, dOpers]
    rw [p39_0 ev L _ _ rfl]
    rw [p39_3 ev L _ _ rfl]
    rw [p39_5 ev L _ rfl]
    kernel_rfl
  · exact .inl rfl
def t40_0 : K0 := fun T H => j40_0 ev L (getS 1 T) (getS 2 T) (getS 3 T) (getS 6 T) H
theorem p40_0 (ex : Nat → K0) (n : K0) (hn : n = finR noG c40r) : dCode noG ev (finR noG c40r) L c40_0 ex n = t40_0 ev L := by
  subst hn
  simp only [c40_0, dCode, dOpers]
  kernel_rfl
theorem e40 (args : List AV) (H : Heap) : Lq (q40 ev L args H) (dRun noG c40 ev L args H) := by
  unfold q40
  split
  · refine .inr ?_
    rename_i t0 t1 t2
    show _ = ob (argsTm [t0, t1, t2]) fun T => dCode noG ev (finR noG c40r) L c40b (fun _ => pFail) (finR noG c40r) T H
    simp only [c40b, dCode, dOpers]
    rw [p40_0 ev L _ _ rfl]
    kernel_rfl
  · exact .inl rfl
def t41_0 : K0 := fun T H => j41_0 ev L (getS 3 T) H
theorem p41_0 (ex : Nat → K0) (n : K0) (hn : n = finR noG c41r) : dCode noG ev (finR noG c41r) L c41_0 ex n = t41_0 ev L := by
  subst hn
  simp only [c41_0, dCode, dOpers]
  kernel_rfl
def s41_1 (k1 : AV → AV → AV → AV → Heap → CR) : K0 := fun T H => k1 (getS 0 T) (getS 3 T) (getS 4 T) (getS 5 T) H
def s41_3 (k3 : AV → AV → AV → AV → AV → AV → Heap → CR) : K0 := fun T H => k3 (getS 0 T) (getS 3 T) (getS 4 T) (getS 5 T) (getS 17 T) (getS 18 T) H
def t41_5 (k1 : AV → AV → AV → AV → Heap → CR) (k3 : AV → AV → AV → AV → AV → AV → Heap → CR) : K0 := fun T H => j41_5 ev L k1 k3 (getS 0 T) (getS 3 T) (getS 4 T) (getS 5 T) (getS 17 T) (getS 18 T) H
theorem p41_5 (k1 : AV → AV → AV → AV → Heap → CR) (k3 : AV → AV → AV → AV → AV → AV → Heap → CR) (ex : Nat → K0) (n : K0) (hn : n = s41_3 k3) : dCode noG ev (finR noG c41r) L c41_5 ex n = t41_5 ev L k1 k3 := by
  subst hn
  simp only [c41_5, dCode, dOpers]
  kernel_rfl
def t41_8 (k1 : AV → AV → AV → AV → Heap → CR) (k3 : AV → AV → AV → AV → AV → AV → Heap → CR) : K0 := fun T H => j41_8 ev L k1 k3 (getS 0 T) (getS 3 T) (getS 4 T) (getS 5 T) (getS 6 T) (getS 7 T) (getS 17 T) (getS 18 T) H
theorem p41_8 (k1 : AV → AV → AV → AV → Heap → CR) (k3 : AV → AV → AV → AV → AV → AV → Heap → CR) (ex : Nat → K0) (n : K0) (hn : n = t41_5 ev L k1 k3) : dCode noG ev (finR noG c41r) L c41_8 ex n = t41_8 ev L k1 k3 := by
  subst hn
  simp only [c41_8, dCode, dOpers]
  kernel_rfl
def t41_18 (k1 : AV → AV → AV → AV → Heap → CR) (k3 : AV → AV → AV → AV → AV → AV → Heap → CR) : K0 := fun T H => j41_18 ev L k1 k3 (getS 0 T) (getS 3 T) (getS 4 T) (getS 6 T) (getS 7 T) (getS 17 T) (getS 18 T) (getS 46 T) (getS 54 T) H
theorem p41_18 (k1 : AV → AV → AV → AV → Heap → CR) (k3 : AV → AV → AV → AV → AV → AV → Heap → CR) (n : K0) (hn : n = t41_8 ev L k1 k3) : dOpers noG ev o41_10_10 n = t41_18 ev L k1 k3 := by
  subst hn
  simp only [o41_10_10, dOpers]
  kernel_rfl
def t41_17 (k1 : AV → AV → AV → AV → Heap → CR) (k3 : AV → AV → AV → AV → AV → AV → Heap → CR) : K0 := fun T H => j41_17 ev L k1 k3 (getS 0 T) (getS 3 T) (getS 4 T) (getS 6 T) (getS 7 T) (getS 17 T) (getS 18 T) (getS 46 T) (getS 48 T) (getS 53 T) H
theorem p41_17 (k1 : AV → AV → AV → AV → Heap → CR) (k3 : AV → AV → AV → AV → AV → AV → Heap → CR) (n : K0) (hn : n = t41_8 ev L k1 k3) : dOpers noG ev o41_10_9 n = t41_17 ev L k1 k3 := by
  subst hn
  simp only [o41_10_9, dOpers]
  rw [p41_18 ev L k1 k3 _ rfl]
  kernel_rfl
def t41_16 (k1 : AV → AV → AV → AV → Heap → CR) (k3 : AV → AV → AV → AV → AV → AV → Heap → CR) : K0 := fun T H => j41_16 ev L k1 k3 (getS 0 T) (getS 3 T) (getS 4 T) (getS 6 T) (getS 7 T) (getS 17 T) (getS 18 T) (getS 46 T) (getS 48 T) (getS 52 T) H
theorem p41_16 (k1 : AV → AV → AV → AV → Heap → CR) (k3 : AV → AV → AV → AV → AV → AV → Heap → CR) (n : K0) (hn : n = t41_8 ev L k1 k3) : dOpers noG ev o41_10_8 n = t41_16 ev L k1 k3 := by
  subst hn
  simp only [o41_10_8, dOpers]
  rw [p41_17 ev L k1 k3 _ rfl]
  kernel_rfl
def t41_15 (k1 : AV → AV → AV → AV → Heap → CR) (k3 : AV → AV → AV → AV → AV → AV → Heap → CR) : K0 := fun T H => j41_15 ev L k1 k3 (getS 0 T) (getS 3 T) (getS 4 T) (getS 6 T) (getS 7 T) (getS 17 T) (getS 18 T) (getS 46 T) (getS 48 T) (getS 51 T) H
theorem p41_15 (k1 : AV → AV → AV → AV → Heap → CR) (k3 : AV → AV → AV → AV → AV → AV → Heap → CR) (n : K0) (hn : n = t41_8 ev L k1 k3) : dOpers noG ev o41_10_7 n = t41_15 ev L k1 k3 := by
  subst hn
  simp only [o41_10_7, dOpers]
  rw [p41_16 ev L k1 k3 _ rfl]
  kernel_rfl
def t41_14 (k1 : AV → AV → AV → AV → Heap → CR) (k3 : AV → AV → AV → AV → AV → AV → Heap → CR) : K0 := fun T H => j41_14 ev L k1 k3 (getS 0 T) (getS 3 T) (getS 4 T) (getS 6 T) (getS 7 T) (getS 17 T) (getS 18 T) (getS 46 T) (getS 48 T) (getS 49 T) (getS 50 T) H
theorem p41_14 (k1 : AV → AV → AV → AV → Heap → CR) (k3 : AV → AV → AV → AV → AV → AV → Heap → CR) (n : K0) (hn : n = t41_8 ev L k1 k3) : dOpers noG ev o41_10_6 n = t41_14 ev L k1 k3 := by
  subst hn
  simp only [o41_10_6, dOpers]
  rw [p41_15 ev L k1 k3 _ rfl]
  kernel_rfl
def t41_13 (k1 : AV → AV → AV → AV → Heap → CR) (k3 : AV → AV → AV → AV → AV → AV → Heap → CR) : K0 := fun T H => j41_13 ev L k1 k3 (getS 0 T) (getS 3 T) (getS 4 T) (getS 6 T) (getS 7 T) (getS 17 T) (getS 18 T) (getS 46 T) (getS 48 T) (getS 49 T) H
theorem p41_13 (k1 : AV → AV → AV → AV → Heap → CR) (k3 : AV → AV → AV → AV → AV → AV → Heap → CR) (n : K0) (hn : n = t41_8 ev L k1 k3) : dOpers noG ev o41_10_5 n = t41_13 ev L k1 k3 := by
  subst hn
  simp only [o41_10_5, dOpers]
  rw [p41_14 ev L k1 k3 _ rfl]
  kernel_rfl
def t41_12 (k1 : AV → AV → AV → AV → Heap → CR) (k3 : AV → AV → AV → AV → AV → AV → Heap → CR) : K0 := fun T H => j41_12 ev L k1 k3 (getS 0 T) (getS 3 T) (getS 4 T) (getS 6 T) (getS 7 T) (getS 17 T) (getS 18 T) (getS 46 T) (getS 48 T) H
theorem p41_12 (k1 : AV → AV → AV → AV → Heap → CR) (k3 : AV → AV → AV → AV → AV → AV → Heap → CR) (n : K0) (hn : n = t41_8 ev L k1 k3) : dOpers noG ev o41_10_4 n = t41_12 ev L k1 k3 := by
  subst hn
  simp only [o41_10_4, dOpers]
  rw [p41_13 ev L k1 k3 _ rfl]
  kernel_rfl
def t41_11 (k1 : AV → AV → AV → AV → Heap → CR) (k3 : AV → AV → AV → AV → AV → AV → Heap → CR) : K0 := fun T H => j41_11 ev L k1 k3 (getS 0 T) (getS 3 T) (getS 4 T) (getS 6 T) (getS 7 T) (getS 17 T) (getS 18 T) (getS 46 T) (getS 47 T) H
theorem p41_11 (k1 : AV → AV → AV → AV → Heap → CR) (k3 : AV → AV → AV → AV → AV → AV → Heap → CR) (n : K0) (hn : n = t41_8 ev L k1 k3) : dOpers noG ev o41_10_3 n = t41_11 ev L k1 k3 := by
  subst hn
  simp only [o41_10_3, dOpers]
  rw [p41_12 ev L k1 k3 _ rfl]
  kernel_rfl
def t41_7 (k1 : AV → AV → AV → AV → Heap → CR) (k3 : AV → AV → AV → AV → AV → AV → Heap → CR) : K0 := fun T H => j41_7 ev L k1 k3 (getS 0 T) (getS 3 T) (getS 4 T) (getS 5 T) (getS 6 T) (getS 7 T) (getS 17 T) (getS 18 T) H
theorem p41_7 (k1 : AV → AV → AV → AV → Heap → CR) (k3 : AV → AV → AV → AV → AV → AV → Heap → CR) (ex : Nat → K0) (n : K0) (hn : n = t41_5 ev L k1 k3) : dCode noG ev (finR noG c41r) L c41_7 ex n = t41_7 ev L k1 k3 := by
  subst hn
  simp only [c41_7, dCode, dOpers]
  rw [p41_8 ev L k1 k3 _ _ rfl]
  rw [p41_11 ev L k1 k3 _ rfl]
  kernel_rfl
def s41_19 (k19 : AV → AV → AV → AV → AV → AV → AV → AV → AV → AV → AV → Heap → CR) : K0 := fun T H => k19 (getS 0 T) (getS 3 T) (getS 4 T) (getS 5 T) (getS 6 T) (getS 7 T) (getS 17 T) (getS 18 T) (getS 27 T) (getS 28 T) (getS 29 T) H
def t41_21 (k1 : AV → AV → AV → AV → Heap → CR) (k3 : AV → AV → AV → AV → AV → AV → Heap → CR) (k19 : AV → AV → AV → AV → AV → AV → AV → AV → AV → AV → AV → Heap → CR) : K0 := fun T H => j41_21 ev L k1 k3 k19 (getS 0 T) (getS 3 T) (getS 4 T) (getS 5 T) (getS 6 T) (getS 7 T) (getS 17 T) (getS 18 T) (getS 27 T) (getS 28 T) (getS 29 T) H
theorem p41_21 (k1 : AV → AV → AV → AV → Heap → CR) (k3 : AV → AV → AV → AV → AV → AV → Heap → CR) (k19 : AV → AV → AV → AV → AV → AV → AV → AV → AV → AV → AV → Heap → CR) (ex : Nat → K0) (n : K0) (hn : n = s41_19 k19) : dCode noG ev (finR noG c41r) L c41_21 ex n = t41_21 ev L k1 k3 k19 := by
  subst hn
  simp only [c41_21, dCode, dOpers]
  kernel_rfl
def t41_31 (k1 : AV → AV → AV → AV → Heap → CR) (k3 : AV → AV → AV → AV → AV → AV → Heap → CR) (k19 : AV → AV → AV → AV → AV → AV → AV → AV → AV → AV → AV → Heap → CR) : K0 := fun T H => j41_31 ev L k1 k3 k19 (getS 0 T) (getS 3 T) (getS 4 T) (getS 5 T) (getS 6 T) (getS 17 T) (getS 18 T) (getS 27 T) (getS 28 T) (getS 29 T) (getS 34 T) (getS 42 T) H
theorem p41_31 (k1 : AV → AV → AV → AV → Heap → CR) (k3 : AV → AV → AV → AV → AV → AV → Heap → CR) (k19 : AV → AV → AV → AV → AV → AV → AV → AV → AV → AV → AV → Heap → CR) (n : K0) (hn : n = t41_21 ev L k1 k3 k19) : dOpers noG ev o41_23_10 n = t41_31 ev L k1 k3 k19 := by
  subst hn
  simp only [o41_23_10, dOpers]
  kernel_rfl
def t41_30 (k1 : AV → AV → AV → AV → Heap → CR) (k3 : AV → AV → AV → AV → AV → AV → Heap → CR) (k19 : AV → AV → AV → AV → AV → AV → AV → AV → AV → AV → AV → Heap → CR) : K0 := fun T H => j41_30 ev L k1 k3 k19 (getS 0 T) (getS 3 T) (getS 4 T) (getS 5 T) (getS 6 T) (getS 17 T) (getS 18 T) (getS 27 T) (getS 28 T) (getS 29 T) (getS 34 T) (getS 40 T) (getS 41 T) H
theorem p41_30 (k1 : AV → AV → AV → AV → Heap → CR) (k3 : AV → AV → AV → AV → AV → AV → Heap → CR) (k19 : AV → AV → AV → AV → AV → AV → AV → AV → AV → AV → AV → Heap → CR) (n : K0) (hn : n = t41_21 ev L k1 k3 k19) : dOpers noG ev o41_23_9 n = t41_30 ev L k1 k3 k19 := by
  subst hn
  simp only [o41_23_9, dOpers]
  rw [p41_31 ev L k1 k3 k19 _ rfl]
  kernel_rfl
def t41_29 (k1 : AV → AV → AV → AV → Heap → CR) (k3 : AV → AV → AV → AV → AV → AV → Heap → CR) (k19 : AV → AV → AV → AV → AV → AV → AV → AV → AV → AV → AV → Heap → CR) : K0 := fun T H => j41_29 ev L k1 k3 k19 (getS 0 T) (getS 3 T) (getS 4 T) (getS 5 T) (getS 6 T) (getS 17 T) (getS 18 T) (getS 27 T) (getS 28 T) (getS 29 T) (getS 34 T) (getS 40 T) H
theorem p41_29 (k1 : AV → AV → AV → AV → Heap → CR) (k3 : AV → AV → AV → AV → AV → AV → Heap → CR) (k19 : AV → AV → AV → AV → AV → AV → AV → AV → AV → AV → AV → Heap → CR) (n : K0) (hn : n = t41_21 ev L k1 k3 k19) : dOpers noG ev o41_23_8 n = t41_29 ev L k1 k3 k19 := by
  subst hn
  simp only [o41_23_8, dOpers]
  rw [p41_30 ev L k1 k3 k19 _ rfl]
  kernel_rfl
def t41_28 (k1 : AV → AV → AV → AV → Heap → CR) (k3 : AV → AV → AV → AV → AV → AV → Heap → CR) (k19 : AV → AV → AV → AV → AV → AV → AV → AV → AV → AV → AV → Heap → CR) : K0 := fun T H => j41_28 ev L k1 k3 k19 (getS 0 T) (getS 3 T) (getS 4 T) (getS 5 T) (getS 6 T) (getS 17 T) (getS 18 T) (getS 27 T) (getS 28 T) (getS 29 T) (getS 34 T) (getS 35 T) (getS 37 T) (getS 39 T) H
theorem p41_28 (k1 : AV → AV → AV → AV → Heap → CR) (k3 : AV → AV → AV → AV → AV → AV → Heap → CR) (k19 : AV → AV → AV → AV → AV → AV → AV → AV → AV → AV → AV → Heap → CR) (n : K0) (hn : n = t41_21 ev L k1 k3 k19) : dOpers noG ev o41_23_7 n = t41_28 ev L k1 k3 k19 := by
  subst hn
  simp only [o41_23_7, dOpers]
  rw [p41_29 ev L k1 k3 k19 _ rfl]
  kernel_rfl
def t41_27 (k1 : AV → AV → AV → AV → Heap → CR) (k3 : AV → AV → AV → AV → AV → AV → Heap → CR) (k19 : AV → AV → AV → AV → AV → AV → AV → AV → AV → AV → AV → Heap → CR) : K0 := fun T H => j41_27 ev L k1 k3 k19 (getS 0 T) (getS 3 T) (getS 4 T) (getS 5 T) (getS 6 T) (getS 17 T) (getS 18 T) (getS 27 T) (getS 28 T) (getS 29 T) (getS 34 T) (getS 35 T) (getS 37 T) (getS 38 T) H
theorem p41_27 (k1 : AV → AV → AV → AV → Heap → CR) (k3 : AV → AV → AV → AV → AV → AV → Heap → CR) (k19 : AV → AV → AV → AV → AV → AV → AV → AV → AV → AV → AV → Heap → CR) (n : K0) (hn : n = t41_21 ev L k1 k3 k19) : dOpers noG ev o41_23_6 n = t41_27 ev L k1 k3 k19 := by
  subst hn
  simp only [o41_23_6, dOpers]
  rw [p41_28 ev L k1 k3 k19 _ rfl]
  kernel_rfl
def t41_26 (k1 : AV → AV → AV → AV → Heap → CR) (k3 : AV → AV → AV → AV → AV → AV → Heap → CR) (k19 : AV → AV → AV → AV → AV → AV → AV → AV → AV → AV → AV → Heap → CR) : K0 := fun T H => j41_26 ev L k1 k3 k19 (getS 0 T) (getS 3 T) (getS 4 T) (getS 5 T) (getS 6 T) (getS 9 T) (getS 17 T) (getS 18 T) (getS 27 T) (getS 28 T) (getS 29 T) (getS 34 T) (getS 35 T) (getS 37 T) H
theorem p41_26 (k1 : AV → AV → AV → AV → Heap → CR) (k3 : AV → AV → AV → AV → AV → AV → Heap → CR) (k19 : AV → AV → AV → AV → AV → AV → AV → AV → AV → AV → AV → Heap → CR) (n : K0) (hn : n = t41_21 ev L k1 k3 k19) : dOpers noG ev o41_23_5 n = t41_26 ev L k1 k3 k19 := by
  subst hn
  simp only [o41_23_5, dOpers]
  rw [p41_27 ev L k1 k3 k19 _ rfl]
  kernel_rfl
def t41_25 (k1 : AV → AV → AV → AV → Heap → CR) (k3 : AV → AV → AV → AV → AV → AV → Heap → CR) (k19 : AV → AV → AV → AV → AV → AV → AV → AV → AV → AV → AV → Heap → CR) : K0 := fun T H => j41_25 ev L k1 k3 k19 (getS 0 T) (getS 3 T) (getS 4 T) (getS 5 T) (getS 6 T) (getS 9 T) (getS 17 T) (getS 18 T) (getS 27 T) (getS 28 T) (getS 29 T) (getS 34 T) (getS 35 T) (getS 36 T) H
theorem p41_25 (k1 : AV → AV → AV → AV → Heap → CR) (k3 : AV → AV → AV → AV → AV → AV → Heap → CR) (k19 : AV → AV → AV → AV → AV → AV → AV → AV → AV → AV → AV → Heap → CR) (n : K0) (hn : n = t41_21 ev L k1 k3 k19) : dOpers noG ev o41_23_4 n = t41_25 ev L k1 k3 k19 := by
  subst hn
  simp only [o41_23_4, dOpers]
  rw [p41_26 ev L k1 k3 k19 _ rfl]
  kernel_rfl
def t41_24 (k1 : AV → AV → AV → AV → Heap → CR) (k3 : AV → AV → AV → AV → AV → AV → Heap → CR) (k19 : AV → AV → AV → AV → AV → AV → AV → AV → AV → AV → AV → Heap → CR) : K0 := fun T H => j41_24 ev L k1 k3 k19 (getS 0 T) (getS 3 T) (getS 4 T) (getS 5 T) (getS 6 T) (getS 9 T) (getS 17 T) (getS 18 T) (getS 27 T) (getS 28 T) (getS 29 T) (getS 34 T) (getS 35 T) H
theorem p41_24 (k1 : AV → AV → AV → AV → Heap → CR) (k3 : AV → AV → AV → AV → AV → AV → Heap → CR) (k19 : AV → AV → AV → AV → AV → AV → AV → AV → AV → AV → AV → Heap → CR) (n : K0) (hn : n = t41_21 ev L k1 k3 k19) : dOpers noG ev o41_23_3 n = t41_24 ev L k1 k3 k19 := by
  subst hn
  simp only [o41_23_3, dOpers]
  rw [p41_25 ev L k1 k3 k19 _ rfl]
  kernel_rfl
def t41_20 (k1 : AV → AV → AV → AV → Heap → CR) (k3 : AV → AV → AV → AV → AV → AV → Heap → CR) (k19 : AV → AV → AV → AV → AV → AV → AV → AV → AV → AV → AV → Heap → CR) : K0 := fun T H => j41_20 ev L k1 k3 k19 (getS 0 T) (getS 3 T) (getS 4 T) (getS 5 T) (getS 6 T) (getS 7 T) (getS 17 T) (getS 18 T) (getS 27 T) (getS 28 T) (getS 29 T) H
theorem p41_20 (k1 : AV → AV → AV → AV → Heap → CR) (k3 : AV → AV → AV → AV → AV → AV → Heap → CR) (k19 : AV → AV → AV → AV → AV → AV → AV → AV → AV → AV → AV → Heap → CR) (ex : Nat → K0) (n : K0) (hn : n = s41_19 k19) : dCode noG ev (finR noG c41r) L c41_20 ex n = t41_20 ev L k1 k3 k19 := by
  subst hn
  simp only [c41_20, dCode, dOpers]
  rw [p41_21 ev L k1 k3 k19 _ _ rfl]
  rw [p41_24 ev L k1 k3 k19 _ rfl]
  kernel_rfl
theorem b41_19 (k1 : AV → AV → AV → AV → Heap → CR) (k3 : AV → AV → AV → AV → AV → AV → Heap → CR) (k19 : AV → AV → AV → AV → AV → AV → AV → AV → AV → AV → AV → Heap → CR) (ex : Nat → K0) (n : K0) (hn : n = s41_19 k19) (hx4 : ex 4 = t41_7 ev L k1 k3) : dCode noG ev (finR noG c41r) L c41_19 ex n = fun T H => j41_19 ev L k1 k3 k19 (getS 0 T) (getS 3 T) (getS 4 T) (getS 5 T) (getS 6 T) (getS 7 T) (getS 17 T) (getS 18 T) (getS 27 T) (getS 28 T) (getS 29 T) H := by
  subst hn
  simp only [c41_19, dCode, dOpers]
  rw [p41_20 ev L k1 k3 k19 _ _ rfl]
  try rw [hx4]
  kernel_rfl
theorem p41_19 (k1 : AV → AV → AV → AV → Heap → CR) (k3 : AV → AV → AV → AV → AV → AV → Heap → CR) (ex : Nat → K0) (hx4 : ex 4 = t41_7 ev L k1 k3) : ∀ m, pLoop (fun n => dCode noG ev (finR noG c41r) L c41_19 ex n) m = s41_19 (l41_19 ev L k1 k3 m) := by
  intro m
  induction m with
  | zero => kernel_rfl
  | succ m ih =>
    show dCode noG ev (finR noG c41r) L c41_19 ex (pLoop (fun n => dCode noG ev (finR noG c41r) L c41_19 ex n) m) = _
    rw [ih, b41_19 ev L k1 k3 (l41_19 ev L k1 k3 m) ex _ rfl hx4]
    kernel_rfl
def t41_4 (k1 : AV → AV → AV → AV → Heap → CR) (k3 : AV → AV → AV → AV → AV → AV → Heap → CR) : K0 := fun T H => j41_4 ev L k1 k3 (getS 0 T) (getS 3 T) (getS 4 T) (getS 5 T) (getS 17 T) (getS 18 T) H
theorem p41_4 (k1 : AV → AV → AV → AV → Heap → CR) (k3 : AV → AV → AV → AV → AV → AV → Heap → CR) (ex : Nat → K0) (n : K0) (hn : n = s41_3 k3) : dCode noG ev (finR noG c41r) L c41_4 ex n = t41_4 ev L k1 k3 := by
  subst hn
  simp only [c41_4, dCode, dOpers]
  rw [p41_5 ev L k1 k3 _ _ rfl]
  rw [p41_7 ev L k1 k3 _ _ rfl]
  rw [p41_19 ev L k1 k3 _ (by first | rfl | exact hx4)]
  kernel_rfl
theorem b41_3 (k1 : AV → AV → AV → AV → Heap → CR) (k3 : AV → AV → AV → AV → AV → AV → Heap → CR) (ex : Nat → K0) (n : K0) (hn : n = s41_3 k3) (hx2 : ex 2 = s41_1 k1) : dCode noG ev (finR noG c41r) L c41_3 ex n = fun T H => j41_3 ev L k1 k3 (getS 0 T) (getS 3 T) (getS 4 T) (getS 5 T) (getS 17 T) (getS 18 T) H := by
  subst hn
  simp only [c41_3, dCode, dOpers]
  rw [p41_4 ev L k1 k3 _ _ rfl]
  try rw [hx2]
  kernel_rfl
theorem p41_3 (k1 : AV → AV → AV → AV → Heap → CR) (ex : Nat → K0) (hx2 : ex 2 = s41_1 k1) : ∀ m, pLoop (fun n => dCode noG ev (finR noG c41r) L c41_3 ex n) m = s41_3 (l41_3 ev L k1 m) := by
  intro m
  induction m with
  | zero => kernel_rfl
  | succ m ih =>
    show dCode noG ev (finR noG c41r) L c41_3 ex (pLoop (fun n => dCode noG ev (finR noG c41r) L c41_3 ex n) m) = _
    rw [ih, b41_3 ev L k1 (l41_3 ev L k1 m) ex _ rfl hx2]
    kernel_rfl
def t41_2 (k1 : AV → AV → AV → AV → Heap → CR) : K0 := fun T H => j41_2 ev L k1 (getS 0 T) (getS 3 T) (getS 4 T) H
theorem p41_2 (k1 : AV → AV → AV → AV → Heap → CR) (ex : Nat → K0) (n : K0) (hn : n = s41_1 k1) : dCode noG ev (finR noG c41r) L c41_2 ex n = t41_2 ev L k1 := by
  subst hn
  simp only [c41_2, dCode, dOpers]
  rw [p41_3 ev L k1 _ (by first | rfl | exact hx2)]
  kernel_rfl
theorem b41_1 (k1 : AV → AV → AV → AV → Heap → CR) (ex : Nat → K0) (n : K0) (hn : n = s41_1 k1) (hx0 : ex 0 = t41_0 ev L) : dCode noG ev (finR noG c41r) L c41_1 ex n = fun T H => j41_1 ev L k1 (getS 0 T) (getS 3 T) (getS 4 T) (getS 5 T) H := by
  subst hn
  simp only [c41_1, dCode, dOpers]
  rw [p41_2 ev L k1 _ _ rfl]
  try rw [hx0]
  kernel_rfl
theorem p41_1 (ex : Nat → K0) (hx0 : ex 0 = t41_0 ev L) : ∀ m, pLoop (fun n => dCode noG ev (finR noG c41r) L c41_1 ex n) m = s41_1 (l41_1 ev L m) := by
  intro m
  induction m with
  | zero => kernel_rfl
  | succ m ih =>
    show dCode noG ev (finR noG c41r) L c41_1 ex (pLoop (fun n => dCode noG ev (finR noG c41r) L c41_1 ex n) m) = _
    rw [ih, b41_1 ev L (l41_1 ev L m) ex _ rfl hx0]
    kernel_rfl
theorem e41 (args : List AV) (H : Heap) : Lq (q41 ev L args H) (dRun noG c41 ev L args H) := by
  unfold q41
  split
  · refine .inr ?_
    rename_i t0
    show _ = ob (argsTm [t0]) fun T => dCode noG ev (finR noG c41r) L c41b (fun _ => pFail) (finR noG c41r) T H
    simp only [c41b, dCode, dOpers]
    rw [p41_0 ev L _ _ rfl]
    rw [p41_1 ev L _ (by first | rfl | exact hx0)]
    kernel_rfl
  · exact .inl rfl
def t42_2 : K0 := fun T H => j42_2 ev L (getS 6 T) (getS 9 T) (getS 10 T) (getS 11 T) H
theorem p42_2 (ex : Nat → K0) (n : K0) (hn : n = finR noG c42r) : dCode noG ev (finR noG c42r) L c42_2 ex n = t42_2 ev L := by
  subst hn
  simp only [c42_2, dCode, dOpers]
  kernel_rfl
def t42_1 : K0 := fun T H => j42_1 ev L (getS 0 T) (getS 6 T) (getS 9 T) (getS 10 T) (getS 11 T) H
theorem p42_1 (ex : Nat → K0) (n : K0) (hn : n = finR noG c42r) : dCode noG ev (finR noG c42r) L c42_1 ex n = t42_1 ev L := by
  subst hn
  simp only [c42_1, dCode, dOpers]
  rw [p42_2 ev L _ _ rfl]
  kernel_rfl
def s42_4 (k4 : AV → AV → AV → AV → AV → AV → AV → AV → Heap → CR) : K0 := fun T H => k4 (getS 0 T) (getS 1 T) (getS 2 T) (getS 6 T) (getS 9 T) (getS 10 T) (getS 11 T) (getS 12 T) H
def t42_6 (k4 : AV → AV → AV → AV → AV → AV → AV → AV → Heap → CR) : K0 := fun T H => j42_6 ev L k4 (getS 0 T) (getS 1 T) (getS 2 T) (getS 6 T) (getS 9 T) (getS 10 T) (getS 11 T) (getS 12 T) H
theorem p42_6 (k4 : AV → AV → AV → AV → AV → AV → AV → AV → Heap → CR) (ex : Nat → K0) (n : K0) (hn : n = s42_4 k4) : dCode noG ev (finR noG c42r) L c42_6 ex n = t42_6 ev L k4 := by
  subst hn
  simp only [c42_6, dCode, dOpers]
  kernel_rfl
def t42_9 (k4 : AV → AV → AV → AV → AV → AV → AV → AV → Heap → CR) : K0 := fun T H => j42_9 ev L k4 (getS 0 T) (getS 1 T) (getS 2 T) (getS 6 T) (getS 9 T) (getS 10 T) (getS 12 T) (getS 13 T) (getS 14 T) (getS 15 T) H
theorem p42_9 (k4 : AV → AV → AV → AV → AV → AV → AV → AV → Heap → CR) (ex : Nat → K0) (n : K0) (hn : n = t42_6 ev L k4) : dCode noG ev (finR noG c42r) L c42_9 ex n = t42_9 ev L k4 := by
  subst hn
  simp only [c42_9, dCode, dOpers, dDrawn, dAgain, isPanic, cond_false]
  kernel_rfl
def t42_8 (k4 : AV → AV → AV → AV → AV → AV → AV → AV → Heap → CR) : K0 := fun T H => j42_8 ev L k4 (getS 0 T) (getS 1 T) (getS 2 T) (getS 6 T) (getS 9 T) (getS 10 T) (getS 12 T) (getS 13 T) H
theorem p42_8 (k4 : AV → AV → AV → AV → AV → AV → AV → AV → Heap → CR) (ex : Nat → K0) (n : K0) (hn : n = t42_6 ev L k4) : dCode noG ev (finR noG c42r) L c42_8 ex n = t42_8 ev L k4 := by
  subst hn
  simp only [c42_8, dCode, dOpers, dDrawn, dAgain, isPanic, cond_false]
  rw [p42_9 ev L k4 _ _ rfl]
  kernel_rfl
def t42_5 (k4 : AV → AV → AV → AV → AV → AV → AV → AV → Heap → CR) : K0 := fun T H => j42_5 ev L k4 (getS 0 T) (getS 1 T) (getS 2 T) (getS 6 T) (getS 9 T) (getS 10 T) (getS 12 T) H
theorem p42_5 (k4 : AV → AV → AV → AV → AV → AV → AV → AV → Heap → CR) (ex : Nat → K0) (n : K0) (hn : n = s42_4 k4) : dCode noG ev (finR noG c42r) L c42_5 ex n = t42_5 ev L k4 := by
  subst hn
  simp only [c42_5, dCode, dOpers, dDrawn, dAgain, isPanic, cond_false]
  rw [p42_6 ev L k4 _ _ rfl]
  rw [p42_8 ev L k4 _ _ rfl]
  kernel_rfl
def t42_13 (k4 : AV → AV → AV → AV → AV → AV → AV → AV → Heap → CR) : K0 := fun T H => j42_13 ev L k4 (getS 0 T) (getS 1 T) (getS 2 T) (getS 6 T) (getS 9 T) (getS 10 T) (getS 11 T) (getS 12 T) (getS 44 T) H
theorem p42_13 (k4 : AV → AV → AV → AV → AV → AV → AV → AV → Heap → CR) (ex : Nat → K0) (n : K0) (hn : n = t42_5 ev L k4) (hx0 : ex 0 = t42_1 ev L) : dCode noG ev (finR noG c42r) L c42_13 ex n = t42_13 ev L k4 := by
  subst hn
  simp only [c42_13, dCode, dOpers]
  try rw [hx0]
  kernel_rfl
def t42_16 (k4 : AV → AV → AV → AV → AV → AV → AV → AV → Heap → CR) : K0 := fun T H => j42_16 ev L k4 (getS 0 T) (getS 1 T) (getS 2 T) (getS 6 T) (getS 9 T) (getS 10 T) (getS 11 T) (getS 12 T) (getS 41 T) (getS 43 T) H
theorem p42_16 (k4 : AV → AV → AV → AV → AV → AV → AV → AV → Heap → CR) (n : K0) (hn : n = t42_13 ev L k4) : dOpers noG ev o42_14_7 n = t42_16 ev L k4 := by
  subst hn
  simp only [o42_14_7, dOpers]
  kernel_rfl
def t42_15 (k4 : AV → AV → AV → AV → AV → AV → AV → AV → Heap → CR) : K0 := fun T H => j42_15 ev L k4 (getS 0 T) (getS 1 T) (getS 2 T) (getS 6 T) (getS 9 T) (getS 10 T) (getS 11 T) (getS 12 T) (getS 41 T) (getS 42 T) H
theorem p42_15 (k4 : AV → AV → AV → AV → AV → AV → AV → AV → Heap → CR) (n : K0) (hn : n = t42_13 ev L k4) : dOpers noG ev o42_14_6 n = t42_15 ev L k4 := by
  subst hn
  simp only [o42_14_6, dOpers]
  rw [p42_16 ev L k4 _ rfl]
  kernel_rfl
theorem b42_4 (k4 : AV → AV → AV → AV → AV → AV → AV → AV → Heap → CR) (ex : Nat → K0) (n : K0) (hn : n = s42_4 k4) (hx0 : ex 0 = t42_1 ev L) : dCode noG ev (finR noG c42r) L c42_4 ex n = fun T H => j42_4 ev L k4 (getS 0 T) (getS 1 T) (getS 2 T) (getS 6 T) (getS 9 T) (getS 10 T) (getS 11 T) (getS 12 T) H := by
  subst hn
  simp only [c42_4, dCode, dOpers, dDrawn, dAgain, isPanic, cond_false]
  rw [p42_5 ev L k4 _ _ rfl]
  rw [p42_13 ev L k4 _ _ rfl (by first | rfl | exact hx0)]
  rw [p42_15 ev L k4 _ rfl]
  try rw [hx0]
  kernel_rfl
theorem p42_4 (ex : Nat → K0) (hx0 : ex 0 = t42_1 ev L) : ∀ m, pLoop (fun n => dCode noG ev (finR noG c42r) L c42_4 ex n) m = s42_4 (l42_4 ev L m) := by
  intro m
  induction m with
  | zero => kernel_rfl
  | succ m ih =>
    show dCode noG ev (finR noG c42r) L c42_4 ex (pLoop (fun n => dCode noG ev (finR noG c42r) L c42_4 ex n) m) = _
    rw [ih, b42_4 ev L (l42_4 ev L m) ex _ rfl hx0]
    kernel_rfl
def t42_0 : K0 := fun T H => j42_0 ev L (getS 0 T) (getS 1 T) (getS 2 T) (getS 6 T) H
theorem p42_0 (ex : Nat → K0) (n : K0) (hn : n = finR noG c42r) : dCode noG ev (finR noG c42r) L c42_0 ex n = t42_0 ev L := by
  subst hn
  simp only [c42_0, dCode, dOpers, dDrawn, dAgain, isPanic, cond_false]
  rw [p42_1 ev L _ _ rfl]
  rw [p42_4 ev L _ (by first | rfl | exact hx0)]
  kernel_rfl
def t42_17 : K0 := fun T H => j42_17 ev L (getS 0 T) (getS 1 T) (getS 2 T) (getS 6 T) (getS 23 T) H
theorem p42_17 (ex : Nat → K0) (n : K0) (hn : n = t42_0 ev L) : dCode noG ev (finR noG c42r) L c42_17 ex n = t42_17 ev L := by
  subst hn
  simp only [c42_17, dCode, dOpers]
  kernel_rfl
def t42_22 : K0 := fun T H => j42_22 ev L (getS 0 T) (getS 1 T) (getS 2 T) (getS 6 T) (getS 18 T) (getS 22 T) H
theorem p42_22 (n : K0) (hn : n = t42_17 ev L) : dOpers noG ev o42_18_7 n = t42_22 ev L := by
  subst hn
  simp only [o42_18_7, dOpers]
  kernel_rfl
def t42_21 : K0 := fun T H => j42_21 ev L (getS 0 T) (getS 1 T) (getS 2 T) (getS 6 T) (getS 18 T) (getS 19 T) (getS 21 T) H
theorem p42_21 (n : K0) (hn : n = t42_17 ev L) : dOpers noG ev o42_18_6 n = t42_21 ev L := by
  subst hn
  simp only [o42_18_6, dOpers]
  rw [p42_22 ev L _ rfl]
  kernel_rfl
def t42_20 : K0 := fun T H => j42_20 ev L (getS 0 T) (getS 1 T) (getS 2 T) (getS 6 T) (getS 18 T) (getS 19 T) (getS 20 T) H
theorem p42_20 (n : K0) (hn : n = t42_17 ev L) : dOpers noG ev o42_18_5 n = t42_20 ev L := by
  subst hn
  simp only [o42_18_5, dOpers]
  rw [p42_21 ev L _ rfl]
  kernel_rfl
def t42_19 : K0 := fun T H => j42_19 ev L (getS 0 T) (getS 1 T) (getS 2 T) (getS 6 T) (getS 18 T) (getS 19 T) H
theorem p42_19 (n : K0) (hn : n = t42_17 ev L) : dOpers noG ev o42_18_4 n = t42_19 ev L := by
  subst hn
  simp only [o42_18_4, dOpers]
  rw [p42_20 ev L _ rfl]
  kernel_rfl
theorem e42 (args : List AV) (H : Heap) : Lq (q42 ev L args H) (dRun noG c42 ev L args H) := by
  unfold q42
  split
  · refine .inr ?_
    rename_i t0 t1 t2
    show _ = ob (argsTm [t0, t1, t2]) fun T => dCode noG ev (finR noG c42r) L c42b (fun _ => pFail) (finR noG c42r) T H
    simp only [c42b, dCode, dOpers, dDrawn, dAgain, isPanic, cond_false]
    rw [p42_0 ev L _ _ rfl]
    rw [p42_17 ev L _ _ rfl]
    rw [p42_19 ev L _ rfl]
    kernel_rfl
  · exact .inl rfl
def t43_0 : K0 := fun T H => j43_0 ev L (getS 2 T) H
theorem p43_0 (ex : Nat → K0) (n : K0) (hn : n = finR noG c43r) : dCode noG ev (finR noG c43r) L c43_0 ex n = t43_0 ev L := by
  subst hn
  simp only [c43_0, dCode, dOpers]
  kernel_rfl
theorem e43 (args : List AV) (H : Heap) : Lq (q43 ev L args H) (dRun noG c43 ev L args H) := by
  unfold q43
  split
  · refine .inr ?_
    rename_i t0 t1 t2 t3
    show _ = ob (argsTm [t0, t1, t2, t3]) fun T => dCode noG ev (finR noG c43r) L c43b (fun _ => pFail) (finR noG c43r) T H
    simp only [c43b, dCode, dOpers, dDrawn, dAgain, isPanic, cond_false]
    rw [p43_0 ev L _ _ rfl]
    kernel_rfl
  · exact .inl rfl
def t44_1 : K0 := fun T H => j44_1 ev L (getS 0 T) (getS 5 T) H
theorem p44_1 (ex : Nat → K0) (n : K0) (hn : n = finR noG c44r) : dCode noG ev (finR noG c44r) L c44_1 ex n = t44_1 ev L := by
  subst hn
  simp only [c44_1, dCode, dOpers]
  kernel_rfl
def s44_2 (k2 : AV → AV → AV → AV → Heap → CR) : K0 := fun T H => k2 (getS 0 T) (getS 1 T) (getS 5 T) (getS 6 T) H
def t44_4 (k2 : AV → AV → AV → AV → Heap → CR) : K0 := fun T H => j44_4 ev L k2 (getS 0 T) (getS 1 T) (getS 5 T) (getS 6 T) H
theorem p44_4 (k2 : AV → AV → AV → AV → Heap → CR) (ex : Nat → K0) (n : K0) (hn : n = s44_2 k2) : dCode noG ev (finR noG c44r) L c44_4 ex n = t44_4 ev L k2 := by
  subst hn
  simp only [c44_4, dCode, dOpers]
  kernel_rfl
def t44_3 (k2 : AV → AV → AV → AV → Heap → CR) : K0 := fun T H => j44_3 ev L k2 (getS 0 T) (getS 1 T) (getS 5 T) (getS 6 T) H
theorem p44_3 (k2 : AV → AV → AV → AV → Heap → CR) (ex : Nat → K0) (n : K0) (hn : n = s44_2 k2) : dCode noG ev (finR noG c44r) L c44_3 ex n = t44_3 ev L k2 := by
  subst hn
  simp only [c44_3, dCode, dOpers]
  rw [p44_4 ev L k2 _ _ rfl]
  kernel_rfl
theorem b44_2 (k2 : AV → AV → AV → AV → Heap → CR) (ex : Nat → K0) (n : K0) (hn : n = s44_2 k2) (hx0 : ex 0 = t44_1 ev L) : dCode noG ev (finR noG c44r) L c44_2 ex n = fun T H => j44_2 ev L k2 (getS 0 T) (getS 1 T) (getS 5 T) (getS 6 T) H := by
  subst hn
  simp only [c44_2, dCode, dOpers]
  rw [p44_3 ev L k2 _ _ rfl]
  try rw [hx0]
  kernel_rfl
theorem p44_2 (ex : Nat → K0) (hx0 : ex 0 = t44_1 ev L) : ∀ m, pLoop (fun n => dCode noG ev (finR noG c44r) L c44_2 ex n) m = s44_2 (l44_2 ev L m) := by
  intro m
  induction m with
  | zero => kernel_rfl
  | succ m ih =>
    show dCode noG ev (finR noG c44r) L c44_2 ex (pLoop (fun n => dCode noG ev (finR noG c44r) L c44_2 ex n) m) = _
    rw [ih, b44_2 ev L (l44_2 ev L m) ex _ rfl hx0]
    kernel_rfl
def t44_0 : K0 := fun T H => j44_0 ev L (getS 0 T) (getS 1 T) (getS 5 T) H
theorem p44_0 (ex : Nat → K0) (n : K0) (hn : n = finR noG c44r) : dCode noG ev (finR noG c44r) L c44_0 ex n = t44_0 ev L := by
  subst hn
  simp only [c44_0, dCode, dOpers]
  rw [p44_1 ev L _ _ rfl]
  rw [p44_2 ev L _ (by first | rfl | exact hx0)]
  kernel_rfl
theorem e44 (args : List AV) (H : Heap) : Lq (q44 ev L args H) (dRun noG c44 ev L args H) := by
  unfold q44
  split
  · refine .inr ?_
    rename_i t0 t1
    show _ = ob (argsTm [t0, t1]) fun T => dCode noG ev (finR noG c44r) L c44b (fun _ => pFail) (finR noG c44r) T H
    simp only [c44b, dCode, dOpers]
    rw [p44_0 ev L _ _ rfl]
    kernel_rfl
  · exact .inl rfl
theorem e45 (args : List AV) (H : Heap) : Lq (q45 ev L args H) (dRun noG c45 ev L args H) := by
  unfold q45
  split
  · refine .inr ?_
    rename_i t0 t1
    show _ = ob (argsTm [t0, t1]) fun T => dCode noG ev (finR noG c45r) L c45b (fun _ => pFail) (finR noG c45r) T H
    simp only [c45b, dCode, dOpers]
    kernel_rfl
  · exact .inl rfl
end
end Go.AM.Ly
