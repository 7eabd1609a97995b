import Derived.Test.YthgloebmfcdhoaaGreatDoorVc
import Derived.Test.YthgloebmfcdhoaaGreatDoorLyJa
import Derived.Test.YthgloebmfcdhoaaGreatDoorLyCa
import Derived.Test.YthgloebmfcdhoaaGreatDoorLyCb
set_option linter.unusedVariables false
namespace Go.AM
noncomputable section
def g0 : Tm → AV := fun T => T.a0.a0
def g1 : Tm → AV := fun T => T.a0.a1
def g2 : Tm → AV := fun T => T.a0.a2
def g3 : Tm → AV := fun T => T.a0.a3
def g4 : Tm → AV := fun T => T.a0.a4
def g5 : Tm → AV := fun T => T.a0.a5
def g6 : Tm → AV := fun T => T.a0.a6
def g7 : Tm → AV := fun T => T.a0.a7
def g8 : Tm → AV := fun T => T.a0.a8
def g9 : Tm → AV := fun T => T.a0.a9
def g10 : Tm → AV := fun T => T.a0.a10
def g11 : Tm → AV := fun T => T.a0.a11
def g12 : Tm → AV := fun T => T.a0.a12
def g13 : Tm → AV := fun T => T.a0.a13
def g14 : Tm → AV := fun T => T.a0.a14
def g15 : Tm → AV := fun T => T.a0.a15
def g16 : Tm → AV := fun T => T.a1.a0
def g17 : Tm → AV := fun T => T.a1.a1
def g18 : Tm → AV := fun T => T.a1.a2
def g19 : Tm → AV := fun T => T.a1.a3
def g20 : Tm → AV := fun T => T.a1.a4
def g21 : Tm → AV := fun T => T.a1.a5
def g22 : Tm → AV := fun T => T.a1.a6
def g23 : Tm → AV := fun T => T.a1.a7
def g24 : Tm → AV := fun T => T.a1.a8
def g25 : Tm → AV := fun T => T.a1.a9
def g26 : Tm → AV := fun T => T.a1.a10
def g27 : Tm → AV := fun T => T.a1.a11
def g28 : Tm → AV := fun T => T.a1.a12
def s1 : Set1 := fun v T => @S.rec (S AV) (fun _ => Tm) (fun a0 a1 a2 a3 a4 a5 a6 a7 a8 a9 a10 a11 a12 a13 a14 a15 => @S.rec AV (fun _ => Tm) (fun b0 b1 b2 b3 b4 b5 b6 b7 b8 b9 b10 b11 b12 b13 b14 b15 => ⟨⟨b0, v, b2, b3, b4, b5, b6, b7, b8, b9, b10, b11, b12, b13, b14, b15⟩, a1, a2, a3, a4, a5, a6, a7, a8, a9, a10, a11, a12, a13, a14, a15⟩) a0) T
def s2 : Set1 := fun v T => @S.rec (S AV) (fun _ => Tm) (fun a0 a1 a2 a3 a4 a5 a6 a7 a8 a9 a10 a11 a12 a13 a14 a15 => @S.rec AV (fun _ => Tm) (fun b0 b1 b2 b3 b4 b5 b6 b7 b8 b9 b10 b11 b12 b13 b14 b15 => ⟨⟨b0, b1, v, b3, b4, b5, b6, b7, b8, b9, b10, b11, b12, b13, b14, b15⟩, a1, a2, a3, a4, a5, a6, a7, a8, a9, a10, a11, a12, a13, a14, a15⟩) a0) T
def s3 : Set1 := fun v T => @S.rec (S AV) (fun _ => Tm) (fun a0 a1 a2 a3 a4 a5 a6 a7 a8 a9 a10 a11 a12 a13 a14 a15 => @S.rec AV (fun _ => Tm) (fun b0 b1 b2 b3 b4 b5 b6 b7 b8 b9 b10 b11 b12 b13 b14 b15 => ⟨⟨b0, b1, b2, v, b4, b5, b6, b7, b8, b9, b10, b11, b12, b13, b14, b15⟩, a1, a2, a3, a4, a5, a6, a7, a8, a9, a10, a11, a12, a13, a14, a15⟩) a0) T
def s4 : Set1 := fun v T => @S.rec (S AV) (fun _ => Tm) (fun a0 a1 a2 a3 a4 a5 a6 a7 a8 a9 a10 a11 a12 a13 a14 a15 => @S.rec AV (fun _ => Tm) (fun b0 b1 b2 b3 b4 b5 b6 b7 b8 b9 b10 b11 b12 b13 b14 b15 => ⟨⟨b0, b1, b2, b3, v, b5, b6, b7, b8, b9, b10, b11, b12, b13, b14, b15⟩, a1, a2, a3, a4, a5, a6, a7, a8, a9, a10, a11, a12, a13, a14, a15⟩) a0) T
def s5 : Set1 := fun v T => @S.rec (S AV) (fun _ => Tm) (fun a0 a1 a2 a3 a4 a5 a6 a7 a8 a9 a10 a11 a12 a13 a14 a15 => @S.rec AV (fun _ => Tm) (fun b0 b1 b2 b3 b4 b5 b6 b7 b8 b9 b10 b11 b12 b13 b14 b15 => ⟨⟨b0, b1, b2, b3, b4, v, b6, b7, b8, b9, b10, b11, b12, b13, b14, b15⟩, a1, a2, a3, a4, a5, a6, a7, a8, a9, a10, a11, a12, a13, a14, a15⟩) a0) T
def s6 : Set1 := fun v T => @S.rec (S AV) (fun _ => Tm) (fun a0 a1 a2 a3 a4 a5 a6 a7 a8 a9 a10 a11 a12 a13 a14 a15 => @S.rec AV (fun _ => Tm) (fun b0 b1 b2 b3 b4 b5 b6 b7 b8 b9 b10 b11 b12 b13 b14 b15 => ⟨⟨b0, b1, b2, b3, b4, b5, v, b7, b8, b9, b10, b11, b12, b13, b14, b15⟩, a1, a2, a3, a4, a5, a6, a7, a8, a9, a10, a11, a12, a13, a14, a15⟩) a0) T
def s7 : Set1 := fun v T => @S.rec (S AV) (fun _ => Tm) (fun a0 a1 a2 a3 a4 a5 a6 a7 a8 a9 a10 a11 a12 a13 a14 a15 => @S.rec AV (fun _ => Tm) (fun b0 b1 b2 b3 b4 b5 b6 b7 b8 b9 b10 b11 b12 b13 b14 b15 => ⟨⟨b0, b1, b2, b3, b4, b5, b6, v, b8, b9, b10, b11, b12, b13, b14, b15⟩, a1, a2, a3, a4, a5, a6, a7, a8, a9, a10, a11, a12, a13, a14, a15⟩) a0) T
def s8 : Set1 := fun v T => @S.rec (S AV) (fun _ => Tm) (fun a0 a1 a2 a3 a4 a5 a6 a7 a8 a9 a10 a11 a12 a13 a14 a15 => @S.rec AV (fun _ => Tm) (fun b0 b1 b2 b3 b4 b5 b6 b7 b8 b9 b10 b11 b12 b13 b14 b15 => ⟨⟨b0, b1, b2, b3, b4, b5, b6, b7, v, b9, b10, b11, b12, b13, b14, b15⟩, a1, a2, a3, a4, a5, a6, a7, a8, a9, a10, a11, a12, a13, a14, a15⟩) a0) T
def s9 : Set1 := fun v T => @S.rec (S AV) (fun _ => Tm) (fun a0 a1 a2 a3 a4 a5 a6 a7 a8 a9 a10 a11 a12 a13 a14 a15 => @S.rec AV (fun _ => Tm) (fun b0 b1 b2 b3 b4 b5 b6 b7 b8 b9 b10 b11 b12 b13 b14 b15 => ⟨⟨b0, b1, b2, b3, b4, b5, b6, b7, b8, v, b10, b11, b12, b13, b14, b15⟩, a1, a2, a3, a4, a5, a6, a7, a8, a9, a10, a11, a12, a13, a14, a15⟩) a0) T
def s10 : Set1 := fun v T => @S.rec (S AV) (fun _ => Tm) (fun a0 a1 a2 a3 a4 a5 a6 a7 a8 a9 a10 a11 a12 a13 a14 a15 => @S.rec AV (fun _ => Tm) (fun b0 b1 b2 b3 b4 b5 b6 b7 b8 b9 b10 b11 b12 b13 b14 b15 => ⟨⟨b0, b1, b2, b3, b4, b5, b6, b7, b8, b9, v, b11, b12, b13, b14, b15⟩, a1, a2, a3, a4, a5, a6, a7, a8, a9, a10, a11, a12, a13, a14, a15⟩) a0) T
def s11 : Set1 := fun v T => @S.rec (S AV) (fun _ => Tm) (fun a0 a1 a2 a3 a4 a5 a6 a7 a8 a9 a10 a11 a12 a13 a14 a15 => @S.rec AV (fun _ => Tm) (fun b0 b1 b2 b3 b4 b5 b6 b7 b8 b9 b10 b11 b12 b13 b14 b15 => ⟨⟨b0, b1, b2, b3, b4, b5, b6, b7, b8, b9, b10, v, b12, b13, b14, b15⟩, a1, a2, a3, a4, a5, a6, a7, a8, a9, a10, a11, a12, a13, a14, a15⟩) a0) T
def s12 : Set1 := fun v T => @S.rec (S AV) (fun _ => Tm) (fun a0 a1 a2 a3 a4 a5 a6 a7 a8 a9 a10 a11 a12 a13 a14 a15 => @S.rec AV (fun _ => Tm) (fun b0 b1 b2 b3 b4 b5 b6 b7 b8 b9 b10 b11 b12 b13 b14 b15 => ⟨⟨b0, b1, b2, b3, b4, b5, b6, b7, b8, b9, b10, b11, v, b13, b14, b15⟩, a1, a2, a3, a4, a5, a6, a7, a8, a9, a10, a11, a12, a13, a14, a15⟩) a0) T
def s13 : Set1 := fun v T => @S.rec (S AV) (fun _ => Tm) (fun a0 a1 a2 a3 a4 a5 a6 a7 a8 a9 a10 a11 a12 a13 a14 a15 => @S.rec AV (fun _ => Tm) (fun b0 b1 b2 b3 b4 b5 b6 b7 b8 b9 b10 b11 b12 b13 b14 b15 => ⟨⟨b0, b1, b2, b3, b4, b5, b6, b7, b8, b9, b10, b11, b12, v, b14, b15⟩, a1, a2, a3, a4, a5, a6, a7, a8, a9, a10, a11, a12, a13, a14, a15⟩) a0) T
def s14 : Set1 := fun v T => @S.rec (S AV) (fun _ => Tm) (fun a0 a1 a2 a3 a4 a5 a6 a7 a8 a9 a10 a11 a12 a13 a14 a15 => @S.rec AV (fun _ => Tm) (fun b0 b1 b2 b3 b4 b5 b6 b7 b8 b9 b10 b11 b12 b13 b14 b15 => ⟨⟨b0, b1, b2, b3, b4, b5, b6, b7, b8, b9, b10, b11, b12, b13, v, b15⟩, a1, a2, a3, a4, a5, a6, a7, a8, a9, a10, a11, a12, a13, a14, a15⟩) a0) T
def s15 : Set1 := fun v T => @S.rec (S AV) (fun _ => Tm) (fun a0 a1 a2 a3 a4 a5 a6 a7 a8 a9 a10 a11 a12 a13 a14 a15 => @S.rec AV (fun _ => Tm) (fun b0 b1 b2 b3 b4 b5 b6 b7 b8 b9 b10 b11 b12 b13 b14 b15 => ⟨⟨b0, b1, b2, b3, b4, b5, b6, b7, b8, b9, b10, b11, b12, b13, b14, v⟩, a1, a2, a3, a4, a5, a6, a7, a8, a9, a10, a11, a12, a13, a14, a15⟩) a0) T
def s16 : Set1 := fun v T => @S.rec (S AV) (fun _ => Tm) (fun a0 a1 a2 a3 a4 a5 a6 a7 a8 a9 a10 a11 a12 a13 a14 a15 => @S.rec AV (fun _ => Tm) (fun b0 b1 b2 b3 b4 b5 b6 b7 b8 b9 b10 b11 b12 b13 b14 b15 => ⟨a0, ⟨v, b1, b2, b3, b4, b5, b6, b7, b8, b9, b10, b11, b12, b13, b14, b15⟩, a2, a3, a4, a5, a6, a7, a8, a9, a10, a11, a12, a13, a14, a15⟩) a1) T
def s17 : Set1 := fun v T => @S.rec (S AV) (fun _ => Tm) (fun a0 a1 a2 a3 a4 a5 a6 a7 a8 a9 a10 a11 a12 a13 a14 a15 => @S.rec AV (fun _ => Tm) (fun b0 b1 b2 b3 b4 b5 b6 b7 b8 b9 b10 b11 b12 b13 b14 b15 => ⟨a0, ⟨b0, v, b2, b3, b4, b5, b6, b7, b8, b9, b10, b11, b12, b13, b14, b15⟩, a2, a3, a4, a5, a6, a7, a8, a9, a10, a11, a12, a13, a14, a15⟩) a1) T
def s18 : Set1 := fun v T => @S.rec (S AV) (fun _ => Tm) (fun a0 a1 a2 a3 a4 a5 a6 a7 a8 a9 a10 a11 a12 a13 a14 a15 => @S.rec AV (fun _ => Tm) (fun b0 b1 b2 b3 b4 b5 b6 b7 b8 b9 b10 b11 b12 b13 b14 b15 => ⟨a0, ⟨b0, b1, v, b3, b4, b5, b6, b7, b8, b9, b10, b11, b12, b13, b14, b15⟩, a2, a3, a4, a5, a6, a7, a8, a9, a10, a11, a12, a13, a14, a15⟩) a1) T
def s19 : Set1 := fun v T => @S.rec (S AV) (fun _ => Tm) (fun a0 a1 a2 a3 a4 a5 a6 a7 a8 a9 a10 a11 a12 a13 a14 a15 => @S.rec AV (fun _ => Tm) (fun b0 b1 b2 b3 b4 b5 b6 b7 b8 b9 b10 b11 b12 b13 b14 b15 => ⟨a0, ⟨b0, b1, b2, v, b4, b5, b6, b7, b8, b9, b10, b11, b12, b13, b14, b15⟩, a2, a3, a4, a5, a6, a7, a8, a9, a10, a11, a12, a13, a14, a15⟩) a1) T
def s20 : Set1 := fun v T => @S.rec (S AV) (fun _ => Tm) (fun a0 a1 a2 a3 a4 a5 a6 a7 a8 a9 a10 a11 a12 a13 a14 a15 => @S.rec AV (fun _ => Tm) (fun b0 b1 b2 b3 b4 b5 b6 b7 b8 b9 b10 b11 b12 b13 b14 b15 => ⟨a0, ⟨b0, b1, b2, b3, v, b5, b6, b7, b8, b9, b10, b11, b12, b13, b14, b15⟩, a2, a3, a4, a5, a6, a7, a8, a9, a10, a11, a12, a13, a14, a15⟩) a1) T
def s21 : Set1 := fun v T => @S.rec (S AV) (fun _ => Tm) (fun a0 a1 a2 a3 a4 a5 a6 a7 a8 a9 a10 a11 a12 a13 a14 a15 => @S.rec AV (fun _ => Tm) (fun b0 b1 b2 b3 b4 b5 b6 b7 b8 b9 b10 b11 b12 b13 b14 b15 => ⟨a0, ⟨b0, b1, b2, b3, b4, v, b6, b7, b8, b9, b10, b11, b12, b13, b14, b15⟩, a2, a3, a4, a5, a6, a7, a8, a9, a10, a11, a12, a13, a14, a15⟩) a1) T
def s22 : Set1 := fun v T => @S.rec (S AV) (fun _ => Tm) (fun a0 a1 a2 a3 a4 a5 a6 a7 a8 a9 a10 a11 a12 a13 a14 a15 => @S.rec AV (fun _ => Tm) (fun b0 b1 b2 b3 b4 b5 b6 b7 b8 b9 b10 b11 b12 b13 b14 b15 => ⟨a0, ⟨b0, b1, b2, b3, b4, b5, v, b7, b8, b9, b10, b11, b12, b13, b14, b15⟩, a2, a3, a4, a5, a6, a7, a8, a9, a10, a11, a12, a13, a14, a15⟩) a1) T
def s23 : Set1 := fun v T => @S.rec (S AV) (fun _ => Tm) (fun a0 a1 a2 a3 a4 a5 a6 a7 a8 a9 a10 a11 a12 a13 a14 a15 => @S.rec AV (fun _ => Tm) (fun b0 b1 b2 b3 b4 b5 b6 b7 b8 b9 b10 b11 b12 b13 b14 b15 => ⟨a0, ⟨b0, b1, b2, b3, b4, b5, b6, v, b8, b9, b10, b11, b12, b13, b14, b15⟩, a2, a3, a4, a5, a6, a7, a8, a9, a10, a11, a12, a13, a14, a15⟩) a1) T
def s24 : Set1 := fun v T => @S.rec (S AV) (fun _ => Tm) (fun a0 a1 a2 a3 a4 a5 a6 a7 a8 a9 a10 a11 a12 a13 a14 a15 => @S.rec AV (fun _ => Tm) (fun b0 b1 b2 b3 b4 b5 b6 b7 b8 b9 b10 b11 b12 b13 b14 b15 => ⟨a0, ⟨b0, b1, b2, b3, b4, b5, b6, b7, v, b9, b10, b11, b12, b13, b14, b15⟩, a2, a3, a4, a5, a6, a7, a8, a9, a10, a11, a12, a13, a14, a15⟩) a1) T
def s25 : Set1 := fun v T => @S.rec (S AV) (fun _ => Tm) (fun a0 a1 a2 a3 a4 a5 a6 a7 a8 a9 a10 a11 a12 a13 a14 a15 => @S.rec AV (fun _ => Tm) (fun b0 b1 b2 b3 b4 b5 b6 b7 b8 b9 b10 b11 b12 b13 b14 b15 => ⟨a0, ⟨b0, b1, b2, b3, b4, b5, b6, b7, b8, v, b10, b11, b12, b13, b14, b15⟩, a2, a3, a4, a5, a6, a7, a8, a9, a10, a11, a12, a13, a14, a15⟩) a1) T
def s26 : Set1 := fun v T => @S.rec (S AV) (fun _ => Tm) (fun a0 a1 a2 a3 a4 a5 a6 a7 a8 a9 a10 a11 a12 a13 a14 a15 => @S.rec AV (fun _ => Tm) (fun b0 b1 b2 b3 b4 b5 b6 b7 b8 b9 b10 b11 b12 b13 b14 b15 => ⟨a0, ⟨b0, b1, b2, b3, b4, b5, b6, b7, b8, b9, v, b11, b12, b13, b14, b15⟩, a2, a3, a4, a5, a6, a7, a8, a9, a10, a11, a12, a13, a14, a15⟩) a1) T
def s27 : Set1 := fun v T => @S.rec (S AV) (fun _ => Tm) (fun a0 a1 a2 a3 a4 a5 a6 a7 a8 a9 a10 a11 a12 a13 a14 a15 => @S.rec AV (fun _ => Tm) (fun b0 b1 b2 b3 b4 b5 b6 b7 b8 b9 b10 b11 b12 b13 b14 b15 => ⟨a0, ⟨b0, b1, b2, b3, b4, b5, b6, b7, b8, b9, b10, v, b12, b13, b14, b15⟩, a2, a3, a4, a5, a6, a7, a8, a9, a10, a11, a12, a13, a14, a15⟩) a1) T
def s28 : Set1 := fun v T => @S.rec (S AV) (fun _ => Tm) (fun a0 a1 a2 a3 a4 a5 a6 a7 a8 a9 a10 a11 a12 a13 a14 a15 => @S.rec AV (fun _ => Tm) (fun b0 b1 b2 b3 b4 b5 b6 b7 b8 b9 b10 b11 b12 b13 b14 b15 => ⟨a0, ⟨b0, b1, b2, b3, b4, b5, b6, b7, b8, b9, b10, b11, v, b13, b14, b15⟩, a2, a3, a4, a5, a6, a7, a8, a9, a10, a11, a12, a13, a14, a15⟩) a1) T
def s29 : Set1 := fun v T => @S.rec (S AV) (fun _ => Tm) (fun a0 a1 a2 a3 a4 a5 a6 a7 a8 a9 a10 a11 a12 a13 a14 a15 => @S.rec AV (fun _ => Tm) (fun b0 b1 b2 b3 b4 b5 b6 b7 b8 b9 b10 b11 b12 b13 b14 b15 => ⟨a0, ⟨b0, b1, b2, b3, b4, b5, b6, b7, b8, b9, b10, b11, b12, v, b14, b15⟩, a2, a3, a4, a5, a6, a7, a8, a9, a10, a11, a12, a13, a14, a15⟩) a1) T
end
end Go.AM
set_option maxRecDepth 100000
set_option linter.unusedSimpArgs false
namespace Go.AM.Ly
open Go
noncomputable section
def d20 : CDef := fun ev L args u H => @Option.rec Tm (fun _ => CR) .fail (fun T => (kV g4 s1 (
 kV g1 s5 (
 kP (oBin (some .iface0) none .neq g5 (fun _ => .nili)) s6 (
 (fun n0 : K =>
 kIf g6
 (kV g1 s8 (
 kP (oAssert 58 true (some (.agg [(.int .i64 0)])) g8) s9 (
 kV g9 s7 (
 kP (oExtract 0 g7) s10 (
 kP (oExtract 1 g7) s11 (
 kN (oCells [(.int .i64 0)]) s2 (
 kM (oStore 1 g2 g10) dN (
 kV g11 s3 (
 kV g3 s12 (
 kP (oUn .not g12) s13 (
 (fun n1 : K =>
 kIf g13
 (kV g1 s14 (
 kX finD g14))
 (n1))
 (kP (oFaddr 0 g2) s15 (
 kP (oLoad noG false 1 g15) s16 (
 kM (oStore 1 g0 g16) dN (
 n0)))))))))))))))
 (n0))
 ((finD none)))))) (s4 (orNil u) T) H []) (argsTm args)
def d108 : CDef := fun ev L args u H => @Option.rec Tm (fun _ => CR) .fail (fun T => (kV g4 s1 (
 kV g1 s5 (
 kP (oBin (some .iface0) none .neq g5 (fun _ => .nili)) s6 (
 (fun n0 : K =>
 kIf g6
 (kV g1 s8 (
 kP (oAssert 153 true (some (.agg [])) g8) s9 (
 kV g9 s7 (
 kP (oExtract 0 g7) s10 (
 kP (oExtract 1 g7) s11 (
 kN (oCells []) s2 (
 kM (oStore 0 g2 g10) dN (
 kV g11 s3 (
 kV g3 s12 (
 kP (oUn .not g12) s13 (
 (fun n1 : K =>
 kIf g13
 (kV g1 s14 (
 kX finD g14))
 (n1))
 (kM (oStore 1 g0 (fun _ => (.bool false))) dN (
 n0)))))))))))))
 (n0))
 ((finD none)))))) (s4 (orNil u) T) H []) (argsTm args)
def dk : FuncId → Option CDef := fun f => bif Nat.beq f 20 then some d20 else bif Nat.beq f 108 then some d108 else none
def p9 (ev : Ev) (fin : Fin) (L : Nat) : K :=
 kN (oCells [(.int .i64 0)]) s2 (
 kV (oFn 20 (fun T => []) (fun T => [g2 T])) s3 (
 kD g3 (fun T => []) dN (
 kV g0 s4 (
 kC ev fin g4 (fun T => []) s5 (
 kM (oStore 1 g2 (fun _ => (.int .i64 0))) dN (
 (fin none)))))))
def q9 : CRun := fun ev L args H => @Option.rec Tm (fun _ => CR) .fail (fun T => (fun fin : Fin => p9 ev fin L T H []) (finK dk ev L (cRess noG c9.results))) (argsTm args)
def p83 (ev : Ev) (fin : Fin) (L : Nat) : K :=
 kN (oCells [(.bool false)]) s4 (
 kV (oFn 108 (fun T => []) (fun T => [g4 T])) s5 (
 kD g5 (fun T => []) dN (
 kV g0 s6 (
 kV g0 s7 (
 kP (oNilc g7) s8 (
 kP (oFaddr 0 g8) s9 (
 kP (oLoad noG false 1 g9) s10 (
 kV g1 s11 (
 kC ev fin (fun _ => (.fn 109 [] [])) (fun T => [g10 T, g11 T]) s12 (
 kP (oNilc g6) s13 (
 kP (oFaddr 0 g13) s14 (
 kM (oStore 1 g14 g12) dN (
 kV g0 s15 (
 kP (oNilc g15) s16 (
 kP (oFaddr 0 g16) s17 (
 kP (oLoad noG false 1 g17) s18 (
 kP (oLen .sl g18) s19 (
 kV g0 s20 (
 kP (oNilc g20) s21 (
 kP (oFaddr 0 g21) s22 (
 kP (oLoad noG false 1 g22) s23 (
 kP (oIaddrS 1 g23 (fun _ => (.int .i64 0))) s24 (
 kP (oLoad noG false 1 g24) s25 (
 kC ev (fun _ => kFail) (fun _ => (.fn 110 [] [])) (fun T => [g25 T]) s26 (
 kQ (oLoad noG false 1 g17) g18 (kQ (oLen .sl g18) g19 (kP (oBin (some .other) none .eql g19 g26) s27 (
 (fun n0 : K =>
 kIf g27
 (kV g0 s28 (
 kC ev fin (fun _ => (.fn 61 [] [])) (fun T => [g28 T, (.bool false), (.bool false)]) s29 (
 n0)))
 (n0))
 (kM (oStore 1 g4 (fun _ => (.bool true))) dN (
 (fin none)))))))))))))))))))))))))))))))
def q83 : CRun := fun ev L args H => @Option.rec Tm (fun _ => CR) .fail (fun T => (fun fin : Fin => p83 ev fin L T H []) (finK dk ev L (cRess noG c83.results))) (argsTm args)
end
end Go.AM.Ly
