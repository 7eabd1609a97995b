import Derived.Test.YthgloebmfcdhoaaGreatDoorLyO0
import Derived.Test.YthgloebmfcdhoaaGreatDoorLyO1
import Derived.Test.YthgloebmfcdhoaaGreatDoorLyO2
import Derived.Test.YthgloebmfcdhoaaGreatDoorLyO3
import Derived.Test.YthgloebmfcdhoaaGreatDoorLyO4
import Derived.Test.YthgloebmfcdhoaaGreatDoorLyO5
import Derived.Test.YthgloebmfcdhoaaGreatDoorLyO6
import Derived.Test.YthgloebmfcdhoaaGreatDoorLyO7
import Derived.Test.YthgloebmfcdhoaaGreatDoorLyO8
import Derived.Test.YthgloebmfcdhoaaGreatDoorLyO9
set_option maxRecDepth 100000
namespace Go.AM
open Go
theorem Ly.ones_all : ∀ m : Nat, m < 40 → boolOf (bodyK Ly.fk 1000 Ly.ev 3 [.int .i64 (.ofNat m)] ⟨0, .lf⟩) = some true := by
  intro m hm
  have h : m = 0 ∨ m = 1 ∨ m = 2 ∨ m = 3 ∨ m = 4 ∨ m = 5 ∨ m = 6 ∨ m = 7 ∨ m = 8 ∨ m = 9 ∨ m = 10 ∨ m = 11 ∨ m = 12 ∨ m = 13 ∨ m = 14 ∨ m = 15 ∨ m = 16 ∨ m = 17 ∨ m = 18 ∨ m = 19 ∨ m = 20 ∨ m = 21 ∨ m = 22 ∨ m = 23 ∨ m = 24 ∨ m = 25 ∨ m = 26 ∨ m = 27 ∨ m = 28 ∨ m = 29 ∨ m = 30 ∨ m = 31 ∨ m = 32 ∨ m = 33 ∨ m = 34 ∨ m = 35 ∨ m = 36 ∨ m = 37 ∨ m = 38 ∨ m = 39 := by omega
  rcases h with rfl | rfl | rfl | rfl | rfl | rfl | rfl | rfl | rfl | rfl | rfl | rfl | rfl | rfl | rfl | rfl | rfl | rfl | rfl | rfl | rfl | rfl | rfl | rfl | rfl | rfl | rfl | rfl | rfl | rfl | rfl | rfl | rfl | rfl | rfl | rfl | rfl | rfl | rfl | rfl
  · exact Ly.ones0
  · exact Ly.ones1
  · exact Ly.ones2
  · exact Ly.ones3
  · exact Ly.ones4
  · exact Ly.ones5
  · exact Ly.ones6
  · exact Ly.ones7
  · exact Ly.ones8
  · exact Ly.ones9
  · exact Ly.ones10
  · exact Ly.ones11
  · exact Ly.ones12
  · exact Ly.ones13
  · exact Ly.ones14
  · exact Ly.ones15
  · exact Ly.ones16
  · exact Ly.ones17
  · exact Ly.ones18
  · exact Ly.ones19
  · exact Ly.ones20
  · exact Ly.ones21
  · exact Ly.ones22
  · exact Ly.ones23
  · exact Ly.ones24
  · exact Ly.ones25
  · exact Ly.ones26
  · exact Ly.ones27
  · exact Ly.ones28
  · exact Ly.ones29
  · exact Ly.ones30
  · exact Ly.ones31
  · exact Ly.ones32
  · exact Ly.ones33
  · exact Ly.ones34
  · exact Ly.ones35
  · exact Ly.ones36
  · exact Ly.ones37
  · exact Ly.ones38
  · exact Ly.ones39
theorem Ly.f3_mod (ev : Ev) (L : Nat) (n : Int) (H : Heap) : Ly.f3 ev L (.int .i64 n) H = Ly.f3 ev L (.int .i64 (.ofNat ((IntKind.u64.wrap n).toNat % 40))) H := by
  have hw : ∀ x : Int, IntKind.u64.wrap x = x % 18446744073709551616 := fun x => by
    simp only [IntKind.wrap, IntKind.signed, IntKind.bits, Bool.false_and, Bool.false_eq_true, if_false]
    rfl
  have h1 : ∀ x : Int, convR H (.int .i64 x) (.int .u64) = some (.int .u64 (IntKind.u64.wrap x), H) := fun x => by
    show some (AV.int .u64 (wrapF .u64 x), H) = _
    rw [wrapF_eq]
  have h2 : ∀ x : Int, binR (some .other) none .rem (.int .u64 x) (.int .u64 40) = some (.int .u64 (x.tmod 40)) := fun x => rfl
  unfold Ly.f3
  rw [h1, h1]
  simp only [obR]
  rw [h2, h2, hw, hw]
  have h0 : 0 ≤ n % 18446744073709551616 := Int.emod_nonneg _ (by decide)
  have e : (n % 18446744073709551616).tmod 40 = ((Int.ofNat ((n % 18446744073709551616).toNat % 40)) % 18446744073709551616).tmod 40 := by
    have : Int.ofNat ((n % 18446744073709551616).toNat % 40) = (n % 18446744073709551616) % 40 := by
      rw [show Int.ofNat ((n % 18446744073709551616).toNat % 40) = (((n % 18446744073709551616).toNat % 40 : Nat) : Int) from rfl]
      omega
    rw [this, Int.tmod_eq_emod_of_nonneg h0, Int.tmod_eq_emod_of_nonneg (Int.emod_nonneg _ (by decide))]
    omega
  rw [e]
theorem Ly.ones_run (n : Int) : boolOf (bodyK Ly.fk 1000 Ly.ev 3 [.int .i64 n] ⟨0, .lf⟩) = some true := by
  have e : ∀ x : AV, bodyK Ly.fk 1000 Ly.ev 3 [x] ⟨0, .lf⟩ = Ly.f3 Ly.ev 1000 x ⟨0, .lf⟩ := fun x => by kernel_rfl
  rw [e, Ly.f3_mod, ← e]
  exact Ly.ones_all _ (Nat.mod_lt _ (by decide))
end Go.AM
