/- LexerOnes: where each token is one letter each letter is a token; a run of letters is one token, where the expression goes on. Any number; no condition. What the law does depends on the number's remainder by forty alone; these forty runs are made by the kernel in a machine that is proved sound against the model. -/
import Derived.Test.YthgloebmfcdhoaaGreatDoorLyH
import Derived.Test.YthgloebmfcdhoaaGreatDoorLyN
import Derived.Test.YthgloebmfcdhoaaGreatDoorLyT
import Derived.Test.YthgloebmfcdhoaaGreatDoorVc
import Derived.Test.YthgloebmfcdhoaaGreatDoorCards
import Derived.Test.YthgloebmfcdhoaaGreatDoorTie
import Derived.WalkKit
import Derived.ProofKit
import Derived.OpenShut
import Derived.Deep.DeepHandedRow
set_option linter.unusedVariables false
set_option maxRecDepth 100000
namespace Go.Proofs.YthgloebmfcdhoaaGreatDoor
open Go Go.AM Go.ChangeShapes Go.WideShapes Go.ChangeAt Go.RowKit
theorem mixed : Tryz.prog.follows .mixedOrders = true := by kernel_rfl
theorem evTop (W : World) (n : Nat) : EvOK ⟨Tryz.prog, fun _ => none, W.heap.size, W⟩ (callK Ly.fk 1000 n) :=
  callF_sound (C := ⟨Tryz.prog, fun _ => none, W.heap.size, W⟩) mixed Ly.progGood Ly.resolved Ly.runs n
theorem evTold (W : World) : EvOK ⟨Tryz.prog, fun _ => none, W.heap.size, W⟩ Ly.ev :=
  withBool_ok (fun g cs e => by cases e) (evTop W 60) Ly.told_run
theorem evBody (W : World) : EvOK ⟨Tryz.prog, fun _ => none, W.heap.size, W⟩ (bodyK Ly.fk 1000 Ly.ev) :=
  bodyF_sound (C := ⟨Tryz.prog, fun _ => none, W.heap.size, W⟩) mixed Ly.progGood Ly.resolved Ly.runs (evTold W)
theorem ones_calls (n : Int) (W : World) : Calls Tryz.prog 3 #[.int .i64 n] W fun e w' => e = .returned (.bool true) ∧ Below W.heap.size W w' :=
  law_run (evBody W) (Ly.ones_run n) (.cons _ _ _ _ (.int .i64 n) .nil)
theorem own : ownKnob Tryz.prog.godebug = none := by kernel_rfl
theorem ones_contract (H : Type) (enc : TypeId × Value → H) (W : World) (base : Nat) (args : Array Value) (ds gs : List (DataW H)) (before : List MemPlace)
    (hval : ∀ (j : Nat) t v, Tryz.f3.params[j]? = some t → args[j]? = some v → Value.okWide Tryz.prog W .any base t v)
    (hW : DataW.Whole enc Tryz.prog Tryz.f3.params.toList Rows.lexerOnesSpec.vars false W args.toList ds gs before) :
    Calls Tryz.prog 3 args W fun e W' => ∃ v, e = .returned v ∧ Rows.lexerOnesSpec.post enc Tryz.prog Tryz.f3 false true false false W args v W' := by
  have hW' := hW
  obtain ⟨p, q, hA0, hV, rfl, hfz, hnd⟩ := hW
  have hA : DataW.TrodAll enc Tryz.prog W 0 (fun _ => true) true Tryz.f3.params.toList args.toList ds p := hA0
  rw [Tryz.params3] at hA hval
  obtain ⟨v0, vs0, d0, ds0, p0, q0, hargs, rfl, rfl, h0, r0⟩ := trodAll_cons hA
  obtain ⟨rfl, rfl, rfl⟩ := trodAll_nil r0
  obtain rfl : args = #[v0] := by cases args; simp_all
  obtain ⟨rfl, rfl⟩ := trodVars_none hV
  obtain ⟨n, rfl, rfl, rfl, wn⟩ := open_int Tryz.underlying3 (hval 0 3 v0 rfl rfl) h0
  clear hA0
  simp only [List.append_nil] at hW'
  refine (ones_calls n W).mono fun e W' ⟨he, hb⟩ => ?_
  subst he
  exact ⟨_, rfl, post_kept (atA := []) (atV := []) hb hW' rfl (fun _ _ _ => trodAll_cons_mk (shut_bool Tryz.underlying4 _) trodAll_mk0)
    (fun _ _ => trodAll_cons_mk (shut_int Tryz.underlying3 wn) trodAll_mk0) (fun _ _ => rfl)
    (ok_one (by kernel_rfl) rfl (okWide_bool_mk Tryz.underlying4 _))⟩
def cellsOfLaid : DataW Unit → List Value
  | .agg l => l.flatMap fun
    | .lit (.int k n) => [.int k n]
    | .agg r => r.flatMap fun
      | .lit (.int k n) => [.int k n]
      | _ => []
    | _ => []
  | _ => []
def layCells (l : List Value) : Obj → Obj
  | .cells _ t frozen => .cells l.toArray t frozen
  | o => o
noncomputable def laidWorld (os : Os) : World :=
  { World.holding Tryz.prog os ⟨#[], #[], []⟩ with heap := ((((((World.holding Tryz.prog os ⟨#[], #[], []⟩).heap.modify 0 (layCells (cellsOfLaid Rows.laid_unicode_utf8_first))).modify 1 (layCells (cellsOfLaid Rows.laid_unicode_utf8_acceptRanges))).modify 2 (layCells (cellsOfLaid Rows.laid_internal_strconv_uint64pow10))).modify 3 (layCells (cellsOfLaid Rows.laid_math_bits_deBruijn32tab))).modify 4 (layCells (cellsOfLaid Rows.laid_math_bits_deBruijn64tab))) }
theorem ones_laid (os : Os) : laidMet Tryz.prog Rows.lexerOnesRow.laid ((laidWorld os).forCall (fun _ _ => 0) ⟨#[], #[.int .i64 0], []⟩).memory :=
  laidMet_of_run' 8 (by kernel_rfl) (by kernel_rfl)
theorem ones_reads (os : Os) {H : Type} (enc : TypeId × Value → H) : ∃ places, DataW.whole enc Tryz.prog ((laidWorld os).forCall (fun _ _ => 0) ⟨#[], #[.int .i64 0], []⟩).memory Tryz.f3.params.toList Rows.lexerOnesSpec.vars false #[Value.int .i64 0].toList 8 = some ([.lit (.int .i64 0)], [], places) :=
  ⟨[], by kernel_rfl⟩
set_option maxRecDepth 100000 in
theorem ones_lifted (os : Os) (started : os.Started) (H : Type) (enc : TypeId × Value → H) (F : Stop.Interp) :
    ReturnsInHanded {} Tryz.checked os 3 .any ((OpenSpec.ofChange Rows.lexerOnesSpec).preRow enc Tryz.prog Tryz.f3 Rows.lexerOnesRow.domain false Rows.lexerOnesRow.laid) (((OpenSpec.ofChange Rows.lexerOnesSpec).at F).post enc Tryz.prog Tryz.f3 false true false false) := by
  obtain ⟨places, hx⟩ := ones_reads os enc
  refine returnsInHanded_of_row (C := Tryz.checked) (s := OpenSpec.ofChange Rows.lexerOnesSpec) own started (by kernel_rfl) Tryz.func3
    (witness_row_at (enc := enc) (C := Tryz.checked) false (laidWorld os) #[.int .i64 0] rfl (by kernel_rfl) (by kernel_rfl) (by kernel_rfl)
      (OpenSpec.preRow_of_cond 8 hx (by kernel_rfl) (fun k hk => by cases hk) (by kernel_rfl) (ones_laid os))) ?_
  intro W base args ds gs before hval hW _ _ _ hL _ _
  exact ones_contract H enc W base args ds gs before hval hW
theorem ones_said : Rows.LexerOnesSaid :=
  OpenClaim.holds_of_cond 3 Tryz.f3 rfl rfl rfl rfl rfl rfl rfl ⟨rfl, rfl, rfl, rfl, rfl⟩ rfl rfl rfl rfl rfl (by kernel_rfl) Tryz.func3 (by kernel_rfl)
    (of_decide_eq_true (by kernel_rfl)) (by unfold Func.isWrapper; first | (rw [if_pos (by decide +kernel)]; kernel_rfl) | (rw [if_neg (by decide +kernel)]; exact ⟨rfl, rfl⟩))
    (fun os started H enc _ F => by rw [OpenClaim.pre_eq_preRow]; exact ones_lifted os started H enc F)
theorem ones_plain (f : FuncId) (fn : Func) (hf : Tryz.pinned.checked.prog.funcNamed "gobo/gobolaw10.LexerOnes" = some f) (hfn : Tryz.pinned.checked.prog.funcs[f]? = some fn) :
    true = Tryz.pinned.checked.prog.looks [] ∧ ∀ (j : Nat) t, fn.params[j]? = some t → Tryz.pinned.checked.prog.wantsStandIn t = false := by
  obtain rfl : f = 3 := Option.some.inj ((show Tryz.prog.funcNamed "gobo/gobolaw10.LexerOnes" = some 3 by kernel_rfl).symm.trans hf) |>.symm
  obtain rfl : fn = Tryz.f3 := (Option.some.inj (Tryz.func3.symm.trans hfn)).symm
  refine ⟨by kernel_rfl, fun j t ht => ?_⟩
  rw [Tryz.params3] at ht
  obtain rfl : t = 3 := by simpa using Array.mem_of_getElem? ht
  exact (show Tryz.prog.wantsStandIn 3 = false by kernel_rfl)
theorem ones_card : Rows.LexerOnesCardSaid :=
  Claim7.holds_tied_plain_at .later [] _ _ _ _ ones_said (fun _ h => by cases h) (by kernel_rfl) (fun _ h => by cases h) lexerOnes_row_tie rfl ⟨rfl, rfl⟩ (by kernel_rfl) rfl ones_plain (by kernel_rfl)
#print axioms ones_card
end Go.Proofs.YthgloebmfcdhoaaGreatDoor
