/- LexerRules: of two rules that take the same text the first one is told; the longer one is told, whichever stands first. No condition. The law's four inputs are run by the kernel in a machine that is proved sound against the model. -/
import Derived.Test.YthgloebmfcdhoaaGreatDoorLxB
import Derived.Test.YthgloebmfcdhoaaGreatDoorLxN
import Derived.Test.YthgloebmfcdhoaaGreatDoorLxT
import Derived.Test.YthgloebmfcdhoaaGreatDoorMc
import Derived.Test.YthgloebmfcdhoaaGreatDoorCards
import Derived.Test.YthgloebmfcdhoaaGreatDoorTie
import Derived.WalkKit
import Derived.ProofKit
import Derived.OpenShut
import Derived.Deep.DeepHandedRow
set_option linter.unusedVariables false
set_option maxRecDepth 100000
namespace Go.Proofs.YthgloebmfcdhoaaGreatDoor
open Go Go.AM Go.ChangeShapes Go.WideShapes Go.ChangeAt Go.RowKit
theorem mixed : Tryz.prog.follows .mixedOrders = true := by kernel_rfl
theorem evTop (W : World) (n : Nat) : EvOK ⟨Tryz.prog, fun _ => none, W.heap.size, W⟩ (callK Lx.fk 1000 n) :=
  callK_sound (C := ⟨Tryz.prog, fun _ => none, W.heap.size, W⟩) mixed Lx.progGood Lx.resolved Lx.comp n
theorem evTold (W : World) : EvOK ⟨Tryz.prog, fun _ => none, W.heap.size, W⟩ Lx.ev := by
  exact withBool_ok (fun g cs e => by cases e) (evTop W 60) Lx.told_run
theorem evBody (W : World) : EvOK ⟨Tryz.prog, fun _ => none, W.heap.size, W⟩ (bodyK Lx.fk 1000 Lx.ev) :=
  bodyK_sound (C := ⟨Tryz.prog, fun _ => none, W.heap.size, W⟩) mixed Lx.progGood Lx.resolved Lx.comp (evTold W)
theorem rules_run (a b : Bool) : boolOf (bodyK Lx.fk 1000 Lx.ev 4 [.bool a, .bool b] ⟨0, .lf⟩) = some true := by
  cases a <;> cases b
  · exact Lx.rules_ff
  · exact Lx.rules_ft
  · exact Lx.rules_tf
  · exact Lx.rules_tt
theorem rules_calls (a b : Bool) (W : World) : Calls Tryz.prog 4 #[.bool a, .bool b] W fun e w' => e = .returned (.bool true) ∧ Below W.heap.size W w' :=
  law_run (evBody W) (rules_run a b) (.cons _ _ _ _ (.bool a) (.cons _ _ _ _ (.bool b) .nil))

theorem own : ownKnob Tryz.prog.godebug = none := by kernel_rfl

theorem rules_contract (H : Type) (enc : TypeId × Value → H) (W : World) (base : Nat) (args : Array Value) (ds gs : List (DataW H)) (before : List MemPlace)
    (hval : ∀ (j : Nat) t v, Tryz.f4.params[j]? = some t → args[j]? = some v → Value.okWide Tryz.prog W .any base t v)
    (hW : DataW.Whole enc Tryz.prog Tryz.f4.params.toList Rows.lexerRulesSpec.vars false W args.toList ds gs before) :
    Calls Tryz.prog 4 args W fun e W' => ∃ v, e = .returned v ∧ Rows.lexerRulesSpec.post enc Tryz.prog Tryz.f4 false true false false W args v W' := by
  have hW' := hW
  obtain ⟨p, q, hA0, hV, rfl, hfz, hnd⟩ := hW
  have hA : DataW.TrodAll enc Tryz.prog W 0 (fun _ => true) true Tryz.f4.params.toList args.toList ds p := hA0
  rw [Tryz.params4] at hA hval
  obtain ⟨v0, v1, d0, d1, p0, p1, rfl, rfl, rfl, h0, h1⟩ := trodAll_two hA
  obtain ⟨rfl, rfl⟩ := trodVars_none hV
  obtain ⟨a, rfl, rfl, rfl⟩ := open_bool Tryz.underlying4 (hval 0 4 v0 rfl rfl) h0
  obtain ⟨b, rfl, rfl, rfl⟩ := open_bool Tryz.underlying4 (hval 1 4 v1 rfl rfl) h1
  clear hA0
  simp only [List.append_nil] at hW'
  refine (rules_calls a b W).mono fun e W' ⟨he, hb⟩ => ?_
  subst he
  exact ⟨_, rfl, post_kept (atA := []) (atV := []) hb hW' rfl (fun _ _ _ => trodAll_cons_mk (shut_bool Tryz.underlying4 _) trodAll_mk0)
    (fun _ _ => trodAll_cons_mk (shut_bool Tryz.underlying4 _) (trodAll_cons_mk (shut_bool Tryz.underlying4 _) trodAll_mk0)) (fun _ _ => rfl)
    (ok_one (by kernel_rfl) rfl (okWide_bool_mk Tryz.underlying4 _))⟩

/-- The cells that a listed table holds. -/
def cellsOfLaid : DataW Unit → List Value
  | .agg l => l.flatMap fun
    | .lit (.int k n) => [.int k n]
    | .agg r => r.flatMap fun
      | .lit (.int k n) => [.int k n]
      | _ => []
    | _ => []
  | _ => []
def layCells (l : List Value) : Obj → Obj
  | .cells _ t frozen => .cells l.toArray t frozen
  | o => o
/-- A world in which the listed tables hold what the program's text lays. -/
noncomputable def laidWorld (os : Os) : World :=
  { World.holding Tryz.prog os ⟨#[], #[], []⟩ with heap := ((((((World.holding Tryz.prog os ⟨#[], #[], []⟩).heap.modify 0 (layCells (cellsOfLaid Rows.laid_unicode_utf8_first))).modify 1 (layCells (cellsOfLaid Rows.laid_unicode_utf8_acceptRanges))).modify 2 (layCells (cellsOfLaid Rows.laid_internal_strconv_uint64pow10))).modify 3 (layCells (cellsOfLaid Rows.laid_math_bits_deBruijn32tab))).modify 4 (layCells (cellsOfLaid Rows.laid_math_bits_deBruijn64tab))) }
theorem rules_laid (os : Os) : laidMet Tryz.prog Rows.lexerRulesRow.laid ((laidWorld os).forCall (fun _ _ => 0) ⟨#[], #[.bool false, .bool false], []⟩).memory :=
  laidMet_of_run' 8 (by kernel_rfl) (by kernel_rfl)
theorem rules_reads (os : Os) {H : Type} (enc : TypeId × Value → H) : ∃ places, DataW.whole enc Tryz.prog ((laidWorld os).forCall (fun _ _ => 0) ⟨#[], #[.bool false, .bool false], []⟩).memory Tryz.f4.params.toList Rows.lexerRulesSpec.vars false #[Value.bool false, Value.bool false].toList 8 = some ([.lit (.bool false), .lit (.bool false)], [], places) :=
  ⟨[], by kernel_rfl⟩
set_option maxRecDepth 100000 in
theorem rules_lifted (os : Os) (started : os.Started) (H : Type) (enc : TypeId × Value → H) (F : Stop.Interp) :
    ReturnsInHanded {} Tryz.checked os 4 .any ((OpenSpec.ofChange Rows.lexerRulesSpec).preRow enc Tryz.prog Tryz.f4 Rows.lexerRulesRow.domain false Rows.lexerRulesRow.laid) (((OpenSpec.ofChange Rows.lexerRulesSpec).at F).post enc Tryz.prog Tryz.f4 false true false false) := by
  obtain ⟨places, hx⟩ := rules_reads os enc
  refine returnsInHanded_of_row (C := Tryz.checked) (s := OpenSpec.ofChange Rows.lexerRulesSpec) own started (by kernel_rfl) Tryz.func4
    (witness_row_at (enc := enc) (C := Tryz.checked) false (laidWorld os) #[.bool false, .bool false] rfl (by kernel_rfl) (by kernel_rfl) (by kernel_rfl)
      (OpenSpec.preRow_of_cond 8 hx (by kernel_rfl) (fun k hk => by cases hk) (by kernel_rfl) (rules_laid os))) ?_
  intro W base args ds gs before hval hW _ _ _ hL _ _
  exact rules_contract H enc W base args ds gs before hval hW
theorem rules_said : Rows.LexerRulesSaid :=
  OpenClaim.holds_of_cond 4 Tryz.f4 rfl rfl rfl rfl rfl rfl rfl ⟨rfl, rfl, rfl, rfl, rfl⟩ rfl rfl rfl rfl rfl (by kernel_rfl) Tryz.func4 (by kernel_rfl)
    (of_decide_eq_true (by kernel_rfl)) (by unfold Func.isWrapper; first | (rw [if_pos (by decide +kernel)]; kernel_rfl) | (rw [if_neg (by decide +kernel)]; exact ⟨rfl, rfl⟩))
    (fun os started H enc _ F => by rw [OpenClaim.pre_eq_preRow]; exact rules_lifted os started H enc F)
theorem rules_plain (f : FuncId) (fn : Func) (hf : Tryz.pinned.checked.prog.funcNamed "gobo/gobolaw10.LexerRules" = some f) (hfn : Tryz.pinned.checked.prog.funcs[f]? = some fn) :
    true = Tryz.pinned.checked.prog.looks [] ∧ ∀ (j : Nat) t, fn.params[j]? = some t → Tryz.pinned.checked.prog.wantsStandIn t = false := by
  obtain rfl : f = 4 := Option.some.inj ((show Tryz.prog.funcNamed "gobo/gobolaw10.LexerRules" = some 4 by kernel_rfl).symm.trans hf) |>.symm
  obtain rfl : fn = Tryz.f4 := (Option.some.inj (Tryz.func4.symm.trans hfn)).symm
  refine ⟨by kernel_rfl, fun j t ht => ?_⟩
  rw [Tryz.params4] at ht
  obtain rfl : t = 4 := by simpa using Array.mem_of_getElem? ht
  exact (show Tryz.prog.wantsStandIn 4 = false by kernel_rfl)
theorem rules_card : Rows.LexerRulesCardSaid :=
  Claim7.holds_tied_plain_at .later [] _ _ _ _ rules_said (fun _ h => by cases h) (by kernel_rfl) (fun _ h => by cases h) lexerRules_row_tie rfl ⟨rfl, rfl⟩ (by kernel_rfl) rfl rules_plain (by kernel_rfl)
#print axioms rules_card
end Go.Proofs.YthgloebmfcdhoaaGreatDoor
