/-
  DERIVED. GIVEN WITH THE SEED: THE CARDS: each row of YthgloebmfcdhoaaGreatDoorRows.lean that lists a variable, with what it lists TIED to the program's text (the seventh form; the later family's looks); each row that meets fmt, with fmt's text TOLD by the authors' own Lean function (tested against real Go, not proved from fmt's source: count such statements apart). THE CARD IS WHAT COUNTS. Prove the row's statement (the work); the ties are given (YthgloebmfcdhoaaGreatDoorTie.lean); close each card by the builder's one call (the guide's Derived/Test/ToyasCard.lean, 'card_holds'). Laid BY PROGRAM, IN A SANDBOX (cutbox-door.mjs). By AI agents, Wed Nov 11 2026. No macro, syntax, notation, axiom, sorry.
-/
import Derived.Test.YthgloebmfcdhoaaGreatDoorRows
import GoSem.ClaimSeven
namespace Go.Proofs.YthgloebmfcdhoaaGreatDoor
namespace Rows

/-- THE TIED CARD OF 'gobolaw10.LexerOnes'. -/
def lexerOnesCard : Claim7 := { stood := { row := lexerOnesRow, standIns := [], harness := (true, "ef0be52c5ebe2d057793ecd81a1a601d231a35fa131ebdd1a41addc86c4fbb74"), looks := true }, kinds := [], alts := [], laidByText := true, laidKinds := [.data, .data, .data, .data, .pinned], laidTests := true, laidLooks := .later }
def LexerOnesCardSaid : Prop := Claim7.holds Tryz.pinned (.plain (OpenSpec.ofChange lexerOnesSpec)) lexerOnesCard

/-- THE TIED CARD OF 'gobolaw10.LexerRules'. -/
def lexerRulesCard : Claim7 := { stood := { row := lexerRulesRow, standIns := [], harness := (true, "ef0be52c5ebe2d057793ecd81a1a601d231a35fa131ebdd1a41addc86c4fbb74"), looks := true }, kinds := [], alts := [], laidByText := true, laidKinds := [.data, .data, .data, .data, .pinned], laidTests := true, laidLooks := .later }
def LexerRulesCardSaid : Prop := Claim7.holds Tryz.pinned (.plain (OpenSpec.ofChange lexerRulesSpec)) lexerRulesCard

/-- THE SECOND FORM's CARD OF 'gobolaw10.LexerOnes'. -/
def lexerOnesUptoCard : Claim7 := { stood := { row := lexerOnesUptoRow, standIns := [], harness := (true, "ef0be52c5ebe2d057793ecd81a1a601d231a35fa131ebdd1a41addc86c4fbb74"), looks := true }, kinds := [], alts := [], laidByText := true, laidKinds := [.data, .data, .data, .data, .pinned], laidTests := true, laidLooks := .later }
def LexerOnesUptoCardSaid : Prop := Claim7.holds Tryz.pinned (.plain (OpenSpec.upto lexerOnesSpec)) lexerOnesUptoCard

/-- THE SECOND FORM's CARD OF 'gobolaw10.LexerRules'. -/
def lexerRulesUptoCard : Claim7 := { stood := { row := lexerRulesUptoRow, standIns := [], harness := (true, "ef0be52c5ebe2d057793ecd81a1a601d231a35fa131ebdd1a41addc86c4fbb74"), looks := true }, kinds := [], alts := [], laidByText := true, laidKinds := [.data, .data, .data, .data, .pinned], laidTests := true, laidLooks := .later }
def LexerRulesUptoCardSaid : Prop := Claim7.holds Tryz.pinned (.plain (OpenSpec.upto lexerRulesSpec)) lexerRulesUptoCard
end Rows
end Go.Proofs.YthgloebmfcdhoaaGreatDoor
