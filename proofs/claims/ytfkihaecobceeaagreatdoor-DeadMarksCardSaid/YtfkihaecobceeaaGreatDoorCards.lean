/-
  DERIVED. GIVEN WITH THE SEED: THE CARDS: each row of YtfkihaecobceeaaGreatDoorRows.lean that lists a variable, with what it lists TIED to the program's text (the seventh form; the later family's looks); each row that meets fmt, with fmt's text TOLD by the authors' own Lean function (tested against real Go, not proved from fmt's source: count such statements apart). THE CARD IS WHAT COUNTS. Prove the row's statement (the work); the ties are given (YtfkihaecobceeaaGreatDoorTie.lean); close each card by the builder's one call (the guide's Derived/Test/ToyasCard.lean, 'card_holds'). Laid BY PROGRAM, IN A SANDBOX (cutbox-door.mjs). By AI agents, Wed Nov 11 2026. No macro, syntax, notation, axiom, sorry.
-/
import Derived.Test.YtfkihaecobceeaaGreatDoorRows
import GoSem.ClaimSeven
namespace Go.Proofs.YtfkihaecobceeaaGreatDoor
namespace Rows

/-- THE TIED CARD OF 'caulkerlaw26.DeadMarks'. -/
def deadMarksCard : Claim7 := { stood := { row := deadMarksRow, standIns := [], harness := (true, "f10157b93e9472c54a6b7f06747466526440370b57f0d47badfe43dfeea4c003"), looks := true }, kinds := [], alts := [], laidByText := true, laidKinds := [.data, .data, .widerDeep, .widerDeep, .data, .data, .data, .data, .data, .data, .sentinel, .sentinel, .pinned, .pinned, .pinned], laidTests := true, laidLooks := .later }
def DeadMarksCardSaid : Prop := Claim7.holds Tryz.pinned (.plain (OpenSpec.ofChange deadMarksSpec)) deadMarksCard

/-- THE SECOND FORM's CARD OF 'caulkerlaw26.DeadMarks'. -/
def deadMarksUptoCard : Claim7 := { stood := { row := deadMarksUptoRow, standIns := [], harness := (true, "f10157b93e9472c54a6b7f06747466526440370b57f0d47badfe43dfeea4c003"), looks := true }, kinds := [], alts := [], laidByText := true, laidKinds := [.data, .data, .widerDeep, .widerDeep, .data, .data, .data, .data, .data, .data, .sentinel, .sentinel, .pinned, .pinned, .pinned], laidTests := true, laidLooks := .later }
def DeadMarksUptoCardSaid : Prop := Claim7.holds Tryz.pinned (.plain (OpenSpec.upto deadMarksSpec)) deadMarksUptoCard
end Rows
end Go.Proofs.YtfkihaecobceeaaGreatDoor
