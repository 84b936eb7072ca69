/-
  DERIVED. GIVEN WITH THE SEED: THE CARDS: each row of YtkgkmoonkacglaaGreatDoorRows.lean that lists a variable, with what it lists TIED to the program's text (the seventh form; the later family's looks); each row that meets fmt, with fmt's text TOLD by the authors' own Lean function (tested against real Go, not proved from fmt's source: count such statements apart). THE CARD IS WHAT COUNTS. Prove the row's statement (the work); the ties are given (YtkgkmoonkacglaaGreatDoorTie.lean); close each card by the builder's one call (the guide's Derived/Test/ToyasCard.lean, 'card_holds'). Laid BY PROGRAM, IN A SANDBOX (cutbox-door.mjs). By AI agents, Wed Nov 11 2026. No macro, syntax, notation, axiom, sorry.
-/
import Derived.Test.YtkgkmoonkacglaaGreatDoorRows
import GoSem.ClaimSeven
namespace Go.Proofs.YtkgkmoonkacglaaGreatDoor
namespace Rows

/-- THE TIED CARD OF 'caulkerlaw18.FlowSource'. -/
def flowSourceCard : Claim7 := { stood := { row := flowSourceRow, standIns := [], harness := (true, "2fb141ebe13905c84451a186289135dae979f8cc4dd8e3a6e7714cf1e2c8579f"), looks := true }, kinds := [], alts := [], laidByText := true, laidKinds := [.data, .data, .widerDeep, .widerDeep, .data, .data, .data, .data, .data, .data, .sentinel, .sentinel, .pinned, .pinned, .pinned], laidTests := true, laidLooks := .later }
def FlowSourceCardSaid : Prop := Claim7.holds Tryz.pinned (.plain (OpenSpec.ofChange flowSourceSpec)) flowSourceCard

/-- THE TIED CARD OF 'caulkerlaw18.FlowTests'. -/
def flowTestsCard : Claim7 := { stood := { row := flowTestsRow, standIns := [], harness := (true, "2fb141ebe13905c84451a186289135dae979f8cc4dd8e3a6e7714cf1e2c8579f"), looks := true }, kinds := [], alts := [], laidByText := true, laidKinds := [.data, .data, .widerDeep, .widerDeep, .data, .data, .data, .data, .data, .data, .sentinel, .sentinel, .pinned, .pinned, .pinned], laidTests := true, laidLooks := .later }
def FlowTestsCardSaid : Prop := Claim7.holds Tryz.pinned (.plain (OpenSpec.ofChange flowTestsSpec)) flowTestsCard

/-- THE TIED CARD OF 'caulkerlaw18.FlowAsks'. -/
def flowAsksCard : Claim7 := { stood := { row := flowAsksRow, standIns := [], harness := (true, "2fb141ebe13905c84451a186289135dae979f8cc4dd8e3a6e7714cf1e2c8579f"), looks := true }, kinds := [], alts := [], laidByText := true, laidKinds := [.data, .data, .widerDeep, .widerDeep, .data, .data, .data, .data, .data, .data, .sentinel, .sentinel, .pinned, .pinned, .pinned], laidTests := true, laidLooks := .later }
def FlowAsksCardSaid : Prop := Claim7.holds Tryz.pinned (.plain (OpenSpec.ofChange flowAsksSpec)) flowAsksCard

/-- THE TIED CARD OF 'caulkerlaw18.FlowMarks'. -/
def flowMarksCard : Claim7 := { stood := { row := flowMarksRow, standIns := [], harness := (true, "2fb141ebe13905c84451a186289135dae979f8cc4dd8e3a6e7714cf1e2c8579f"), looks := true }, kinds := [], alts := [], laidByText := true, laidKinds := [.data, .data, .widerDeep, .widerDeep, .data, .data, .data, .data, .data, .data, .sentinel, .sentinel, .pinned, .pinned, .pinned], laidTests := true, laidLooks := .later }
def FlowMarksCardSaid : Prop := Claim7.holds Tryz.pinned (.plain (OpenSpec.ofChange flowMarksSpec)) flowMarksCard

/-- THE SECOND FORM's CARD OF 'caulkerlaw18.FlowSource'. -/
def flowSourceUptoCard : Claim7 := { stood := { row := flowSourceUptoRow, standIns := [], harness := (true, "2fb141ebe13905c84451a186289135dae979f8cc4dd8e3a6e7714cf1e2c8579f"), looks := true }, kinds := [], alts := [], laidByText := true, laidKinds := [.data, .data, .widerDeep, .widerDeep, .data, .data, .data, .data, .data, .data, .sentinel, .sentinel, .pinned, .pinned, .pinned], laidTests := true, laidLooks := .later }
def FlowSourceUptoCardSaid : Prop := Claim7.holds Tryz.pinned (.plain (OpenSpec.upto flowSourceSpec)) flowSourceUptoCard

/-- THE SECOND FORM's CARD OF 'caulkerlaw18.FlowTests'. -/
def flowTestsUptoCard : Claim7 := { stood := { row := flowTestsUptoRow, standIns := [], harness := (true, "2fb141ebe13905c84451a186289135dae979f8cc4dd8e3a6e7714cf1e2c8579f"), looks := true }, kinds := [], alts := [], laidByText := true, laidKinds := [.data, .data, .widerDeep, .widerDeep, .data, .data, .data, .data, .data, .data, .sentinel, .sentinel, .pinned, .pinned, .pinned], laidTests := true, laidLooks := .later }
def FlowTestsUptoCardSaid : Prop := Claim7.holds Tryz.pinned (.plain (OpenSpec.upto flowTestsSpec)) flowTestsUptoCard

/-- THE SECOND FORM's CARD OF 'caulkerlaw18.FlowAsks'. -/
def flowAsksUptoCard : Claim7 := { stood := { row := flowAsksUptoRow, standIns := [], harness := (true, "2fb141ebe13905c84451a186289135dae979f8cc4dd8e3a6e7714cf1e2c8579f"), looks := true }, kinds := [], alts := [], laidByText := true, laidKinds := [.data, .data, .widerDeep, .widerDeep, .data, .data, .data, .data, .data, .data, .sentinel, .sentinel, .pinned, .pinned, .pinned], laidTests := true, laidLooks := .later }
def FlowAsksUptoCardSaid : Prop := Claim7.holds Tryz.pinned (.plain (OpenSpec.upto flowAsksSpec)) flowAsksUptoCard

/-- THE SECOND FORM's CARD OF 'caulkerlaw18.FlowMarks'. -/
def flowMarksUptoCard : Claim7 := { stood := { row := flowMarksUptoRow, standIns := [], harness := (true, "2fb141ebe13905c84451a186289135dae979f8cc4dd8e3a6e7714cf1e2c8579f"), looks := true }, kinds := [], alts := [], laidByText := true, laidKinds := [.data, .data, .widerDeep, .widerDeep, .data, .data, .data, .data, .data, .data, .sentinel, .sentinel, .pinned, .pinned, .pinned], laidTests := true, laidLooks := .later }
def FlowMarksUptoCardSaid : Prop := Claim7.holds Tryz.pinned (.plain (OpenSpec.upto flowMarksSpec)) flowMarksUptoCard
end Rows
end Go.Proofs.YtkgkmoonkacglaaGreatDoor
