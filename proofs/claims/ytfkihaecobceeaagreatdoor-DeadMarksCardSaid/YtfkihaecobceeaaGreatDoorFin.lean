/- DeadMarks returns true for every bool and every int; what stood in memory stands, and nothing is printed. Its conditions are the row's own. -/
import Derived.Test.YtfkihaecobceeaaGreatDoorFinD1
import Derived.Test.YtfkihaecobceeaaGreatDoorFinD2
import Derived.Test.YtfkihaecobceeaaGreatDoorFinD3
import Derived.Test.YtfkihaecobceeaaGreatDoorFinD4
import Derived.Test.YtfkihaecobceeaaGreatDoorFinC
import Derived.Test.YtfkihaecobceeaaGreatDoorRows
import Derived.Test.YtfkihaecobceeaaGreatDoorCards
import Derived.Test.YtfkihaecobceeaaGreatDoorTie
import Derived.ProofKit
import Derived.OpenShut
import Derived.LaidMore
import Derived.Lay
import Derived.HandedShaped
import Derived.SevenTiedAt
import Derived.Stop.Joined
set_option autoImplicit false
set_option linter.all false
namespace Go.Proofs.YtfkihaecobceeaaGreatDoor
open Go.ChangeShapes Go.WideShapes Go.ChangeAt Go.RowKit
theorem deadMarks_card_holds : Rows.DeadMarksCardSaid :=
  Claim7.holds_tied_plain_at .later [] [.data, .data, .widerDeep, .widerDeep, .data, .data, .data, .data, .data, .data, .sentinel, .sentinel, .pinned, .pinned, .pinned] true (true, "f10157b93e9472c54a6b7f06747466526440370b57f0d47badfe43dfeea4c003") true
    deadMarks_holds (fun _ h => by cases h) fin_wf (fun _ h => by cases h) deadMarks_row_tie rfl ⟨rfl, rfl⟩ fin_main rfl
    (fun f fn hf hfn => by
      obtain rfl : f = 3 := Option.some.inj (fin_is.symm.trans hf) |>.symm
      obtain rfl : fn = Tryz.f3 := (Option.some.inj (Tryz.func3.symm.trans hfn)).symm
      exact ⟨fin_looks, fun j t ht => by
        rw [Tryz.params3] at ht
        have hm : t ∈ [4, 3] := by simpa using Array.mem_of_getElem? ht
        exact (show Tryz.prog.wantsStandIn t = false by simpa using List.all_eq_true.1 fin_stand t hm)⟩)
    fin_goes
#print axioms deadMarks_card_holds
end Go.Proofs.YtfkihaecobceeaaGreatDoor
