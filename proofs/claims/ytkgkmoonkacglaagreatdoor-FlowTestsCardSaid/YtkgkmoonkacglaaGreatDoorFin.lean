/- FlowTests returns true for every pair of ints; what stood in memory stands, and nothing is printed. Its conditions are the row's own. -/
import Derived.Test.YtkgkmoonkacglaaGreatDoorFinC
import Derived.Test.YtkgkmoonkacglaaGreatDoorRows
import Derived.Test.YtkgkmoonkacglaaGreatDoorCards
import Derived.Test.YtkgkmoonkacglaaGreatDoorTie
import Derived.ProofKit
import Derived.OpenShut
import Derived.LaidMore
import Derived.Lay
import Derived.HandedShaped
import Derived.SevenTiedAt
import Derived.Stop.Joined
set_option autoImplicit false
set_option linter.all false
set_option autoImplicit false
namespace Go.Proofs.YtkgkmoonkacglaaGreatDoor
open Go.ChangeShapes Go.WideShapes Go.ChangeAt Go.RowKit
theorem flowTests_card_holds : Rows.FlowTestsCardSaid :=
  Claim7.holds_tied_plain_at .later [] [.data, .data, .widerDeep, .widerDeep, .data, .data, .data, .data, .data, .data, .sentinel, .sentinel, .pinned, .pinned, .pinned] true (true, "2fb141ebe13905c84451a186289135dae979f8cc4dd8e3a6e7714cf1e2c8579f") true
    flowTests_holds (fun _ h => by cases h) (by kernel_rfl) (fun _ h => by cases h) flowTests_row_tie rfl ⟨rfl, rfl⟩ (by kernel_rfl) rfl
    (fun f fn hf hfn => by
      obtain rfl : f = 4 := Option.some.inj ((show Tryz.prog.funcNamed "caulker/caulkerlaw18.FlowTests" = some 4 by kernel_rfl).symm.trans hf) |>.symm
      obtain rfl : fn = Tryz.f4 := (Option.some.inj (Tryz.func4.symm.trans hfn)).symm
      exact ⟨by kernel_rfl, fun j t ht => by
        rw [Tryz.params4] at ht
        have hm : t ∈ [3, 3] := by simpa using Array.mem_of_getElem? ht
        have hall : ([3, 3].all fun u => !Tryz.prog.wantsStandIn u) = true := by kernel_rfl
        exact (show Tryz.prog.wantsStandIn t = false by simpa using List.all_eq_true.1 hall t hm)⟩)
    (by kernel_rfl)
#print axioms flowTests_card_holds
end Go.Proofs.YtkgkmoonkacglaaGreatDoor
