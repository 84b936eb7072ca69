/- Closed facts of the program that FlowTests's row asks for. -/
import Derived.Test.YtkgkmoonkacglaaGreatDoorFinB1
import Derived.Test.YtkgkmoonkacglaaGreatDoorFinB2
import Derived.Test.YtkgkmoonkacglaaGreatDoorFinB3
import Derived.Test.YtkgkmoonkacglaaGreatDoorFinB4
import Derived.Test.YtkgkmoonkacglaaGreatDoorRows
import Derived.Test.YtkgkmoonkacglaaGreatDoorCards
import Derived.Test.YtkgkmoonkacglaaGreatDoorTie
import Derived.ProofKit
import Derived.OpenShut
import Derived.LaidMore
import Derived.Lay
import Derived.HandedShaped
import Derived.SevenTiedAt
import Derived.Stop.Joined
set_option autoImplicit false
set_option linter.all false
set_option autoImplicit false
namespace Go.Proofs.YtkgkmoonkacglaaGreatDoor
open Go.ChangeShapes Go.WideShapes Go.ChangeAt Go.RowKit
theorem fin_named : Tryz.pinned.checked.prog.funcNamed Rows.flowTestsRow.func = some 4 := by kernel_rfl
theorem fin_closed : joinedFacts Tryz.pinned.checked.prog 4 Tryz.f4 Rows.flowTestsSpec Rows.flowTestsRow = true := by
  unfold joinedFacts
  rw [fin_inPlace, fin_unfollowed, fin_recurses, fin_varsNamed]
  kernel_rfl
theorem fin_inst : Tryz.f4.isInstance Tryz.pinned.checked.prog Rows.flowTestsRow.origin Rows.flowTestsRow.targs := of_decide_eq_true (by kernel_rfl)
theorem fin_wrap : Tryz.f4.isWrapper Tryz.pinned.checked.prog Rows.flowTestsRow.wrapper Rows.flowTestsRow.mainSum := by
  unfold Func.isWrapper
  first | (rw [if_pos (by decide +kernel)]; kernel_rfl) | (rw [if_neg (by decide +kernel)]; exact ⟨rfl, rfl⟩)
end Go.Proofs.YtkgkmoonkacglaaGreatDoor
