/- Closed facts that DeadMarks's card asks for. -/
import Derived.Test.YtfkihaecobceeaaGreatDoorRows
import Derived.Test.YtfkihaecobceeaaGreatDoorCards
import Derived.Test.YtfkihaecobceeaaGreatDoorTie
import Derived.ProofKit
import Derived.OpenShut
import Derived.LaidMore
import Derived.Lay
import Derived.HandedShaped
import Derived.SevenTiedAt
import Derived.Stop.Joined
set_option autoImplicit false
set_option linter.all false
namespace Go.Proofs.YtfkihaecobceeaaGreatDoor
open Go.ChangeShapes Go.WideShapes Go.ChangeAt Go.RowKit
theorem fin_wf : Rows.deadMarksRow.wfByText (OpenSpec.ofChange Rows.deadMarksSpec) = true := by kernel_rfl
theorem fin_stand : ([4, 3].all fun u => !Tryz.prog.wantsStandIn u) = true := by kernel_rfl
theorem fin_is : Tryz.prog.funcNamed "caulker/caulkerlaw26.DeadMarks" = some 3 := by kernel_rfl
end Go.Proofs.YtfkihaecobceeaaGreatDoor
