/- A closed fact of the program that FlowTests's row asks for: whether it recurses. -/
import Derived.Test.YtkgkmoonkacglaaGreatDoorRows
import Derived.Test.YtkgkmoonkacglaaGreatDoorCards
import Derived.Test.YtkgkmoonkacglaaGreatDoorTie
import Derived.ProofKit
import Derived.OpenShut
import Derived.LaidMore
import Derived.Lay
import Derived.HandedShaped
import Derived.SevenTiedAt
import Derived.Stop.Joined
set_option autoImplicit false
set_option linter.all false
set_option autoImplicit false
namespace Go.Proofs.YtkgkmoonkacglaaGreatDoor
open Go.ChangeShapes Go.WideShapes Go.ChangeAt Go.RowKit
theorem fin_recurses : (Rows.flowTestsRow.recurses == Tryz.pinned.checked.prog.recurses 4) = true := by kernel_rfl
end Go.Proofs.YtkgkmoonkacglaaGreatDoor
