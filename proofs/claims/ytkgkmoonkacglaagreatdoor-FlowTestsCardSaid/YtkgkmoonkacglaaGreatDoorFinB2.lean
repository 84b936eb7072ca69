/- A closed fact of the program that FlowTests's row asks for: whether a call in it can't be followed. -/
import Derived.Test.YtkgkmoonkacglaaGreatDoorRows
import Derived.Test.YtkgkmoonkacglaaGreatDoorCards
import Derived.Test.YtkgkmoonkacglaaGreatDoorTie
import Derived.ProofKit
import Derived.OpenShut
import Derived.LaidMore
import Derived.Lay
import Derived.HandedShaped
import Derived.SevenTiedAt
import Derived.Stop.Joined
set_option autoImplicit false
set_option linter.all false
set_option autoImplicit false
namespace Go.Proofs.YtkgkmoonkacglaaGreatDoor
open Go.ChangeShapes Go.WideShapes Go.ChangeAt Go.RowKit
theorem fin_unfollowed : (Rows.flowTestsRow.unfollowed == Tryz.pinned.checked.prog.unfollowed 4) = true := by kernel_rfl
end Go.Proofs.YtkgkmoonkacglaaGreatDoor
