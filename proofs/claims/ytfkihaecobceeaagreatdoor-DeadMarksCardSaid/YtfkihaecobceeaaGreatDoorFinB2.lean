/- A closed fact of the program that DeadMarks's row asks for: whether a call in it can't be followed. -/
import Derived.Test.YtfkihaecobceeaaGreatDoorRows
import Derived.Test.YtfkihaecobceeaaGreatDoorCards
import Derived.Test.YtfkihaecobceeaaGreatDoorTie
import Derived.ProofKit
import Derived.OpenShut
import Derived.LaidMore
import Derived.Lay
import Derived.HandedShaped
import Derived.SevenTiedAt
import Derived.Stop.Joined
set_option autoImplicit false
set_option linter.all false
namespace Go.Proofs.YtfkihaecobceeaaGreatDoor
open Go.ChangeShapes Go.WideShapes Go.ChangeAt Go.RowKit
theorem fin_unfollowed : (Rows.deadMarksRow.unfollowed == Tryz.pinned.checked.prog.unfollowed 3) = true := by kernel_rfl
end Go.Proofs.YtfkihaecobceeaaGreatDoor
