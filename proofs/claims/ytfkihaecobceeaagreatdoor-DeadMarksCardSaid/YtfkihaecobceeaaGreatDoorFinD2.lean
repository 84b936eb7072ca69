/- A closed fact that DeadMarks's card asks for: what the program's main is. -/
import Derived.Test.YtfkihaecobceeaaGreatDoorRows
import Derived.Test.YtfkihaecobceeaaGreatDoorCards
import Derived.Test.YtfkihaecobceeaaGreatDoorTie
import Derived.ProofKit
import Derived.OpenShut
import Derived.LaidMore
import Derived.Lay
import Derived.HandedShaped
import Derived.SevenTiedAt
import Derived.Stop.Joined
set_option autoImplicit false
set_option linter.all false
namespace Go.Proofs.YtfkihaecobceeaaGreatDoor
open Go.ChangeShapes Go.WideShapes Go.ChangeAt Go.RowKit
theorem fin_main : Tryz.pinned.checked.prog.mainIs = some (true, "f10157b93e9472c54a6b7f06747466526440370b57f0d47badfe43dfeea4c003".toList) := by kernel_rfl
end Go.Proofs.YtfkihaecobceeaaGreatDoor
