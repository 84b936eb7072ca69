/- DeadMarks's row holds. -/
import Derived.Test.YtfkihaecobceeaaGreatDoorFinA
import Derived.Test.YtfkihaecobceeaaGreatDoorFinB
import Derived.Test.YtfkihaecobceeaaGreatDoorRows
import Derived.Test.YtfkihaecobceeaaGreatDoorCards
import Derived.Test.YtfkihaecobceeaaGreatDoorTie
import Derived.ProofKit
import Derived.OpenShut
import Derived.LaidMore
import Derived.Lay
import Derived.HandedShaped
import Derived.SevenTiedAt
import Derived.Stop.Joined
set_option autoImplicit false
set_option linter.all false
namespace Go.Proofs.YtfkihaecobceeaaGreatDoor
open Go.ChangeShapes Go.WideShapes Go.ChangeAt Go.RowKit
theorem deadMarks_holds : Rows.DeadMarksSaid :=
  OpenClaim.holds_of_wide 3 Tryz.f3 rfl rfl rfl rfl rfl rfl rfl ⟨rfl, rfl, rfl, rfl, rfl⟩ rfl rfl rfl rfl rfl fin_named Tryz.func3 fin_closed fin_inst fin_wrap
    (fun os started H enc _ => deadMarks_lifted os started H enc)
end Go.Proofs.YtfkihaecobceeaaGreatDoor
