/- FlowTests's row holds. -/
import Derived.Test.YtkgkmoonkacglaaGreatDoorFinA
import Derived.Test.YtkgkmoonkacglaaGreatDoorFinB
import Derived.Test.YtkgkmoonkacglaaGreatDoorRows
import Derived.Test.YtkgkmoonkacglaaGreatDoorCards
import Derived.Test.YtkgkmoonkacglaaGreatDoorTie
import Derived.ProofKit
import Derived.OpenShut
import Derived.LaidMore
import Derived.Lay
import Derived.HandedShaped
import Derived.SevenTiedAt
import Derived.Stop.Joined
set_option autoImplicit false
set_option linter.all false
set_option autoImplicit false
namespace Go.Proofs.YtkgkmoonkacglaaGreatDoor
open Go.ChangeShapes Go.WideShapes Go.ChangeAt Go.RowKit
theorem flowTests_holds : Rows.FlowTestsSaid :=
  OpenClaim.holds_of_wide 4 Tryz.f4 rfl rfl rfl rfl rfl rfl rfl ⟨rfl, rfl, rfl, rfl, rfl⟩ rfl rfl rfl rfl rfl fin_named Tryz.func4 fin_closed fin_inst fin_wrap
    (fun os started H enc _ => flowTests_lifted os started H enc)
end Go.Proofs.YtkgkmoonkacglaaGreatDoor
