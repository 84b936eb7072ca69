/- Closed facts of the program that DeadMarks's row asks for. -/
import Derived.Test.YtfkihaecobceeaaGreatDoorFinB1
import Derived.Test.YtfkihaecobceeaaGreatDoorFinB2
import Derived.Test.YtfkihaecobceeaaGreatDoorFinB3
import Derived.Test.YtfkihaecobceeaaGreatDoorFinB4
import Derived.Test.YtfkihaecobceeaaGreatDoorRows
import Derived.Test.YtfkihaecobceeaaGreatDoorCards
import Derived.Test.YtfkihaecobceeaaGreatDoorTie
import Derived.ProofKit
import Derived.OpenShut
import Derived.LaidMore
import Derived.Lay
import Derived.HandedShaped
import Derived.SevenTiedAt
import Derived.Stop.Joined
set_option autoImplicit false
set_option linter.all false
namespace Go.Proofs.YtfkihaecobceeaaGreatDoor
open Go.ChangeShapes Go.WideShapes Go.ChangeAt Go.RowKit
theorem fin_named : Tryz.pinned.checked.prog.funcNamed Rows.deadMarksRow.func = some 3 := by kernel_rfl
theorem fin_closed : joinedFacts Tryz.pinned.checked.prog 3 Tryz.f3 Rows.deadMarksSpec Rows.deadMarksRow = true := by
  unfold joinedFacts
  rw [fin_inPlace, fin_unfollowed, fin_recurses, fin_varsNamed]
  kernel_rfl
theorem fin_inst : Tryz.f3.isInstance Tryz.pinned.checked.prog Rows.deadMarksRow.origin Rows.deadMarksRow.targs := of_decide_eq_true (by kernel_rfl)
theorem fin_wrap : Tryz.f3.isWrapper Tryz.pinned.checked.prog Rows.deadMarksRow.wrapper Rows.deadMarksRow.mainSum := by
  unfold Func.isWrapper
  first | (rw [if_pos (by decide +kernel)]; kernel_rfl) | (rw [if_neg (by decide +kernel)]; exact ⟨rfl, rfl⟩)
end Go.Proofs.YtfkihaecobceeaaGreatDoor
