/- The law's head, carried out in the executor: it returns true. No condition. -/
import Derived.Test.YtfkihaecobceeaaGreatDoorG2
set_option autoImplicit false
set_option linter.all false
set_option maxRecDepth 1000000
namespace Go.Proofs
open Go Go.AX
theorem Tryz.finds : retV (callC Tryz.ctab Tryz.dtab summ3 100000 4 [] empty) = some (.b true) := by kernel_rfl
noncomputable def findsS (args : List AV) (H : Heap) : Option CR := match args with
  | [] => some (.ret (.b true) H)
  | _ => none
noncomputable def summ4 (f : Nat) (args : List AV) (H : Heap) : Option CR := Bool.rec (motive := fun _ => Option CR) (summ1 f args H) (findsS args H) (Nat.beq f 4)
theorem summ4_ok : SummOk Tryz.prog Tryz.B summ4 := by
  intro f args H v H' h
  unfold summ4 at h
  rcases beqC h with ⟨rfl, h⟩ | h
  · unfold findsS at h
    split at h
    · cases h
      exact shutOk summ3_ok Tryz.finds rfl rfl H
    · cases h
  · exact summ1_ok f args H v H' h
end Go.Proofs
