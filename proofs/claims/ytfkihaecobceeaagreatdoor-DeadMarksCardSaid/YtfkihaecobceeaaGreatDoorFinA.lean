/- DeadMarks's call in the program, and the row's own form of it. -/
import Derived.Test.YtfkihaecobceeaaGreatDoorW2
import Derived.Test.YtfkihaecobceeaaGreatDoorRows
import Derived.Test.YtfkihaecobceeaaGreatDoorCards
import Derived.Test.YtfkihaecobceeaaGreatDoorTie
import Derived.ProofKit
import Derived.OpenShut
import Derived.LaidMore
import Derived.Lay
import Derived.HandedShaped
import Derived.SevenTiedAt
import Derived.Stop.Joined
set_option autoImplicit false
set_option linter.all false
namespace Go.Proofs.YtfkihaecobceeaaGreatDoor
open Go.ChangeShapes Go.WideShapes Go.ChangeAt Go.RowKit

theorem own : ownKnob Tryz.prog.godebug = none := by kernel_rfl

theorem keptBut_of {W W' : World} (h1 : W'.os = W.os) (h2 : W'.output = W.output) (h : ∀ k, k < W.heap.size → W'.heap[k]? = W.heap[k]?) (may : MemPlace → Prop) : W.keptBut W' may := by
  refine ⟨h1, h2, ?_⟩
  intro i hi
  rw [h i hi]
  cases W.heap[i]? with
  | none => rfl
  | some o =>
    cases o with
    | cells c t fr => exact ⟨rfl, rfl, rfl, fun _ _ => rfl⟩
    | map es ck => exact .inr ⟨rfl, rfl⟩
    | _ => rfl

set_option maxRecDepth 100000 in
theorem deadMarks_lifted (os : Os) (started : os.Started) (H : Type) (enc : TypeId × Value → H) :
    ReturnsInHanded {} Tryz.checked os 3 .any (fun w args => (Rows.deadMarksSpec.pre enc Tryz.prog Tryz.f3 [] false w args ∧ laidMetH Tryz.prog Rows.deadMarksRow.laid w) ∧ sizedMet enc Tryz.prog Tryz.f3 (OpenSpec.ofChange Rows.deadMarksSpec) false w args)
      (Rows.deadMarksSpec.post enc Tryz.prog Tryz.f3 false true false false) := by
  refine returnsInHanded_of_calls own started (by kernel_rfl)
    (ChangeSpec.witness_shaped (enc := enc) (C := Tryz.checked) (os := os) (X := fun w _ => laidMetH Tryz.prog Rows.deadMarksRow.laid w) false (World.laidAll Tryz.prog os Rows.deadMarksRow.laid) #[.bool false, .int .i64 0] 8 (World.laidAll_os _ _ _)
      (World.shaped_of_ZipB (by kernel_rfl) (by kernel_rfl)) (by kernel_rfl) (by kernel_rfl) (by kernel_rfl)
      (by rw [MakeChecks.laidMetH_plain _ _ _ (by kernel_rfl)]; exact laidMet_laidAll _ (by kernel_rfl) (by kernel_rfl))) ?_
  intro w tape i _ hsh _ hok hpre _
  obtain ⟨_, _, _, fn', hfn', _, _, _, _, hval0⟩ := hok
  obtain rfl : fn' = Tryz.f3 := Option.some.inj (hfn'.symm.trans Tryz.func3)
  obtain ⟨⟨⟨ds, gs, before, hw, _⟩, _⟩, _⟩ := hpre
  have hW' := DataW.Whole.of_heap (w' := w.forCall tape i) (by rfl) hw
  generalize w.forCall tape i = W at hsh hval0 hW'
  obtain ⟨m, hm⟩ := Tryz.laysM144.s1_3 W hsh
  have hval : ∀ (j : Nat) t v, Tryz.f3.params[j]? = some t → i.args[j]? = some v → Value.okWide Tryz.prog W .any w.heap.size t v := hval0
  generalize i.args = args at hW' hval
  have hW := hW'
  obtain ⟨p, q, hA0, hV, hpq, _, _⟩ := hW
  have hA : DataW.TrodAll enc Tryz.prog W 0 (fun _ => true) true Tryz.f3.params.toList args.toList ds p := hA0
  rw [Tryz.params3] at hA hval
  obtain ⟨v0, v1, d0, d1, p0, p1, rfl, rfl, rfl, h0, h1⟩ := trodAll_two hA
  obtain ⟨rfl, rfl⟩ := trodVars_none hV
  obtain ⟨x, rfl, rfl, rfl⟩ := open_bool Tryz.underlying4 (hval 0 4 v0 rfl rfl) h0
  obtain ⟨y, rfl, rfl, rfl, wy⟩ := open_int Tryz.underlying3 (hval 1 3 v1 rfl rfl) h1
  subst hpq
  refine (Tryz.call_all x y W m hm).mono fun e W' ⟨he, h1, h2, _, h3⟩ => ?_
  subst he
  have hpost : Rows.deadMarksSpec.post enc Tryz.prog Tryz.f3 false true false false W #[.bool x, .int .i64 y] (.bool true) W' :=
    ⟨_, _, _, [], [] ++ [], [], hW', trodAll_mk1 (shut_bool Tryz.underlying4 _), trodAll_mk2 (shut_bool Tryz.underlying4 _) (shut_int Tryz.underlying3 wy), rfl, keptBut_of h1 h2 h3 _, (fun h => by cases h)⟩
  exact ChangeSpec.post_blind hpost

end Go.Proofs.YtfkihaecobceeaaGreatDoor
