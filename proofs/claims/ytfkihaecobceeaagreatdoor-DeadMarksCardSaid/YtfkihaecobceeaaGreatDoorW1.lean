/- The walk of the law's own function, over the answers of the three calls that it makes. -/
import Derived.Test.YtfkihaecobceeaaGreatDoorW0
import Derived.WideMake
import Derived.Tactics
import Derived.Tactics2
import Derived.WalkKit
import Derived.WalkSpells
import Derived.StillTactics
import Derived.OwnWalk
import Derived.Laws.Pointers
import Derived.Deep.RegionHeld3
import Derived.Lib.Hide
import Derived.KernelRfl
set_option autoImplicit false
set_option linter.all false
namespace Go.Proofs
open Go Go.RowKit
set_option maxRecDepth 100000 in
set_option maxHeartbeats 1600000 in
theorem Tryz.walk (b : Bool) (n : Nat) (hn : n ≤ 12) (W : World) (m : Int) (hm : W.cell? ⟨0, 0, none⟩ = some (.int .i64 m))
    (hf : ∀ (w : World), w.cell? ⟨0, 0, none⟩ = some (.int .i64 m) → Calls Tryz.prog 4 #[] w fun e w' => e = .returned (.bool true) ∧ Tryz.Kept w w')
    (out : ByteArray) (cnt : Int) (hcnt : cnt = if b then 0 else 1)
    (hr : ∀ (w : World), w.cell? ⟨0, 0, none⟩ = some (.int .i64 m) → Calls Tryz.prog 5 #[.string (Tryz.textB b n)] w fun e w' => e = .returned (.tuple #[.string out, .int .i64 cnt, .agg #[.int .i64 0, .int .i64 0]]) ∧ Tryz.Kept w w')
    (hp : ∀ (w : World), w.cell? ⟨0, 0, none⟩ = some (.int .i64 m) → Calls Tryz.prog 6 #[.string (Tryz.textB b n), .string ⟨#[109, 32, 61, 61, 32, 110, 117, 108, 108]⟩, .string (if b then ⟨#[109, 32, 61, 61, 32, 110, 117, 108, 108]⟩ else ⟨#[102, 97, 108, 115, 101]⟩), .int .i64 1] w fun e w' => e = .returned (.string out) ∧ Tryz.Kept w w') :
    Calls Tryz.prog 3 #[.bool b, .int .i64 n] W fun e W' => e = .returned (.bool true) ∧ Tryz.Kept W W' := by
  have hn0 : (0 : Int) ≤ (n : Int) := Int.natCast_nonneg _
  have hn1 : (n : Int) ≤ 12 := by omega
  have HF := Lib.hid hf
  clear hf
  have HR := Lib.hid hr
  clear hr
  have HP := Lib.hid hp
  clear hp
  have HM := Lib.hid hm
  clear hm
  go_enter Tryz.func3, Tryz.ntmps3
  go_wp2_with (go_at_call 4; refine (HF.out _ HM.out).mono ?_; rintro e w1 ⟨rfl, hk1⟩; have HK1 := Lib.hid hk1; clear hk1)
  go_loop [5, 20] (fun c i => ∃ k : Nat, k ≤ n ∧ i = .int .i64 k ∧ c = .string (Tryz.condB k)) (fun _ i => n - (intOf i).toNat)
  case atStart => exact ⟨0, Nat.zero_le _, rfl, rfl⟩
  case round =>
    obtain ⟨k, hk, rfl, rfl⟩ := hrel
    have hsz := Tryz.condB_size k
    have HS := Lib.hid hsz
    have hb1 : (Tryz.condB k).size ≤ 45 := by omega
    clear hsz
    by_cases hlt : k < n
    · go_wp2
      go_round
      case rel => exact ⟨k + 1, by omega, by go_num, rfl⟩
      case measure => simp [intOf]; omega
    · obtain rfl : k = n := by omega
      cases b with
      | true =>
        have h0 : cnt = 0 := by simpa using hcnt
        subst h0
        clear hcnt
        go_wp2_with (go_at_call 5; refine (HR.out _ (HK1.out.cell HM.out)).mono ?_; rintro e w2 ⟨rfl, hk2⟩; have HK2 := Lib.hid hk2; clear hk2)
        rw [run_makeMap_plain]
        simp only [Result.andThen]
        rw [Oper.upon_value]
        go_wp2_with fail
        have HA := Lib.hid (Tryz.Box.mk0 w2 (Obj.cells #[Value.int IntKind.i64 0, Value.int IntKind.i64 0] 25))
        generalize (w2.alloc (Obj.cells #[Value.int IntKind.i64 0, Value.int IntKind.i64 0] 25)).alloc (Obj.map #[] 0) = wA at HA ⊢
        rw [Tryz.ins wA (w2.heap.size + 1) #[] 0 true _ HA.out.2.1 (Tryz.find0 true)]
        simp only [Result.andThen]
        rw [Oper.upon_skip]
        have HB := Lib.hid (HA.out.put (es' := #[].push { key := .bool true, val := .string ⟨#[109, 32, 61, 61, 32, 110, 117, 108, 108]⟩, born := 0 }) (ck' := 0 + 1))
        generalize ({ wA with heap := wA.heap.setIfInBounds (w2.heap.size + 1) (.map (#[].push { key := .bool true, val := .string ⟨#[109, 32, 61, 61, 32, 110, 117, 108, 108]⟩, born := 0 }) (0 + 1)) } : World) = wB at HB ⊢
        go_wp2_with fail
        rw [Tryz.ins wB (w2.heap.size + 1) _ _ false _ HB.out.2.1 (Tryz.find1 _ _)]
        simp only [Result.andThen]
        rw [Oper.upon_skip]
        have HC := Lib.hid (HB.out.put (es' := (#[].push { key := .bool true, val := .string ⟨#[109, 32, 61, 61, 32, 110, 117, 108, 108]⟩, born := 0 }).push { key := .bool false, val := .string ⟨#[102, 97, 108, 115, 101]⟩, born := 0 + 1 }) (ck' := 0 + 1 + 1))
        generalize ({ wB with heap := wB.heap.setIfInBounds (w2.heap.size + 1) (.map ((#[].push { key := .bool true, val := .string ⟨#[109, 32, 61, 61, 32, 110, 117, 108, 108]⟩, born := 0 }).push { key := .bool false, val := .string ⟨#[102, 97, 108, 115, 101]⟩, born := 0 + 1 }) (0 + 1 + 1)) } : World) = wC at HC ⊢
        go_wp2_with fail
        rw [Tryz.look wC (w2.heap.size + 1) _ _ true 0 _ HC.out.2.1 (Tryz.find2 _ _ _ _ true)]
        simp only [Result.andThen]
        rw [Oper.upon_value]
        go_wp2_with (go_at_call 6; refine (HP.out _ (HC.out.1.cell (HK2.out.cell (HK1.out.cell HM.out)))).mono ?_; rintro e w3 ⟨rfl, hk3⟩; have HK3 := Lib.hid hk3; clear hk3)
        go_ret
        exact ⟨by simp, HK1.out.trans (HK2.out.trans (HC.out.1.trans HK3.out))⟩
      | false =>
        have h0 : cnt = 1 := by simpa using hcnt
        subst h0
        clear hcnt
        go_wp2_with (go_at_call 5; refine (HR.out _ (HK1.out.cell HM.out)).mono ?_; rintro e w2 ⟨rfl, hk2⟩; have HK2 := Lib.hid hk2; clear hk2)
        rw [run_makeMap_plain]
        simp only [Result.andThen]
        rw [Oper.upon_value]
        go_wp2_with fail
        have HA := Lib.hid (Tryz.Box.mk0 w2 (Obj.cells #[Value.int IntKind.i64 0, Value.int IntKind.i64 0] 25))
        generalize (w2.alloc (Obj.cells #[Value.int IntKind.i64 0, Value.int IntKind.i64 0] 25)).alloc (Obj.map #[] 0) = wA at HA ⊢
        rw [Tryz.ins wA (w2.heap.size + 1) #[] 0 true _ HA.out.2.1 (Tryz.find0 true)]
        simp only [Result.andThen]
        rw [Oper.upon_skip]
        have HB := Lib.hid (HA.out.put (es' := #[].push { key := .bool true, val := .string ⟨#[109, 32, 61, 61, 32, 110, 117, 108, 108]⟩, born := 0 }) (ck' := 0 + 1))
        generalize ({ wA with heap := wA.heap.setIfInBounds (w2.heap.size + 1) (.map (#[].push { key := .bool true, val := .string ⟨#[109, 32, 61, 61, 32, 110, 117, 108, 108]⟩, born := 0 }) (0 + 1)) } : World) = wB at HB ⊢
        go_wp2_with fail
        rw [Tryz.ins wB (w2.heap.size + 1) _ _ false _ HB.out.2.1 (Tryz.find1 _ _)]
        simp only [Result.andThen]
        rw [Oper.upon_skip]
        have HC := Lib.hid (HB.out.put (es' := (#[].push { key := .bool true, val := .string ⟨#[109, 32, 61, 61, 32, 110, 117, 108, 108]⟩, born := 0 }).push { key := .bool false, val := .string ⟨#[102, 97, 108, 115, 101]⟩, born := 0 + 1 }) (ck' := 0 + 1 + 1))
        generalize ({ wB with heap := wB.heap.setIfInBounds (w2.heap.size + 1) (.map ((#[].push { key := .bool true, val := .string ⟨#[109, 32, 61, 61, 32, 110, 117, 108, 108]⟩, born := 0 }).push { key := .bool false, val := .string ⟨#[102, 97, 108, 115, 101]⟩, born := 0 + 1 }) (0 + 1 + 1)) } : World) = wC at HC ⊢
        go_wp2_with fail
        rw [Tryz.look wC (w2.heap.size + 1) _ _ false 1 _ HC.out.2.1 (Tryz.find2 _ _ _ _ false)]
        simp only [Result.andThen]
        rw [Oper.upon_value]
        go_wp2_with (go_at_call 6; refine (HP.out _ (HC.out.1.cell (HK2.out.cell (HK1.out.cell HM.out)))).mono ?_; rintro e w3 ⟨rfl, hk3⟩; have HK3 := Lib.hid hk3; clear hk3)
        go_ret
        exact ⟨by simp, HK1.out.trans (HK2.out.trans (HC.out.1.trans HK3.out))⟩
end Go.Proofs
