/- DeadMarks's call in the program at every bool and every int: it returns true; what stood in memory stands. Its condition: a variable of the library holds an int. -/
import Derived.Test.YtfkihaecobceeaaGreatDoorW1
import Derived.Test.YtfkihaecobceeaaGreatDoorG3
import Derived.Test.YtfkihaecobceeaaGreatDoorRunsAll
set_option autoImplicit false
set_option linter.all false
set_option maxRecDepth 100000
namespace Go.Proofs
open Go Go.RowKit

/-- What the executor has told of a call: the call returns it; what stood stands. -/
theorem Tryz.told {summ : Nat → List AX.AV → AX.Heap → Option AX.CR} (hs : AX.SummOk Tryz.prog Tryz.B summ) {f : Nat} {args : List AX.AV} {v : AX.AV} (hn : summ f args AX.empty = none) (h : retV (AX.callC Tryz.ctab Tryz.dtab summ 100000 f args AX.empty) = some v)
    (vs : Array Value) (hv : AX.VRels AX.noName args vs.toList) (W : World) (m : Int) (hm : W.cell? ⟨0, 0, none⟩ = some (.int .i64 m)) : Calls Tryz.prog f vs W fun e W' => (∃ v' ρ', e = .returned v' ∧ AX.VRel ρ' v v') ∧ Tryz.Kept W W' := by
  obtain ⟨H1, h1⟩ := retV_some h
  have heq := AX.callC_eq Tryz.tabK Tryz.dtab summ 100000
  change AX.callC Tryz.ctab Tryz.dtab summ 100000 = _ at heq
  rw [heq] at h1
  refine (AX.calls_told (B := Tryz.B) (ρ := AX.noName) (vs := vs) (w := W) (AX.intVar_stable 0) Tryz.ext Tryz.mix AX.tabOf_ok Tryz.dtabOk hs hn h1 hv (AX.hrel_empty _ _) ⟨(fun id loc h => by cases h), m, hm⟩).mono ?_
  rintro e W' ⟨ρ', v', rfl, hv, _, hg⟩
  exact ⟨⟨v', ρ', rfl, hv⟩, hg.io.1, hg.io.2, hg.size, fun k hk => hg.same k hk fun id loc h => by cases h⟩

def Tryz.outB (b : Bool) (n : Nat) : ByteArray := ⟨((Tryz.textN b n).2.1.map UInt8.ofNat).toArray⟩
theorem Tryz.textB_list : ∀ (b : Bool) (n : Nat), n < 13 → (Tryz.textB b n).data.toList.map UInt8.toNat = (Tryz.textN b n).1
  | true, 0, _ => by decide +kernel
  | true, 1, _ => by decide +kernel
  | true, 2, _ => by decide +kernel
  | true, 3, _ => by decide +kernel
  | true, 4, _ => by decide +kernel
  | true, 5, _ => by decide +kernel
  | true, 6, _ => by decide +kernel
  | true, 7, _ => by decide +kernel
  | true, 8, _ => by decide +kernel
  | true, 9, _ => by decide +kernel
  | true, 10, _ => by decide +kernel
  | true, 11, _ => by decide +kernel
  | true, 12, _ => by decide +kernel
  | false, 0, _ => by decide +kernel
  | false, 1, _ => by decide +kernel
  | false, 2, _ => by decide +kernel
  | false, 3, _ => by decide +kernel
  | false, 4, _ => by decide +kernel
  | false, 5, _ => by decide +kernel
  | false, 6, _ => by decide +kernel
  | false, 7, _ => by decide +kernel
  | false, 8, _ => by decide +kernel
  | false, 9, _ => by decide +kernel
  | false, 10, _ => by decide +kernel
  | false, 11, _ => by decide +kernel
  | false, 12, _ => by decide +kernel
  | _, n + 13, h => absurd h (by omega)
theorem Tryz.cnt_eq : ∀ (b : Bool) (n : Nat), n < 13 → (Tryz.textN b n).2.2 = if b then 0 else 1
  | true, 0, _ => rfl
  | true, 1, _ => rfl
  | true, 2, _ => rfl
  | true, 3, _ => rfl
  | true, 4, _ => rfl
  | true, 5, _ => rfl
  | true, 6, _ => rfl
  | true, 7, _ => rfl
  | true, 8, _ => rfl
  | true, 9, _ => rfl
  | true, 10, _ => rfl
  | true, 11, _ => rfl
  | true, 12, _ => rfl
  | false, 0, _ => rfl
  | false, 1, _ => rfl
  | false, 2, _ => rfl
  | false, 3, _ => rfl
  | false, 4, _ => rfl
  | false, 5, _ => rfl
  | false, 6, _ => rfl
  | false, 7, _ => rfl
  | false, 8, _ => rfl
  | false, 9, _ => rfl
  | false, 10, _ => rfl
  | false, 11, _ => rfl
  | false, 12, _ => rfl
  | _, n + 13, h => absurd h (by omega)
theorem Tryz.out_bytes : ∀ (b : Bool) (n : Nat), n < 13 → ((Tryz.textN b n).2.1.map UInt8.ofNat).map UInt8.toNat = (Tryz.textN b n).2.1
  | true, 0, _ => by decide +kernel
  | true, 1, _ => by decide +kernel
  | true, 2, _ => by decide +kernel
  | true, 3, _ => by decide +kernel
  | true, 4, _ => by decide +kernel
  | true, 5, _ => by decide +kernel
  | true, 6, _ => by decide +kernel
  | true, 7, _ => by decide +kernel
  | true, 8, _ => by decide +kernel
  | true, 9, _ => by decide +kernel
  | true, 10, _ => by decide +kernel
  | true, 11, _ => by decide +kernel
  | true, 12, _ => by decide +kernel
  | false, 0, _ => by decide +kernel
  | false, 1, _ => by decide +kernel
  | false, 2, _ => by decide +kernel
  | false, 3, _ => by decide +kernel
  | false, 4, _ => by decide +kernel
  | false, 5, _ => by decide +kernel
  | false, 6, _ => by decide +kernel
  | false, 7, _ => by decide +kernel
  | false, 8, _ => by decide +kernel
  | false, 9, _ => by decide +kernel
  | false, 10, _ => by decide +kernel
  | false, 11, _ => by decide +kernel
  | false, 12, _ => by decide +kernel
  | _, n + 13, h => absurd h (by omega)
def Tryz.newB (b : Bool) : ByteArray := if b then ⟨#[109, 32, 61, 61, 32, 110, 117, 108, 108]⟩ else ⟨#[102, 97, 108, 115, 101]⟩
theorem Tryz.replaced : ∀ (b : Bool) (n : Nat), n < 13 → Lib.replace (Tryz.textB b n).data.toList [109, 32, 61, 61, 32, 110, 117, 108, 108] (Tryz.newB b).data.toList 1 = (Tryz.textN b n).2.1.map UInt8.ofNat
  | true, 0, _ => by decide +kernel
  | true, 1, _ => by decide +kernel
  | true, 2, _ => by decide +kernel
  | true, 3, _ => by decide +kernel
  | true, 4, _ => by decide +kernel
  | true, 5, _ => by decide +kernel
  | true, 6, _ => by decide +kernel
  | true, 7, _ => by decide +kernel
  | true, 8, _ => by decide +kernel
  | true, 9, _ => by decide +kernel
  | true, 10, _ => by decide +kernel
  | true, 11, _ => by decide +kernel
  | true, 12, _ => by decide +kernel
  | false, 0, _ => by decide +kernel
  | false, 1, _ => by decide +kernel
  | false, 2, _ => by decide +kernel
  | false, 3, _ => by decide +kernel
  | false, 4, _ => by decide +kernel
  | false, 5, _ => by decide +kernel
  | false, 6, _ => by decide +kernel
  | false, 7, _ => by decide +kernel
  | false, 8, _ => by decide +kernel
  | false, 9, _ => by decide +kernel
  | false, 10, _ => by decide +kernel
  | false, 11, _ => by decide +kernel
  | false, 12, _ => by decide +kernel
  | _, n + 13, h => absurd h (by omega)
theorem Tryz.textB_size (b : Bool) (n : Nat) (hn : n < 13) : (Tryz.textB b n).size ≤ 200 := by
  have := Tryz.condB_size n
  have hb : (Tryz.markB b).data.size ≤ 1 := by cases b <;> decide
  simp only [Tryz.textB, ByteArray.size_append, this]
  have e1 : ∀ a : Array UInt8, (⟨a⟩ : ByteArray).size = a.size := fun _ => rfl
  simp only [e1]
  simp only [List.size_toArray, List.length_cons, List.length_nil]
  omega

theorem Tryz.str_of {ρ : AX.Ren} {l : List Nat} {l8 : List UInt8} {v : Value} (h : AX.VRel ρ (.s l) v) (h8 : l8.map UInt8.toNat = l) : v = .string ⟨l8.toArray⟩ := by
  cases h with
  | s _ s hs =>
    have : s.data.toList = l8 := by
      have h1 : s.data.toList.map UInt8.toNat = l8.map UInt8.toNat := hs.trans h8.symm
      have h2 := congrArg (List.map UInt8.ofNat) h1
      rw [List.map_map, List.map_map] at h2
      have hi : (UInt8.ofNat ∘ UInt8.toNat) = id := by funext x; simp
      rw [hi, List.map_id, List.map_id] at h2
      exact h2
    subst this
    rfl

theorem Tryz.finds_call (W : World) (m : Int) (hm : W.cell? ⟨0, 0, none⟩ = some (.int .i64 m)) : Calls Tryz.prog 4 #[] W fun e W' => e = .returned (.bool true) ∧ Tryz.Kept W W' := by
  refine (Tryz.told summ3_ok rfl Tryz.finds #[] .nil W m hm).mono ?_
  rintro e W' ⟨⟨v', ρ', rfl, hv⟩, hk⟩
  cases hv
  exact ⟨rfl, hk⟩

theorem Tryz.remove_call (b : Bool) (n : Nat) (hn : n < 13) (W : World) (m : Int) (hm : W.cell? ⟨0, 0, none⟩ = some (.int .i64 m)) :
    Calls Tryz.prog 5 #[.string (Tryz.textB b n)] W fun e W' => e = .returned (.tuple #[.string (Tryz.outB b n), .int .i64 (Tryz.textN b n).2.2, .agg #[.int .i64 0, .int .i64 0]]) ∧ Tryz.Kept W W' := by
  obtain ⟨summ, hs, h0, h1⟩ := Tryz.rems b n hn
  refine (Tryz.told hs h0 h1 #[.string (Tryz.textB b n)] (.cons _ _ _ _ (.s _ _ (Tryz.textB_list b n hn)) .nil) W m hm).mono ?_
  rintro e W' ⟨⟨v', ρ', rfl, hv⟩, hk⟩
  refine ⟨?_, hk⟩
  cases hv with
  | tu _ cs h =>
    obtain ⟨cs⟩ := cs
    cases h with
    | cons _ v0 _ m0 r0 t0 =>
    cases t0 with
    | cons _ v1 _ m1 r1 t1 =>
    cases t1 with
    | cons _ v2 _ m2 r2 t2 =>
      cases t2
      have e0 := Tryz.str_of r0 (Tryz.out_bytes b n hn)
      subst e0
      cases r1
      cases r2 with
      | ag _ ds _ hd =>
        obtain ⟨ds⟩ := ds
        cases hd with
        | cons _ w0 _ n0 q0 u0 =>
        cases u0 with
        | cons _ w1 _ n1 q1 u1 =>
          cases u1
          cases q0
          cases q1
          rfl

theorem Tryz.replace_call (b : Bool) (n : Nat) (hn : n < 13) (W : World) (m : Int) (hm : W.cell? ⟨0, 0, none⟩ = some (.int .i64 m)) :
    Calls Tryz.prog 6 #[.string (Tryz.textB b n), .string ⟨#[109, 32, 61, 61, 32, 110, 117, 108, 108]⟩, .string (if b then ⟨#[109, 32, 61, 61, 32, 110, 117, 108, 108]⟩ else ⟨#[102, 97, 108, 115, 101]⟩), .int .i64 1] W fun e W' => e = .returned (.string (Tryz.outB b n)) ∧ Tryz.Kept W W' := by
  have hsz := Tryz.textB_size b n hn
  have hnew : (Tryz.newB b).size ≤ 9 := by cases b <;> decide
  have hcb : Lib.countB (Tryz.textB b n) ⟨#[109, 32, 61, 61, 32, 110, 117, 108, 108]⟩ * 9 ≤ (Tryz.textB b n).size := Lib.countB_mul_le ⟨#[109, 32, 61, 61, 32, 110, 117, 108, 108]⟩ (by decide) _ _ (Nat.le_refl _)
  have hmul : Lib.countB (Tryz.textB b n) ⟨#[109, 32, 61, 61, 32, 110, 117, 108, 108]⟩ * (Tryz.newB b).size ≤ 200 * 9 := Nat.mul_le_mul (by omega) hnew
  refine (Tryz.strings_Replace (Tryz.textB b n) ⟨#[109, 32, 61, 61, 32, 110, 117, 108, 108]⟩ (Tryz.newB b) 1 m W (by omega) hm (by decide) (by omega)).mono ?_
  rintro e W' ⟨rfl, hb⟩
  refine ⟨?_, hb.os, hb.output, hb.size, hb.block⟩
  rw [show (⟨#[109, 32, 61, 61, 32, 110, 117, 108, 108]⟩ : ByteArray).data.toList = [109, 32, 61, 61, 32, 110, 117, 108, 108] from rfl, Tryz.replaced b n hn]
  rfl

theorem Tryz.rb (b : Bool) (k : Nat) : retV (AX.callC Tryz.ctab Tryz.dtab summ4 100000 3 [.b b, .i .i64 (.ofNat (k + 13))] AX.empty) = some (.b true) := by kernel_rfl
theorem Tryz.rn (b : Bool) (k : Nat) : retV (AX.callC Tryz.ctab Tryz.dtab summ4 100000 3 [.b b, .i .i64 (.negSucc k)] AX.empty) = some (.b true) := by kernel_rfl

/-- The call, whatever the bool and the int: it returns true; what stood in the heap stands. -/
theorem Tryz.call_all (b : Bool) (y : Int) (W : World) (m : Int) (hm : W.cell? ⟨0, 0, none⟩ = some (.int .i64 m)) :
    Calls Tryz.prog 3 #[.bool b, .int .i64 y] W fun e W' => e = .returned (.bool true) ∧ Tryz.Kept W W' := by
  have out : ∀ y : Int, retV (AX.callC Tryz.ctab Tryz.dtab summ4 100000 3 [.b b, .i .i64 y] AX.empty) = some (.b true) → Calls Tryz.prog 3 #[.bool b, .int .i64 y] W fun e W' => e = .returned (.bool true) ∧ Tryz.Kept W W' := by
    intro y h
    refine (Tryz.told summ4_ok rfl h #[.bool b, .int .i64 y] (.cons _ _ _ _ (.b _) (.cons _ _ _ _ (.i _ _) .nil)) W m hm).mono ?_
    rintro e W' ⟨⟨v', ρ', rfl, hv⟩, hk⟩
    cases hv
    exact ⟨rfl, hk⟩
  match y with
  | .negSucc k => exact out _ (Tryz.rn b k)
  | .ofNat n =>
    by_cases hn : n < 13
    · exact Tryz.walk b n (by omega) W m hm (fun w h => Tryz.finds_call w m h) (Tryz.outB b n) _ (Tryz.cnt_eq b n hn) (fun w h => Tryz.remove_call b n hn w m h) (fun w h => Tryz.replace_call b n hn w m h)
    · obtain ⟨k, rfl⟩ : ∃ k, n = k + 13 := ⟨n - 13, by omega⟩
      exact out _ (Tryz.rb b k)
end Go.Proofs
