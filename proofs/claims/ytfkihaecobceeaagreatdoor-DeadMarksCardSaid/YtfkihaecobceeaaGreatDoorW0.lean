/- Small facts of texts and of a map for the walk of the law's own function. -/
import Derived.Test.YtfkihaecobceeaaGreatDoorTab
import Derived.Tactics
import Derived.Tactics2
import Derived.WalkKit
import Derived.WalkSpells
import Derived.StillTactics
import Derived.OwnWalk
import Derived.Laws.Pointers
import Derived.Deep.RegionHeld3
import Derived.Lib.Hide
import Derived.KernelRfl
set_option autoImplicit false
set_option linter.all false
namespace Go.Proofs
open Go Go.RowKit

/-- What stood stands; nothing is said outside. -/
def Tryz.Kept (W W' : World) : Prop := W'.os = W.os ∧ W'.output = W.output ∧ W.heap.size ≤ W'.heap.size ∧ ∀ k, k < W.heap.size → W'.heap[k]? = W.heap[k]?
theorem Tryz.Kept.cell {W W' : World} (h : Tryz.Kept W W') {g : Nat} {v : Value} (hm : W.cell? ⟨g, 0, none⟩ = some v) : W'.cell? ⟨g, 0, none⟩ = some v := by
  have hlt := AX.cell_lt hm
  simp only [World.cell?, h.2.2.2 _ hlt] at hm ⊢
  exact hm
theorem Tryz.Kept.trans {a b c : World} (h : Tryz.Kept a b) (h' : Tryz.Kept b c) : Tryz.Kept a c :=
  ⟨h'.1.trans h.1, h'.2.1.trans h.2.1, Nat.le_trans h.2.2.1 h'.2.2.1, fun k hk => (h'.2.2.2 k (Nat.lt_of_lt_of_le hk h.2.2.1)).trans (h.2.2.2 k hk)⟩

def Tryz.condB : Nat → ByteArray
  | 0 => ⟨#[109, 32, 61, 61, 32, 110, 117, 108, 108]⟩
  | n + 1 => ⟨#[33, 40]⟩ ++ Tryz.condB n ++ ⟨#[41]⟩
theorem Tryz.condB_size : ∀ n, (Tryz.condB n).size = 9 + 3 * n
  | 0 => rfl
  | n + 1 => by
    have := Tryz.condB_size n
    simp only [Tryz.condB, ByteArray.size_append, this]
    show 2 + (9 + 3 * n) + 1 = _
    omega

def Tryz.markB : Bool → ByteArray
  | true => ⟨#[63]⟩
  | false => ⟨#[]⟩
def Tryz.textB (b : Bool) (n : Nat) : ByteArray := ⟨#[99, 108, 97, 115, 115, 32, 77, 97, 105, 110, 32, 123, 32, 105, 110, 116, 32, 109, 97, 105, 110, 40, 41, 32, 123, 32, 77, 97, 105, 110]⟩ ++ Tryz.markB b ++ ⟨#[32, 109, 32, 61, 32, 116, 104, 105, 115, 59, 32, 105, 102, 32, 40]⟩ ++ Tryz.condB n ++ ⟨#[41, 32, 123, 32, 114, 101, 116, 117, 114, 110, 32, 50, 59, 32, 125, 32, 114, 101, 116, 117, 114, 110, 32, 49, 59, 32, 125, 32, 125]⟩

/-- A map in a block of its own, behind what stood. -/
def Tryz.Box (w2 w : World) (r : Nat) (es : Array MapEntry) (ck : Nat) : Prop := Tryz.Kept w2 w ∧ w.heap[r]? = some (.map es ck) ∧ w2.heap.size ≤ r
theorem Tryz.Box.mk0 (w2 : World) (o : Obj) : Tryz.Box w2 ((w2.alloc o).alloc (.map #[] 0)) (w2.heap.size + 1) #[] 0 := by
  have hs : (w2.alloc o).heap.size = w2.heap.size + 1 := World.size_alloc _ _
  refine ⟨⟨rfl, rfl, by rw [World.size_alloc, hs]; omega, ?_⟩, ?_, by omega⟩
  · intro k hk
    exact (AX.push_old _ _ (by rw [hs]; omega)).trans (AX.push_old _ _ hk)
  · rw [← hs]
    exact World.alloc_heap_new _ _
theorem Tryz.Box.put {w2 w : World} {r : Nat} {es es' : Array MapEntry} {ck ck' : Nat} (h : Tryz.Box w2 w r es ck) : Tryz.Box w2 { w with heap := w.heap.setIfInBounds r (.map es' ck') } r es' ck' := by
  obtain ⟨⟨h1, h2, h3, h4⟩, h5, h6⟩ := h
  have hlt : r < w.heap.size := (Array.getElem?_eq_some_iff.1 h5).1
  refine ⟨⟨h1, h2, by simpa using h3, ?_⟩, by simp [hlt], h6⟩
  intro k hk
  show (w.heap.setIfInBounds r _)[k]? = _
  rw [Array.getElem?_setIfInBounds_ne (by omega)]
  exact h4 k hk

section
open Go.AX
theorem Tryz.find0 (b : Bool) (w : World) : (Instr.findKey 4 (.bool b) []).run Tryz.prog w = .ok none w := by
  simp only [Instr.findKey, Sem.run_bind, run_underlying Tryz.underlying4, Result.andThen_ok, Instr.findNow, Sem.run_pure]
theorem Tryz.find1 (v : Value) (n : Nat) (w : World) : (Instr.findKey 4 (.bool false) [⟨.bool true, v, n⟩]).run Tryz.prog w = .ok none w := by
  simp [Instr.findKey, Sem.run_bind, run_underlying Tryz.underlying4, Result.andThen_ok, Instr.findNow, Sem.run_pure, Instr.sameNow]
theorem Tryz.find2 (v u : Value) (n m : Nat) (b : Bool) (w : World) : (Instr.findKey 4 (.bool b) [⟨.bool true, v, n⟩, ⟨.bool false, u, m⟩]).run Tryz.prog w = .ok (some (if b then (0, v) else (1, u))) w := by
  cases b <;> simp [Instr.findKey, Sem.run_bind, run_underlying Tryz.underlying4, Result.andThen_ok, Instr.findNow, Sem.run_pure, Instr.sameNow]
theorem Tryz.ins (w : World) (r : Nat) (es : Array MapEntry) (ck : Nat) (b : Bool) (v : Value) (h : w.heap[r]? = some (.map es ck)) (hf : ∀ w, (Instr.findKey 4 (.bool b) es.toList).run Tryz.prog w = .ok none w) :
    (Instr.mapUpdate 29 (.map (some r)) (.bool b) v).run Tryz.prog w = .ok () { w with heap := w.heap.setIfInBounds r (.map (es.push { key := .bool b, val := v, born := ck }) (ck + 1)) } := by
  unfold Instr.mapUpdate
  simp only [Sem.run_bind, run_underlying Tryz.underlying29, Result.andThen_ok, run_getObj_map (P := Tryz.prog) w r es ck h, checkKey_ok (c := .b) Tryz.underlying4 (by kernel_rfl), hf]
  exact run_setMap _ h
theorem Tryz.look (w : World) (r : Nat) (es : Array MapEntry) (ck : Nat) (b : Bool) (i : Nat) (v : Value) (h : w.heap[r]? = some (.map es ck)) (hf : ∀ w, (Instr.findKey 4 (.bool b) es.toList).run Tryz.prog w = .ok (some (i, v)) w) :
    (Instr.lookup 29 (.map (some r)) (.bool b) false).run Tryz.prog w = .ok v w := by
  unfold Instr.lookup
  simp only [Sem.run_bind, run_underlying Tryz.underlying29, Result.andThen_ok, run_getObj_map (P := Tryz.prog) w r es ck h, checkKey_ok (c := .b) Tryz.underlying4 (by kernel_rfl), hf, Sem.run_pure]
  rfl
end
end Go.Proofs
