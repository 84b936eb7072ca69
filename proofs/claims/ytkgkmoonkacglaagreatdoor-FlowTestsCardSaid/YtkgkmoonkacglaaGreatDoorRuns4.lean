/- FlowTests's call at three values of its first int, whatever the second one is, in the executor: it returns true. No condition. -/
import Derived.Test.YtkgkmoonkacglaaGreatDoorTab
set_option autoImplicit false
set_option linter.all false
set_option autoImplicit false
set_option maxRecDepth 1000000
set_option linter.all false
namespace Go.Proofs
open Go Go.AX
theorem Tryz.r12x0 : retV (callC Tryz.ctab Tryz.dtab summ2 100000 4 [.i .i64 (.ofNat 12), .i .i64 (.ofNat 0)] empty) = some (.b true) := by kernel_rfl
theorem Tryz.r12x1 : retV (callC Tryz.ctab Tryz.dtab summ2 100000 4 [.i .i64 (.ofNat 12), .i .i64 (.ofNat 1)] empty) = some (.b true) := by kernel_rfl
theorem Tryz.r12x2 : retV (callC Tryz.ctab Tryz.dtab summ2 100000 4 [.i .i64 (.ofNat 12), .i .i64 (.ofNat 2)] empty) = some (.b true) := by kernel_rfl
theorem Tryz.r12x3 : retV (callC Tryz.ctab Tryz.dtab summ2 100000 4 [.i .i64 (.ofNat 12), .i .i64 (.ofNat 3)] empty) = some (.b true) := by kernel_rfl
theorem Tryz.r12x4 : retV (callC Tryz.ctab Tryz.dtab summ2 100000 4 [.i .i64 (.ofNat 12), .i .i64 (.ofNat 4)] empty) = some (.b true) := by kernel_rfl
theorem Tryz.r12x5 : retV (callC Tryz.ctab Tryz.dtab summ2 100000 4 [.i .i64 (.ofNat 12), .i .i64 (.ofNat 5)] empty) = some (.b true) := by kernel_rfl
theorem Tryz.r12b (k : Nat) : retV (callC Tryz.ctab Tryz.dtab summ2 100000 4 [.i .i64 (.ofNat 12), .i .i64 (.ofNat (k + 6))] empty) = some (.b true) := by kernel_rfl
theorem Tryz.r12n (k : Nat) : retV (callC Tryz.ctab Tryz.dtab summ2 100000 4 [.i .i64 (.ofNat 12), .i .i64 (.negSucc k)] empty) = some (.b true) := by kernel_rfl
theorem Tryz.r12 : ∀ y : Int, retV (callC Tryz.ctab Tryz.dtab summ2 100000 4 [.i .i64 (.ofNat 12), .i .i64 y] empty) = some (.b true)
  | .ofNat 0 => Tryz.r12x0
  | .ofNat 1 => Tryz.r12x1
  | .ofNat 2 => Tryz.r12x2
  | .ofNat 3 => Tryz.r12x3
  | .ofNat 4 => Tryz.r12x4
  | .ofNat 5 => Tryz.r12x5
  | .ofNat (k + 6) => Tryz.r12b k
  | .negSucc k => Tryz.r12n k
theorem Tryz.r13x0 : retV (callC Tryz.ctab Tryz.dtab summ2 100000 4 [.i .i64 (.ofNat 13), .i .i64 (.ofNat 0)] empty) = some (.b true) := by kernel_rfl
theorem Tryz.r13x1 : retV (callC Tryz.ctab Tryz.dtab summ2 100000 4 [.i .i64 (.ofNat 13), .i .i64 (.ofNat 1)] empty) = some (.b true) := by kernel_rfl
theorem Tryz.r13x2 : retV (callC Tryz.ctab Tryz.dtab summ2 100000 4 [.i .i64 (.ofNat 13), .i .i64 (.ofNat 2)] empty) = some (.b true) := by kernel_rfl
theorem Tryz.r13x3 : retV (callC Tryz.ctab Tryz.dtab summ2 100000 4 [.i .i64 (.ofNat 13), .i .i64 (.ofNat 3)] empty) = some (.b true) := by kernel_rfl
theorem Tryz.r13x4 : retV (callC Tryz.ctab Tryz.dtab summ2 100000 4 [.i .i64 (.ofNat 13), .i .i64 (.ofNat 4)] empty) = some (.b true) := by kernel_rfl
theorem Tryz.r13x5 : retV (callC Tryz.ctab Tryz.dtab summ2 100000 4 [.i .i64 (.ofNat 13), .i .i64 (.ofNat 5)] empty) = some (.b true) := by kernel_rfl
theorem Tryz.r13b (k : Nat) : retV (callC Tryz.ctab Tryz.dtab summ2 100000 4 [.i .i64 (.ofNat 13), .i .i64 (.ofNat (k + 6))] empty) = some (.b true) := by kernel_rfl
theorem Tryz.r13n (k : Nat) : retV (callC Tryz.ctab Tryz.dtab summ2 100000 4 [.i .i64 (.ofNat 13), .i .i64 (.negSucc k)] empty) = some (.b true) := by kernel_rfl
theorem Tryz.r13 : ∀ y : Int, retV (callC Tryz.ctab Tryz.dtab summ2 100000 4 [.i .i64 (.ofNat 13), .i .i64 y] empty) = some (.b true)
  | .ofNat 0 => Tryz.r13x0
  | .ofNat 1 => Tryz.r13x1
  | .ofNat 2 => Tryz.r13x2
  | .ofNat 3 => Tryz.r13x3
  | .ofNat 4 => Tryz.r13x4
  | .ofNat 5 => Tryz.r13x5
  | .ofNat (k + 6) => Tryz.r13b k
  | .negSucc k => Tryz.r13n k
theorem Tryz.r14x0 : retV (callC Tryz.ctab Tryz.dtab summ2 100000 4 [.i .i64 (.ofNat 14), .i .i64 (.ofNat 0)] empty) = some (.b true) := by kernel_rfl
theorem Tryz.r14x1 : retV (callC Tryz.ctab Tryz.dtab summ2 100000 4 [.i .i64 (.ofNat 14), .i .i64 (.ofNat 1)] empty) = some (.b true) := by kernel_rfl
theorem Tryz.r14x2 : retV (callC Tryz.ctab Tryz.dtab summ2 100000 4 [.i .i64 (.ofNat 14), .i .i64 (.ofNat 2)] empty) = some (.b true) := by kernel_rfl
theorem Tryz.r14x3 : retV (callC Tryz.ctab Tryz.dtab summ2 100000 4 [.i .i64 (.ofNat 14), .i .i64 (.ofNat 3)] empty) = some (.b true) := by kernel_rfl
theorem Tryz.r14x4 : retV (callC Tryz.ctab Tryz.dtab summ2 100000 4 [.i .i64 (.ofNat 14), .i .i64 (.ofNat 4)] empty) = some (.b true) := by kernel_rfl
theorem Tryz.r14x5 : retV (callC Tryz.ctab Tryz.dtab summ2 100000 4 [.i .i64 (.ofNat 14), .i .i64 (.ofNat 5)] empty) = some (.b true) := by kernel_rfl
theorem Tryz.r14b (k : Nat) : retV (callC Tryz.ctab Tryz.dtab summ2 100000 4 [.i .i64 (.ofNat 14), .i .i64 (.ofNat (k + 6))] empty) = some (.b true) := by kernel_rfl
theorem Tryz.r14n (k : Nat) : retV (callC Tryz.ctab Tryz.dtab summ2 100000 4 [.i .i64 (.ofNat 14), .i .i64 (.negSucc k)] empty) = some (.b true) := by kernel_rfl
theorem Tryz.r14 : ∀ y : Int, retV (callC Tryz.ctab Tryz.dtab summ2 100000 4 [.i .i64 (.ofNat 14), .i .i64 y] empty) = some (.b true)
  | .ofNat 0 => Tryz.r14x0
  | .ofNat 1 => Tryz.r14x1
  | .ofNat 2 => Tryz.r14x2
  | .ofNat 3 => Tryz.r14x3
  | .ofNat 4 => Tryz.r14x4
  | .ofNat 5 => Tryz.r14x5
  | .ofNat (k + 6) => Tryz.r14b k
  | .negSucc k => Tryz.r14n k
end Go.Proofs
