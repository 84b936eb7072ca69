/- FlowTests's call at three values of its first int, whatever the second one is, in the executor: it returns true. No condition. -/
import Derived.Test.YtkgkmoonkacglaaGreatDoorTab
set_option autoImplicit false
set_option linter.all false
set_option autoImplicit false
set_option maxRecDepth 1000000
set_option linter.all false
namespace Go.Proofs
open Go Go.AX
theorem Tryz.r3x0 : retV (callC Tryz.ctab Tryz.dtab summ2 100000 4 [.i .i64 (.ofNat 3), .i .i64 (.ofNat 0)] empty) = some (.b true) := by kernel_rfl
theorem Tryz.r3x1 : retV (callC Tryz.ctab Tryz.dtab summ2 100000 4 [.i .i64 (.ofNat 3), .i .i64 (.ofNat 1)] empty) = some (.b true) := by kernel_rfl
theorem Tryz.r3x2 : retV (callC Tryz.ctab Tryz.dtab summ2 100000 4 [.i .i64 (.ofNat 3), .i .i64 (.ofNat 2)] empty) = some (.b true) := by kernel_rfl
theorem Tryz.r3x3 : retV (callC Tryz.ctab Tryz.dtab summ2 100000 4 [.i .i64 (.ofNat 3), .i .i64 (.ofNat 3)] empty) = some (.b true) := by kernel_rfl
theorem Tryz.r3x4 : retV (callC Tryz.ctab Tryz.dtab summ2 100000 4 [.i .i64 (.ofNat 3), .i .i64 (.ofNat 4)] empty) = some (.b true) := by kernel_rfl
theorem Tryz.r3x5 : retV (callC Tryz.ctab Tryz.dtab summ2 100000 4 [.i .i64 (.ofNat 3), .i .i64 (.ofNat 5)] empty) = some (.b true) := by kernel_rfl
theorem Tryz.r3b (k : Nat) : retV (callC Tryz.ctab Tryz.dtab summ2 100000 4 [.i .i64 (.ofNat 3), .i .i64 (.ofNat (k + 6))] empty) = some (.b true) := by kernel_rfl
theorem Tryz.r3n (k : Nat) : retV (callC Tryz.ctab Tryz.dtab summ2 100000 4 [.i .i64 (.ofNat 3), .i .i64 (.negSucc k)] empty) = some (.b true) := by kernel_rfl
theorem Tryz.r3 : ∀ y : Int, retV (callC Tryz.ctab Tryz.dtab summ2 100000 4 [.i .i64 (.ofNat 3), .i .i64 y] empty) = some (.b true)
  | .ofNat 0 => Tryz.r3x0
  | .ofNat 1 => Tryz.r3x1
  | .ofNat 2 => Tryz.r3x2
  | .ofNat 3 => Tryz.r3x3
  | .ofNat 4 => Tryz.r3x4
  | .ofNat 5 => Tryz.r3x5
  | .ofNat (k + 6) => Tryz.r3b k
  | .negSucc k => Tryz.r3n k
theorem Tryz.r4x0 : retV (callC Tryz.ctab Tryz.dtab summ2 100000 4 [.i .i64 (.ofNat 4), .i .i64 (.ofNat 0)] empty) = some (.b true) := by kernel_rfl
theorem Tryz.r4x1 : retV (callC Tryz.ctab Tryz.dtab summ2 100000 4 [.i .i64 (.ofNat 4), .i .i64 (.ofNat 1)] empty) = some (.b true) := by kernel_rfl
theorem Tryz.r4x2 : retV (callC Tryz.ctab Tryz.dtab summ2 100000 4 [.i .i64 (.ofNat 4), .i .i64 (.ofNat 2)] empty) = some (.b true) := by kernel_rfl
theorem Tryz.r4x3 : retV (callC Tryz.ctab Tryz.dtab summ2 100000 4 [.i .i64 (.ofNat 4), .i .i64 (.ofNat 3)] empty) = some (.b true) := by kernel_rfl
theorem Tryz.r4x4 : retV (callC Tryz.ctab Tryz.dtab summ2 100000 4 [.i .i64 (.ofNat 4), .i .i64 (.ofNat 4)] empty) = some (.b true) := by kernel_rfl
theorem Tryz.r4x5 : retV (callC Tryz.ctab Tryz.dtab summ2 100000 4 [.i .i64 (.ofNat 4), .i .i64 (.ofNat 5)] empty) = some (.b true) := by kernel_rfl
theorem Tryz.r4b (k : Nat) : retV (callC Tryz.ctab Tryz.dtab summ2 100000 4 [.i .i64 (.ofNat 4), .i .i64 (.ofNat (k + 6))] empty) = some (.b true) := by kernel_rfl
theorem Tryz.r4n (k : Nat) : retV (callC Tryz.ctab Tryz.dtab summ2 100000 4 [.i .i64 (.ofNat 4), .i .i64 (.negSucc k)] empty) = some (.b true) := by kernel_rfl
theorem Tryz.r4 : ∀ y : Int, retV (callC Tryz.ctab Tryz.dtab summ2 100000 4 [.i .i64 (.ofNat 4), .i .i64 y] empty) = some (.b true)
  | .ofNat 0 => Tryz.r4x0
  | .ofNat 1 => Tryz.r4x1
  | .ofNat 2 => Tryz.r4x2
  | .ofNat 3 => Tryz.r4x3
  | .ofNat 4 => Tryz.r4x4
  | .ofNat 5 => Tryz.r4x5
  | .ofNat (k + 6) => Tryz.r4b k
  | .negSucc k => Tryz.r4n k
theorem Tryz.r5x0 : retV (callC Tryz.ctab Tryz.dtab summ2 100000 4 [.i .i64 (.ofNat 5), .i .i64 (.ofNat 0)] empty) = some (.b true) := by kernel_rfl
theorem Tryz.r5x1 : retV (callC Tryz.ctab Tryz.dtab summ2 100000 4 [.i .i64 (.ofNat 5), .i .i64 (.ofNat 1)] empty) = some (.b true) := by kernel_rfl
theorem Tryz.r5x2 : retV (callC Tryz.ctab Tryz.dtab summ2 100000 4 [.i .i64 (.ofNat 5), .i .i64 (.ofNat 2)] empty) = some (.b true) := by kernel_rfl
theorem Tryz.r5x3 : retV (callC Tryz.ctab Tryz.dtab summ2 100000 4 [.i .i64 (.ofNat 5), .i .i64 (.ofNat 3)] empty) = some (.b true) := by kernel_rfl
theorem Tryz.r5x4 : retV (callC Tryz.ctab Tryz.dtab summ2 100000 4 [.i .i64 (.ofNat 5), .i .i64 (.ofNat 4)] empty) = some (.b true) := by kernel_rfl
theorem Tryz.r5x5 : retV (callC Tryz.ctab Tryz.dtab summ2 100000 4 [.i .i64 (.ofNat 5), .i .i64 (.ofNat 5)] empty) = some (.b true) := by kernel_rfl
theorem Tryz.r5b (k : Nat) : retV (callC Tryz.ctab Tryz.dtab summ2 100000 4 [.i .i64 (.ofNat 5), .i .i64 (.ofNat (k + 6))] empty) = some (.b true) := by kernel_rfl
theorem Tryz.r5n (k : Nat) : retV (callC Tryz.ctab Tryz.dtab summ2 100000 4 [.i .i64 (.ofNat 5), .i .i64 (.negSucc k)] empty) = some (.b true) := by kernel_rfl
theorem Tryz.r5 : ∀ y : Int, retV (callC Tryz.ctab Tryz.dtab summ2 100000 4 [.i .i64 (.ofNat 5), .i .i64 y] empty) = some (.b true)
  | .ofNat 0 => Tryz.r5x0
  | .ofNat 1 => Tryz.r5x1
  | .ofNat 2 => Tryz.r5x2
  | .ofNat 3 => Tryz.r5x3
  | .ofNat 4 => Tryz.r5x4
  | .ofNat 5 => Tryz.r5x5
  | .ofNat (k + 6) => Tryz.r5b k
  | .negSucc k => Tryz.r5n k
end Go.Proofs
