/- FlowTests's call at three values of its first int, whatever the second one is, in the executor: it returns true. No condition. -/
import Derived.Test.YtkgkmoonkacglaaGreatDoorTab
set_option autoImplicit false
set_option linter.all false
set_option autoImplicit false
set_option maxRecDepth 1000000
set_option linter.all false
namespace Go.Proofs
open Go Go.AX
theorem Tryz.r9x0 : retV (callC Tryz.ctab Tryz.dtab summ2 100000 4 [.i .i64 (.ofNat 9), .i .i64 (.ofNat 0)] empty) = some (.b true) := by kernel_rfl
theorem Tryz.r9x1 : retV (callC Tryz.ctab Tryz.dtab summ2 100000 4 [.i .i64 (.ofNat 9), .i .i64 (.ofNat 1)] empty) = some (.b true) := by kernel_rfl
theorem Tryz.r9x2 : retV (callC Tryz.ctab Tryz.dtab summ2 100000 4 [.i .i64 (.ofNat 9), .i .i64 (.ofNat 2)] empty) = some (.b true) := by kernel_rfl
theorem Tryz.r9x3 : retV (callC Tryz.ctab Tryz.dtab summ2 100000 4 [.i .i64 (.ofNat 9), .i .i64 (.ofNat 3)] empty) = some (.b true) := by kernel_rfl
theorem Tryz.r9x4 : retV (callC Tryz.ctab Tryz.dtab summ2 100000 4 [.i .i64 (.ofNat 9), .i .i64 (.ofNat 4)] empty) = some (.b true) := by kernel_rfl
theorem Tryz.r9x5 : retV (callC Tryz.ctab Tryz.dtab summ2 100000 4 [.i .i64 (.ofNat 9), .i .i64 (.ofNat 5)] empty) = some (.b true) := by kernel_rfl
theorem Tryz.r9b (k : Nat) : retV (callC Tryz.ctab Tryz.dtab summ2 100000 4 [.i .i64 (.ofNat 9), .i .i64 (.ofNat (k + 6))] empty) = some (.b true) := by kernel_rfl
theorem Tryz.r9n (k : Nat) : retV (callC Tryz.ctab Tryz.dtab summ2 100000 4 [.i .i64 (.ofNat 9), .i .i64 (.negSucc k)] empty) = some (.b true) := by kernel_rfl
theorem Tryz.r9 : ∀ y : Int, retV (callC Tryz.ctab Tryz.dtab summ2 100000 4 [.i .i64 (.ofNat 9), .i .i64 y] empty) = some (.b true)
  | .ofNat 0 => Tryz.r9x0
  | .ofNat 1 => Tryz.r9x1
  | .ofNat 2 => Tryz.r9x2
  | .ofNat 3 => Tryz.r9x3
  | .ofNat 4 => Tryz.r9x4
  | .ofNat 5 => Tryz.r9x5
  | .ofNat (k + 6) => Tryz.r9b k
  | .negSucc k => Tryz.r9n k
theorem Tryz.r10x0 : retV (callC Tryz.ctab Tryz.dtab summ2 100000 4 [.i .i64 (.ofNat 10), .i .i64 (.ofNat 0)] empty) = some (.b true) := by kernel_rfl
theorem Tryz.r10x1 : retV (callC Tryz.ctab Tryz.dtab summ2 100000 4 [.i .i64 (.ofNat 10), .i .i64 (.ofNat 1)] empty) = some (.b true) := by kernel_rfl
theorem Tryz.r10x2 : retV (callC Tryz.ctab Tryz.dtab summ2 100000 4 [.i .i64 (.ofNat 10), .i .i64 (.ofNat 2)] empty) = some (.b true) := by kernel_rfl
theorem Tryz.r10x3 : retV (callC Tryz.ctab Tryz.dtab summ2 100000 4 [.i .i64 (.ofNat 10), .i .i64 (.ofNat 3)] empty) = some (.b true) := by kernel_rfl
theorem Tryz.r10x4 : retV (callC Tryz.ctab Tryz.dtab summ2 100000 4 [.i .i64 (.ofNat 10), .i .i64 (.ofNat 4)] empty) = some (.b true) := by kernel_rfl
theorem Tryz.r10x5 : retV (callC Tryz.ctab Tryz.dtab summ2 100000 4 [.i .i64 (.ofNat 10), .i .i64 (.ofNat 5)] empty) = some (.b true) := by kernel_rfl
theorem Tryz.r10b (k : Nat) : retV (callC Tryz.ctab Tryz.dtab summ2 100000 4 [.i .i64 (.ofNat 10), .i .i64 (.ofNat (k + 6))] empty) = some (.b true) := by kernel_rfl
theorem Tryz.r10n (k : Nat) : retV (callC Tryz.ctab Tryz.dtab summ2 100000 4 [.i .i64 (.ofNat 10), .i .i64 (.negSucc k)] empty) = some (.b true) := by kernel_rfl
theorem Tryz.r10 : ∀ y : Int, retV (callC Tryz.ctab Tryz.dtab summ2 100000 4 [.i .i64 (.ofNat 10), .i .i64 y] empty) = some (.b true)
  | .ofNat 0 => Tryz.r10x0
  | .ofNat 1 => Tryz.r10x1
  | .ofNat 2 => Tryz.r10x2
  | .ofNat 3 => Tryz.r10x3
  | .ofNat 4 => Tryz.r10x4
  | .ofNat 5 => Tryz.r10x5
  | .ofNat (k + 6) => Tryz.r10b k
  | .negSucc k => Tryz.r10n k
theorem Tryz.r11x0 : retV (callC Tryz.ctab Tryz.dtab summ2 100000 4 [.i .i64 (.ofNat 11), .i .i64 (.ofNat 0)] empty) = some (.b true) := by kernel_rfl
theorem Tryz.r11x1 : retV (callC Tryz.ctab Tryz.dtab summ2 100000 4 [.i .i64 (.ofNat 11), .i .i64 (.ofNat 1)] empty) = some (.b true) := by kernel_rfl
theorem Tryz.r11x2 : retV (callC Tryz.ctab Tryz.dtab summ2 100000 4 [.i .i64 (.ofNat 11), .i .i64 (.ofNat 2)] empty) = some (.b true) := by kernel_rfl
theorem Tryz.r11x3 : retV (callC Tryz.ctab Tryz.dtab summ2 100000 4 [.i .i64 (.ofNat 11), .i .i64 (.ofNat 3)] empty) = some (.b true) := by kernel_rfl
theorem Tryz.r11x4 : retV (callC Tryz.ctab Tryz.dtab summ2 100000 4 [.i .i64 (.ofNat 11), .i .i64 (.ofNat 4)] empty) = some (.b true) := by kernel_rfl
theorem Tryz.r11x5 : retV (callC Tryz.ctab Tryz.dtab summ2 100000 4 [.i .i64 (.ofNat 11), .i .i64 (.ofNat 5)] empty) = some (.b true) := by kernel_rfl
theorem Tryz.r11b (k : Nat) : retV (callC Tryz.ctab Tryz.dtab summ2 100000 4 [.i .i64 (.ofNat 11), .i .i64 (.ofNat (k + 6))] empty) = some (.b true) := by kernel_rfl
theorem Tryz.r11n (k : Nat) : retV (callC Tryz.ctab Tryz.dtab summ2 100000 4 [.i .i64 (.ofNat 11), .i .i64 (.negSucc k)] empty) = some (.b true) := by kernel_rfl
theorem Tryz.r11 : ∀ y : Int, retV (callC Tryz.ctab Tryz.dtab summ2 100000 4 [.i .i64 (.ofNat 11), .i .i64 y] empty) = some (.b true)
  | .ofNat 0 => Tryz.r11x0
  | .ofNat 1 => Tryz.r11x1
  | .ofNat 2 => Tryz.r11x2
  | .ofNat 3 => Tryz.r11x3
  | .ofNat 4 => Tryz.r11x4
  | .ofNat 5 => Tryz.r11x5
  | .ofNat (k + 6) => Tryz.r11b k
  | .negSucc k => Tryz.r11n k
end Go.Proofs
