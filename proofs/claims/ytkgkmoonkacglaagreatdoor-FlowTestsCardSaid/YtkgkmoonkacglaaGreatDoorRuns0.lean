/- FlowTests's call at three values of its first int, whatever the second one is, in the executor: it returns true. No condition. -/
import Derived.Test.YtkgkmoonkacglaaGreatDoorTab
set_option autoImplicit false
set_option linter.all false
set_option autoImplicit false
set_option maxRecDepth 1000000
set_option linter.all false
namespace Go.Proofs
open Go Go.AX
theorem Tryz.r0x0 : retV (callC Tryz.ctab Tryz.dtab summ2 100000 4 [.i .i64 (.ofNat 0), .i .i64 (.ofNat 0)] empty) = some (.b true) := by kernel_rfl
theorem Tryz.r0x1 : retV (callC Tryz.ctab Tryz.dtab summ2 100000 4 [.i .i64 (.ofNat 0), .i .i64 (.ofNat 1)] empty) = some (.b true) := by kernel_rfl
theorem Tryz.r0x2 : retV (callC Tryz.ctab Tryz.dtab summ2 100000 4 [.i .i64 (.ofNat 0), .i .i64 (.ofNat 2)] empty) = some (.b true) := by kernel_rfl
theorem Tryz.r0x3 : retV (callC Tryz.ctab Tryz.dtab summ2 100000 4 [.i .i64 (.ofNat 0), .i .i64 (.ofNat 3)] empty) = some (.b true) := by kernel_rfl
theorem Tryz.r0x4 : retV (callC Tryz.ctab Tryz.dtab summ2 100000 4 [.i .i64 (.ofNat 0), .i .i64 (.ofNat 4)] empty) = some (.b true) := by kernel_rfl
theorem Tryz.r0x5 : retV (callC Tryz.ctab Tryz.dtab summ2 100000 4 [.i .i64 (.ofNat 0), .i .i64 (.ofNat 5)] empty) = some (.b true) := by kernel_rfl
theorem Tryz.r0b (k : Nat) : retV (callC Tryz.ctab Tryz.dtab summ2 100000 4 [.i .i64 (.ofNat 0), .i .i64 (.ofNat (k + 6))] empty) = some (.b true) := by kernel_rfl
theorem Tryz.r0n (k : Nat) : retV (callC Tryz.ctab Tryz.dtab summ2 100000 4 [.i .i64 (.ofNat 0), .i .i64 (.negSucc k)] empty) = some (.b true) := by kernel_rfl
theorem Tryz.r0 : ∀ y : Int, retV (callC Tryz.ctab Tryz.dtab summ2 100000 4 [.i .i64 (.ofNat 0), .i .i64 y] empty) = some (.b true)
  | .ofNat 0 => Tryz.r0x0
  | .ofNat 1 => Tryz.r0x1
  | .ofNat 2 => Tryz.r0x2
  | .ofNat 3 => Tryz.r0x3
  | .ofNat 4 => Tryz.r0x4
  | .ofNat 5 => Tryz.r0x5
  | .ofNat (k + 6) => Tryz.r0b k
  | .negSucc k => Tryz.r0n k
theorem Tryz.r1x0 : retV (callC Tryz.ctab Tryz.dtab summ2 100000 4 [.i .i64 (.ofNat 1), .i .i64 (.ofNat 0)] empty) = some (.b true) := by kernel_rfl
theorem Tryz.r1x1 : retV (callC Tryz.ctab Tryz.dtab summ2 100000 4 [.i .i64 (.ofNat 1), .i .i64 (.ofNat 1)] empty) = some (.b true) := by kernel_rfl
theorem Tryz.r1x2 : retV (callC Tryz.ctab Tryz.dtab summ2 100000 4 [.i .i64 (.ofNat 1), .i .i64 (.ofNat 2)] empty) = some (.b true) := by kernel_rfl
theorem Tryz.r1x3 : retV (callC Tryz.ctab Tryz.dtab summ2 100000 4 [.i .i64 (.ofNat 1), .i .i64 (.ofNat 3)] empty) = some (.b true) := by kernel_rfl
theorem Tryz.r1x4 : retV (callC Tryz.ctab Tryz.dtab summ2 100000 4 [.i .i64 (.ofNat 1), .i .i64 (.ofNat 4)] empty) = some (.b true) := by kernel_rfl
theorem Tryz.r1x5 : retV (callC Tryz.ctab Tryz.dtab summ2 100000 4 [.i .i64 (.ofNat 1), .i .i64 (.ofNat 5)] empty) = some (.b true) := by kernel_rfl
theorem Tryz.r1b (k : Nat) : retV (callC Tryz.ctab Tryz.dtab summ2 100000 4 [.i .i64 (.ofNat 1), .i .i64 (.ofNat (k + 6))] empty) = some (.b true) := by kernel_rfl
theorem Tryz.r1n (k : Nat) : retV (callC Tryz.ctab Tryz.dtab summ2 100000 4 [.i .i64 (.ofNat 1), .i .i64 (.negSucc k)] empty) = some (.b true) := by kernel_rfl
theorem Tryz.r1 : ∀ y : Int, retV (callC Tryz.ctab Tryz.dtab summ2 100000 4 [.i .i64 (.ofNat 1), .i .i64 y] empty) = some (.b true)
  | .ofNat 0 => Tryz.r1x0
  | .ofNat 1 => Tryz.r1x1
  | .ofNat 2 => Tryz.r1x2
  | .ofNat 3 => Tryz.r1x3
  | .ofNat 4 => Tryz.r1x4
  | .ofNat 5 => Tryz.r1x5
  | .ofNat (k + 6) => Tryz.r1b k
  | .negSucc k => Tryz.r1n k
theorem Tryz.r2x0 : retV (callC Tryz.ctab Tryz.dtab summ2 100000 4 [.i .i64 (.ofNat 2), .i .i64 (.ofNat 0)] empty) = some (.b true) := by kernel_rfl
theorem Tryz.r2x1 : retV (callC Tryz.ctab Tryz.dtab summ2 100000 4 [.i .i64 (.ofNat 2), .i .i64 (.ofNat 1)] empty) = some (.b true) := by kernel_rfl
theorem Tryz.r2x2 : retV (callC Tryz.ctab Tryz.dtab summ2 100000 4 [.i .i64 (.ofNat 2), .i .i64 (.ofNat 2)] empty) = some (.b true) := by kernel_rfl
theorem Tryz.r2x3 : retV (callC Tryz.ctab Tryz.dtab summ2 100000 4 [.i .i64 (.ofNat 2), .i .i64 (.ofNat 3)] empty) = some (.b true) := by kernel_rfl
theorem Tryz.r2x4 : retV (callC Tryz.ctab Tryz.dtab summ2 100000 4 [.i .i64 (.ofNat 2), .i .i64 (.ofNat 4)] empty) = some (.b true) := by kernel_rfl
theorem Tryz.r2x5 : retV (callC Tryz.ctab Tryz.dtab summ2 100000 4 [.i .i64 (.ofNat 2), .i .i64 (.ofNat 5)] empty) = some (.b true) := by kernel_rfl
theorem Tryz.r2b (k : Nat) : retV (callC Tryz.ctab Tryz.dtab summ2 100000 4 [.i .i64 (.ofNat 2), .i .i64 (.ofNat (k + 6))] empty) = some (.b true) := by kernel_rfl
theorem Tryz.r2n (k : Nat) : retV (callC Tryz.ctab Tryz.dtab summ2 100000 4 [.i .i64 (.ofNat 2), .i .i64 (.negSucc k)] empty) = some (.b true) := by kernel_rfl
theorem Tryz.r2 : ∀ y : Int, retV (callC Tryz.ctab Tryz.dtab summ2 100000 4 [.i .i64 (.ofNat 2), .i .i64 y] empty) = some (.b true)
  | .ofNat 0 => Tryz.r2x0
  | .ofNat 1 => Tryz.r2x1
  | .ofNat 2 => Tryz.r2x2
  | .ofNat 3 => Tryz.r2x3
  | .ofNat 4 => Tryz.r2x4
  | .ofNat 5 => Tryz.r2x5
  | .ofNat (k + 6) => Tryz.r2b k
  | .negSucc k => Tryz.r2n k
end Go.Proofs
