/- FlowTests's call at three values of its first int, whatever the second one is, in the executor: it returns true. No condition. -/
import Derived.Test.YtkgkmoonkacglaaGreatDoorTab
set_option autoImplicit false
set_option linter.all false
set_option autoImplicit false
set_option maxRecDepth 1000000
set_option linter.all false
namespace Go.Proofs
open Go Go.AX
theorem Tryz.r15x0 : retV (callC Tryz.ctab Tryz.dtab summ2 100000 4 [.i .i64 (.ofNat 15), .i .i64 (.ofNat 0)] empty) = some (.b true) := by kernel_rfl
theorem Tryz.r15x1 : retV (callC Tryz.ctab Tryz.dtab summ2 100000 4 [.i .i64 (.ofNat 15), .i .i64 (.ofNat 1)] empty) = some (.b true) := by kernel_rfl
theorem Tryz.r15x2 : retV (callC Tryz.ctab Tryz.dtab summ2 100000 4 [.i .i64 (.ofNat 15), .i .i64 (.ofNat 2)] empty) = some (.b true) := by kernel_rfl
theorem Tryz.r15x3 : retV (callC Tryz.ctab Tryz.dtab summ2 100000 4 [.i .i64 (.ofNat 15), .i .i64 (.ofNat 3)] empty) = some (.b true) := by kernel_rfl
theorem Tryz.r15x4 : retV (callC Tryz.ctab Tryz.dtab summ2 100000 4 [.i .i64 (.ofNat 15), .i .i64 (.ofNat 4)] empty) = some (.b true) := by kernel_rfl
theorem Tryz.r15x5 : retV (callC Tryz.ctab Tryz.dtab summ2 100000 4 [.i .i64 (.ofNat 15), .i .i64 (.ofNat 5)] empty) = some (.b true) := by kernel_rfl
theorem Tryz.r15b (k : Nat) : retV (callC Tryz.ctab Tryz.dtab summ2 100000 4 [.i .i64 (.ofNat 15), .i .i64 (.ofNat (k + 6))] empty) = some (.b true) := by kernel_rfl
theorem Tryz.r15n (k : Nat) : retV (callC Tryz.ctab Tryz.dtab summ2 100000 4 [.i .i64 (.ofNat 15), .i .i64 (.negSucc k)] empty) = some (.b true) := by kernel_rfl
theorem Tryz.r15 : ∀ y : Int, retV (callC Tryz.ctab Tryz.dtab summ2 100000 4 [.i .i64 (.ofNat 15), .i .i64 y] empty) = some (.b true)
  | .ofNat 0 => Tryz.r15x0
  | .ofNat 1 => Tryz.r15x1
  | .ofNat 2 => Tryz.r15x2
  | .ofNat 3 => Tryz.r15x3
  | .ofNat 4 => Tryz.r15x4
  | .ofNat 5 => Tryz.r15x5
  | .ofNat (k + 6) => Tryz.r15b k
  | .negSucc k => Tryz.r15n k
theorem Tryz.r16x0 : retV (callC Tryz.ctab Tryz.dtab summ2 100000 4 [.i .i64 (.ofNat 16), .i .i64 (.ofNat 0)] empty) = some (.b true) := by kernel_rfl
theorem Tryz.r16x1 : retV (callC Tryz.ctab Tryz.dtab summ2 100000 4 [.i .i64 (.ofNat 16), .i .i64 (.ofNat 1)] empty) = some (.b true) := by kernel_rfl
theorem Tryz.r16x2 : retV (callC Tryz.ctab Tryz.dtab summ2 100000 4 [.i .i64 (.ofNat 16), .i .i64 (.ofNat 2)] empty) = some (.b true) := by kernel_rfl
theorem Tryz.r16x3 : retV (callC Tryz.ctab Tryz.dtab summ2 100000 4 [.i .i64 (.ofNat 16), .i .i64 (.ofNat 3)] empty) = some (.b true) := by kernel_rfl
theorem Tryz.r16x4 : retV (callC Tryz.ctab Tryz.dtab summ2 100000 4 [.i .i64 (.ofNat 16), .i .i64 (.ofNat 4)] empty) = some (.b true) := by kernel_rfl
theorem Tryz.r16x5 : retV (callC Tryz.ctab Tryz.dtab summ2 100000 4 [.i .i64 (.ofNat 16), .i .i64 (.ofNat 5)] empty) = some (.b true) := by kernel_rfl
theorem Tryz.r16b (k : Nat) : retV (callC Tryz.ctab Tryz.dtab summ2 100000 4 [.i .i64 (.ofNat 16), .i .i64 (.ofNat (k + 6))] empty) = some (.b true) := by kernel_rfl
theorem Tryz.r16n (k : Nat) : retV (callC Tryz.ctab Tryz.dtab summ2 100000 4 [.i .i64 (.ofNat 16), .i .i64 (.negSucc k)] empty) = some (.b true) := by kernel_rfl
theorem Tryz.r16 : ∀ y : Int, retV (callC Tryz.ctab Tryz.dtab summ2 100000 4 [.i .i64 (.ofNat 16), .i .i64 y] empty) = some (.b true)
  | .ofNat 0 => Tryz.r16x0
  | .ofNat 1 => Tryz.r16x1
  | .ofNat 2 => Tryz.r16x2
  | .ofNat 3 => Tryz.r16x3
  | .ofNat 4 => Tryz.r16x4
  | .ofNat 5 => Tryz.r16x5
  | .ofNat (k + 6) => Tryz.r16b k
  | .negSucc k => Tryz.r16n k
theorem Tryz.r17x0 : retV (callC Tryz.ctab Tryz.dtab summ2 100000 4 [.i .i64 (.ofNat 17), .i .i64 (.ofNat 0)] empty) = some (.b true) := by kernel_rfl
theorem Tryz.r17x1 : retV (callC Tryz.ctab Tryz.dtab summ2 100000 4 [.i .i64 (.ofNat 17), .i .i64 (.ofNat 1)] empty) = some (.b true) := by kernel_rfl
theorem Tryz.r17x2 : retV (callC Tryz.ctab Tryz.dtab summ2 100000 4 [.i .i64 (.ofNat 17), .i .i64 (.ofNat 2)] empty) = some (.b true) := by kernel_rfl
theorem Tryz.r17x3 : retV (callC Tryz.ctab Tryz.dtab summ2 100000 4 [.i .i64 (.ofNat 17), .i .i64 (.ofNat 3)] empty) = some (.b true) := by kernel_rfl
theorem Tryz.r17x4 : retV (callC Tryz.ctab Tryz.dtab summ2 100000 4 [.i .i64 (.ofNat 17), .i .i64 (.ofNat 4)] empty) = some (.b true) := by kernel_rfl
theorem Tryz.r17x5 : retV (callC Tryz.ctab Tryz.dtab summ2 100000 4 [.i .i64 (.ofNat 17), .i .i64 (.ofNat 5)] empty) = some (.b true) := by kernel_rfl
theorem Tryz.r17b (k : Nat) : retV (callC Tryz.ctab Tryz.dtab summ2 100000 4 [.i .i64 (.ofNat 17), .i .i64 (.ofNat (k + 6))] empty) = some (.b true) := by kernel_rfl
theorem Tryz.r17n (k : Nat) : retV (callC Tryz.ctab Tryz.dtab summ2 100000 4 [.i .i64 (.ofNat 17), .i .i64 (.negSucc k)] empty) = some (.b true) := by kernel_rfl
theorem Tryz.r17 : ∀ y : Int, retV (callC Tryz.ctab Tryz.dtab summ2 100000 4 [.i .i64 (.ofNat 17), .i .i64 y] empty) = some (.b true)
  | .ofNat 0 => Tryz.r17x0
  | .ofNat 1 => Tryz.r17x1
  | .ofNat 2 => Tryz.r17x2
  | .ofNat 3 => Tryz.r17x3
  | .ofNat 4 => Tryz.r17x4
  | .ofNat 5 => Tryz.r17x5
  | .ofNat (k + 6) => Tryz.r17b k
  | .negSucc k => Tryz.r17n k
end Go.Proofs
