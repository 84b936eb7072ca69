/- FlowTests's call in the executor at all pairs of ints: it returns true. No condition. -/
import Derived.Test.YtkgkmoonkacglaaGreatDoorRuns0
import Derived.Test.YtkgkmoonkacglaaGreatDoorRuns1
import Derived.Test.YtkgkmoonkacglaaGreatDoorRuns2
import Derived.Test.YtkgkmoonkacglaaGreatDoorRuns3
import Derived.Test.YtkgkmoonkacglaaGreatDoorRuns4
import Derived.Test.YtkgkmoonkacglaaGreatDoorRuns5
import Derived.Test.YtkgkmoonkacglaaGreatDoorRuns6
set_option autoImplicit false
set_option linter.all false
set_option autoImplicit false
set_option maxRecDepth 1000000
set_option linter.all false
namespace Go.Proofs
open Go Go.AX
theorem Tryz.rb (k : Nat) (y : Int) : retV (callC Tryz.ctab Tryz.dtab summ2 100000 4 [.i .i64 (.ofNat (k + 21)), .i .i64 y] empty) = some (.b true) := by kernel_rfl
theorem Tryz.rn (k : Nat) (y : Int) : retV (callC Tryz.ctab Tryz.dtab summ2 100000 4 [.i .i64 (.negSucc k), .i .i64 y] empty) = some (.b true) := by kernel_rfl
theorem Tryz.runs : ∀ x y : Int, retV (callC Tryz.ctab Tryz.dtab summ2 100000 4 [.i .i64 x, .i .i64 y] empty) = some (.b true)
  | .ofNat 0, y => Tryz.r0 y
  | .ofNat 1, y => Tryz.r1 y
  | .ofNat 2, y => Tryz.r2 y
  | .ofNat 3, y => Tryz.r3 y
  | .ofNat 4, y => Tryz.r4 y
  | .ofNat 5, y => Tryz.r5 y
  | .ofNat 6, y => Tryz.r6 y
  | .ofNat 7, y => Tryz.r7 y
  | .ofNat 8, y => Tryz.r8 y
  | .ofNat 9, y => Tryz.r9 y
  | .ofNat 10, y => Tryz.r10 y
  | .ofNat 11, y => Tryz.r11 y
  | .ofNat 12, y => Tryz.r12 y
  | .ofNat 13, y => Tryz.r13 y
  | .ofNat 14, y => Tryz.r14 y
  | .ofNat 15, y => Tryz.r15 y
  | .ofNat 16, y => Tryz.r16 y
  | .ofNat 17, y => Tryz.r17 y
  | .ofNat 18, y => Tryz.r18 y
  | .ofNat 19, y => Tryz.r19 y
  | .ofNat 20, y => Tryz.r20 y
  | .ofNat (k + 21), y => Tryz.rb k y
  | .negSucc k, y => Tryz.rn k y
end Go.Proofs
