/- Two functions that stand in the program behind a defer, as the executor's code. -/
import Derived.Test.YtfkihaecobceeaaGreatDoorEng4
import Derived.Test.YtfkihaecobceeaaGreatDoorEng1
import Derived.Test.YtfkihaecobceeaaGreatDoorSlots
import Derived.Test.YtfkihaecobceeaaGreatDoorProg
import Derived.KernelRfl
set_option autoImplicit false
set_option linter.all false
set_option maxRecDepth 1000000
namespace Go.Proofs
open Go Go.AX
noncomputable section
def Tryz.ir66 : IFn := ⟨2, (.seq (.reg ⟨[⟨.recover, .none, []⟩], [(s2, (.l 0))], []⟩)
 (.seq (.reg ⟨[⟨.bin .neq .ifc (.s s2) (.c .if0), .none, []⟩], [(s7, (.l 0))], []⟩)
 (.cond (.s s7) (.seq (.reg ⟨[⟨.tassert 25 (.ag [(.i .i64 0), (.i .i64 0)]) true (.s s2), .none, []⟩,
 ⟨.extract 0 (.l 0), .none, []⟩,
 ⟨.extract 1 (.l 1), .none, []⟩,
 ⟨.alloc 25 [(.i .i64 0), (.i .i64 0)], .none, []⟩,
 ⟨.store 2 (.l 0) (.l 2), .none, []⟩], [(s4, (.l 2)), (s3, (.l 1))], []⟩)
 (.seq (.seq (.reg ⟨[⟨.un .not (.s s4), .none, []⟩], [(s14, (.l 0))], []⟩)
 (.cond (.s s14) (.reg ⟨[⟨.panic (.s s2), .none, []⟩], [], []⟩) .skip))
 (.reg ⟨[⟨.build [.sl0, (.i .i64 0)] [], .none, []⟩,
 ⟨.load true 2 (.s s3), .none, []⟩,
 ⟨.store 2 (.s s0) (.l 1), .none, [0]⟩,
 ⟨.store 2 (.s s1) (.l 1), .none, []⟩], [], []⟩))) .skip))), []⟩
theorem Tryz.irOk66 : compFn Tryz.prog Tryz.f66 = some Tryz.ir66 := by kernel_rfl
def Tryz.ir71 : IFn := ⟨2, (.seq (.reg ⟨[⟨.recover, .none, []⟩], [(s2, (.l 0))], []⟩)
 (.seq (.reg ⟨[⟨.bin .neq .ifc (.s s2) (.c .if0), .none, []⟩], [(s7, (.l 0))], []⟩)
 (.cond (.s s7) (.seq (.reg ⟨[⟨.tassert 156 (.ag [(.i .i64 0), (.i .i64 0)]) true (.s s2), .none, []⟩,
 ⟨.extract 0 (.l 0), .none, []⟩,
 ⟨.extract 1 (.l 1), .none, []⟩,
 ⟨.alloc 156 [(.i .i64 0), (.i .i64 0)], .none, []⟩,
 ⟨.store 2 (.l 0) (.l 2), .none, []⟩], [(s4, (.l 2)), (s3, (.l 1))], []⟩)
 (.seq (.seq (.reg ⟨[⟨.un .not (.s s4), .none, []⟩], [(s14, (.l 0))], []⟩)
 (.cond (.s s14) (.reg ⟨[⟨.panic (.s s2), .none, []⟩], [], []⟩) .skip))
 (.reg ⟨[⟨.fieldAddr 0 (.s s3), .none, []⟩,
 ⟨.load true 2 (.l 0), .none, []⟩,
 ⟨.store 1 (.s s0) (.c .p0), .none, [0]⟩,
 ⟨.store 2 (.s s1) (.l 1), .none, []⟩], [], []⟩))) .skip))), []⟩
theorem Tryz.irOk71 : compFn Tryz.prog Tryz.f71 = some Tryz.ir71 := by kernel_rfl
def Tryz.dtab (f : Nat) : Option IFn := (Bool.rec (motive := fun _ => Option IFn) (Bool.rec (motive := fun _ => Option IFn) none (some Tryz.ir66) (Nat.beq f 66)) (some Tryz.ir71) (Nat.beq f 71))
end
end Go.Proofs
