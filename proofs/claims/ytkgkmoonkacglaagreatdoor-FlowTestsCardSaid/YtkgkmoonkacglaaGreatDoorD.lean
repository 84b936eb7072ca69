/- Two functions that stand in the program behind a defer, as the executor's code. -/
import Derived.Test.YtkgkmoonkacglaaGreatDoorEng4
import Derived.Test.YtkgkmoonkacglaaGreatDoorEng1
import Derived.Test.YtkgkmoonkacglaaGreatDoorSlots
import Derived.Test.YtkgkmoonkacglaaGreatDoorProg
import Derived.KernelRfl
set_option autoImplicit false
set_option linter.all false
set_option autoImplicit false
set_option maxRecDepth 1000000
set_option linter.all false
namespace Go.Proofs
open Go Go.AX
noncomputable section
def Tryz.ir37 : IFn := ⟨2, (.seq (.reg ⟨[⟨.recover, .none, []⟩], [(s2, (.l 0))], []⟩)
 (.seq (.reg ⟨[⟨.bin .neq .ifc (.s s2) (.c .if0), .none, []⟩], [(s7, (.l 0))], []⟩)
 (.cond (.s s7) (.seq (.reg ⟨[⟨.tassert 92 (.ag [(.i .i64 0), (.i .i64 0)]) true (.s s2), .none, []⟩,
 ⟨.extract 0 (.l 0), .none, []⟩,
 ⟨.extract 1 (.l 1), .none, []⟩,
 ⟨.alloc [(.i .i64 0), (.i .i64 0)], .none, []⟩,
 ⟨.store 2 (.l 0) (.l 2), .none, []⟩], [(s4, (.l 2)), (s3, (.l 1))], []⟩)
 (.seq (.seq (.reg ⟨[⟨.un .not (.s s4), .none, []⟩], [(s14, (.l 0))], []⟩)
 (.cond (.s s14) (.reg ⟨[⟨.panic (.s s2), .none, []⟩], [], []⟩) .skip))
 (.reg ⟨[⟨.fieldAddr 0 (.s s3), .none, []⟩,
 ⟨.load true 2 (.l 0), .none, []⟩,
 ⟨.store 1 (.s s0) (.c .p0), .none, [0]⟩,
 ⟨.store 2 (.s s1) (.l 1), .none, []⟩], [], []⟩))) .skip))), []⟩
theorem Tryz.irOk37 : compFn Tryz.prog Tryz.f37 = some Tryz.ir37 := by kernel_rfl
def Tryz.ir47 : IFn := ⟨2, (.seq (.reg ⟨[⟨.recover, .none, []⟩], [(s2, (.l 0))], []⟩)
 (.seq (.reg ⟨[⟨.bin .neq .ifc (.s s2) (.c .if0), .none, []⟩], [(s7, (.l 0))], []⟩)
 (.cond (.s s7) (.seq (.reg ⟨[⟨.tassert 55 (.ag [(.i .i64 0), (.i .i64 0)]) true (.s s2), .none, []⟩,
 ⟨.extract 0 (.l 0), .none, []⟩,
 ⟨.extract 1 (.l 1), .none, []⟩,
 ⟨.alloc [(.i .i64 0), (.i .i64 0)], .none, []⟩,
 ⟨.store 2 (.l 0) (.l 2), .none, []⟩], [(s4, (.l 2)), (s3, (.l 1))], []⟩)
 (.seq (.seq (.reg ⟨[⟨.un .not (.s s4), .none, []⟩], [(s14, (.l 0))], []⟩)
 (.cond (.s s14) (.reg ⟨[⟨.panic (.s s2), .none, []⟩], [], []⟩) .skip))
 (.reg ⟨[⟨.build [.sl0, (.i .i64 0)] [], .none, []⟩,
 ⟨.load true 2 (.s s3), .none, []⟩,
 ⟨.store 2 (.s s0) (.l 1), .none, [0]⟩,
 ⟨.store 2 (.s s1) (.l 1), .none, []⟩], [], []⟩))) .skip))), []⟩
theorem Tryz.irOk47 : compFn Tryz.prog Tryz.f47 = some Tryz.ir47 := by kernel_rfl
def Tryz.dtab (f : Nat) : Option IFn := (Bool.rec (motive := fun _ => Option IFn) (Bool.rec (motive := fun _ => Option IFn) none (some Tryz.ir37) (Nat.beq f 37)) (some Tryz.ir47) (Nat.beq f 47))
end
end Go.Proofs
