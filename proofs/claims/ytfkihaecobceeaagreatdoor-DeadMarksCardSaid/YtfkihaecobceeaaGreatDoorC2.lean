/- A part of the program's functions, printed as the executor's code, and that they are the program's. -/
import Derived.Test.YtfkihaecobceeaaGreatDoorEng4
import Derived.Test.YtfkihaecobceeaaGreatDoorEng1
import Derived.Test.YtfkihaecobceeaaGreatDoorSlots
import Derived.Test.YtfkihaecobceeaaGreatDoorProg
import Derived.KernelRfl
set_option autoImplicit false
set_option linter.all false
set_option maxRecDepth 1000000
namespace Go.Proofs
open Go Go.AX
noncomputable section
def Tryz.c8 : FnK := fun rec recD args H => startK 1 args fun e =>
 seqK (fun K0 =>
 caK rec 24 [(Env.get s0 e)] H fun v0 H0 =>
 blockK 0 (fun K1 =>
 loopK (fun k0 e0 H1 K2 =>
 binK .lss .no (Env.get s9 e0) (Env.get s8 e0) fun v1 =>
 seqK (fun K3 =>
 condK v1 (K3 .norm (Env.put s10 v1 e0) H1 k0)
 (K3 (.exit 0) (Env.put s10 v1 e0) H1 k0)) (fun k1 e1 H2 =>
 seqK (fun K4 =>
 blockK 1 (fun K5 =>
 caK rec 25 [(Env.get s0 e1), (Env.get s9 e1)] H2 fun v2 H3 =>
 seqK (fun K6 =>
 binK .lss .no v2 (.i .i64 0) fun v3 =>
 gdK v3 false (fun R0 => R0 (Env.get s0 e1) H3 k1) H3 k1 fun v4 H4 k2 =>
 gdK v3 false (fun R1 => R1 v2 H4 k2) H4 k2 fun v5 H5 k3 =>
 gdK v3 false (fun R2 => caK rec 26 [v4, v5] H5 fun v6 H6 =>
 R2 v6 H6 k3) H5 k3 fun v6 H6 k4 =>
 gdK v3 false (fun R3 => binK .lss .no v6 (.i .i64 0) fun v7 =>
 R3 v7 H6 k4) H6 k4 fun v7 H7 k5 =>
 pkK v3 (.b true) v7 fun v8 =>
 condK v8 (K6 (.exit 1) (Env.put s22 v8 (Env.put s5 v2 (Env.put s4 (Env.get s9 e1) e1))) H7 k5)
 (K6 .norm (Env.put s22 v8 (Env.put s5 v2 (Env.put s4 (Env.get s9 e1) e1))) H7 k5)) (fun k6 e2 H8 =>
 newK 82 [(.s []), (.i .i64 0), (.s []), (.i .i64 0), (.s []), (.i .i64 0), (.b false)] H8 fun v3 H9 =>
 caK rec 27 [(Env.get s0 e2)] H9 fun v4 H4 =>
 caK rec 26 [(Env.get s0 e2), (Env.get s5 e2)] H4 fun v5 H5 =>
 iaK .none 8 v4 v5 fun v6 =>
 faK 7 v6 fun v7 =>
 ldK false 1 v7 H5 fun v8 =>
 caK rec 28 [v8] H5 fun v9 H10 =>
 caK rec 29 [(Env.get s0 e2), (Env.get s5 e2)] H10 fun v10 H11 =>
 iaK .none 7 v9 v10 fun v11 =>
 ldK true 7 v11 H11 fun v12 =>
 stK 7 v12 v3 H11 fun H12 =>
 faK 1 v3 fun v13 =>
 ldK true 4 v13 H12 fun v14 =>
 caK rec 30 [v14] H12 fun v15 H13 =>
 gdK v15 true (fun R4 => faK 1 v3 fun v16 =>
 R4 v16 H13 k6) H13 k6 fun v16 H14 k7 =>
 gdK v15 true (fun R5 => ldK true 4 v16 H14 fun v17 =>
 R5 v17 H14 k7) H14 k7 fun v17 H15 k8 =>
 gdK v15 true (fun R6 => caK rec 31 [v17] H15 fun v18 H16 =>
 R6 v18 H16 k8) H15 k8 fun v18 H16 k9 =>
 gdK v15 true (fun R7 => binK .eql .no v18 (.i .u8 32) fun v19 =>
 R7 v19 H16 k9) H16 k9 fun v19 H17 k10 =>
 pkK v15 v19 (.b false) fun v20 =>
 condK v20 (caK rec 23 [(Env.get s0 e2), (Env.get s4 e2)] H17 fun v21 H18 =>
 fdK false 4 1 v21 fun v22 =>
 binK .eql .no v22 (.s [33, 61]) fun v23 =>
 bdK [(.i .i64 0), (.b false)] [(0, 1, (Env.get s4 e2)), (1, 1, v23)] fun v24 =>
 genK roundT rec (.buildSlice 38 1 2 [(.i .i64 0), (.b false)] [(0, (.l 0))]) k10 (Env.put s45 v20 (Env.put s6 v3 e2)) [v24, v23, v22, v21] H18 fun v25 H19 k11 =>
 apK 38 2 [(.i .i64 0), (.b false)] H19 (Env.get s3 e2) v25 fun v26 H20 =>
 K5 .norm (Env.put s3 v26 (Env.put s45 v20 (Env.put s6 v3 e2))) H20 k11)
 (K5 .norm (Env.put s45 v20 (Env.put s6 v3 e2)) H17 k10)) K5) K4) (fun k12 e3 H21 =>
 binK .add .no (Env.get s9 e3) (.i .i64 1) fun v27 =>
 K2 .norm (Env.put s9 v27 e3) H21 k12) K2) K2) rounds K1 (Ctl.mk [] .none) (Env.put s8 v0 (Env.put s9 (.i .i64 0) (Env.put s3 .sl0 (Env.put s2 .sl0 e)))) H0) K0) (fun k13 e4 H22 =>
 (endK recD [.slot s2]) .ret (Env.put s2 (Env.get s3 e4) e4) H22 k13) (endK recD [.slot s2])
theorem Tryz.cOk8 : (compFn Tryz.prog Tryz.f8).map (bodyK 8) = some Tryz.c8 := by kernel_rfl
def Tryz.c11 : FnK := fun rec recD args H => startK 1 args fun e =>
 seqK (fun K0 =>
 lnK .sl H (Env.get s0 e) fun v0 =>
 binK .sub .no v0 (.i .i64 1) fun v1 =>
 blockK 0 (fun K1 =>
 loopK (fun k0 e0 H0 K2 =>
 seqK (fun K3 =>
 binK .geq .no (Env.get s4 e0) (.i .i64 0) fun v2 =>
 condK v2 (K3 .norm (Env.put s9 v2 e0) H0 k0)
 (K3 (.exit 0) (Env.put s9 v2 e0) H0 k0)) (fun k1 e1 H1 =>
 seqK (fun K4 =>
 blockK 1 (fun K5 =>
 iaK .none 6 (Env.get s0 e1) (Env.get s4 e1) fun v3 =>
 ldK true 6 v3 H1 fun v4 =>
 genK roundT rec (.buildSlice 49 1 6 [(.i .i64 0), (.i .i64 0), (.s []), (.i .i64 0), (.i .i64 0), (.i .i64 0)] [(0, (.l 0))]) k1 e1 [v4, v3] H1 fun v5 H2 k2 =>
 apK 49 6 [(.i .i64 0), (.i .i64 0), (.s []), (.i .i64 0), (.i .i64 0), (.i .i64 0)] H2 (Env.get s3 e1) v5 fun v6 H3 =>
 K5 .norm (Env.put s3 v6 e1) H3 k2) K4) (fun k3 e2 H4 =>
 binK .sub .no (Env.get s4 e2) (.i .i64 1) fun v2 =>
 K2 .norm (Env.put s4 v2 e2) H4 k3) K2) K2) rounds K1 (Ctl.mk [] .none) (Env.put s4 v1 (Env.put s3 .sl0 (Env.put s2 .sl0 e))) H) K0) (fun k4 e3 H5 =>
 (endK recD [.slot s2]) .ret (Env.put s2 (Env.get s3 e3) e3) H5 k4) (endK recD [.slot s2])
theorem Tryz.cOk11 : (compFn Tryz.prog Tryz.f11).map (bodyK 11) = some Tryz.c11 := by kernel_rfl
def Tryz.c21 : FnK := fun rec recD args H => startK 1 args fun e =>
 genK roundT rec (.nilCheck (.s s0)) (Ctl.mk [] .none) (Env.put s2 .sl0 e) [] H fun v0 H0 k0 =>
 faK 0 v0 fun v1 =>
 ldK false 1 v1 H0 fun v2 =>
 caK rec 49 [v2] H0 fun v3 H1 =>
 (endK recD [.slot s2]) .ret (Env.put s2 v3 (Env.put s2 .sl0 e)) H1 k0
theorem Tryz.cOk21 : (compFn Tryz.prog Tryz.f21).map (bodyK 21) = some Tryz.c21 := by kernel_rfl
def Tryz.c34 : FnK := fun rec recD args H => startK 1 args fun e =>
 seqK (fun K0 =>
 lnK .sl H (Env.get s0 e) fun v0 =>
 blockK 0 (fun K1 =>
 loopK (fun k0 e0 H0 K2 =>
 binK .lss .no (Env.get s8 e0) (Env.get s7 e0) fun v1 =>
 seqK (fun K3 =>
 condK v1 (K3 .norm (Env.put s9 v1 e0) H0 k0)
 (K3 (.exit 0) (Env.put s9 v1 e0) H0 k0)) (fun k1 e1 H1 =>
 seqK (fun K4 =>
 blockK 1 (fun K5 =>
 iaK .none 6 (Env.get s6 e1) (Env.get s8 e1) fun v2 =>
 ldK true 6 v2 H1 fun v3 =>
 newK 49 [(.i .i64 0), (.i .i64 0), (.s []), (.i .i64 0), (.i .i64 0), (.i .i64 0)] H1 fun v4 H2 =>
 stK 6 v3 v4 H2 fun H3 =>
 faK 0 v4 fun v5 =>
 ldK true 3 v5 H3 fun v6 =>
 genK roundT rec (.buildSlice 45 1 3 [(.i .i64 0), (.i .i64 0), (.s [])] [(0, (.l 0))]) k1 (Env.put s5 v4 e1) [v6, v5] H3 fun v7 H4 k2 =>
 apK 45 3 [(.i .i64 0), (.i .i64 0), (.s [])] H4 (Env.get s3 e1) v7 fun v8 H5 =>
 K5 .norm (Env.put s3 v8 (Env.put s5 v4 e1)) H5 k2) K4) (fun k3 e2 H6 =>
 binK .add .no (Env.get s8 e2) (.i .i64 1) fun v9 =>
 K2 .norm (Env.put s8 v9 e2) H6 k3) K2) K2) rounds K1 (Ctl.mk [] .none) (Env.put s6 (Env.get s0 e) (Env.put s7 v0 (Env.put s8 (.i .i64 0) (Env.put s3 .sl0 (Env.put s2 .sl0 e))))) H) K0) (fun k4 e3 H7 =>
 (endK recD [.slot s2]) .ret (Env.put s2 (Env.get s3 e3) e3) H7 k4) (endK recD [.slot s2])
theorem Tryz.cOk34 : (compFn Tryz.prog Tryz.f34).map (bodyK 34) = some Tryz.c34 := by kernel_rfl
def Tryz.c49 : FnK := fun rec recD args H => startK 1 args fun e =>
 seqK (fun K0 =>
 binK .eql .sl (Env.get s0 e) .sl0 fun v0 =>
 condK v0 (K0 .ret (Env.put s2 .sl0 (Env.put s4 v0 (Env.put s2 .sl0 e))) H (Ctl.mk [] .none))
 (K0 .norm (Env.put s4 v0 (Env.put s2 .sl0 e)) H (Ctl.mk [] .none))) (fun k0 e0 H0 =>
 genK roundT rec (.buildSlice 70 0 6 [(.i .i64 0), (.i .i64 0), (.i .i64 0), (.i .i64 0), (.i .i64 0), (.i .i64 0)] []) k0 e0 [] H0 fun v0 H1 k1 =>
 apK 70 6 [(.i .i64 0), (.i .i64 0), (.i .i64 0), (.i .i64 0), (.i .i64 0), (.i .i64 0)] H1 v0 (Env.get s0 e0) fun v1 H2 =>
 (endK recD [.slot s2]) .ret (Env.put s2 v1 e0) H2 k1) (endK recD [.slot s2])
theorem Tryz.cOk49 : (compFn Tryz.prog Tryz.f49).map (bodyK 49) = some Tryz.c49 := by kernel_rfl
def Tryz.c58 : FnK := fun rec recD args H => startK 2 args fun e =>
 seqK (fun K0 =>
 lnK .sl H (Env.get s1 e) fun v0 =>
 blockK 0 (fun K1 =>
 loopK (fun k0 e0 H0 K2 =>
 binK .lss .no (Env.get s9 e0) (Env.get s8 e0) fun v1 =>
 seqK (fun K3 =>
 condK v1 (K3 .norm (Env.put s10 v1 e0) H0 k0)
 (K3 (.exit 0) (Env.put s10 v1 e0) H0 k0)) (fun k1 e1 H1 =>
 seqK (fun K4 =>
 blockK 1 (fun K5 =>
 iaK .none 3 (Env.get s7 e1) (Env.get s9 e1) fun v2 =>
 ldK true 3 v2 H1 fun v3 =>
 newK 45 [(.i .i64 0), (.i .i64 0), (.s [])] H1 fun v4 H2 =>
 stK 3 v3 v4 H2 fun H3 =>
 faK 2 v4 fun v5 =>
 ldK false 1 v5 H3 fun v6 =>
 lnK .s H3 v6 fun v7 =>
 faK 0 v4 fun v8 =>
 ldK true 2 v8 H3 fun v9 =>
 caK rec 106 [v9] H3 fun v10 H4 =>
 boolK (and (again ⟨.len .s (.l 0), .none, []⟩ v7 (Env.put s6 v4 e1) [v6, v5] H4) (and (again ⟨.load false 1 (.l 0), .none, []⟩ v6 (Env.put s6 v4 e1) [v5] H4) true)) (binK .sub .no v7 v10 fun v11 =>
 binK .add .no (Env.get s0 e1) v11 fun v12 =>
 K5 .norm (Env.put s0 v12 (Env.put s6 v4 e1)) H4 k1)) K4) (fun k2 e2 H5 =>
 binK .add .no (Env.get s9 e2) (.i .i64 1) fun v13 =>
 K2 .norm (Env.put s9 v13 e2) H5 k2) K2) K2) rounds K1 (Ctl.mk [] .none) (Env.put s7 (Env.get s1 e) (Env.put s8 v0 (Env.put s9 (.i .i64 0) (Env.put s4 (.i .i64 0) e)))) H) K0) (fun k3 e3 H6 =>
 (endK recD [.slot s4]) .ret (Env.put s4 (Env.get s0 e3) e3) H6 k3) (endK recD [.slot s4])
theorem Tryz.cOk58 : (compFn Tryz.prog Tryz.f58).map (bodyK 58) = some Tryz.c58 := by kernel_rfl
def Tryz.c70 : FnK := fun rec recD args H => startK 1 args fun e =>
 bxK 102 (Env.get s0 e) H fun v0 H0 =>
 newK 102 [.sl0, (.i .i64 0)] H0 fun v1 H1 =>
 faK 1 v0 fun v2 =>
 ldK false 1 v2 H1 fun v3 =>
 bdK [.sl0, (.i .i64 0)] [(1, 1, v3)] fun v4 =>
 newK 102 [.sl0, (.i .i64 0)] H1 fun v5 H2 =>
 stK 2 v4 v5 H2 fun H3 =>
 seqK (fun K0 =>
 faK 0 v0 fun v6 =>
 ldK false 1 v6 H3 fun v7 =>
 lnK .sl H3 v7 fun v8 =>
 blockK 0 (fun K1 =>
 loopK (fun k0 e0 H4 K2 =>
 binK .lss .no (Env.get s12 e0) (Env.get s11 e0) fun v9 =>
 seqK (fun K3 =>
 condK v9 (K3 .norm (Env.put s13 v9 e0) H4 k0)
 (K3 (.exit 0) (Env.put s13 v9 e0) H4 k0)) (fun k1 e1 H5 =>
 seqK (fun K4 =>
 blockK 1 (fun K5 =>
 iaK .none 13 (Env.get s10 e1) (Env.get s12 e1) fun v10 =>
 ldK true 13 v10 H5 fun v11 =>
 newK 76 [(.i .i64 0), (.i .i64 0), (.i .i64 0), .sl0, (.s []), (.i .i64 0), (.s []), (.i .i64 0), (.s []), (.i .i64 0), (.i .i64 0), (.i .i64 0), .sl0] H5 fun v12 H6 =>
 stK 13 v11 v12 H6 fun H7 =>
 faK 3 v12 fun v13 =>
 ldK false 1 v13 H7 fun v14 =>
 faK 12 v12 fun v15 =>
 ldK false 1 v15 H7 fun v16 =>
 caK rec 120 [v14] H7 fun v17 H8 =>
 boolK (and (again ⟨.load false 1 (.l 0), .none, []⟩ v16 (Env.put s5 v12 e1) [v15, v14, v13] H8) true) (faK 3 v12 fun v18 =>
 caK rec 120 [v16] H8 fun v19 H9 =>
 stK 1 v17 v18 H9 fun H10 =>
 faK 12 v12 fun v20 =>
 stK 1 v19 v20 H10 fun H11 =>
 faK 0 (Env.get s3 e1) fun v21 =>
 ldK false 1 v21 H11 fun v22 =>
 ldK true 13 v12 H11 fun v23 =>
 genK roundT rec (.buildSlice 76 1 13 [(.i .i64 0), (.i .i64 0), (.i .i64 0), .sl0, (.s []), (.i .i64 0), (.s []), (.i .i64 0), (.s []), (.i .i64 0), (.i .i64 0), (.i .i64 0), .sl0] [(0, (.l 0))]) k1 (Env.put s5 v12 e1) [v23, v22, v21] H11 fun v24 H12 k2 =>
 apK 76 13 [(.i .i64 0), (.i .i64 0), (.i .i64 0), .sl0, (.s []), (.i .i64 0), (.s []), (.i .i64 0), (.s []), (.i .i64 0), (.i .i64 0), (.i .i64 0), .sl0] H12 v22 v24 fun v25 H13 =>
 faK 0 (Env.get s3 e1) fun v26 =>
 stK 1 v25 v26 H13 fun H14 =>
 K5 .norm (Env.put s5 v12 e1) H14 k2)) K4) (fun k3 e2 H15 =>
 binK .add .no (Env.get s12 e2) (.i .i64 1) fun v27 =>
 K2 .norm (Env.put s12 v27 e2) H15 k3) K2) K2) rounds K1 (Ctl.mk [] .none) (Env.put s10 v7 (Env.put s11 v8 (Env.put s12 (.i .i64 0) (Env.put s3 v5 (Env.put s1 v0 (Env.put s2 v1 e)))))) H3) K0) (fun k4 e3 H16 =>
 ldK true 2 (Env.get s3 e3) H16 fun v6 =>
 stK 2 v6 (Env.get s2 e3) H16 fun H17 =>
 (endK recD [.cell true 2 s2]) .ret e3 H17 k4) (endK recD [.cell true 2 s2])
theorem Tryz.cOk70 : (compFn Tryz.prog Tryz.f70).map (bodyK 70) = some Tryz.c70 := by kernel_rfl
def Tryz.c71 : FnK := fun rec recD args H => startK 2 args fun e =>
 genK roundT rec (.recover) (Ctl.mk [] .none) e [] H fun v0 H0 k0 =>
 binK .neq .ifc v0 .if0 fun v1 =>
 condK v1 (genK roundT rec (.tassert 156 (.ag [(.i .i64 0), (.i .i64 0)]) true (.s s2)) k0 (Env.put s7 v1 (Env.put s2 v0 e)) [] H0 fun v2 H1 k1 =>
 exK 0 v2 fun v3 =>
 exK 1 v2 fun v4 =>
 newK 156 [(.i .i64 0), (.i .i64 0)] H1 fun v5 H2 =>
 stK 2 v3 v5 H2 fun H3 =>
 seqK (fun K0 =>
 unK .not v4 fun v6 =>
 condK v6 (genK roundT rec (.panic (.s s2)) k1 (Env.put s14 v6 (Env.put s3 v5 (Env.put s4 v4 (Env.put s7 v1 (Env.put s2 v0 e))))) [] H3 fun v7 H4 k2 =>
 K0 .norm (Env.put s14 v6 (Env.put s3 v5 (Env.put s4 v4 (Env.put s7 v1 (Env.put s2 v0 e))))) H4 k2)
 (K0 .norm (Env.put s14 v6 (Env.put s3 v5 (Env.put s4 v4 (Env.put s7 v1 (Env.put s2 v0 e))))) H3 k1)) (fun k3 e0 H5 =>
 faK 0 (Env.get s3 e0) fun v8 =>
 ldK true 2 v8 H5 fun v9 =>
 stK 1 .p0 (Env.get s0 e0) H5 fun H6 =>
 boolK (and (again ⟨.load true 2 (.l 0), .none, []⟩ v9 e0 [v8] H6) true) (stK 2 v9 (Env.get s1 e0) H6 fun H7 =>
 (endK recD []) .norm e0 H7 k3)) (endK recD []))
 ((endK recD []) .norm (Env.put s7 v1 (Env.put s2 v0 e)) H0 k0)
theorem Tryz.cOk71 : (compFn Tryz.prog Tryz.f71).map (bodyK 71) = some Tryz.c71 := by kernel_rfl
def Tryz.c73 : FnK := fun rec recD args H => startK 2 args fun e =>
 seqK (fun K0 =>
 genK roundT rec (.nilCheck (.s s0)) (Ctl.mk [] .none) (Env.put s5 .sl0 (Env.put s4 .sl0 e)) [] H fun v0 H0 k0 =>
 faK 3 v0 fun v1 =>
 ldK false 1 v1 H0 fun v2 =>
 genK roundT rec (.lookup .s .p0 false (.l 0) (.s s1)) k0 (Env.put s5 .sl0 (Env.put s4 .sl0 e)) [v2, v1, v0] H0 fun v3 H1 k1 =>
 binK .neq .ptr v3 .p0 fun v4 =>
 condK v4 (genK roundT rec (.nilCheck (.s s6)) k1 (Env.put s18 v4 (Env.put s6 v3 (Env.put s5 .sl0 (Env.put s4 .sl0 e)))) [] H1 fun v5 H2 k2 =>
 faK 3 v5 fun v6 =>
 ldK false 1 v6 H2 fun v7 =>
 genK roundT rec (.nilCheck (.s s6)) k2 (Env.put s18 v4 (Env.put s6 v3 (Env.put s5 .sl0 (Env.put s4 .sl0 e)))) [v7, v6, v5] H2 fun v8 H3 k3 =>
 faK 4 v8 fun v9 =>
 ldK false 1 v9 H3 fun v10 =>
 genK roundT rec (.nilCheck (.s s6)) k3 (Env.put s18 v4 (Env.put s6 v3 (Env.put s5 .sl0 (Env.put s4 .sl0 e)))) [v10, v9, v8, v7, v6, v5] H3 fun v11 H4 k4 =>
 faK 5 v11 fun v12 =>
 ldK false 1 v12 H4 fun v13 =>
 bdK [.sl0, .sl0, .sl0] [(0, 1, v7), (1, 1, v10), (2, 1, v13)] fun v14 =>
 blockK 0 (fun K1 =>
 loopK (fun k5 e0 H5 K2 =>
 binK .lss .no (Env.get s32 e0) (.i .i64 3) fun v15 =>
 seqK (fun K3 =>
 condK v15 (K3 .norm (Env.put s33 v15 e0) H5 k5)
 (K3 (.exit 0) (Env.put s33 v15 e0) H5 k5)) (fun k6 e1 H6 =>
 seqK (fun K4 =>
 blockK 1 (fun K5 =>
 ixK (.some (3, false, 1)) (Env.get s31 e1) (Env.get s32 e1) fun v16 =>
 lnK .sl H6 v16 fun v17 =>
 blockK 2 (fun K6 =>
 loopK (fun k7 e2 H7 K7 =>
 binK .lss .no (Env.get s37 e2) (Env.get s36 e2) fun v18 =>
 seqK (fun K8 =>
 condK v18 (K8 .norm (Env.put s38 v18 e2) H7 k7)
 (K8 (.exit 2) (Env.put s38 v18 e2) H7 k7)) (fun k8 e3 H8 =>
 seqK (fun K9 =>
 blockK 3 (fun K10 =>
 iaK .none 8 (Env.get s35 e3) (Env.get s37 e3) fun v19 =>
 ldK true 8 v19 H8 fun v20 =>
 newK 163 [(.s []), (.s []), (.i .i64 0), (.i .i64 0), (.s []), (.i .i64 0), (.s []), .sl0] H8 fun v21 H9 =>
 stK 8 v20 v21 H9 fun H10 =>
 ldK true 8 v21 H10 fun v22 =>
 caK rec 122 [v22] H10 fun v23 H11 =>
 genK roundT rec (.buildSlice 163 1 8 [(.s []), (.s []), (.i .i64 0), (.i .i64 0), (.s []), (.i .i64 0), (.s []), .sl0] [(0, (.l 0))]) k8 (Env.put s10 v21 e3) [v23, v22] H11 fun v24 H12 k9 =>
 apK 163 8 [(.s []), (.s []), (.i .i64 0), (.i .i64 0), (.s []), (.i .i64 0), (.s []), .sl0] H12 (Env.get s5 e3) v24 fun v25 H13 =>
 K10 .norm (Env.put s5 v25 (Env.put s10 v21 e3)) H13 k9) K9) (fun k10 e4 H14 =>
 binK .add .no (Env.get s37 e4) (.i .i64 1) fun v26 =>
 K7 .norm (Env.put s37 v26 e4) H14 k10) K7) K7) rounds K6 k6 (Env.put s35 v16 (Env.put s36 v17 (Env.put s37 (.i .i64 0) (Env.put s8 v16 e1)))) H6) K5) K4) (fun k11 e5 H15 =>
 binK .add .no (Env.get s32 e5) (.i .i64 1) fun v27 =>
 K2 .norm (Env.put s32 v27 e5) H15 k11) K2) K2) rounds K1 k4 (Env.put s31 v14 (Env.put s32 (.i .i64 0) (Env.put s18 v4 (Env.put s6 v3 (Env.put s5 .sl0 (Env.put s4 .sl0 e)))))) H4) K0)
 (K0 .norm (Env.put s18 v4 (Env.put s6 v3 (Env.put s5 .sl0 (Env.put s4 .sl0 e)))) H1 k1)) (fun k12 e6 H16 =>
 (endK recD [.slot s4]) .ret (Env.put s4 (Env.get s5 e6) e6) H16 k12) (endK recD [.slot s4])
theorem Tryz.cOk73 : (compFn Tryz.prog Tryz.f73).map (bodyK 73) = some Tryz.c73 := by kernel_rfl
def Tryz.c76 : FnK := fun rec recD args H => startK 2 args fun e =>
 bxK 177 (Env.get s0 e) H fun v0 H0 =>
 newK 177 [(.i .u64 0), (.b false)] H0 fun v1 H1 =>
 seqK (fun K0 =>
 faK 1 v0 fun v2 =>
 ldK false 1 v2 H1 fun v3 =>
 gdK v3 false (fun R0 => R0 (Env.get s1 e) H1 (Ctl.mk [] .none)) H1 (Ctl.mk [] .none) fun v4 H2 k0 =>
 gdK v3 false (fun R1 => binK .lss .no v4 (.i .i64 0) fun v5 =>
 R1 v5 H2 k0) H2 k0 fun v5 H3 k1 =>
 pkK v3 (.b true) v5 fun v6 =>
 condK v6 (ldK true 2 v0 H3 fun v7 =>
 stK 2 v7 v1 H3 fun H4 =>
 K0 .ret (Env.put s10 v6 (Env.put s2 v0 (Env.put s4 v1 e))) H4 k1)
 (K0 .norm (Env.put s10 v6 (Env.put s2 v0 (Env.put s4 v1 e))) H3 k1)) (fun k2 e0 H5 =>
 faK 0 (Env.get s2 e0) fun v2 =>
 ldK false 1 v2 H5 fun v3 =>
 genK roundT rec (.convInt .u64 (.s s1)) k2 e0 [v3, v2] H5 fun v4 H2 k0 =>
 binK .shl .no (.i .u64 1) v4 fun v5 =>
 binK .or .no v3 v5 fun v6 =>
 faK 0 (Env.get s2 e0) fun v8 =>
 stK 1 v6 v8 H2 fun H6 =>
 ldK true 2 (Env.get s2 e0) H6 fun v9 =>
 stK 2 v9 (Env.get s4 e0) H6 fun H7 =>
 (endK recD [.cell true 2 s4]) .ret e0 H7 k0) (endK recD [.cell true 2 s4])
theorem Tryz.cOk76 : (compFn Tryz.prog Tryz.f76).map (bodyK 76) = some Tryz.c76 := by kernel_rfl
def Tryz.c81 : FnK := fun rec recD args H => startK 2 args fun e =>
 lnK .sl H (Env.get s0 e) fun v0 =>
 genK roundT rec (.convInt .u64 (.s s4)) (Ctl.mk [] .none) (Env.put s4 v0 e) [] H fun v1 H0 k0 =>
 caK rec 140 [v1] H0 fun v2 H1 =>
 caK rec 139 [(Env.get s0 e), (.i .i64 0), v0, v2, (Env.get s1 e)] H1 fun v3 H2 =>
 (endK recD []) .norm (Env.put s4 v0 e) H2 k0
theorem Tryz.cOk81 : (compFn Tryz.prog Tryz.f81).map (bodyK 81) = some Tryz.c81 := by kernel_rfl
def Tryz.c86 : FnK := fun rec recD args H => startK 0 args fun e =>
 newK 47 [(.i .i64 0), (.i .i64 0)] H fun v0 H0 =>
 bdK [(.i .i64 0), (.i .i64 0)] [(0, 1, (.i .i64 (-1))), (1, 1, (.i .i64 (-1)))] fun v1 =>
 stK 2 v1 v0 H0 fun H1 =>
 (endK recD [.cell true 2 s0]) .ret (Env.put s0 v0 e) H1 (Ctl.mk [] .none)
theorem Tryz.cOk86 : (compFn Tryz.prog Tryz.f86).map (bodyK 86) = some Tryz.c86 := by kernel_rfl
def Tryz.c90 : FnK := fun rec recD args H => startK 5 args fun e =>
 bxK 202 (Env.get s2 e) H fun v0 H0 =>
 bxK 202 (Env.get s3 e) H0 fun v1 H1 =>
 seqK (fun K0 =>
 faK 0 v0 fun v2 =>
 ldK true 4 v2 H1 fun v3 =>
 caK rec 30 [v3] H1 fun v4 H2 =>
 unK .not v4 fun v5 =>
 gdK v5 false (fun R0 => faK 0 v1 fun v6 =>
 R0 v6 H2 (Ctl.mk [] .none)) H2 (Ctl.mk [] .none) fun v6 H3 k0 =>
 gdK v5 false (fun R1 => ldK true 4 v6 H3 fun v7 =>
 R1 v7 H3 k0) H3 k0 fun v7 H4 k1 =>
 gdK v5 false (fun R2 => caK rec 30 [v7] H4 fun v8 H5 =>
 R2 v8 H5 k1) H4 k1 fun v8 H5 k2 =>
 gdK v5 false (fun R3 => unK .not v8 fun v9 =>
 R3 v9 H5 k2) H5 k2 fun v9 H6 k3 =>
 pkK v5 (.b true) v9 fun v10 =>
 condK v10 (K0 .ret (Env.put s22 v10 (Env.put s7 v0 (Env.put s8 v1 e))) H6 k3)
 (K0 .norm (Env.put s22 v10 (Env.put s7 v0 (Env.put s8 v1 e))) H6 k3)) (fun k4 e0 H7 =>
 faK 0 (Env.get s7 e0) fun v2 =>
 ldK true 4 v2 H7 fun v3 =>
 faK 0 (Env.get s8 e0) fun v4 =>
 ldK true 4 v4 H7 fun v5 =>
 caK rec 31 [v3] H7 fun v6 H3 =>
 boolK (and (again ⟨.load true 4 (.l 0), .none, []⟩ v5 e0 [v4, v3, v2] H3) true) (caK rec 31 [v5] H3 fun v7 H4 =>
 seqK (fun K1 =>
 blockK 0 (fun K2 =>
 binK .eql .no v6 (.i .u8 111) fun v11 =>
 binK .eql .no v7 (.i .u8 111) fun v12 =>
 binK .neq .b v11 v12 fun v13 =>
 condK v13 (ldK true 5 (Env.get s7 e0) H4 fun v14 =>
 ldK true 5 (Env.get s8 e0) H4 fun v15 =>
 caK rec 143 [v14] H4 fun v16 H8 =>
 boolK (and (again ⟨.load true 5 (.s s8), .none, []⟩ v15 (Env.put s29 v13 (Env.put s10 v6 (Env.put s11 v7 e0))) [v14] H8) true) (caK rec 143 [v15] H8 fun v17 H9 =>
 caK rec 85 [(Env.get s0 e0), (.i .i64 7), (Env.get s1 e0), v16, v17] H9 fun v18 H10 =>
 K2 .norm (Env.put s29 v13 (Env.put s10 v6 (Env.put s11 v7 e0))) H10 k4))
 (binK .eql .no v6 (.i .u8 63) fun v19 =>
 gdK v19 true (fun R4 => R4 v7 H4 k4) H4 k4 fun v20 H11 k5 =>
 gdK v19 true (fun R5 => binK .eql .no v20 (.i .u8 32) fun v21 =>
 R5 v21 H11 k5) H11 k5 fun v21 H12 k6 =>
 pkK v19 v21 (.b false) fun v22 =>
 condK v22 (ldK true 5 (Env.get s7 e0) H12 fun v23 =>
 ldK true 5 (Env.get s8 e0) H12 fun v24 =>
 caK rec 143 [v23] H12 fun v25 H13 =>
 boolK (and (again ⟨.load true 5 (.s s8), .none, []⟩ v24 (Env.put s42 v22 (Env.put s29 v13 (Env.put s10 v6 (Env.put s11 v7 e0)))) [v23] H13) true) (caK rec 143 [v24] H13 fun v26 H14 =>
 caK rec 85 [(Env.get s0 e0), (Env.get s4 e0), (Env.get s1 e0), v25, v26] H14 fun v27 H15 =>
 K2 .norm (Env.put s42 v22 (Env.put s29 v13 (Env.put s10 v6 (Env.put s11 v7 e0)))) H15 k6))
 (K2 .norm (Env.put s42 v22 (Env.put s29 v13 (Env.put s10 v6 (Env.put s11 v7 e0)))) H12 k6))) K1) (fun k7 e1 H16 =>
 seqK (fun K2 =>
 faK 0 (Env.get s7 e1) fun v11 =>
 faK 2 v11 fun v12 =>
 ldK false 1 v12 H16 fun v13 =>
 faK 0 (Env.get s8 e1) fun v28 =>
 faK 2 v28 fun v29 =>
 ldK false 1 v29 H16 fun v30 =>
 binK .neq .no v13 v30 fun v31 =>
 gdK v31 false (fun R6 => faK 0 (Env.get s7 e1) fun v32 =>
 R6 v32 H16 k7) H16 k7 fun v32 H17 k8 =>
 gdK v31 false (fun R7 => faK 0 v32 fun v33 =>
 R7 v33 H17 k8) H17 k8 fun v33 H18 k9 =>
 gdK v31 false (fun R8 => ldK false 1 v33 H18 fun v34 =>
 R8 v34 H18 k9) H18 k9 fun v34 H19 k10 =>
 gdK v31 false (fun R9 => binK .neq .no v34 (.i .i64 5) fun v35 =>
 R9 v35 H19 k10) H19 k10 fun v35 H20 k11 =>
 gdK v31 false (fun R10 => R10 v35 H20 k11) H20 k11 fun v36 H21 k12 =>
 gdK v36 true (fun R11 => faK 0 (Env.get s7 e1) fun v37 =>
 R11 v37 H21 k12) H21 k12 fun v37 H22 k13 =>
 gdK v36 true (fun R12 => faK 2 v37 fun v38 =>
 R12 v38 H22 k13) H22 k13 fun v38 H23 k14 =>
 gdK v36 true (fun R13 => ldK false 1 v38 H23 fun v39 =>
 R13 v39 H23 k14) H23 k14 fun v39 H24 k15 =>
 gdK v36 true (fun R14 => binK .eql .no v39 (.i .i64 0) fun v40 =>
 R14 v40 H24 k15) H24 k15 fun v40 H25 k16 =>
 gdK v31 false (fun R15 => pkK v36 v40 (.b false) fun v41 =>
 R15 v41 H25 k16) H25 k16 fun v41 H26 k17 =>
 pkK v31 (.b true) v41 fun v42 =>
 condK v42 (K2 .ret (Env.put s75 v42 e1) H26 k17)
 (K2 .norm (Env.put s75 v42 e1) H26 k17)) (fun k18 e2 H27 =>
 faK 0 (Env.get s7 e2) fun v11 =>
 faK 2 v11 fun v12 =>
 ldK false 1 v12 H27 fun v13 =>
 blockK 1 (fun K3 =>
 loopK (fun k19 e3 H28 K4 =>
 binK .lss .no (Env.get s79 e3) (Env.get s78 e3) fun v43 =>
 seqK (fun K5 =>
 condK v43 (K5 .norm (Env.put s80 v43 e3) H28 k19)
 (K5 (.exit 1) (Env.put s80 v43 e3) H28 k19)) (fun k20 e4 H29 =>
 seqK (fun K6 =>
 blockK 2 (fun K7 =>
 faK 0 (Env.get s7 e4) fun v44 =>
 faK 3 v44 fun v45 =>
 ldK false 1 v45 H29 fun v46 =>
 ixK .none v46 (Env.get s79 e4) fun v47 =>
 faK 0 (Env.get s8 e4) fun v48 =>
 faK 3 v48 fun v49 =>
 ldK false 1 v49 H29 fun v50 =>
 ixK .none v50 (Env.get s79 e4) fun v51 =>
 binK .neq .no v47 v51 fun v52 =>
 condK v52 (faK 4 (Env.get s7 e4) fun v53 =>
 ldK false 1 v53 H29 fun v54 =>
 iaK .none 2 v54 (Env.get s79 e4) fun v55 =>
 ldK true 2 v55 H29 fun v56 =>
 faK 4 (Env.get s8 e4) fun v57 =>
 ldK false 1 v57 H29 fun v58 =>
 iaK .none 2 v58 (Env.get s79 e4) fun v59 =>
 ldK true 2 v59 H29 fun v60 =>
 caK rec 85 [(Env.get s0 e4), (.i .i64 2), (Env.get s1 e4), v56, v60] H29 fun v61 H30 =>
 K7 .norm (Env.put s92 v52 (Env.put s12 (Env.get s79 e4) e4)) H30 k20)
 (K7 .norm (Env.put s92 v52 (Env.put s12 (Env.get s79 e4) e4)) H29 k20)) K6) (fun k21 e5 H31 =>
 binK .add .no (Env.get s79 e5) (.i .i64 1) fun v62 =>
 K4 .norm (Env.put s79 v62 e5) H31 k21) K4) K4) rounds K3 k18 (Env.put s78 v13 (Env.put s79 (.i .i64 0) e2)) H27) (endK recD [])) (endK recD [])) (endK recD []))) (endK recD [])
theorem Tryz.cOk90 : (compFn Tryz.prog Tryz.f90).map (bodyK 90) = some Tryz.c90 := by kernel_rfl
def Tryz.c93 : FnK := fun rec recD args H => startK 2 args fun e =>
 caK rec 27 [(Env.get s0 e)] H fun v0 H0 =>
 seqK (fun K0 =>
 binK .lss .no (Env.get s1 e) (.i .i64 0) fun v1 =>
 gdK v1 false (fun R0 => R0 (Env.get s1 e) H0 (Ctl.mk [] .none)) H0 (Ctl.mk [] .none) fun v2 H1 k0 =>
 gdK v1 false (fun R1 => R1 v0 H1 k0) H1 k0 fun v3 H2 k1 =>
 gdK v1 false (fun R2 => lnK .sl H2 v3 fun v4 =>
 R2 v4 H2 k1) H2 k1 fun v4 H3 k2 =>
 gdK v1 false (fun R3 => binK .geq .no v2 v4 fun v5 =>
 R3 v5 H3 k2) H3 k2 fun v5 H4 k3 =>
 pkK v1 (.b true) v5 fun v6 =>
 condK v6 (K0 .ret (Env.put s4 .p0 (Env.put s17 v6 (Env.put s5 v0 (Env.put s4 .p0 e)))) H4 k3)
 (K0 .norm (Env.put s17 v6 (Env.put s5 v0 (Env.put s4 .p0 e))) H4 k3)) (fun k4 e0 H5 =>
 bdK [.p0, .sl0, (.i .i64 0), (.i .i64 0)] [(0, 1, (Env.get s0 e0))] fun v1 =>
 bxK 279 v1 H5 fun v2 H1 =>
 iaK .none 8 (Env.get s5 e0) (Env.get s1 e0) fun v7 =>
 faK 1 v7 fun v8 =>
 ldK false 1 v8 H1 fun v9 =>
 caK rec 23 [(Env.get s0 e0), v9] H1 fun v10 H6 =>
 fdK false 3 1 v10 fun v11 =>
 iaK .none 8 (Env.get s5 e0) (Env.get s1 e0) fun v12 =>
 faK 1 v12 fun v13 =>
 ldK false 1 v13 H6 fun v14 =>
 bdK [(.i .i64 0), (.i .i64 0), (.i .i64 0), (.i .i64 0), (.i .i64 0)] [(0, 1, (.i .i64 9)), (1, 1, (.i .i64 (-1))), (2, 1, v14), (3, 1, (.i .i64 (-1))), (4, 1, (.i .i64 (-1)))] fun v15 =>
 caK rec 144 [v2, v15] H6 fun v16 H7 =>
 genK roundT rec (.nilCheck (.s s6)) k4 (Env.put s7 v11 (Env.put s6 v2 e0)) [v16, v15, v14, v13, v12] H7 fun v17 H8 k5 =>
 faK 3 v17 fun v18 =>
 stK 1 v16 v18 H8 fun H9 =>
 lnK .sl H9 v11 fun v19 =>
 binK .sub .no v19 (.i .i64 1) fun v20 =>
 iaK .none 1 v11 v20 fun v21 =>
 ldK false 1 v21 H9 fun v22 =>
 genK roundT rec (.nilCheck (.s s6)) k5 (Env.put s7 v11 (Env.put s6 v2 e0)) [v22, v21, v20, v19] H9 fun v23 H10 k6 =>
 faK 3 v23 fun v24 =>
 ldK false 1 v24 H10 fun v25 =>
 bdK [(.i .i64 0), (.i .i64 0)] [] fun v26 =>
 caK rec 145 [v2, v22, v25, v26] H10 fun v27 H11 =>
 genK roundT rec (.nilCheck (.s s6)) k6 (Env.put s7 v11 (Env.put s6 v2 e0)) [v27, v26, v25, v24, v23, v22, v21, v20, v19] H11 fun v28 H12 k7 =>
 faK 2 v28 fun v29 =>
 stK 1 v27 v29 H12 fun H13 =>
 (endK recD [.slot s4]) .ret (Env.put s4 v2 (Env.put s7 v11 (Env.put s6 v2 e0))) H13 k7) (endK recD [.slot s4])
theorem Tryz.cOk93 : (compFn Tryz.prog Tryz.f93).map (bodyK 93) = some Tryz.c93 := by kernel_rfl
def Tryz.c98 : FnK := fun rec recD args H => startK 2 args fun e =>
 newK 163 [(.s []), (.s []), (.i .i64 0), (.i .i64 0), (.s []), (.i .i64 0), (.s []), .sl0] H fun v0 H0 =>
 seqK (fun K0 =>
 caK rec 133 [(Env.get s0 e), (Env.get s1 e)] H0 fun v1 H1 =>
 lnK .sl H1 v1 fun v2 =>
 blockK 0 (fun K1 =>
 loopK (fun k0 e0 H2 K2 =>
 binK .lss .no (Env.get s13 e0) (Env.get s12 e0) fun v3 =>
 seqK (fun K3 =>
 condK v3 (K3 .norm (Env.put s14 v3 e0) H2 k0)
 (K3 (.exit 0) (Env.put s14 v3 e0) H2 k0)) (fun k1 e1 H3 =>
 seqK (fun K4 =>
 blockK 1 (fun K5 =>
 iaK .none 1 (Env.get s11 e1) (Env.get s13 e1) fun v4 =>
 ldK false 1 v4 H3 fun v5 =>
 genK roundT rec (.nilCheck (.s s0)) k1 (Env.put s7 v5 e1) [] H3 fun v6 H4 k2 =>
 faK 3 v6 fun v7 =>
 ldK false 1 v7 H4 fun v8 =>
 genK roundT rec (.lookup .s .p0 false (.l 0) (.s s7)) k2 (Env.put s7 v5 e1) [v8, v7, v6] H4 fun v9 H5 k3 =>
 genK roundT rec (.nilCheck (.l 0)) k3 (Env.put s7 v5 e1) [v9, v8, v7, v6] H5 fun v10 H6 k4 =>
 faK 5 v10 fun v11 =>
 ldK false 1 v11 H6 fun v12 =>
 lnK .sl H6 v12 fun v13 =>
 binK .gtr .no v13 (.i .i64 0) fun v14 =>
 condK v14 (iaK .none 8 v12 (.i .i64 0) fun v15 =>
 ldK true 8 v15 H6 fun v16 =>
 caK rec 122 [v16] H6 fun v17 H7 =>
 stK 8 v17 (Env.get s4 e1) H7 fun H8 =>
 K5 .ret (Env.put s5 (.b true) (Env.put s28 v14 (Env.put s8 v12 (Env.put s7 v5 e1)))) H8 k4)
 (K5 .norm (Env.put s28 v14 (Env.put s8 v12 (Env.put s7 v5 e1))) H6 k4)) K4) (fun k5 e2 H9 =>
 binK .add .no (Env.get s13 e2) (.i .i64 1) fun v18 =>
 K2 .norm (Env.put s13 v18 e2) H9 k5) K2) K2) rounds K1 (Ctl.mk [] .none) (Env.put s11 v1 (Env.put s12 v2 (Env.put s13 (.i .i64 0) (Env.put s4 v0 (Env.put s5 (.b false) e))))) H1) K0) (fun k6 e3 H10 =>
 bdK [(.s []), (.s []), (.i .i64 0), (.i .i64 0), (.s []), (.i .i64 0), (.s []), .sl0] [] fun v1 =>
 stK 8 v1 (Env.get s4 e3) H10 fun H11 =>
 (endK recD [.cell true 8 s4, .slot s5]) .ret (Env.put s5 (.b false) e3) H11 k6) (endK recD [.cell true 8 s4, .slot s5])
theorem Tryz.cOk98 : (compFn Tryz.prog Tryz.f98).map (bodyK 98) = some Tryz.c98 := by kernel_rfl
def Tryz.c105 : FnK := fun rec recD args H => startK 2 args fun e =>
 bxK 43 (Env.get s0 e) H fun v0 H0 =>
 seqK (fun K0 =>
 binK .lss .no (Env.get s1 e) (.i .i64 0) fun v1 =>
 gdK v1 false (fun R0 => R0 (Env.get s1 e) H0 (Ctl.mk [] .none)) H0 (Ctl.mk [] .none) fun v2 H1 k0 =>
 gdK v1 false (fun R1 => binK .gtr .no v2 (.i .i64 65536) fun v3 =>
 R1 v3 H1 k0) H1 k0 fun v3 H2 k1 =>
 pkK v1 (.b true) v3 fun v4 =>
 gdK v4 false (fun R2 => faK 0 v0 fun v5 =>
 R2 v5 H2 k1) H2 k1 fun v5 H3 k2 =>
 gdK v4 false (fun R3 => ldK false 1 v5 H3 fun v6 =>
 R3 v6 H3 k2) H3 k2 fun v6 H4 k3 =>
 gdK v4 false (fun R4 => binK .lss .no v6 (.i .i64 0) fun v7 =>
 R4 v7 H4 k3) H4 k3 fun v7 H5 k4 =>
 pkK v4 (.b true) v7 fun v8 =>
 gdK v8 false (fun R5 => faK 1 v0 fun v9 =>
 R5 v9 H5 k4) H5 k4 fun v9 H6 k5 =>
 gdK v8 false (fun R6 => ldK false 1 v9 H6 fun v10 =>
 R6 v10 H6 k5) H6 k5 fun v10 H7 k6 =>
 gdK v8 false (fun R7 => faK 0 v0 fun v11 =>
 R7 v11 H7 k6) H7 k6 fun v11 H8 k7 =>
 gdK v8 false (fun R8 => ldK false 1 v11 H8 fun v12 =>
 R8 v12 H8 k7) H8 k7 fun v12 H9 k8 =>
 gdK v8 false (fun R9 => binK .lss .no v10 v12 fun v13 =>
 R9 v13 H9 k8) H9 k8 fun v13 H10 k9 =>
 pkK v8 (.b true) v13 fun v14 =>
 gdK v14 false (fun R10 => faK 1 v0 fun v15 =>
 R10 v15 H10 k9) H10 k9 fun v15 H11 k10 =>
 gdK v14 false (fun R11 => ldK false 1 v15 H11 fun v16 =>
 R11 v16 H11 k10) H11 k10 fun v16 H12 k11 =>
 gdK v14 false (fun R12 => R12 (Env.get s1 e) H12 k11) H12 k11 fun v17 H13 k12 =>
 gdK v14 false (fun R13 => binK .gtr .no v16 v17 fun v18 =>
 R13 v18 H13 k12) H13 k12 fun v18 H14 k13 =>
 pkK v14 (.b true) v18 fun v19 =>
 condK v19 (K0 .ret (Env.put s4 (.i .i64 1) (Env.put s28 v19 (Env.put s2 v0 (Env.put s4 (.i .i64 0) e)))) H14 k13)
 (K0 .norm (Env.put s28 v19 (Env.put s2 v0 (Env.put s4 (.i .i64 0) e))) H14 k13)) (fun k14 e0 H15 =>
 (endK recD [.slot s4]) .ret (Env.put s4 (.i .i64 0) e0) H15 k14) (endK recD [.slot s4])
theorem Tryz.cOk105 : (compFn Tryz.prog Tryz.f105).map (bodyK 105) = some Tryz.c105 := by kernel_rfl
def Tryz.c119 : FnK := fun rec recD args H => startK 1 args fun e =>
 newK 25 [(.i .i64 0), (.i .i64 0)] H fun v0 H0 =>
 newK 163 [(.s []), (.s []), (.i .i64 0), (.i .i64 0), (.s []), (.i .i64 0), (.s []), .sl0] H0 fun v1 H1 =>
 caK rec 88 [(Env.get s0 e), (.s [77, 97, 105, 110]), (.s [109, 97, 105, 110])] H1 fun v2 H2 =>
 exK 0 v2 fun v3 =>
 exK 1 v2 fun v4 =>
 stK 8 v3 v1 H2 fun H3 =>
 seqK (fun K0 =>
 unK .not v4 fun v5 =>
 gdK v5 false (fun R0 => faK 7 v1 fun v6 =>
 R0 v6 H3 (Ctl.mk [] .none)) H3 (Ctl.mk [] .none) fun v6 H4 k0 =>
 gdK v5 false (fun R1 => ldK false 1 v6 H4 fun v7 =>
 R1 v7 H4 k0) H4 k0 fun v7 H5 k1 =>
 gdK v5 false (fun R2 => lnK .sl H5 v7 fun v8 =>
 R2 v8 H5 k1) H5 k1 fun v8 H6 k2 =>
 gdK v5 false (fun R3 => binK .gtr .no v8 (.i .i64 0) fun v9 =>
 R3 v9 H6 k2) H6 k2 fun v9 H7 k3 =>
 pkK v5 (.b true) v9 fun v10 =>
 gdK v10 false (fun R4 => faK 3 v1 fun v11 =>
 R4 v11 H7 k3) H7 k3 fun v11 H8 k4 =>
 gdK v10 false (fun R5 => ldK true 4 v11 H8 fun v12 =>
 R5 v12 H8 k4) H8 k4 fun v12 H9 k5 =>
 gdK v10 false (fun R6 => caK rec 187 [v12, (.i .i64 1)] H9 fun v13 H10 =>
 R6 v13 H10 k5) H9 k5 fun v13 H10 k6 =>
 gdK v10 false (fun R7 => unK .not v13 fun v14 =>
 R7 v14 H10 k6) H10 k6 fun v14 H11 k7 =>
 pkK v10 (.b true) v14 fun v15 =>
 condK v15 (bdK [(.i .i64 0), (.i .i64 0)] [(0, 1, (.i .i64 112))] fun v16 =>
 stK 2 v16 v0 H11 fun H12 =>
 K0 .ret (Env.put s25 v15 (Env.put s3 v1 (Env.put s4 v4 (Env.put s2 v0 e)))) H12 k7)
 (K0 .norm (Env.put s25 v15 (Env.put s3 v1 (Env.put s4 v4 (Env.put s2 v0 e)))) H11 k7)) (fun k8 e0 H13 =>
 seqK (fun K1 =>
 newK 163 [(.s []), (.s []), (.i .i64 0), (.i .i64 0), (.s []), (.i .i64 0), (.s []), .sl0] H13 fun v17 H14 =>
 caK rec 98 [(Env.get s0 e0), (.s [77, 97, 105, 110])] H14 fun v18 H15 =>
 exK 0 v18 fun v19 =>
 exK 1 v18 fun v20 =>
 stK 8 v19 v17 H15 fun H16 =>
 gdK v20 true (fun R8 => faK 7 v17 fun v16 =>
 R8 v16 H16 k8) H16 k8 fun v16 H17 k9 =>
 gdK v20 true (fun R9 => ldK false 1 v16 H17 fun v21 =>
 R9 v21 H17 k9) H17 k9 fun v21 H12 k10 =>
 gdK v20 true (fun R10 => lnK .sl H12 v21 fun v22 =>
 R10 v22 H12 k10) H12 k10 fun v22 H18 k11 =>
 gdK v20 true (fun R11 => binK .gtr .no v22 (.i .i64 0) fun v23 =>
 R11 v23 H18 k11) H18 k11 fun v23 H19 k12 =>
 pkK v20 v23 (.b false) fun v24 =>
 condK v24 (bdK [(.i .i64 0), (.i .i64 0)] [(0, 1, (.i .i64 112))] fun v25 =>
 stK 2 v25 (Env.get s2 e0) H19 fun H20 =>
 K1 .ret (Env.put s38 v24 (Env.put s5 v17 (Env.put s6 v20 e0))) H20 k12)
 (K1 .norm (Env.put s38 v24 (Env.put s5 v17 (Env.put s6 v20 e0))) H19 k12)) (fun k13 e1 H21 =>
 bdK [(.i .i64 0), (.i .i64 0)] [] fun v17 =>
 stK 2 v17 (Env.get s2 e1) H21 fun H15 =>
 (endK recD [.cell true 2 s2]) .ret e1 H15 k13) (endK recD [.cell true 2 s2])) (endK recD [.cell true 2 s2])
theorem Tryz.cOk119 : (compFn Tryz.prog Tryz.f119).map (bodyK 119) = some Tryz.c119 := by kernel_rfl
def Tryz.c126 : FnK := fun rec recD args H => startK 2 args fun e =>
 genK roundT rec (.nilCheck (.s s0)) (Ctl.mk [] .none) e [] H fun v0 H0 k0 =>
 faK 0 v0 fun v1 =>
 ldK false 1 v1 H0 fun v2 =>
 genK roundT rec (.nilCheck (.l 0)) k0 e [v2, v1, v0] H0 fun v3 H1 k1 =>
 faK 0 v3 fun v4 =>
 faK 0 v4 fun v5 =>
 ldK false 1 v5 H1 fun v6 =>
 iaK .none 13 v6 (Env.get s1 e) fun v7 =>
 faK 5 v7 fun v8 =>
 faK 0 v8 fun v9 =>
 ldK false 1 v9 H1 fun v10 =>
 binK .eql .no v10 (.i .i64 6) fun v11 =>
 condK v11 (genK roundT rec (.nilCheck (.s s0)) k1 (Env.put s17 v11 e) [] H1 fun v12 H2 k2 =>
 faK 0 v12 fun v13 =>
 ldK false 1 v13 H2 fun v14 =>
 caK rec 190 [v14, (.i .i64 130), (Env.get s1 e)] H2 fun v15 H3 =>
 (endK recD []) .norm (Env.put s17 v11 e) H3 k2)
 ((endK recD []) .norm (Env.put s17 v11 e) H1 k1)
theorem Tryz.cOk126 : (compFn Tryz.prog Tryz.f126).map (bodyK 126) = some Tryz.c126 := by kernel_rfl
def Tryz.c128 : FnK := fun rec recD args H => startK 2 args fun e =>
 genK roundT rec (.nilCheck (.s s0)) (Ctl.mk [] .none) e [] H fun v0 H0 k0 =>
 faK 0 v0 fun v1 =>
 ldK false 1 v1 H0 fun v2 =>
 genK roundT rec (.nilCheck (.l 0)) k0 e [v2, v1, v0] H0 fun v3 H1 k1 =>
 faK 0 v3 fun v4 =>
 faK 0 v4 fun v5 =>
 ldK false 1 v5 H1 fun v6 =>
 iaK .none 13 v6 (Env.get s1 e) fun v7 =>
 ldK true 13 v7 H1 fun v8 =>
 newK 76 [(.i .i64 0), (.i .i64 0), (.i .i64 0), .sl0, (.s []), (.i .i64 0), (.s []), (.i .i64 0), (.s []), (.i .i64 0), (.i .i64 0), (.i .i64 0), .sl0] H1 fun v9 H2 =>
 stK 13 v8 v9 H2 fun H3 =>
 faK 0 v9 fun v10 =>
 ldK false 1 v10 H3 fun v11 =>
 blockK 0 (fun K0 =>
 binK .eql .no v11 (.i .i64 8) fun v12 =>
 condK v12 (faK 3 v9 fun v13 =>
 ldK false 1 v13 H3 fun v14 =>
 lnK .sl H3 v14 fun v15 =>
 blockK 1 (fun K1 =>
 loopK (fun k2 e0 H4 K2 =>
 binK .lss .no (Env.get s37 e0) (Env.get s36 e0) fun v16 =>
 seqK (fun K3 =>
 condK v16 (K3 .norm (Env.put s38 v16 e0) H4 k2)
 (K3 (.exit 1) (Env.put s38 v16 e0) H4 k2)) (fun k3 e1 H5 =>
 seqK (fun K4 =>
 blockK 2 (fun K5 =>
 iaK .none 1 (Env.get s35 e1) (Env.get s37 e1) fun v17 =>
 ldK false 1 v17 H5 fun v18 =>
 caK rec 128 [(Env.get s0 e1), v18] H5 fun v19 H6 =>
 K5 .norm (Env.put s6 v18 e1) H6 k3) K4) (fun k4 e2 H7 =>
 binK .add .no (Env.get s37 e2) (.i .i64 1) fun v20 =>
 K2 .norm (Env.put s37 v20 e2) H7 k4) K2) K2) rounds K1 k1 (Env.put s35 v14 (Env.put s36 v15 (Env.put s37 (.i .i64 0) (Env.put s32 v12 (Env.put s25 v11 (Env.put s4 v9 e)))))) H3) K0)
 (binK .eql .no v11 (.i .i64 9) fun v13 =>
 condK v13 (caK rec 126 [(Env.get s0 e), (Env.get s1 e)] H3 fun v21 H8 =>
 faK 3 v9 fun v22 =>
 ldK false 1 v22 H8 fun v23 =>
 lnK .sl H8 v23 fun v24 =>
 binK .gtr .no v24 (.i .i64 0) fun v25 =>
 condK v25 (faK 3 v9 fun v20 =>
 ldK false 1 v20 H8 fun v26 =>
 iaK .none 1 v26 (.i .i64 0) fun v27 =>
 ldK false 1 v27 H8 fun v28 =>
 faK 5 v9 fun v29 =>
 ldK true 4 v29 H8 fun v30 =>
 caK rec 192 [(Env.get s0 e), v28, v30] H8 fun v31 H9 =>
 K0 .norm (Env.put s53 v25 (Env.put s45 v13 (Env.put s32 v12 (Env.put s25 v11 (Env.put s4 v9 e))))) H9 k1)
 (K0 .norm (Env.put s53 v25 (Env.put s45 v13 (Env.put s32 v12 (Env.put s25 v11 (Env.put s4 v9 e))))) H8 k1))
 (binK .eql .no v11 (.i .i64 10) fun v21 =>
 condK v21 (faK 3 v9 fun v32 =>
 ldK false 1 v32 H3 fun v33 =>
 iaK .none 1 v33 (.i .i64 0) fun v34 =>
 ldK false 1 v34 H3 fun v35 =>
 newK 74 [(.i .i64 0), (.s []), (.i .i64 0), (.s [])] H3 fun v36 H10 =>
 caK rec 193 [(Env.get s0 e), v35] H10 fun v37 H11 =>
 stK 4 v37 v36 H11 fun H12 =>
 seqK (fun K5 =>
 genK roundT rec (.nilCheck (.s s0)) k1 (Env.put s7 v36 (Env.put s62 v21 (Env.put s45 v13 (Env.put s32 v12 (Env.put s25 v11 (Env.put s4 v9 e)))))) [] H12 fun v17 H13 k5 =>
 faK 0 v17 fun v18 =>
 ldK false 1 v18 H13 fun v38 =>
 genK roundT rec (.nilCheck (.l 0)) k5 (Env.put s7 v36 (Env.put s62 v21 (Env.put s45 v13 (Env.put s32 v12 (Env.put s25 v11 (Env.put s4 v9 e)))))) [v38, v18, v17] H13 fun v39 H14 k6 =>
 faK 0 v39 fun v40 =>
 faK 0 v40 fun v41 =>
 ldK false 1 v41 H14 fun v42 =>
 faK 3 v9 fun v43 =>
 ldK false 1 v43 H14 fun v44 =>
 iaK .none 1 v44 (.i .i64 0) fun v45 =>
 ldK false 1 v45 H14 fun v46 =>
 iaK .none 13 v42 v46 fun v47 =>
 faK 0 v47 fun v48 =>
 ldK false 1 v48 H14 fun v49 =>
 binK .neq .no v49 (.i .i64 25) fun v50 =>
 gdK v50 true (fun R0 => R0 v49 H14 k6) H14 k6 fun v51 H15 k7 =>
 gdK v50 true (fun R1 => binK .neq .no v51 (.i .i64 26) fun v52 =>
 R1 v52 H15 k7) H15 k7 fun v52 H16 k8 =>
 pkK v50 v52 (.b false) fun v53 =>
 gdK v53 true (fun R2 => R2 v49 H16 k8) H16 k8 fun v54 H17 k9 =>
 gdK v53 true (fun R3 => binK .neq .no v54 (.i .i64 27) fun v55 =>
 R3 v55 H17 k9) H17 k9 fun v55 H18 k10 =>
 pkK v53 v55 (.b false) fun v56 =>
 condK v56 (genK roundT rec (.nilCheck (.s s0)) k10 (Env.put s94 v56 (Env.put s8 v49 (Env.put s7 v36 (Env.put s62 v21 (Env.put s45 v13 (Env.put s32 v12 (Env.put s25 v11 (Env.put s4 v9 e)))))))) [] H18 fun v57 H19 k11 =>
 faK 0 v57 fun v58 =>
 ldK false 1 v58 H19 fun v59 =>
 faK 3 v9 fun v60 =>
 ldK false 1 v60 H19 fun v61 =>
 iaK .none 1 v61 (.i .i64 0) fun v62 =>
 ldK false 1 v62 H19 fun v63 =>
 caK rec 190 [v59, (.i .i64 132), v63] H19 fun v64 H20 =>
 K5 .norm (Env.put s94 v56 (Env.put s8 v49 (Env.put s7 v36 (Env.put s62 v21 (Env.put s45 v13 (Env.put s32 v12 (Env.put s25 v11 (Env.put s4 v9 e)))))))) H20 k11)
 (K5 .norm (Env.put s94 v56 (Env.put s8 v49 (Env.put s7 v36 (Env.put s62 v21 (Env.put s45 v13 (Env.put s32 v12 (Env.put s25 v11 (Env.put s4 v9 e)))))))) H18 k10)) (fun k12 e3 H21 =>
 faK 3 (Env.get s4 e3) fun v65 =>
 ldK false 1 v65 H21 fun v66 =>
 iaK .none 1 v66 (.i .i64 1) fun v67 =>
 ldK false 1 v67 H21 fun v68 =>
 ldK true 4 (Env.get s7 e3) H21 fun v69 =>
 caK rec 192 [(Env.get s0 e3), v68, v69] H21 fun v70 H22 =>
 K0 .norm e3 H22 k12) K0)
 (seqK (fun K3 =>
 binK .eql .no v11 (.i .i64 11) fun v20 =>
 condK v20 (K3 .norm (Env.put s111 v20 (Env.put s62 v21 (Env.put s45 v13 (Env.put s32 v12 (Env.put s25 v11 (Env.put s4 v9 e)))))) H3 k1)
 (binK .eql .no v11 (.i .i64 12) fun v17 =>
 K3 .norm (Env.put s111 v17 (Env.put s111 v20 (Env.put s62 v21 (Env.put s45 v13 (Env.put s32 v12 (Env.put s25 v11 (Env.put s4 v9 e))))))) H3 k1)) (fun k3 e1 H5 =>
 condK (Env.get s111 e1) (faK 3 (Env.get s4 e1) fun v65 =>
 ldK false 1 v65 H5 fun v66 =>
 iaK .none 1 v66 (.i .i64 0) fun v67 =>
 ldK false 1 v67 H5 fun v68 =>
 caK rec 194 [(Env.get s0 e1), v68, (.i .i64 2)] H5 fun v69 H23 =>
 seqK (fun K6 =>
 faK 0 (Env.get s4 e1) fun v50 =>
 ldK false 1 v50 H23 fun v51 =>
 binK .eql .no v51 (.i .i64 12) fun v52 =>
 condK v52 (genK roundT rec (.nilCheck (.s s0)) k3 (Env.put s122 v52 e1) [] H23 fun v57 H19 k11 =>
 faK 2 v57 fun v58 =>
 ldK false 1 v58 H19 fun v59 =>
 binK .add .no v59 (.i .i64 1) fun v60 =>
 genK roundT rec (.nilCheck (.s s0)) k11 (Env.put s122 v52 e1) [v60, v59, v58, v57] H19 fun v61 H24 k13 =>
 faK 2 v61 fun v62 =>
 stK 1 v60 v62 H24 fun H25 =>
 K6 .norm (Env.put s122 v52 e1) H25 k13)
 (K6 .norm (Env.put s122 v52 e1) H23 k3)) (fun k14 e4 H26 =>
 seqK (fun K7 =>
 faK 3 (Env.get s4 e4) fun v71 =>
 ldK false 1 v71 H26 fun v72 =>
 slK (.some 1) v72 (.some (.i .i64 1)) .none .none fun v73 =>
 lnK .sl H26 v73 fun v74 =>
 blockK 3 (fun K8 =>
 loopK (fun k15 e5 H27 K9 =>
 binK .lss .no (Env.get s134 e5) (Env.get s133 e5) fun v75 =>
 seqK (fun K10 =>
 condK v75 (K10 .norm (Env.put s135 v75 e5) H27 k15)
 (K10 (.exit 3) (Env.put s135 v75 e5) H27 k15)) (fun k16 e6 H28 =>
 seqK (fun K11 =>
 blockK 4 (fun K12 =>
 iaK .none 1 (Env.get s132 e6) (Env.get s134 e6) fun v76 =>
 ldK false 1 v76 H28 fun v77 =>
 seqK (fun K13 =>
 genK roundT rec (.nilCheck (.s s0)) k16 (Env.put s10 v77 e6) [] H28 fun v78 H29 k17 =>
 faK 0 v78 fun v79 =>
 ldK false 1 v79 H29 fun v80 =>
 genK roundT rec (.nilCheck (.l 0)) k17 (Env.put s10 v77 e6) [v80, v79, v78] H29 fun v81 H30 k18 =>
 faK 0 v81 fun v82 =>
 faK 0 v82 fun v83 =>
 ldK false 1 v83 H30 fun v84 =>
 iaK .none 13 v84 v77 fun v85 =>
 faK 0 v85 fun v86 =>
 ldK false 1 v86 H30 fun v87 =>
 binK .neq .no v87 (.i .i64 8) fun v88 =>
 condK v88 (genK roundT rec (.nilCheck (.s s0)) k18 (Env.put s150 v88 (Env.put s10 v77 e6)) [] H30 fun v89 H31 k19 =>
 faK 0 v89 fun v90 =>
 ldK false 1 v90 H31 fun v91 =>
 caK rec 190 [v91, (.i .i64 132), v77] H31 fun v92 H32 =>
 K13 .norm (Env.put s150 v88 (Env.put s10 v77 e6)) H32 k19)
 (K13 .norm (Env.put s150 v88 (Env.put s10 v77 e6)) H30 k18)) (fun k20 e7 H33 =>
 caK rec 128 [(Env.get s0 e7), (Env.get s10 e7)] H33 fun v93 H34 =>
 K12 .norm e7 H34 k20) K12) K11) (fun k21 e8 H35 =>
 binK .add .no (Env.get s134 e8) (.i .i64 1) fun v94 =>
 K9 .norm (Env.put s134 v94 e8) H35 k21) K9) K9) rounds K8 k14 (Env.put s132 v73 (Env.put s133 v74 (Env.put s134 (.i .i64 0) e4))) H26) K7) (fun k22 e9 H36 =>
 faK 0 (Env.get s4 e9) fun v71 =>
 ldK false 1 v71 H36 fun v72 =>
 binK .eql .no v72 (.i .i64 12) fun v73 =>
 condK v73 (genK roundT rec (.nilCheck (.s s0)) k22 (Env.put s163 v73 e9) [] H36 fun v95 H37 k23 =>
 faK 2 v95 fun v96 =>
 ldK false 1 v96 H37 fun v97 =>
 binK .sub .no v97 (.i .i64 1) fun v98 =>
 genK roundT rec (.nilCheck (.s s0)) k23 (Env.put s163 v73 e9) [v98, v97, v96, v95] H37 fun v99 H38 k24 =>
 faK 2 v99 fun v100 =>
 stK 1 v98 v100 H38 fun H39 =>
 K0 .norm (Env.put s163 v73 e9) H39 k24)
 (K0 .norm (Env.put s163 v73 e9) H36 k22)) K0) K0)
 (seqK (fun K5 =>
 binK .eql .no (Env.get s25 e1) (.i .i64 13) fun v17 =>
 condK v17 (K5 .norm (Env.put s171 v17 e1) H5 k3)
 (binK .eql .no (Env.get s25 e1) (.i .i64 14) fun v50 =>
 K5 .norm (Env.put s171 v50 (Env.put s171 v17 e1)) H5 k3)) (fun k12 e3 H21 =>
 condK (Env.get s171 e3) (genK roundT rec (.nilCheck (.s s0)) k12 e3 [] H21 fun v19 H6 k25 =>
 faK 2 v19 fun v101 =>
 ldK false 1 v101 H6 fun v102 =>
 binK .eql .no v102 (.i .i64 0) fun v103 =>
 condK v103 (genK roundT rec (.nilCheck (.s s0)) k25 (Env.put s178 v103 e3) [] H6 fun v71 H40 k26 =>
 faK 0 v71 fun v72 =>
 ldK false 1 v72 H40 fun v73 =>
 caK rec 190 [v73, (.i .i64 132), (Env.get s1 e3)] H40 fun v74 H41 =>
 K0 .norm (Env.put s178 v103 e3) H41 k26)
 (K0 .norm (Env.put s178 v103 e3) H6 k25))
 (binK .eql .no (Env.get s25 e3) (.i .i64 15) fun v19 =>
 condK v19 (ldK true 13 (Env.get s4 e3) H21 fun v71 =>
 caK rec 195 [(Env.get s0 e3), (Env.get s1 e3), v71] H21 fun v72 H42 =>
 K0 .norm (Env.put s185 v19 e3) H42 k12)
 (binK .eql .no (Env.get s25 e3) (.i .i64 16) fun v57 =>
 condK v57 (faK 3 (Env.get s4 e3) fun v75 =>
 ldK false 1 v75 H21 fun v104 =>
 iaK .none 1 v104 (.i .i64 0) fun v105 =>
 ldK false 1 v105 H21 fun v106 =>
 newK 74 [(.i .i64 0), (.s []), (.i .i64 0), (.s [])] H21 fun v107 H43 =>
 caK rec 193 [(Env.get s0 e3), v106] H43 fun v108 H44 =>
 stK 4 v108 v107 H44 fun H45 =>
 faK 2 v107 fun v109 =>
 ldK false 1 v109 H45 fun v110 =>
 binK .gtr .no v110 (.i .i64 0) fun v111 =>
 gdK v111 false (fun R4 => faK 0 v107 fun v112 =>
 R4 v112 H45 k12) H45 k12 fun v112 H46 k27 =>
 gdK v111 false (fun R5 => ldK false 1 v112 H46 fun v113 =>
 R5 v113 H46 k27) H46 k27 fun v113 H47 k28 =>
 gdK v111 false (fun R6 => binK .lss .no v113 (.i .i64 1) fun v114 =>
 R6 v114 H47 k28) H47 k28 fun v114 H48 k29 =>
 pkK v111 (.b true) v114 fun v115 =>
 gdK v115 false (fun R7 => faK 0 v107 fun v116 =>
 R7 v116 H48 k29) H48 k29 fun v116 H49 k30 =>
 gdK v115 false (fun R8 => ldK false 1 v116 H49 fun v117 =>
 R8 v117 H49 k30) H49 k30 fun v117 H50 k31 =>
 gdK v115 false (fun R9 => binK .gtr .no v117 (.i .i64 4) fun v118 =>
 R9 v118 H50 k31) H50 k31 fun v118 H51 k32 =>
 pkK v115 (.b true) v118 fun v119 =>
 condK v119 (genK roundT rec (.nilCheck (.s s0)) k32 (Env.put s211 v119 (Env.put s11 v107 (Env.put s191 v57 (Env.put s185 v19 e3)))) [] H51 fun v120 H52 k33 =>
 faK 0 v120 fun v121 =>
 ldK false 1 v121 H52 fun v122 =>
 faK 3 (Env.get s4 e3) fun v123 =>
 ldK false 1 v123 H52 fun v124 =>
 iaK .none 1 v124 (.i .i64 0) fun v125 =>
 ldK false 1 v125 H52 fun v126 =>
 caK rec 190 [v122, (.i .i64 130), v126] H52 fun v127 H53 =>
 K0 .norm (Env.put s211 v119 (Env.put s11 v107 (Env.put s191 v57 (Env.put s185 v19 e3)))) H53 k33)
 (K0 .norm (Env.put s211 v119 (Env.put s11 v107 (Env.put s191 v57 (Env.put s185 v19 e3)))) H51 k32))
 (binK .eql .no (Env.get s25 e3) (.i .i64 18) fun v75 =>
 condK v75 (seqK (fun K11 =>
 genK roundT rec (.nilCheck (.s s0)) k12 (Env.put s221 v75 (Env.put s191 v57 (Env.put s185 v19 e3))) [] H21 fun v120 H52 k33 =>
 faK 0 v120 fun v121 =>
 ldK false 1 v121 H52 fun v122 =>
 genK roundT rec (.nilCheck (.l 0)) k33 (Env.put s221 v75 (Env.put s191 v57 (Env.put s185 v19 e3))) [v122, v121, v120] H52 fun v123 H54 k34 =>
 faK 0 v123 fun v124 =>
 faK 0 v124 fun v125 =>
 ldK false 1 v125 H54 fun v126 =>
 faK 3 (Env.get s4 e3) fun v127 =>
 ldK false 1 v127 H54 fun v128 =>
 iaK .none 1 v128 (.i .i64 0) fun v129 =>
 ldK false 1 v129 H54 fun v130 =>
 iaK .none 13 v126 v130 fun v131 =>
 faK 0 v131 fun v132 =>
 ldK false 1 v132 H54 fun v133 =>
 binK .neq .no v133 (.i .i64 29) fun v134 =>
 gdK v134 true (fun R10 => R10 v133 H54 k34) H54 k34 fun v135 H55 k35 =>
 gdK v134 true (fun R11 => binK .neq .no v135 (.i .i64 30) fun v136 =>
 R11 v136 H55 k35) H55 k35 fun v136 H56 k36 =>
 pkK v134 v136 (.b false) fun v137 =>
 condK v137 (genK roundT rec (.nilCheck (.s s0)) k36 (Env.put s243 v137 (Env.put s12 v133 (Env.put s221 v75 (Env.put s191 v57 (Env.put s185 v19 e3))))) [] H56 fun v78 H29 k17 =>
 faK 0 v78 fun v79 =>
 ldK false 1 v79 H29 fun v80 =>
 faK 3 (Env.get s4 e3) fun v81 =>
 ldK false 1 v81 H29 fun v82 =>
 iaK .none 1 v82 (.i .i64 0) fun v83 =>
 ldK false 1 v83 H29 fun v84 =>
 caK rec 190 [v80, (.i .i64 132), v84] H29 fun v85 H57 =>
 K11 .norm (Env.put s243 v137 (Env.put s12 v133 (Env.put s221 v75 (Env.put s191 v57 (Env.put s185 v19 e3))))) H57 k17)
 (K11 .norm (Env.put s243 v137 (Env.put s12 v133 (Env.put s221 v75 (Env.put s191 v57 (Env.put s185 v19 e3))))) H56 k36)) (fun k21 e8 H35 =>
 faK 3 (Env.get s4 e8) fun v94 =>
 ldK false 1 v94 H35 fun v138 =>
 iaK .none 1 v138 (.i .i64 0) fun v139 =>
 ldK false 1 v139 H35 fun v140 =>
 caK rec 193 [(Env.get s0 e8), v140] H35 fun v141 H58 =>
 K0 .norm e8 H58 k21) K0)
 (genK roundT rec (.nilCheck (.s s0)) k12 (Env.put s221 v75 (Env.put s191 v57 (Env.put s185 v19 e3))) [] H21 fun v109 H59 k37 =>
 faK 0 v109 fun v110 =>
 ldK false 1 v110 H59 fun v111 =>
 caK rec 190 [v111, (.i .i64 132), (Env.get s1 e3)] H59 fun v112 H46 =>
 K0 .norm (Env.put s221 v75 (Env.put s191 v57 (Env.put s185 v19 e3))) H46 k37))))) K0)) K0)))) (endK recD [])
theorem Tryz.cOk128 : (compFn Tryz.prog Tryz.f128).map (bodyK 128) = some Tryz.c128 := by kernel_rfl
def Tryz.c137 : FnK := fun rec recD args H => startK 2 args fun e =>
 seqK (fun K0 =>
 genK roundT rec (.nilCheck (.s s0)) (Ctl.mk [] .none) (Env.put s4 (.i .i64 0) e) [] H fun v0 H0 k0 =>
 faK 3 v0 fun v1 =>
 ldK false 1 v1 H0 fun v2 =>
 genK roundT rec (.lookup .s .p0 false (.l 0) (.s s1)) k0 (Env.put s4 (.i .i64 0) e) [v2, v1, v0] H0 fun v3 H1 k1 =>
 binK .neq .ptr v3 .p0 fun v4 =>
 condK v4 (genK roundT rec (.nilCheck (.s s5)) k1 (Env.put s13 v4 (Env.put s5 v3 (Env.put s4 (.i .i64 0) e))) [] H1 fun v5 H2 k2 =>
 faK 1 v5 fun v6 =>
 ldK false 1 v6 H2 fun v7 =>
 K0 .ret (Env.put s4 v7 (Env.put s13 v4 (Env.put s5 v3 (Env.put s4 (.i .i64 0) e)))) H2 k2)
 (K0 .norm (Env.put s13 v4 (Env.put s5 v3 (Env.put s4 (.i .i64 0) e))) H1 k1)) (fun k3 e0 H3 =>
 (endK recD [.slot s4]) .ret (Env.put s4 (.i .i64 (-1)) e0) H3 k3) (endK recD [.slot s4])
theorem Tryz.cOk137 : (compFn Tryz.prog Tryz.f137).map (bodyK 137) = some Tryz.c137 := by kernel_rfl
def Tryz.c145 : FnK := fun rec recD args H => startK 4 args fun e =>
 bxK 205 (Env.get s0 e) H fun v0 H0 =>
 bxK 3 (Env.get s2 e) H0 fun v1 H1 =>
 bxK 285 (Env.get s3 e) H1 fun v2 H2 =>
 ldK false 1 v0 H2 fun v3 =>
 genK roundT rec (.nilCheck (.l 0)) (Ctl.mk [] .none) (Env.put s4 v0 (Env.put s6 v1 (Env.put s7 v2 (Env.put s8 (.i .i64 0) e)))) [v3] H2 fun v4 H3 k0 =>
 faK 0 v4 fun v5 =>
 ldK false 1 v5 H3 fun v6 =>
 newK 76 [(.i .i64 0), (.i .i64 0), (.i .i64 0), .sl0, (.s []), (.i .i64 0), (.s []), (.i .i64 0), (.s []), (.i .i64 0), (.i .i64 0), (.i .i64 0), .sl0] H3 fun v7 H4 =>
 caK rec 23 [v6, (Env.get s1 e)] H4 fun v8 H5 =>
 stK 13 v8 v7 H5 fun H6 =>
 seqK (fun K0 =>
 faK 0 v7 fun v9 =>
 ldK false 1 v9 H6 fun v10 =>
 blockK 0 (fun K1 =>
 binK .eql .no v10 (.i .i64 8) fun v11 =>
 condK v11 (seqK (fun K2 =>
 faK 3 v7 fun v12 =>
 ldK false 1 v12 H6 fun v13 =>
 caK rec 213 [v13] H6 fun v14 H7 =>
 blockK 1 (fun K3 =>
 rangeK rec v14 145 [s30, s31] (.reg ⟨[], [(s11, (.s s31))], []⟩) (.block 2 (.reg ⟨[⟨.load false 1 (.s s4), .none, []⟩,
 ⟨.load false 1 (.s s6), .none, []⟩,
 ⟨.load true 2 (.s s7), .none, []⟩,
 ⟨.callF 145 [(.l 2), (.s s11), (.l 1), (.l 0)], .none, []⟩,
 ⟨.store 1 (.s s6) (.l 0), .none, []⟩], [], []⟩)) k0 (Env.put s29 v14 (Env.put s25 v11 (Env.put s24 v10 (Env.put s9 v7 (Env.put s4 v0 (Env.put s6 v1 (Env.put s7 v2 (Env.put s8 (.i .i64 0) e)))))))) H7 K3) K2) (fun k1 e0 H8 =>
 ldK false 1 (Env.get s6 e0) H8 fun v12 =>
 K1 .ret (Env.put s8 v12 e0) H8 k1) K1)
 (binK .eql .no v10 (.i .i64 9) fun v15 =>
 condK v15 (seqK (fun K3 =>
 faK 3 v7 fun v16 =>
 ldK false 1 v16 H6 fun v17 =>
 lnK .sl H6 v17 fun v18 =>
 binK .eql .no v18 (.i .i64 0) fun v19 =>
 condK v19 (ldK false 1 v0 H6 fun v20 =>
 ldK false 1 v0 H6 fun v21 =>
 genK roundT rec (.nilCheck (.l 0)) k0 (Env.put s43 v19 (Env.put s38 v15 (Env.put s25 v11 (Env.put s24 v10 (Env.put s9 v7 (Env.put s4 v0 (Env.put s6 v1 (Env.put s7 v2 (Env.put s8 (.i .i64 0) e))))))))) [v21, v20] H6 fun v22 H9 k2 =>
 faK 0 v22 fun v23 =>
 ldK false 1 v23 H9 fun v24 =>
 ldK false 1 v1 H9 fun v25 =>
 caK rec 29 [v24, (Env.get s1 e)] H9 fun v26 H10 =>
 boolK (and (again ⟨.load false 1 (.s s6), .none, []⟩ v25 (Env.put s43 v19 (Env.put s38 v15 (Env.put s25 v11 (Env.put s24 v10 (Env.put s9 v7 (Env.put s4 v0 (Env.put s6 v1 (Env.put s7 v2 (Env.put s8 (.i .i64 0) e))))))))) [v24, v23, v22, v21, v20] H10) (and (again ⟨.load false 1 (.s s4), .none, []⟩ v20 (Env.put s43 v19 (Env.put s38 v15 (Env.put s25 v11 (Env.put s24 v10 (Env.put s9 v7 (Env.put s4 v0 (Env.put s6 v1 (Env.put s7 v2 (Env.put s8 (.i .i64 0) e))))))))) [] H10) true)) (caK rec 214 [v20, (.i .i64 3), v26, (.i .i64 (-1)), v25] H10 fun v27 H11 =>
 K3 .ret (Env.put s8 v27 (Env.put s43 v19 (Env.put s38 v15 (Env.put s25 v11 (Env.put s24 v10 (Env.put s9 v7 (Env.put s4 v0 (Env.put s6 v1 (Env.put s7 v2 (Env.put s8 (.i .i64 0) e)))))))))) H11 k2))
 (K3 .norm (Env.put s43 v19 (Env.put s38 v15 (Env.put s25 v11 (Env.put s24 v10 (Env.put s9 v7 (Env.put s4 v0 (Env.put s6 v1 (Env.put s7 v2 (Env.put s8 (.i .i64 0) e))))))))) H6 k0)) (fun k3 e1 H12 =>
 ldK false 1 (Env.get s4 e1) H12 fun v16 =>
 faK 3 (Env.get s9 e1) fun v17 =>
 ldK false 1 v17 H12 fun v18 =>
 iaK .none 1 v18 (.i .i64 0) fun v19 =>
 ldK false 1 v19 H12 fun v28 =>
 ldK false 1 (Env.get s4 e1) H12 fun v29 =>
 ldK false 1 (Env.get s4 e1) H12 fun v30 =>
 genK roundT rec (.nilCheck (.l 0)) k3 e1 [v30, v29, v28, v19, v18, v17, v16] H12 fun v31 H13 k4 =>
 faK 0 v31 fun v32 =>
 ldK false 1 v32 H13 fun v33 =>
 faK 3 (Env.get s9 e1) fun v34 =>
 ldK false 1 v34 H13 fun v35 =>
 iaK .none 1 v35 (.i .i64 0) fun v36 =>
 ldK false 1 v36 H13 fun v37 =>
 ldK false 1 (Env.get s6 e1) H13 fun v38 =>
 caK rec 29 [v33, (Env.get s1 e1)] H13 fun v39 H14 =>
 boolK (and (again ⟨.load false 1 (.s s6), .none, []⟩ v38 e1 [v37, v36, v35, v34, v33, v32, v31, v30, v29, v28, v19, v18, v17, v16] H14) (and (again ⟨.load false 1 (.l 0), .none, []⟩ v37 e1 [v36, v35, v34, v33, v32, v31, v30, v29, v28, v19, v18, v17, v16] H14) (and (again ⟨.load false 1 (.l 0), .none, []⟩ v35 e1 [v34, v33, v32, v31, v30, v29, v28, v19, v18, v17, v16] H14) (and (again ⟨.load false 1 (.s s4), .none, []⟩ v29 e1 [v28, v19, v18, v17, v16] H14) (and (again ⟨.load false 1 (.l 0), .none, []⟩ v28 e1 [v19, v18, v17, v16] H14) (and (again ⟨.load false 1 (.l 0), .none, []⟩ v18 e1 [v17, v16] H14) (and (again ⟨.load false 1 (.s s4), .none, []⟩ v16 e1 [] H14) true))))))) (caK rec 214 [v29, (.i .i64 3), v39, v37, v38] H14 fun v40 H15 =>
 boolK (and (again ⟨.load false 1 (.l 0), .none, []⟩ v28 e1 [v19, v18, v17, v16] H15) (and (again ⟨.load false 1 (.l 0), .none, []⟩ v18 e1 [v17, v16] H15) (and (again ⟨.load false 1 (.s s4), .none, []⟩ v16 e1 [] H15) true))) (caK rec 215 [v16, v28, v40] H15 fun v41 H16 =>
 K1 .ret (Env.put s8 v41 e1) H16 k4))) K1)
 (binK .eql .no v10 (.i .i64 10) fun v42 =>
 condK v42 (ldK false 1 v0 H6 fun v43 =>
 ldK true 13 v7 H6 fun v44 =>
 ldK false 1 v1 H6 fun v45 =>
 caK rec 216 [v43, v44, v45] H6 fun v46 H17 =>
 K1 .ret (Env.put s8 v46 (Env.put s72 v42 (Env.put s38 v15 (Env.put s25 v11 (Env.put s24 v10 (Env.put s9 v7 (Env.put s4 v0 (Env.put s6 v1 (Env.put s7 v2 (Env.put s8 (.i .i64 0) e)))))))))) H17 k0)
 (binK .eql .no v10 (.i .i64 11) fun v43 =>
 condK v43 (ldK false 1 v0 H6 fun v47 =>
 faK 3 v7 fun v48 =>
 ldK false 1 v48 H6 fun v49 =>
 iaK .none 1 v49 (.i .i64 1) fun v50 =>
 ldK false 1 v50 H6 fun v51 =>
 ldK false 1 v1 H6 fun v52 =>
 ldK true 2 v2 H6 fun v53 =>
 ldK false 1 v1 H6 fun v54 =>
 caK rec 145 [v47, v51, v52, v53] H6 fun v55 H18 =>
 boolK (and (again ⟨.load false 1 (.s s6), .none, []⟩ v54 (Env.put s78 v43 (Env.put s72 v42 (Env.put s38 v15 (Env.put s25 v11 (Env.put s24 v10 (Env.put s9 v7 (Env.put s4 v0 (Env.put s6 v1 (Env.put s7 v2 (Env.put s8 (.i .i64 0) e)))))))))) [v53, v52, v51, v50, v49, v48, v47] H18) true) (seqK (fun K4 =>
 faK 3 v7 fun v56 =>
 ldK false 1 v56 H18 fun v57 =>
 lnK .sl H18 v57 fun v58 =>
 binK .gtr .no v58 (.i .i64 2) fun v59 =>
 condK v59 (ldK false 1 v0 H18 fun v60 =>
 faK 3 v7 fun v61 =>
 ldK false 1 v61 H18 fun v62 =>
 iaK .none 1 v62 (.i .i64 2) fun v63 =>
 ldK false 1 v63 H18 fun v64 =>
 ldK false 1 v1 H18 fun v65 =>
 ldK true 2 v2 H18 fun v66 =>
 caK rec 145 [v60, v64, v65, v66] H18 fun v67 H19 =>
 K4 .norm (Env.put s13 v67 (Env.put s92 v59 (Env.put s12 v55 (Env.put s13 v54 (Env.put s78 v43 (Env.put s72 v42 (Env.put s38 v15 (Env.put s25 v11 (Env.put s24 v10 (Env.put s9 v7 (Env.put s4 v0 (Env.put s6 v1 (Env.put s7 v2 (Env.put s8 (.i .i64 0) e)))))))))))))) H19 k0)
 (K4 .norm (Env.put s92 v59 (Env.put s12 v55 (Env.put s13 v54 (Env.put s78 v43 (Env.put s72 v42 (Env.put s38 v15 (Env.put s25 v11 (Env.put s24 v10 (Env.put s9 v7 (Env.put s4 v0 (Env.put s6 v1 (Env.put s7 v2 (Env.put s8 (.i .i64 0) e))))))))))))) H18 k0)) (fun k5 e2 H20 =>
 ldK false 1 (Env.get s4 e2) H20 fun v56 =>
 faK 3 (Env.get s9 e2) fun v57 =>
 ldK false 1 v57 H20 fun v58 =>
 iaK .none 1 v58 (.i .i64 0) fun v59 =>
 ldK false 1 v59 H20 fun v68 =>
 caK rec 217 [v56, v68, (Env.get s12 e2), (Env.get s13 e2)] H20 fun v69 H21 =>
 K1 .ret (Env.put s8 v69 e2) H21 k5) K1))
 (binK .eql .no v10 (.i .i64 12) fun v47 =>
 condK v47 (ldK false 1 v0 H6 fun v56 =>
 caK rec 214 [v56, (.i .i64 1), (.i .i64 (-1)), (Env.get s1 e), (.i .i64 (-1))] H6 fun v57 H22 =>
 ldK false 1 v0 H22 fun v60 =>
 faK 3 v7 fun v61 =>
 ldK false 1 v61 H22 fun v62 =>
 iaK .none 1 v62 (.i .i64 1) fun v63 =>
 ldK false 1 v63 H22 fun v64 =>
 ldK false 1 v1 H22 fun v65 =>
 bdK [(.i .i64 0), (.i .i64 0)] [(0, 1, v65), (1, 1, v57)] fun v66 =>
 caK rec 145 [v60, v64, v57, v66] H22 fun v67 H19 =>
 ldK false 1 v0 H19 fun v70 =>
 faK 3 v7 fun v71 =>
 ldK false 1 v71 H19 fun v72 =>
 iaK .none 1 v72 (.i .i64 0) fun v73 =>
 ldK false 1 v73 H19 fun v74 =>
 ldK false 1 v1 H19 fun v75 =>
 caK rec 217 [v70, v74, v67, v75] H19 fun v76 H23 =>
 ldK false 1 v0 H23 fun v77 =>
 genK roundT rec (.nilCheck (.l 0)) k0 (Env.put s16 v76 (Env.put s15 v67 (Env.put s14 v57 (Env.put s109 v47 (Env.put s78 v43 (Env.put s72 v42 (Env.put s38 v15 (Env.put s25 v11 (Env.put s24 v10 (Env.put s9 v7 (Env.put s4 v0 (Env.put s6 v1 (Env.put s7 v2 (Env.put s8 (.i .i64 0) e)))))))))))))) [v77] H23 fun v78 H24 k6 =>
 faK 1 v78 fun v79 =>
 ldK false 1 v79 H24 fun v80 =>
 iaK .none 5 v80 v57 fun v81 =>
 faK 3 v81 fun v82 =>
 stK 1 v76 v82 H24 fun H25 =>
 K1 .ret (Env.put s8 v57 (Env.put s16 v76 (Env.put s15 v67 (Env.put s14 v57 (Env.put s109 v47 (Env.put s78 v43 (Env.put s72 v42 (Env.put s38 v15 (Env.put s25 v11 (Env.put s24 v10 (Env.put s9 v7 (Env.put s4 v0 (Env.put s6 v1 (Env.put s7 v2 (Env.put s8 (.i .i64 0) e))))))))))))))) H25 k6)
 (binK .eql .no v10 (.i .i64 13) fun v56 =>
 condK v56 (faK 0 v2 fun v83 =>
 ldK false 1 v83 H6 fun v84 =>
 K1 .ret (Env.put s8 v84 (Env.put s141 v56 (Env.put s109 v47 (Env.put s78 v43 (Env.put s72 v42 (Env.put s38 v15 (Env.put s25 v11 (Env.put s24 v10 (Env.put s9 v7 (Env.put s4 v0 (Env.put s6 v1 (Env.put s7 v2 (Env.put s8 (.i .i64 0) e))))))))))))) H6 k0)
 (binK .eql .no v10 (.i .i64 14) fun v83 =>
 condK v83 (faK 1 v2 fun v77 =>
 ldK false 1 v77 H6 fun v78 =>
 K1 .ret (Env.put s8 v78 (Env.put s145 v83 (Env.put s141 v56 (Env.put s109 v47 (Env.put s78 v43 (Env.put s72 v42 (Env.put s38 v15 (Env.put s25 v11 (Env.put s24 v10 (Env.put s9 v7 (Env.put s4 v0 (Env.put s6 v1 (Env.put s7 v2 (Env.put s8 (.i .i64 0) e)))))))))))))) H6 k0)
 (binK .eql .no v10 (.i .i64 15) fun v77 =>
 condK v77 (ldK false 1 v0 H6 fun v85 =>
 caK rec 214 [v85, (.i .i64 8), (.i .i64 (-1)), (Env.get s1 e), (.i .i64 (-1))] H6 fun v86 H26 =>
 stK 1 v86 v1 H26 fun H27 =>
 K1 .norm (Env.put s149 v77 (Env.put s145 v83 (Env.put s141 v56 (Env.put s109 v47 (Env.put s78 v43 (Env.put s72 v42 (Env.put s38 v15 (Env.put s25 v11 (Env.put s24 v10 (Env.put s9 v7 (Env.put s4 v0 (Env.put s6 v1 (Env.put s7 v2 (Env.put s8 (.i .i64 0) e)))))))))))))) H27 k0)
 (K1 .norm (Env.put s149 v77 (Env.put s145 v83 (Env.put s141 v56 (Env.put s109 v47 (Env.put s78 v43 (Env.put s72 v42 (Env.put s38 v15 (Env.put s25 v11 (Env.put s24 v10 (Env.put s9 v7 (Env.put s4 v0 (Env.put s6 v1 (Env.put s7 v2 (Env.put s8 (.i .i64 0) e)))))))))))))) H6 k0))))))))) K0) (fun k7 e3 H28 =>
 ldK false 1 (Env.get s4 e3) H28 fun v9 =>
 faK 3 (Env.get s9 e3) fun v10 =>
 ldK false 1 v10 H28 fun v87 =>
 ldK false 1 (Env.get s6 e3) H28 fun v88 =>
 caK rec 218 [v9, v87, v88] H28 fun v89 H29 =>
 (endK recD [.slot s8]) .ret (Env.put s8 v89 e3) H29 k7) (endK recD [.slot s8])
theorem Tryz.cOk145 : (compFn Tryz.prog Tryz.f145).map (bodyK 145) = some Tryz.c145 := by kernel_rfl
def Tryz.c147 : FnK := fun rec recD args H => startK 3 args fun e =>
 seqK (fun K0 =>
 genK roundT rec (.nilCheck (.s s0)) (Ctl.mk [] .none) e [] H fun v0 H0 k0 =>
 faK 4 v0 fun v1 =>
 ldK false 1 v1 H0 fun v2 =>
 iaK .none 1 v2 (Env.get s1 e) fun v3 =>
 ldK false 1 v3 H0 fun v4 =>
 unK .not v4 fun v5 =>
 condK v5 (genK roundT rec (.nilCheck (.s s0)) k0 (Env.put s14 v5 e) [] H0 fun v6 H1 k1 =>
 faK 4 v6 fun v7 =>
 ldK false 1 v7 H1 fun v8 =>
 genK roundT rec (.nilCheck (.s s0)) k1 (Env.put s14 v5 e) [v8, v7, v6] H1 fun v9 H2 k2 =>
 faK 3 v9 fun v10 =>
 ldK false 1 v10 H2 fun v11 =>
 genK roundT rec (.nilCheck (.s s0)) k2 (Env.put s14 v5 e) [v11, v10, v9, v8, v7, v6] H2 fun v12 H3 k3 =>
 faK 5 v12 fun v13 =>
 ldK false 1 v13 H3 fun v14 =>
 iaK .none 1 v8 (Env.get s1 e) fun v15 =>
 stK 1 (.b true) v15 H3 fun H4 =>
 iaK .none 1 v11 (Env.get s1 e) fun v16 =>
 stK 1 (Env.get s2 e) v16 H4 fun H5 =>
 iaK .none 1 v14 (Env.get s1 e) fun v17 =>
 stK 1 (.b true) v17 H5 fun H6 =>
 K0 .ret (Env.put s14 v5 e) H6 k3)
 (K0 .norm (Env.put s14 v5 e) H0 k0)) (fun k4 e0 H7 =>
 genK roundT rec (.nilCheck (.s s0)) k4 e0 [] H7 fun v0 H0 k0 =>
 faK 3 v0 fun v1 =>
 ldK false 1 v1 H0 fun v2 =>
 iaK .none 1 v2 (Env.get s1 e0) fun v3 =>
 ldK false 1 v3 H0 fun v4 =>
 binK .and .no v4 (Env.get s2 e0) fun v5 =>
 genK roundT rec (.nilCheck (.s s0)) k0 (Env.put s6 v5 e0) [] H0 fun v18 H8 k5 =>
 faK 3 v18 fun v19 =>
 ldK false 1 v19 H8 fun v20 =>
 iaK .none 1 v20 (Env.get s1 e0) fun v21 =>
 ldK false 1 v21 H8 fun v22 =>
 binK .neq .no v5 v22 fun v23 =>
 condK v23 (genK roundT rec (.nilCheck (.s s0)) k5 (Env.put s51 v23 (Env.put s6 v5 e0)) [] H8 fun v24 H9 k6 =>
 faK 3 v24 fun v25 =>
 ldK false 1 v25 H9 fun v26 =>
 genK roundT rec (.nilCheck (.s s0)) k6 (Env.put s51 v23 (Env.put s6 v5 e0)) [v26, v25, v24] H9 fun v27 H10 k7 =>
 faK 5 v27 fun v28 =>
 ldK false 1 v28 H10 fun v29 =>
 iaK .none 1 v26 (Env.get s1 e0) fun v30 =>
 stK 1 v5 v30 H10 fun H11 =>
 iaK .none 1 v29 (Env.get s1 e0) fun v31 =>
 stK 1 (.b true) v31 H11 fun H12 =>
 (endK recD []) .norm (Env.put s51 v23 (Env.put s6 v5 e0)) H12 k7)
 ((endK recD []) .norm (Env.put s51 v23 (Env.put s6 v5 e0)) H8 k5)) (endK recD [])
theorem Tryz.cOk147 : (compFn Tryz.prog Tryz.f147).map (bodyK 147) = some Tryz.c147 := by kernel_rfl
def Tryz.c149 : FnK := fun rec recD args H => startK 1 args fun e =>
 seqK (fun K0 =>
 genK roundT rec (.nilCheck (.s s0)) (Ctl.mk [] .none) (Env.put s3 (.i .u64 0) (Env.put s2 (.i .u64 0) e)) [] H fun v0 H0 k0 =>
 faK 0 v0 fun v1 =>
 ldK false 1 v1 H0 fun v2 =>
 genK roundT rec (.nilCheck (.l 0)) k0 (Env.put s3 (.i .u64 0) (Env.put s2 (.i .u64 0) e)) [v2, v1, v0] H0 fun v3 H1 k1 =>
 faK 0 v3 fun v4 =>
 ldK false 1 v4 H1 fun v5 =>
 genK roundT rec (.nilCheck (.s s0)) k1 (Env.put s3 (.i .u64 0) (Env.put s2 (.i .u64 0) e)) [v5, v4, v3, v2, v1, v0] H1 fun v6 H2 k2 =>
 faK 0 v6 fun v7 =>
 ldK false 1 v7 H2 fun v8 =>
 genK roundT rec (.nilCheck (.l 0)) k2 (Env.put s3 (.i .u64 0) (Env.put s2 (.i .u64 0) e)) [v8, v7, v6, v5, v4, v3, v2, v1, v0] H2 fun v9 H3 k3 =>
 faK 1 v9 fun v10 =>
 ldK false 1 v10 H3 fun v11 =>
 caK rec 27 [v5] H3 fun v12 H4 =>
 boolK (and (again ⟨.load false 1 (.l 0), .none, []⟩ v11 (Env.put s3 (.i .u64 0) (Env.put s2 (.i .u64 0) e)) [v10, v9, v8, v7, v6, v5, v4, v3, v2, v1, v0] H4) (and (again ⟨.load false 1 (.l 0), .none, []⟩ v8 (Env.put s3 (.i .u64 0) (Env.put s2 (.i .u64 0) e)) [v7, v6, v5, v4, v3, v2, v1, v0] H4) true)) (iaK .none 8 v12 v11 fun v13 =>
 faK 7 v13 fun v14 =>
 ldK false 1 v14 H4 fun v15 =>
 caK rec 28 [v15] H4 fun v16 H5 =>
 lnK .sl H5 v16 fun v17 =>
 blockK 0 (fun K1 =>
 loopK (fun k4 e0 H6 K2 =>
 binK .lss .no (Env.get s26 e0) (Env.get s25 e0) fun v18 =>
 seqK (fun K3 =>
 condK v18 (K3 .norm (Env.put s27 v18 e0) H6 k4)
 (K3 (.exit 0) (Env.put s27 v18 e0) H6 k4)) (fun k5 e1 H7 =>
 seqK (fun K4 =>
 blockK 1 (fun K5 =>
 iaK .none 7 (Env.get s24 e1) (Env.get s26 e1) fun v19 =>
 ldK true 7 v19 H7 fun v20 =>
 newK 82 [(.s []), (.i .i64 0), (.s []), (.i .i64 0), (.s []), (.i .i64 0), (.b false)] H7 fun v21 H8 =>
 stK 7 v20 v21 H8 fun H9 =>
 faK 6 v21 fun v22 =>
 ldK false 1 v22 H9 fun v23 =>
 gdK v23 true (fun R0 => R0 (Env.get s0 e1) H9 k5) H9 k5 fun v24 H10 k6 =>
 gdK v23 true (fun R1 => genK roundT rec (.nilCheck (.l 0)) k6 (Env.put s5 v21 (Env.put s4 (Env.get s26 e1) e1)) [v24, v23, v22] H10 fun v25 H11 k7 =>
 R1 v25 H11 k7) H10 k6 fun v25 H11 k7 =>
 gdK v23 true (fun R2 => faK 0 v25 fun v26 =>
 R2 v26 H11 k7) H11 k7 fun v26 H12 k8 =>
 gdK v23 true (fun R3 => ldK false 1 v26 H12 fun v27 =>
 R3 v27 H12 k8) H12 k8 fun v27 H13 k9 =>
 gdK v23 true (fun R4 => genK roundT rec (.nilCheck (.l 0)) k9 (Env.put s5 v21 (Env.put s4 (Env.get s26 e1) e1)) [v27, v26, v25, v24, v23, v22] H13 fun v28 H14 k10 =>
 R4 v28 H14 k10) H13 k9 fun v28 H14 k10 =>
 gdK v23 true (fun R5 => faK 2 v28 fun v29 =>
 R5 v29 H14 k10) H14 k10 fun v29 H15 k11 =>
 gdK v23 true (fun R6 => ldK false 1 v29 H15 fun v30 =>
 R6 v30 H15 k11) H15 k11 fun v30 H16 k12 =>
 gdK v23 true (fun R7 => R7 (Env.get s26 e1) H16 k12) H16 k12 fun v31 H17 k13 =>
 gdK v23 true (fun R8 => genK roundT rec (.convInt .u64 (.l 0)) k13 (Env.put s5 v21 (Env.put s4 (Env.get s26 e1) e1)) [v31, v30, v29, v28, v27, v26, v25, v24, v23, v22] H17 fun v32 H18 k14 =>
 R8 v32 H18 k14) H17 k13 fun v32 H18 k14 =>
 gdK v23 true (fun R9 => binK .shr .no v30 v32 fun v33 =>
 R9 v33 H18 k14) H18 k14 fun v33 H19 k15 =>
 gdK v23 true (fun R10 => binK .and .no v33 (.i .u64 1) fun v34 =>
 R10 v34 H19 k15) H19 k15 fun v34 H20 k16 =>
 gdK v23 true (fun R11 => binK .eql .no v34 (.i .u64 1) fun v35 =>
 R11 v35 H20 k16) H20 k16 fun v35 H21 k17 =>
 pkK v23 v35 (.b false) fun v36 =>
 condK v36 (genK roundT rec (.convInt .u64 (.s s4)) k17 (Env.put s46 v36 (Env.put s5 v21 (Env.put s4 (Env.get s26 e1) e1))) [] H21 fun v37 H22 k18 =>
 binK .shl .no (.i .u64 1) v37 fun v38 =>
 binK .or .no (Env.get s3 e1) v38 fun v39 =>
 K5 .norm (Env.put s3 v39 (Env.put s46 v36 (Env.put s5 v21 (Env.put s4 (Env.get s26 e1) e1)))) H22 k18)
 (K5 .norm (Env.put s46 v36 (Env.put s5 v21 (Env.put s4 (Env.get s26 e1) e1))) H21 k17)) K4) (fun k19 e2 H23 =>
 binK .add .no (Env.get s26 e2) (.i .i64 1) fun v40 =>
 K2 .norm (Env.put s26 v40 e2) H23 k19) K2) K2) rounds K1 k3 (Env.put s24 v16 (Env.put s25 v17 (Env.put s26 (.i .i64 0) (Env.put s3 (.i .u64 0) (Env.put s2 (.i .u64 0) e))))) H5) K0)) (fun k20 e3 H24 =>
 (endK recD [.slot s2]) .ret (Env.put s2 (Env.get s3 e3) e3) H24 k20) (endK recD [.slot s2])
theorem Tryz.cOk149 : (compFn Tryz.prog Tryz.f149).map (bodyK 149) = some Tryz.c149 := by kernel_rfl
def Tryz.c150 : FnK := fun rec recD args H => startK 2 args fun e =>
 genK roundT rec (.nilCheck (.s s0)) (Ctl.mk [] .none) e [] H fun v0 H0 k0 =>
 faK 1 v0 fun v1 =>
 ldK false 1 v1 H0 fun v2 =>
 genK roundT rec (.nilCheck (.s s0)) k0 e [v2, v1, v0] H0 fun v3 H1 k1 =>
 faK 3 v3 fun v4 =>
 ldK false 1 v4 H1 fun v5 =>
 iaK .none 1 v5 (Env.get s1 e) fun v6 =>
 ldK false 1 v6 H1 fun v7 =>
 newK 282 [(.i .i64 0), (.i .i64 0), (.i .i64 0), (.i .i64 0), (.i .i64 0)] H1 fun v8 H2 =>
 caK rec 221 [v2, (Env.get s1 e)] H2 fun v9 H3 =>
 boolK (and (again ⟨.load false 1 (.l 0), .none, []⟩ v7 e [v6, v5, v4, v3, v2, v1, v0] H3) (and (again ⟨.load false 1 (.l 0), .none, []⟩ v5 e [v4, v3, v2, v1, v0] H3) true)) (stK 5 v9 v8 H3 fun H4 =>
 boolK (and (again ⟨.load false 1 (.l 0), .none, []⟩ v7 e [v6, v5, v4, v3, v2, v1, v0] H4) (and (again ⟨.load false 1 (.l 0), .none, []⟩ v5 e [v4, v3, v2, v1, v0] H4) true)) (seqK (fun K0 =>
 faK 0 v8 fun v10 =>
 ldK false 1 v10 H4 fun v11 =>
 blockK 0 (fun K1 =>
 binK .eql .no v11 (.i .i64 3) fun v12 =>
 condK v12 (faK 1 v8 fun v13 =>
 ldK false 1 v13 H4 fun v14 =>
 caK rec 222 [v14] H4 fun v15 H5 =>
 binK .andNot .no v7 v15 fun v16 =>
 ldK true 5 v8 H5 fun v17 =>
 genK roundT rec (.nilCheck (.s s0)) k1 (Env.put s5 v16 (Env.put s23 v12 (Env.put s22 v11 (Env.put s4 v8 (Env.put s5 v7 e))))) [v17] H5 fun v18 H6 k2 =>
 faK 3 v18 fun v19 =>
 ldK false 1 v19 H6 fun v20 =>
 iaK .none 1 v20 (Env.get s1 e) fun v21 =>
 ldK false 1 v21 H6 fun v22 =>
 caK rec 223 [(Env.get s0 e), v17, v22] H6 fun v23 H7 =>
 condK v23 (faK 1 v8 fun v24 =>
 ldK false 1 v24 H7 fun v25 =>
 caK rec 222 [v25] H7 fun v26 H8 =>
 binK .or .no v16 v26 fun v27 =>
 K1 .norm (Env.put s5 v27 (Env.put s39 v23 (Env.put s5 v16 (Env.put s23 v12 (Env.put s22 v11 (Env.put s4 v8 (Env.put s5 v7 e))))))) H8 k2)
 (K1 .norm (Env.put s39 v23 (Env.put s5 v16 (Env.put s23 v12 (Env.put s22 v11 (Env.put s4 v8 (Env.put s5 v7 e)))))) H7 k2))
 (binK .eql .no v11 (.i .i64 4) fun v13 =>
 condK v13 (faK 3 v8 fun v28 =>
 ldK false 1 v28 H4 fun v29 =>
 faK 1 v8 fun v30 =>
 ldK false 1 v30 H4 fun v31 =>
 caK rec 222 [v31] H4 fun v32 H9 =>
 boolK (and (again ⟨.load false 1 (.l 0), .none, []⟩ v29 (Env.put s45 v13 (Env.put s23 v12 (Env.put s22 v11 (Env.put s4 v8 (Env.put s5 v7 e))))) [v28] H9) true) (binK .or .no v7 v32 fun v33 =>
 caK rec 147 [(Env.get s0 e), v29, v33] H9 fun v34 H10 =>
 faK 4 v8 fun v35 =>
 ldK false 1 v35 H10 fun v36 =>
 caK rec 147 [(Env.get s0 e), v36, v7] H10 fun v37 H11 =>
 K1 .ret (Env.put s45 v13 (Env.put s23 v12 (Env.put s22 v11 (Env.put s4 v8 (Env.put s5 v7 e))))) H11 k1))
 (binK .eql .no v11 (.i .i64 7) fun v28 =>
 condK v28 (faK 1 v8 fun v35 =>
 ldK false 1 v35 H4 fun v36 =>
 caK rec 222 [v36] H4 fun v37 H11 =>
 binK .or .no v7 v37 fun v38 =>
 K1 .norm (Env.put s5 v38 (Env.put s61 v28 (Env.put s45 v13 (Env.put s23 v12 (Env.put s22 v11 (Env.put s4 v8 (Env.put s5 v7 e))))))) H11 k1)
 (binK .eql .no v11 (.i .i64 6) fun v39 =>
 condK v39 (genK roundT rec (.nilCheck (.s s0)) k1 (Env.put s68 v39 (Env.put s61 v28 (Env.put s45 v13 (Env.put s23 v12 (Env.put s22 v11 (Env.put s4 v8 (Env.put s5 v7 e))))))) [] H4 fun v40 H12 k3 =>
 faK 2 v40 fun v41 =>
 ldK false 1 v41 H12 fun v42 =>
 condK v42 (faK 1 v8 fun v43 =>
 ldK false 1 v43 H12 fun v44 =>
 caK rec 222 [v44] H12 fun v45 H13 =>
 binK .or .no v7 v45 fun v46 =>
 K1 .norm (Env.put s5 v46 (Env.put s73 v42 (Env.put s68 v39 (Env.put s61 v28 (Env.put s45 v13 (Env.put s23 v12 (Env.put s22 v11 (Env.put s4 v8 (Env.put s5 v7 e))))))))) H13 k3)
 (K1 .norm (Env.put s73 v42 (Env.put s68 v39 (Env.put s61 v28 (Env.put s45 v13 (Env.put s23 v12 (Env.put s22 v11 (Env.put s4 v8 (Env.put s5 v7 e)))))))) H12 k3))
 (K1 .norm (Env.put s68 v39 (Env.put s61 v28 (Env.put s45 v13 (Env.put s23 v12 (Env.put s22 v11 (Env.put s4 v8 (Env.put s5 v7 e))))))) H4 k1))))) K0) (fun k4 e0 H14 =>
 genK roundT rec (.nilCheck (.s s0)) k4 e0 [] H14 fun v10 H15 k5 =>
 faK 1 v10 fun v11 =>
 ldK false 1 v11 H15 fun v47 =>
 caK rec 219 [v47, (Env.get s1 e0)] H15 fun v48 H16 =>
 lnK .sl H16 v48 fun v49 =>
 blockK 1 (fun K1 =>
 loopK (fun k6 e1 H17 K2 =>
 binK .lss .no (Env.get s86 e1) (Env.get s85 e1) fun v50 =>
 seqK (fun K3 =>
 condK v50 (K3 .norm (Env.put s87 v50 e1) H17 k6)
 (K3 (.exit 1) (Env.put s87 v50 e1) H17 k6)) (fun k7 e2 H18 =>
 seqK (fun K4 =>
 blockK 2 (fun K5 =>
 iaK .none 1 (Env.get s84 e2) (Env.get s86 e2) fun v28 =>
 ldK false 1 v28 H18 fun v29 =>
 caK rec 147 [(Env.get s0 e2), v29, (Env.get s5 e2)] H18 fun v24 H19 =>
 K5 .norm (Env.put s7 v29 e2) H19 k7) K4) (fun k8 e3 H20 =>
 binK .add .no (Env.get s86 e3) (.i .i64 1) fun v51 =>
 K2 .norm (Env.put s86 v51 e3) H20 k8) K2) K2) rounds K1 k5 (Env.put s84 v48 (Env.put s85 v49 (Env.put s86 (.i .i64 0) e0))) H16) (endK recD [])) (endK recD [])))
theorem Tryz.cOk150 : (compFn Tryz.prog Tryz.f150).map (bodyK 150) = some Tryz.c150 := by kernel_rfl
def Tryz.c152 : FnK := fun rec recD args H => startK 2 args fun e =>
 newK 202 [(.i .i64 0), (.s []), (.i .i64 0), (.s []), .sl0] H fun v0 H0 =>
 genK roundT rec (.nilCheck (.s s0)) (Ctl.mk [] .none) (Env.put s4 v0 e) [] H0 fun v1 H1 k0 =>
 faK 0 v1 fun v2 =>
 ldK false 1 v2 H1 fun v3 =>
 genK roundT rec (.nilCheck (.s s0)) k0 (Env.put s4 v0 e) [v3, v2, v1] H1 fun v4 H2 k1 =>
 faK 2 v4 fun v5 =>
 ldK false 1 v5 H2 fun v6 =>
 genK roundT rec (.nilCheck (.s s0)) k1 (Env.put s4 v0 e) [v6, v5, v4, v3, v2, v1] H2 fun v7 H3 k2 =>
 faK 0 v7 fun v8 =>
 ldK false 1 v8 H3 fun v9 =>
 newK 82 [(.s []), (.i .i64 0), (.s []), (.i .i64 0), (.s []), (.i .i64 0), (.b false)] H3 fun v10 H4 =>
 caK rec 27 [v3] H4 fun v11 H5 =>
 boolK (and (again ⟨.load false 1 (.l 0), .none, []⟩ v9 (Env.put s4 v0 e) [v8, v7, v6, v5, v4, v3, v2, v1] H5) (and (again ⟨.load false 1 (.l 0), .none, []⟩ v6 (Env.put s4 v0 e) [v5, v4, v3, v2, v1] H5) true)) (iaK .none 8 v11 v6 fun v12 =>
 faK 7 v12 fun v13 =>
 ldK false 1 v13 H5 fun v14 =>
 caK rec 28 [v14] H5 fun v15 H6 =>
 boolK (and (again ⟨.load false 1 (.l 0), .none, []⟩ v9 (Env.put s4 v0 e) [v8, v7, v6, v5, v4, v3, v2, v1] H6) true) (caK rec 29 [v9, (Env.get s1 e)] H6 fun v16 H7 =>
 iaK .none 7 v15 v16 fun v17 =>
 ldK true 7 v17 H7 fun v18 =>
 stK 7 v18 v10 H7 fun H8 =>
 faK 5 v10 fun v19 =>
 ldK false 1 v19 H8 fun v20 =>
 faK 1 v10 fun v21 =>
 ldK true 4 v21 H8 fun v22 =>
 caK rec 92 [v20, v22] H8 fun v23 H9 =>
 stK 5 v23 v0 H9 fun H10 =>
 (endK recD [.cell true 5 s4]) .ret (Env.put s5 v10 (Env.put s4 v0 e)) H10 k2))
theorem Tryz.cOk152 : (compFn Tryz.prog Tryz.f152).map (bodyK 152) = some Tryz.c152 := by kernel_rfl
def Tryz.c156 : FnK := fun rec recD args H => startK 2 args fun e =>
 newK 74 [(.i .i64 0), (.s []), (.i .i64 0), (.s [])] H fun v0 H0 =>
 seqK (fun K0 =>
 binK .lss .no (Env.get s1 e) (.i .i64 0) fun v1 =>
 gdK v1 false (fun R0 => R0 (Env.get s1 e) H0 (Ctl.mk [] .none)) H0 (Ctl.mk [] .none) fun v2 H1 k0 =>
 gdK v1 false (fun R1 => R1 (Env.get s0 e) H1 k0) H1 k0 fun v3 H2 k1 =>
 gdK v1 false (fun R2 => genK roundT rec (.nilCheck (.l 0)) k1 (Env.put s4 v0 e) [v3, v2, v1] H2 fun v4 H3 k2 =>
 R2 v4 H3 k2) H2 k1 fun v4 H3 k2 =>
 gdK v1 false (fun R3 => faK 2 v4 fun v5 =>
 R3 v5 H3 k2) H3 k2 fun v5 H4 k3 =>
 gdK v1 false (fun R4 => ldK false 1 v5 H4 fun v6 =>
 R4 v6 H4 k3) H4 k3 fun v6 H5 k4 =>
 gdK v1 false (fun R5 => lnK .sl H5 v6 fun v7 =>
 R5 v7 H5 k4) H5 k4 fun v7 H6 k5 =>
 gdK v1 false (fun R6 => binK .geq .no v2 v7 fun v8 =>
 R6 v8 H6 k5) H6 k5 fun v8 H7 k6 =>
 pkK v1 (.b true) v8 fun v9 =>
 condK v9 (bdK [(.i .i64 0), (.s []), (.i .i64 0), (.s [])] [] fun v10 =>
 stK 4 v10 v0 H7 fun H8 =>
 K0 .ret (Env.put s15 v9 (Env.put s4 v0 e)) H8 k6)
 (K0 .norm (Env.put s15 v9 (Env.put s4 v0 e)) H7 k6)) (fun k7 e0 H9 =>
 genK roundT rec (.nilCheck (.s s0)) k7 e0 [] H9 fun v1 H10 k8 =>
 faK 2 v1 fun v2 =>
 ldK false 1 v2 H10 fun v3 =>
 iaK .none 4 v3 (Env.get s1 e0) fun v4 =>
 ldK true 4 v4 H10 fun v5 =>
 stK 4 v5 (Env.get s4 e0) H10 fun H5 =>
 (endK recD [.cell true 4 s4]) .ret e0 H5 k8) (endK recD [.cell true 4 s4])
theorem Tryz.cOk156 : (compFn Tryz.prog Tryz.f156).map (bodyK 156) = some Tryz.c156 := by kernel_rfl
def Tryz.c161 : FnK := fun rec recD args H => startK 3 args fun e =>
 bxK 76 (Env.get s2 e) H fun v0 H0 =>
 newK 202 [(.i .i64 0), (.s []), (.i .i64 0), (.s []), .sl0] H0 fun v1 H1 =>
 seqK (fun K0 =>
 faK 0 v0 fun v2 =>
 ldK false 1 v2 H1 fun v3 =>
 blockK 0 (fun K1 =>
 binK .eql .no v3 (.i .i64 39) fun v4 =>
 condK v4 (faK 3 v0 fun v5 =>
 ldK false 1 v5 H1 fun v6 =>
 iaK .none 1 v6 (.i .i64 0) fun v7 =>
 ldK false 1 v7 H1 fun v8 =>
 caK rec 227 [(Env.get s0 e), v8] H1 fun v9 H2 =>
 caK rec 154 [v9, (.i .u8 63)] H2 fun v10 H3 =>
 stK 5 v10 v1 H3 fun H4 =>
 K1 .ret (Env.put s12 v4 (Env.put s11 v3 (Env.put s5 v0 (Env.put s6 v1 e)))) H4 (Ctl.mk [] .none))
 (binK .eql .no v3 (.i .i64 40) fun v5 =>
 condK v5 (faK 3 v0 fun v11 =>
 ldK false 1 v11 H1 fun v12 =>
 iaK .none 1 v12 (.i .i64 0) fun v13 =>
 ldK false 1 v13 H1 fun v14 =>
 caK rec 227 [(Env.get s0 e), v14] H1 fun v15 H5 =>
 caK rec 154 [v15, (.i .u8 32)] H5 fun v16 H6 =>
 stK 5 v16 v1 H6 fun H7 =>
 K1 .ret (Env.put s21 v5 (Env.put s12 v4 (Env.put s11 v3 (Env.put s5 v0 (Env.put s6 v1 e))))) H7 (Ctl.mk [] .none))
 (binK .eql .no v3 (.i .i64 41) fun v11 =>
 condK v11 (faK 3 v0 fun v17 =>
 ldK false 1 v17 H1 fun v18 =>
 iaK .none 1 v18 (.i .i64 0) fun v19 =>
 ldK false 1 v19 H1 fun v20 =>
 caK rec 158 [(Env.get s0 e), v20] H1 fun v21 H8 =>
 caK rec 154 [v21, (.i .u8 111)] H8 fun v22 H9 =>
 stK 5 v22 v1 H9 fun H10 =>
 K1 .ret (Env.put s30 v11 (Env.put s21 v5 (Env.put s12 v4 (Env.put s11 v3 (Env.put s5 v0 (Env.put s6 v1 e)))))) H10 (Ctl.mk [] .none))
 (seqK (fun K2 =>
 binK .eql .no v3 (.i .i64 43) fun v23 =>
 condK v23 (K2 .norm (Env.put s39 v23 (Env.put s30 v11 (Env.put s21 v5 (Env.put s12 v4 (Env.put s11 v3 (Env.put s5 v0 (Env.put s6 v1 e))))))) H1 (Ctl.mk [] .none))
 (binK .eql .no v3 (.i .i64 44) fun v24 =>
 condK v24 (K2 .norm (Env.put s39 v24 (Env.put s39 v23 (Env.put s30 v11 (Env.put s21 v5 (Env.put s12 v4 (Env.put s11 v3 (Env.put s5 v0 (Env.put s6 v1 e)))))))) H1 (Ctl.mk [] .none))
 (binK .eql .no v3 (.i .i64 45) fun v25 =>
 K2 .norm (Env.put s39 v25 (Env.put s39 v24 (Env.put s39 v23 (Env.put s30 v11 (Env.put s21 v5 (Env.put s12 v4 (Env.put s11 v3 (Env.put s5 v0 (Env.put s6 v1 e))))))))) H1 (Ctl.mk [] .none)))) (fun k0 e0 H11 =>
 condK (Env.get s39 e0) (faK 3 (Env.get s5 e0) fun v26 =>
 ldK false 1 v26 H11 fun v27 =>
 iaK .none 1 v27 (.i .i64 0) fun v28 =>
 ldK false 1 v28 H11 fun v29 =>
 newK 202 [(.i .i64 0), (.s []), (.i .i64 0), (.s []), .sl0] H11 fun v30 H12 =>
 caK rec 96 [(Env.get s0 e0), v29] H12 fun v31 H13 =>
 stK 5 v31 v30 H13 fun H14 =>
 seqK (fun K3 =>
 blockK 1 (fun K4 =>
 faK 0 v30 fun v25 =>
 ldK true 4 v25 H14 fun v32 =>
 caK rec 31 [v32] H14 fun v33 H15 =>
 binK .neq .no v33 (.i .u8 111) fun v34 =>
 condK v34 (faK 3 (Env.get s5 e0) fun v35 =>
 ldK false 1 v35 H15 fun v36 =>
 iaK .none 1 v36 (.i .i64 0) fun v37 =>
 ldK false 1 v37 H15 fun v38 =>
 ldK true 5 v30 H15 fun v39 =>
 caK rec 143 [v39] H15 fun v40 H16 =>
 boolK (and (again ⟨.load false 1 (.l 0), .none, []⟩ v38 (Env.put s49 v34 (Env.put s7 v30 e0)) [v37, v36, v35] H16) (and (again ⟨.load false 1 (.l 0), .none, []⟩ v36 (Env.put s49 v34 (Env.put s7 v30 e0)) [v35] H16) true)) (caK rec 86 [] H16 fun v41 H17 =>
 boolK (and (again ⟨.load false 1 (.l 0), .none, []⟩ v38 (Env.put s49 v34 (Env.put s7 v30 e0)) [v37, v36, v35] H17) (and (again ⟨.load false 1 (.l 0), .none, []⟩ v36 (Env.put s49 v34 (Env.put s7 v30 e0)) [v35] H17) true)) (caK rec 85 [(Env.get s0 e0), (.i .i64 7), v38, v40, v41] H17 fun v42 H18 =>
 K4 .norm (Env.put s49 v34 (Env.put s7 v30 e0)) H18 k0)))
 (faK 0 (Env.get s5 e0) fun v43 =>
 ldK false 1 v43 H15 fun v44 =>
 binK .eql .no v44 (.i .i64 45) fun v45 =>
 gdK v45 true (fun R0 => R0 (Env.get s0 e0) H15 k0) H15 k0 fun v46 H19 k1 =>
 gdK v45 true (fun R1 => genK roundT rec (.nilCheck (.l 0)) k1 (Env.put s49 v34 (Env.put s7 v30 e0)) [v46, v45, v44, v43] H19 fun v47 H20 k2 =>
 R1 v47 H20 k2) H19 k1 fun v47 H20 k2 =>
 gdK v45 true (fun R2 => faK 1 v47 fun v48 =>
 R2 v48 H20 k2) H20 k2 fun v48 H21 k3 =>
 gdK v45 true (fun R3 => ldK false 1 v48 H21 fun v49 =>
 R3 v49 H21 k3) H21 k3 fun v49 H22 k4 =>
 gdK v45 true (fun R4 => faK 3 (Env.get s5 e0) fun v50 =>
 R4 v50 H22 k4) H22 k4 fun v50 H23 k5 =>
 gdK v45 true (fun R5 => ldK false 1 v50 H23 fun v51 =>
 R5 v51 H23 k5) H23 k5 fun v51 H24 k6 =>
 gdK v45 true (fun R6 => iaK .none 1 v51 (.i .i64 0) fun v52 =>
 R6 v52 H24 k6) H24 k6 fun v52 H25 k7 =>
 gdK v45 true (fun R7 => ldK false 1 v52 H25 fun v53 =>
 R7 v53 H25 k7) H25 k7 fun v53 H26 k8 =>
 gdK v45 true (fun R8 => caK rec 153 [v49, v53] H26 fun v54 H27 =>
 R8 v54 H27 k8) H26 k8 fun v54 H27 k9 =>
 gdK v45 true (fun R9 => unK .not v54 fun v55 =>
 R9 v55 H27 k9) H27 k9 fun v55 H28 k10 =>
 pkK v45 v55 (.b false) fun v56 =>
 condK v56 (faK 3 (Env.get s5 e0) fun v57 =>
 ldK false 1 v57 H28 fun v58 =>
 iaK .none 1 v58 (.i .i64 0) fun v59 =>
 ldK false 1 v59 H28 fun v60 =>
 ldK true 5 v30 H28 fun v61 =>
 caK rec 143 [v61] H28 fun v62 H29 =>
 boolK (and (again ⟨.load false 1 (.l 0), .none, []⟩ v60 (Env.put s63 v56 (Env.put s49 v34 (Env.put s7 v30 e0))) [v59, v58, v57] H29) (and (again ⟨.load false 1 (.l 0), .none, []⟩ v58 (Env.put s63 v56 (Env.put s49 v34 (Env.put s7 v30 e0))) [v57] H29) true)) (caK rec 86 [] H29 fun v63 H30 =>
 boolK (and (again ⟨.load false 1 (.l 0), .none, []⟩ v60 (Env.put s63 v56 (Env.put s49 v34 (Env.put s7 v30 e0))) [v59, v58, v57] H30) (and (again ⟨.load false 1 (.l 0), .none, []⟩ v58 (Env.put s63 v56 (Env.put s49 v34 (Env.put s7 v30 e0))) [v57] H30) true)) (caK rec 85 [(Env.get s0 e0), (.i .i64 3), v60, v62, v63] H30 fun v64 H31 =>
 K4 .norm (Env.put s63 v56 (Env.put s49 v34 (Env.put s7 v30 e0))) H31 k10)))
 (K4 .norm (Env.put s63 v56 (Env.put s49 v34 (Env.put s7 v30 e0))) H28 k10))) K3) (fun k11 e1 H32 =>
 seqK (fun K4 =>
 faK 0 (Env.get s5 e1) fun v25 =>
 ldK false 1 v25 H32 fun v32 =>
 binK .eql .no v32 (.i .i64 45) fun v33 =>
 condK v33 (ldK true 5 (Env.get s7 e1) H32 fun v43 =>
 caK rec 154 [v43, (.i .u8 32)] H32 fun v44 H33 =>
 stK 5 v44 (Env.get s6 e1) H33 fun H34 =>
 K4 .ret (Env.put s90 v33 e1) H34 k11)
 (K4 .norm (Env.put s90 v33 e1) H32 k11)) (fun k12 e2 H35 =>
 genK roundT rec (.nilCheck (.s s0)) k12 e2 [] H35 fun v25 H36 k13 =>
 faK 0 v25 fun v32 =>
 ldK false 1 v32 H36 fun v33 =>
 caK rec 156 [v33, (Env.get s1 e2)] H36 fun v34 H37 =>
 caK rec 155 [v34] H37 fun v65 H38 =>
 stK 5 v65 (Env.get s6 e2) H38 fun H39 =>
 K1 .ret e2 H39 k13) K1) K1)
 (K1 .norm e0 H11 k0)) K1)))) K0) (fun k14 e3 H40 =>
 seqK (fun K5 =>
 faK 3 (Env.get s5 e3) fun v66 =>
 ldK false 1 v66 H40 fun v67 =>
 lnK .sl H40 v67 fun v68 =>
 blockK 2 (fun K6 =>
 loopK (fun k15 e4 H41 K7 =>
 binK .lss .no (Env.get s103 e4) (Env.get s102 e4) fun v69 =>
 seqK (fun K8 =>
 condK v69 (K8 .norm (Env.put s104 v69 e4) H41 k15)
 (K8 (.exit 2) (Env.put s104 v69 e4) H41 k15)) (fun k16 e5 H42 =>
 seqK (fun K9 =>
 blockK 3 (fun K10 =>
 iaK .none 1 (Env.get s101 e5) (Env.get s103 e5) fun v70 =>
 ldK false 1 v70 H42 fun v71 =>
 caK rec 96 [(Env.get s0 e5), v71] H42 fun v72 H43 =>
 K10 .norm (Env.put s9 v71 e5) H43 k16) K9) (fun k17 e6 H44 =>
 binK .add .no (Env.get s103 e6) (.i .i64 1) fun v73 =>
 K7 .norm (Env.put s103 v73 e6) H44 k17) K7) K7) rounds K6 k14 (Env.put s101 v67 (Env.put s102 v68 (Env.put s103 (.i .i64 0) e3))) H40) K5) (fun k18 e7 H45 =>
 genK roundT rec (.nilCheck (.s s0)) k18 e7 [] H45 fun v66 H46 k19 =>
 faK 0 v66 fun v67 =>
 ldK false 1 v67 H46 fun v68 =>
 caK rec 156 [v68, (Env.get s1 e7)] H46 fun v74 H47 =>
 caK rec 155 [v74] H47 fun v75 H48 =>
 stK 5 v75 (Env.get s6 e7) H48 fun H49 =>
 (endK recD [.cell true 5 s6]) .ret e7 H49 k19) (endK recD [.cell true 5 s6])) (endK recD [.cell true 5 s6])
theorem Tryz.cOk161 : (compFn Tryz.prog Tryz.f161).map (bodyK 161) = some Tryz.c161 := by kernel_rfl
def Tryz.c163 : FnK := fun rec recD args H => startK 4 args fun e =>
 binK .add .no (Env.get s1 e) (.i .i64 1) fun v0 =>
 blockK 0 (fun K0 =>
 loopK (fun k0 e0 H0 K1 =>
 seqK (fun K2 =>
 binK .lss .no (Env.get s8 e0) (Env.get s2 e0) fun v1 =>
 condK v1 (K2 .norm (Env.put s14 v1 e0) H0 k0)
 (K2 (.exit 0) (Env.put s14 v1 e0) H0 k0)) (fun k1 e1 H1 =>
 seqK (fun K3 =>
 blockK 1 (fun K4 =>
 blockK 2 (fun K5 =>
 loopK (fun k2 e2 H2 K6 =>
 seqK (fun K7 =>
 binK .gtr .no (Env.get s9 e2) (Env.get s1 e2) fun v2 =>
 gdK v2 true (fun R0 => R0 (Env.get s3 e2) H2 k2) H2 k2 fun v3 H3 k3 =>
 gdK v2 true (fun R1 => R1 (Env.get s0 e2) H3 k3) H3 k3 fun v4 H4 k4 =>
 gdK v2 true (fun R2 => R2 (Env.get s9 e2) H4 k4) H4 k4 fun v5 H5 k5 =>
 gdK v2 true (fun R3 => iaK .none 6 v4 v5 fun v6 =>
 R3 v6 H5 k5) H5 k5 fun v6 H6 k6 =>
 gdK v2 true (fun R4 => ldK true 6 v6 H6 fun v7 =>
 R4 v7 H6 k6) H6 k6 fun v7 H7 k7 =>
 gdK v2 true (fun R5 => R5 (Env.get s0 e2) H7 k7) H7 k7 fun v8 H8 k8 =>
 gdK v2 true (fun R6 => R6 (Env.get s9 e2) H8 k8) H8 k8 fun v9 H9 k9 =>
 gdK v2 true (fun R7 => binK .sub .no v9 (.i .i64 1) fun v10 =>
 R7 v10 H9 k9) H9 k9 fun v10 H10 k10 =>
 gdK v2 true (fun R8 => iaK .none 6 v8 v10 fun v11 =>
 R8 v11 H10 k10) H10 k10 fun v11 H11 k11 =>
 gdK v2 true (fun R9 => ldK true 6 v11 H11 fun v12 =>
 R9 v12 H11 k11) H11 k11 fun v12 H12 k12 =>
 gdK v2 true (fun R10 => genK roundT rec (.callV (.l 9) [(.l 5), (.l 0)]) k12 e2 [v12, v11, v10, v9, v8, v7, v6, v5, v4, v3, v2] H12 fun v13 H13 k13 =>
 R10 v13 H13 k13) H12 k12 fun v13 H13 k13 =>
 gdK v2 true (fun R11 => binK .lss .no v13 (.i .i64 0) fun v14 =>
 R11 v14 H13 k13) H13 k13 fun v14 H14 k14 =>
 pkK v2 v14 (.b false) fun v15 =>
 condK v15 (K7 .norm (Env.put s34 v15 e2) H14 k14)
 (K7 (.exit 2) (Env.put s34 v15 e2) H14 k14)) (fun k15 e3 H15 =>
 seqK (fun K8 =>
 blockK 3 (fun K9 =>
 binK .sub .no (Env.get s9 e3) (.i .i64 1) fun v16 =>
 binK .sub .no (Env.get s9 e3) (.i .i64 1) fun v17 =>
 iaK .none 6 (Env.get s0 e3) v17 fun v18 =>
 ldK true 6 v18 H15 fun v19 =>
 iaK .none 6 (Env.get s0 e3) (Env.get s9 e3) fun v20 =>
 ldK true 6 v20 H15 fun v21 =>
 iaK .none 6 (Env.get s0 e3) (Env.get s9 e3) fun v22 =>
 stK 6 v19 v22 H15 fun H16 =>
 iaK .none 6 (Env.get s0 e3) v16 fun v23 =>
 stK 6 v21 v23 H16 fun H17 =>
 K9 .norm e3 H17 k15) K8) (fun k16 e4 H18 =>
 binK .sub .no (Env.get s9 e4) (.i .i64 1) fun v2 =>
 K6 .norm (Env.put s9 v2 e4) H18 k16) K6) K6) rounds K5 k1 (Env.put s9 (Env.get s8 e1) e1) H1) K4) K3) (fun k17 e5 H19 =>
 binK .add .no (Env.get s8 e5) (.i .i64 1) fun v1 =>
 K1 .norm (Env.put s8 v1 e5) H19 k17) K1) K1) rounds K0 (Ctl.mk [] .none) (Env.put s8 v0 e) H) (endK recD [])
theorem Tryz.cOk163 : (compFn Tryz.prog Tryz.f163).map (bodyK 163) = some Tryz.c163 := by kernel_rfl
def Tryz.c175 : FnK := fun rec recD args H => startK 2 args fun e =>
 seqK (fun K0 =>
 caK rec 178 [(Env.get s0 e), (Env.get s1 e)] H fun v0 H0 =>
 unK .not v0 fun v1 =>
 condK v1 (newK 234 [(.i .i64 0), (.i .i64 0), (.i .i64 0)] H0 fun v2 H1 =>
 caK rec 111 [(Env.get s0 e)] H1 fun v3 H2 =>
 exK 0 v3 fun v4 =>
 exK 1 v3 fun v5 =>
 stK 3 v4 v2 H2 fun H3 =>
 faK 1 v2 fun v6 =>
 faK 0 v6 fun v7 =>
 ldK false 1 v7 H3 fun v8 =>
 caK rec 174 [(.i .i64 80), v8] H3 fun v9 H4 =>
 K0 .norm (Env.put s5 v2 (Env.put s10 v1 (Env.put s4 (.i .i64 0) e))) H4 (Ctl.mk [] .none))
 (K0 .norm (Env.put s10 v1 (Env.put s4 (.i .i64 0) e)) H0 (Ctl.mk [] .none))) (fun k0 e0 H5 =>
 caK rec 231 [(Env.get s0 e0)] H5 fun v0 H0 =>
 (endK recD [.slot s4]) .ret (Env.put s4 v0 e0) H0 k0) (endK recD [.slot s4])
theorem Tryz.cOk175 : (compFn Tryz.prog Tryz.f175).map (bodyK 175) = some Tryz.c175 := by kernel_rfl
def Tryz.c177 : FnK := fun rec recD args H => startK 2 args fun e =>
 seqK (fun K0 =>
 caK rec 178 [(Env.get s0 e), (Env.get s1 e)] H fun v0 H0 =>
 unK .not v0 fun v1 =>
 condK v1 (K0 .ret (Env.put s4 (.b false) (Env.put s8 v1 (Env.put s4 (.b false) e))) H0 (Ctl.mk [] .none))
 (K0 .norm (Env.put s8 v1 (Env.put s4 (.b false) e)) H0 (Ctl.mk [] .none))) (fun k0 e0 H1 =>
 caK rec 231 [(Env.get s0 e0)] H1 fun v0 H0 =>
 (endK recD [.slot s4]) .ret (Env.put s4 (.b true) e0) H0 k0) (endK recD [.slot s4])
theorem Tryz.cOk177 : (compFn Tryz.prog Tryz.f177).map (bodyK 177) = some Tryz.c177 := by kernel_rfl
def Tryz.c184 : FnK := fun rec recD args H => startK 2 args fun e =>
 newK 25 [(.i .i64 0), (.i .i64 0)] H fun v0 H0 =>
 seqK (fun K0 =>
 genK roundT rec (.nilCheck (.s s1)) (Ctl.mk [] .none) (Env.put s4 v0 e) [] H0 fun v1 H1 k0 =>
 faK 3 v1 fun v2 =>
 ldK false 1 v2 H1 fun v3 =>
 genK roundT rec (.nilCheck (.s s1)) k0 (Env.put s4 v0 e) [v3, v2, v1] H1 fun v4 H2 k1 =>
 faK 4 v4 fun v5 =>
 ldK false 1 v5 H2 fun v6 =>
 genK roundT rec (.nilCheck (.s s1)) k1 (Env.put s4 v0 e) [v6, v5, v4, v3, v2, v1] H2 fun v7 H3 k2 =>
 faK 5 v7 fun v8 =>
 ldK false 1 v8 H3 fun v9 =>
 bdK [.sl0, .sl0, .sl0] [(0, 1, v3), (1, 1, v6), (2, 1, v9)] fun v10 =>
 blockK 0 (fun K1 =>
 loopK (fun k3 e0 H4 K2 =>
 binK .lss .no (Env.get s24 e0) (.i .i64 3) fun v11 =>
 seqK (fun K3 =>
 condK v11 (K3 .norm (Env.put s25 v11 e0) H4 k3)
 (K3 (.exit 0) (Env.put s25 v11 e0) H4 k3)) (fun k4 e1 H5 =>
 seqK (fun K4 =>
 blockK 1 (fun K5 =>
 ixK (.some (3, false, 1)) (Env.get s23 e1) (Env.get s24 e1) fun v12 =>
 lnK .sl H5 v12 fun v13 =>
 blockK 2 (fun K6 =>
 loopK (fun k5 e2 H6 K7 =>
 binK .lss .no (Env.get s29 e2) (Env.get s28 e2) fun v14 =>
 seqK (fun K8 =>
 condK v14 (K8 .norm (Env.put s30 v14 e2) H6 k5)
 (K8 (.exit 2) (Env.put s30 v14 e2) H6 k5)) (fun k6 e3 H7 =>
 seqK (fun K9 =>
 blockK 3 (fun K10 =>
 iaK .none 8 (Env.get s27 e3) (Env.get s29 e3) fun v15 =>
 ldK true 8 v15 H7 fun v16 =>
 newK 163 [(.s []), (.s []), (.i .i64 0), (.i .i64 0), (.s []), (.i .i64 0), (.s []), .sl0] H7 fun v17 H8 =>
 stK 8 v16 v17 H8 fun H9 =>
 slK (.some 8) (Env.get s6 e3) .none (.some (Env.get s29 e3)) .none fun v18 =>
 lnK .sl H9 v18 fun v19 =>
 blockK 4 (fun K11 =>
 loopK (fun k7 e4 H10 K12 =>
 binK .lss .no (Env.get s38 e4) (Env.get s37 e4) fun v20 =>
 seqK (fun K13 =>
 condK v20 (K13 .norm (Env.put s39 v20 e4) H10 k7)
 (K13 (.exit 4) (Env.put s39 v20 e4) H10 k7)) (fun k8 e5 H11 =>
 seqK (fun K14 =>
 blockK 5 (fun K15 =>
 iaK .none 8 (Env.get s36 e5) (Env.get s38 e5) fun v21 =>
 ldK true 8 v21 H11 fun v22 =>
 newK 163 [(.s []), (.s []), (.i .i64 0), (.i .i64 0), (.s []), (.i .i64 0), (.s []), .sl0] H11 fun v23 H12 =>
 stK 8 v22 v23 H12 fun H13 =>
 faK 1 v23 fun v24 =>
 ldK false 1 v24 H13 fun v25 =>
 faK 1 (Env.get s8 e5) fun v26 =>
 ldK false 1 v26 H13 fun v27 =>
 binK .eql .no v25 v27 fun v28 =>
 condK v28 (faK 2 (Env.get s8 e5) fun v29 =>
 ldK false 1 v29 H13 fun v30 =>
 caK rec 182 [(Env.get s0 e5), (.i .i64 4), v30] H13 fun v31 H14 =>
 stK 2 v31 (Env.get s4 e5) H14 fun H15 =>
 K15 .ret (Env.put s46 v28 (Env.put s10 v23 e5)) H15 k8)
 (K15 .norm (Env.put s46 v28 (Env.put s10 v23 e5)) H13 k8)) K14) (fun k9 e6 H16 =>
 binK .add .no (Env.get s38 e6) (.i .i64 1) fun v32 =>
 K12 .norm (Env.put s38 v32 e6) H16 k9) K12) K12) rounds K11 k6 (Env.put s36 v18 (Env.put s37 v19 (Env.put s38 (.i .i64 0) (Env.put s8 v17 (Env.put s7 (Env.get s29 e3) e3))))) H9) K10) K9) (fun k10 e7 H17 =>
 binK .add .no (Env.get s29 e7) (.i .i64 1) fun v33 =>
 K7 .norm (Env.put s29 v33 e7) H17 k10) K7) K7) rounds K6 k4 (Env.put s27 v12 (Env.put s28 v13 (Env.put s29 (.i .i64 0) (Env.put s6 v12 e1)))) H5) K5) K4) (fun k11 e8 H18 =>
 binK .add .no (Env.get s24 e8) (.i .i64 1) fun v34 =>
 K2 .norm (Env.put s24 v34 e8) H18 k11) K2) K2) rounds K1 k2 (Env.put s23 v10 (Env.put s24 (.i .i64 0) (Env.put s4 v0 e))) H3) K0) (fun k12 e9 H19 =>
 bdK [(.i .i64 0), (.i .i64 0)] [] fun v1 =>
 stK 2 v1 (Env.get s4 e9) H19 fun H20 =>
 (endK recD [.cell true 2 s4]) .ret e9 H20 k12) (endK recD [.cell true 2 s4])
theorem Tryz.cOk184 : (compFn Tryz.prog Tryz.f184).map (bodyK 184) = some Tryz.c184 := by kernel_rfl
def Tryz.c189 : FnK := fun rec recD args H => startK 2 args fun e =>
 newK 25 [(.i .i64 0), (.i .i64 0)] H fun v0 H0 =>
 genK roundT rec (.nilCheck (.s s0)) (Ctl.mk [] .none) (Env.put s4 v0 e) [] H0 fun v1 H1 k0 =>
 faK 0 v1 fun v2 =>
 faK 0 v2 fun v3 =>
 ldK false 1 v3 H1 fun v4 =>
 iaK .none 13 v4 (Env.get s1 e) fun v5 =>
 ldK true 13 v5 H1 fun v6 =>
 newK 76 [(.i .i64 0), (.i .i64 0), (.i .i64 0), .sl0, (.s []), (.i .i64 0), (.s []), (.i .i64 0), (.s []), (.i .i64 0), (.i .i64 0), (.i .i64 0), .sl0] H1 fun v7 H2 =>
 stK 13 v6 v7 H2 fun H3 =>
 seqK (fun K0 =>
 faK 0 v7 fun v8 =>
 ldK false 1 v8 H3 fun v9 =>
 blockK 0 (fun K1 =>
 binK .eql .no v9 (.i .i64 7) fun v10 =>
 condK v10 (caK rec 238 [(Env.get s0 e), (Env.get s1 e), (.b true)] H3 fun v11 H4 =>
 stK 2 v11 v0 H4 fun H5 =>
 K1 .ret (Env.put s20 v10 (Env.put s19 v9 (Env.put s5 v7 (Env.put s4 v0 e)))) H5 k0)
 (binK .eql .no v9 (.i .i64 25) fun v11 =>
 condK v11 (caK rec 239 [(Env.get s0 e), (Env.get s1 e)] H3 fun v12 H6 =>
 stK 2 v12 v0 H6 fun H7 =>
 K1 .ret (Env.put s25 v11 (Env.put s20 v10 (Env.put s19 v9 (Env.put s5 v7 (Env.put s4 v0 e))))) H7 k0)
 (K1 .norm (Env.put s25 v11 (Env.put s20 v10 (Env.put s19 v9 (Env.put s5 v7 (Env.put s4 v0 e))))) H3 k0))) K0) (fun k1 e0 H8 =>
 genK roundT rec (.nilCheck (.s s0)) k1 e0 [] H8 fun v8 H9 k2 =>
 faK 4 v8 fun v9 =>
 ldK false 1 v9 H9 fun v13 =>
 lnK .sl H9 v13 fun v14 =>
 seqK (fun K1 =>
 faK 3 (Env.get s5 e0) fun v10 =>
 ldK false 1 v10 H9 fun v15 =>
 lnK .sl H9 v15 fun v16 =>
 blockK 1 (fun K2 =>
 loopK (fun k3 e1 H10 K3 =>
 binK .lss .no (Env.get s38 e1) (Env.get s37 e1) fun v17 =>
 seqK (fun K4 =>
 condK v17 (K4 .norm (Env.put s39 v17 e1) H10 k3)
 (K4 (.exit 1) (Env.put s39 v17 e1) H10 k3)) (fun k4 e2 H11 =>
 seqK (fun K5 =>
 blockK 2 (fun K6 =>
 iaK .none 1 (Env.get s36 e2) (Env.get s38 e2) fun v18 =>
 ldK false 1 v18 H11 fun v19 =>
 newK 25 [(.i .i64 0), (.i .i64 0)] H11 fun v20 H12 =>
 caK rec 189 [(Env.get s0 e2), v19] H12 fun v21 H13 =>
 stK 2 v21 v20 H13 fun H14 =>
 faK 0 v20 fun v22 =>
 ldK false 1 v22 H14 fun v23 =>
 binK .neq .no v23 (.i .i64 0) fun v24 =>
 condK v24 (ldK true 2 v20 H14 fun v25 =>
 stK 2 v25 (Env.get s4 e2) H14 fun H15 =>
 K6 .ret (Env.put s47 v24 (Env.put s9 v20 (Env.put s8 v19 e2))) H15 k4)
 (K6 .norm (Env.put s47 v24 (Env.put s9 v20 (Env.put s8 v19 e2))) H14 k4)) K5) (fun k5 e3 H16 =>
 binK .add .no (Env.get s38 e3) (.i .i64 1) fun v26 =>
 K3 .norm (Env.put s38 v26 e3) H16 k5) K3) K3) rounds K2 k2 (Env.put s36 v15 (Env.put s37 v16 (Env.put s38 (.i .i64 0) (Env.put s6 v14 e0)))) H9) K1) (fun k6 e4 H17 =>
 seqK (fun K7 =>
 faK 0 (Env.get s5 e4) fun v27 =>
 ldK false 1 v27 H17 fun v28 =>
 blockK 3 (fun K3 =>
 binK .eql .no v28 (.i .i64 9) fun v17 =>
 condK v17 (caK rec 238 [(Env.get s0 e4), (Env.get s1 e4), (.b false)] H17 fun v26 H18 =>
 stK 2 v26 (Env.get s4 e4) H18 fun H19 =>
 K3 .ret (Env.put s52 v17 (Env.put s51 v28 e4)) H19 k6)
 (binK .eql .no v28 (.i .i64 8) fun v26 =>
 condK v26 (genK roundT rec (.nilCheck (.s s0)) k6 (Env.put s57 v26 (Env.put s52 v17 (Env.put s51 v28 e4))) [] H17 fun v18 H20 k7 =>
 faK 4 v18 fun v19 =>
 ldK false 1 v19 H20 fun v29 =>
 slK (.some 1) v29 .none (.some (Env.get s6 e4)) (.some (Env.get s6 e4)) fun v30 =>
 genK roundT rec (.nilCheck (.s s0)) k7 (Env.put s57 v26 (Env.put s52 v17 (Env.put s51 v28 e4))) [v30, v29, v19, v18] H20 fun v31 H21 k8 =>
 faK 4 v31 fun v32 =>
 stK 1 v30 v32 H21 fun H22 =>
 K3 .norm (Env.put s57 v26 (Env.put s52 v17 (Env.put s51 v28 e4))) H22 k8)
 (K3 .norm (Env.put s57 v26 (Env.put s52 v17 (Env.put s51 v28 e4))) H17 k6))) K7) (fun k9 e5 H23 =>
 bdK [(.i .i64 0), (.i .i64 0)] [] fun v27 =>
 stK 2 v27 (Env.get s4 e5) H23 fun H24 =>
 (endK recD [.cell true 2 s4]) .ret e5 H24 k9) (endK recD [.cell true 2 s4])) (endK recD [.cell true 2 s4])) (endK recD [.cell true 2 s4])
theorem Tryz.cOk189 : (compFn Tryz.prog Tryz.f189).map (bodyK 189) = some Tryz.c189 := by kernel_rfl
def Tryz.c192 : FnK := fun rec recD args H => startK 3 args fun e =>
 bxK 74 (Env.get s2 e) H fun v0 H0 =>
 genK roundT rec (.nilCheck (.s s0)) (Ctl.mk [] .none) (Env.put s5 v0 e) [] H0 fun v1 H1 k0 =>
 faK 0 v1 fun v2 =>
 ldK false 1 v2 H1 fun v3 =>
 genK roundT rec (.nilCheck (.l 0)) k0 (Env.put s5 v0 e) [v3, v2, v1] H1 fun v4 H2 k1 =>
 faK 5 v4 fun v5 =>
 ldK false 1 v5 H2 fun v6 =>
 ldK true 4 v0 H2 fun v7 =>
 caK rec 193 [(Env.get s0 e), (Env.get s1 e)] H2 fun v8 H3 =>
 boolK (and (again ⟨.load true 4 (.s s5), .none, []⟩ v7 (Env.put s5 v0 e) [v6, v5, v4, v3, v2, v1] H3) (and (again ⟨.load false 1 (.l 0), .none, []⟩ v6 (Env.put s5 v0 e) [v5, v4, v3, v2, v1] H3) (and (again ⟨.load false 1 (.l 0), .none, []⟩ v3 (Env.put s5 v0 e) [v2, v1] H3) true))) (caK rec 240 [v6, v8, v7] H3 fun v9 H4 =>
 unK .not v9 fun v10 =>
 condK v10 (genK roundT rec (.nilCheck (.s s0)) k1 (Env.put s18 v10 (Env.put s5 v0 e)) [] H4 fun v11 H5 k2 =>
 faK 0 v11 fun v12 =>
 ldK false 1 v12 H5 fun v13 =>
 caK rec 190 [v13, (.i .i64 130), (Env.get s1 e)] H5 fun v14 H6 =>
 (endK recD []) .norm (Env.put s18 v10 (Env.put s5 v0 e)) H6 k2)
 ((endK recD []) .norm (Env.put s18 v10 (Env.put s5 v0 e)) H4 k1))
theorem Tryz.cOk192 : (compFn Tryz.prog Tryz.f192).map (bodyK 192) = some Tryz.c192 := by kernel_rfl
def Tryz.c194 : FnK := fun rec recD args H => startK 3 args fun e =>
 caK rec 193 [(Env.get s0 e), (Env.get s1 e)] H fun v0 H0 =>
 caK rec 187 [v0, (Env.get s2 e)] H0 fun v1 H1 =>
 unK .not v1 fun v2 =>
 condK v2 (genK roundT rec (.nilCheck (.s s0)) (Ctl.mk [] .none) (Env.put s11 v2 e) [] H1 fun v3 H2 k0 =>
 faK 0 v3 fun v4 =>
 ldK false 1 v4 H2 fun v5 =>
 caK rec 190 [v5, (.i .i64 130), (Env.get s1 e)] H2 fun v6 H3 =>
 (endK recD []) .norm (Env.put s11 v2 e) H3 k0)
 ((endK recD []) .norm (Env.put s11 v2 e) H1 (Ctl.mk [] .none))
theorem Tryz.cOk194 : (compFn Tryz.prog Tryz.f194).map (bodyK 194) = some Tryz.c194 := by kernel_rfl
def Tryz.c197 : FnK := fun rec recD args H => startK 2 args fun e =>
 seqK (fun K0 =>
 lnK .sl H (Env.get s0 e) fun v0 =>
 blockK 0 (fun K1 =>
 loopK (fun k0 e0 H0 K2 =>
 binK .lss .no (Env.get s8 e0) (Env.get s7 e0) fun v1 =>
 seqK (fun K3 =>
 condK v1 (K3 .norm (Env.put s9 v1 e0) H0 k0)
 (K3 (.exit 0) (Env.put s9 v1 e0) H0 k0)) (fun k1 e1 H1 =>
 seqK (fun K4 =>
 blockK 1 (fun K5 =>
 iaK .none 1 (Env.get s0 e1) (Env.get s8 e1) fun v2 =>
 ldK false 1 v2 H1 fun v3 =>
 binK .eql .no (Env.get s1 e1) v3 fun v4 =>
 condK v4 (K5 .ret (Env.put s4 (Env.get s8 e1) (Env.put s16 v4 (Env.put s5 (Env.get s8 e1) e1))) H1 k1)
 (K5 .norm (Env.put s16 v4 (Env.put s5 (Env.get s8 e1) e1)) H1 k1)) K4) (fun k2 e2 H2 =>
 binK .add .no (Env.get s8 e2) (.i .i64 1) fun v5 =>
 K2 .norm (Env.put s8 v5 e2) H2 k2) K2) K2) rounds K1 (Ctl.mk [] .none) (Env.put s7 v0 (Env.put s8 (.i .i64 0) (Env.put s4 (.i .i64 0) e))) H) K0) (fun k3 e3 H3 =>
 (endK recD [.slot s4]) .ret (Env.put s4 (.i .i64 (-1)) e3) H3 k3) (endK recD [.slot s4])
theorem Tryz.cOk197 : (compFn Tryz.prog Tryz.f197).map (bodyK 197) = some Tryz.c197 := by kernel_rfl
def Tryz.c224 : FnK := fun rec recD args H => startK 2 args fun e =>
 bxK 74 (Env.get s0 e) H fun v0 H0 =>
 newK 74 [(.i .i64 0), (.s []), (.i .i64 0), (.s [])] H0 fun v1 H1 =>
 seqK (fun K0 =>
 ldK true 4 v0 H1 fun v2 =>
 caK rec 30 [v2] H1 fun v3 H2 =>
 unK .not v3 fun v4 =>
 gdK v4 false (fun R0 => faK 0 v0 fun v5 =>
 R0 v5 H2 (Ctl.mk [] .none)) H2 (Ctl.mk [] .none) fun v5 H3 k0 =>
 gdK v4 false (fun R1 => ldK false 1 v5 H3 fun v6 =>
 R1 v6 H3 k0) H3 k0 fun v6 H4 k1 =>
 gdK v4 false (fun R2 => binK .eql .no v6 (.i .i64 7) fun v7 =>
 R2 v7 H4 k1) H4 k1 fun v7 H5 k2 =>
 pkK v4 (.b true) v7 fun v8 =>
 gdK v8 false (fun R3 => faK 0 v0 fun v9 =>
 R3 v9 H5 k2) H5 k2 fun v9 H6 k3 =>
 gdK v8 false (fun R4 => ldK false 1 v9 H6 fun v10 =>
 R4 v10 H6 k3) H6 k3 fun v10 H7 k4 =>
 gdK v8 false (fun R5 => binK .eql .no v10 (.i .i64 8) fun v11 =>
 R5 v11 H7 k4) H7 k4 fun v11 H8 k5 =>
 pkK v8 (.b true) v11 fun v12 =>
 condK v12 (bdK [(.i .i64 0), (.s []), (.i .i64 0), (.s [])] [] fun v13 =>
 stK 4 v13 v1 H8 fun H9 =>
 K0 .ret (Env.put s5 (.i .i64 130) (Env.put s18 v12 (Env.put s2 v0 (Env.put s4 v1 (Env.put s5 (.i .i64 0) e))))) H9 k5)
 (K0 .norm (Env.put s18 v12 (Env.put s2 v0 (Env.put s4 v1 (Env.put s5 (.i .i64 0) e)))) H8 k5)) (fun k6 e0 H10 =>
 faK 3 (Env.get s2 e0) fun v2 =>
 ldK false 1 v2 H10 fun v3 =>
 faK 2 (Env.get s2 e0) fun v4 =>
 ldK false 1 v4 H10 fun v5 =>
 slK .none v3 .none (.some v5) .none fun v6 =>
 genK roundT rec (.buildSlice 5 1 1 [(.i .u8 0)] [(0, (.s s1))]) k6 e0 [v6, v5, v4, v3, v2] H10 fun v7 H5 k2 =>
 genK roundT rec (.bytesStr (.l 0)) k2 e0 [v7, v6, v5, v4, v3, v2] H5 fun v8 H11 k7 =>
 binK .add .no v6 v8 fun v9 =>
 faK 3 (Env.get s2 e0) fun v10 =>
 stK 1 v9 v10 H11 fun H8 =>
 seqK (fun K1 =>
 ldK true 4 (Env.get s2 e0) H8 fun v13 =>
 caK rec 52 [v13] H8 fun v14 H9 =>
 unK .not v14 fun v15 =>
 condK v15 (bdK [(.i .i64 0), (.s []), (.i .i64 0), (.s [])] [] fun v16 =>
 stK 4 v16 (Env.get s4 e0) H9 fun H12 =>
 K1 .ret (Env.put s5 (.i .i64 81) (Env.put s32 v15 e0)) H12 k7)
 (K1 .norm (Env.put s32 v15 e0) H9 k7)) (fun k8 e1 H13 =>
 ldK true 4 (Env.get s2 e1) H13 fun v13 =>
 stK 4 v13 (Env.get s4 e1) H13 fun H9 =>
 (endK recD [.cell true 4 s4, .slot s5]) .ret (Env.put s5 (.i .i64 0) e1) H9 k8) (endK recD [.cell true 4 s4, .slot s5])) (endK recD [.cell true 4 s4, .slot s5])
theorem Tryz.cOk224 : (compFn Tryz.prog Tryz.f224).map (bodyK 224) = some Tryz.c224 := by kernel_rfl
def Tryz.c225 : FnK := fun rec recD args H => startK 1 args fun e =>
 seqK (fun K0 =>
 binK .eql .sl (Env.get s0 e) .sl0 fun v0 =>
 condK v0 (K0 .ret (Env.put s2 .sl0 (Env.put s4 v0 (Env.put s2 .sl0 e))) H (Ctl.mk [] .none))
 (K0 .norm (Env.put s4 v0 (Env.put s2 .sl0 e)) H (Ctl.mk [] .none))) (fun k0 e0 H0 =>
 genK roundT rec (.buildSlice 47 0 2 [(.i .i64 0), (.i .i64 0)] []) k0 e0 [] H0 fun v0 H1 k1 =>
 apK 47 2 [(.i .i64 0), (.i .i64 0)] H1 v0 (Env.get s0 e0) fun v1 H2 =>
 (endK recD [.slot s2]) .ret (Env.put s2 v1 e0) H2 k1) (endK recD [.slot s2])
theorem Tryz.cOk225 : (compFn Tryz.prog Tryz.f225).map (bodyK 225) = some Tryz.c225 := by kernel_rfl
def Tryz.c235 : FnK := fun rec recD args H => startK 2 args fun e =>
 newK 76 [(.i .i64 0), (.i .i64 0), (.i .i64 0), .sl0, (.s []), (.i .i64 0), (.s []), (.i .i64 0), (.s []), (.i .i64 0), (.i .i64 0), (.i .i64 0), .sl0] H fun v0 H0 =>
 newK 234 [(.i .i64 0), (.i .i64 0), (.i .i64 0)] H0 fun v1 H1 =>
 caK rec 111 [(Env.get s0 e)] H1 fun v2 H2 =>
 exK 0 v2 fun v3 =>
 exK 1 v2 fun v4 =>
 stK 3 v3 v1 H2 fun H3 =>
 seqK (fun K0 =>
 binK .eql .no v4 (.s [79, 112, 116, 105, 111, 110]) fun v5 =>
 gdK v5 true (fun R0 => faK 0 v1 fun v6 =>
 R0 v6 H3 (Ctl.mk [] .none)) H3 (Ctl.mk [] .none) fun v6 H4 k0 =>
 gdK v5 true (fun R1 => ldK false 1 v6 H4 fun v7 =>
 R1 v7 H4 k0) H4 k0 fun v7 H5 k1 =>
 gdK v5 true (fun R2 => binK .eql .no v7 (.i .i64 1) fun v8 =>
 R2 v8 H5 k1) H5 k1 fun v8 H6 k2 =>
 pkK v5 v8 (.b false) fun v9 =>
 condK v9 (caK rec 231 [(Env.get s0 e)] H6 fun v10 H7 =>
 caK rec 175 [(Env.get s0 e), (.s [60])] H7 fun v11 H8 =>
 newK 76 [(.i .i64 0), (.i .i64 0), (.i .i64 0), .sl0, (.s []), (.i .i64 0), (.s []), (.i .i64 0), (.s []), (.i .i64 0), (.i .i64 0), (.i .i64 0), .sl0] H8 fun v12 H9 =>
 caK rec 260 [(Env.get s0 e)] H9 fun v13 H10 =>
 stK 13 v13 v12 H10 fun H11 =>
 caK rec 175 [(Env.get s0 e), (.s [62])] H11 fun v14 H12 =>
 faK 5 v12 fun v15 =>
 faK 2 v15 fun v16 =>
 ldK false 1 v16 H12 fun v17 =>
 seqK (fun K1 =>
 faK 5 v12 fun v18 =>
 faK 0 v18 fun v19 =>
 ldK false 1 v19 H12 fun v20 =>
 binK .neq .no v20 (.i .i64 5) fun v21 =>
 gdK v21 true (fun R3 => R3 v17 H12 k2) H12 k2 fun v22 H13 k3 =>
 gdK v21 true (fun R4 => binK .eql .no v22 (.i .i64 0) fun v23 =>
 R4 v23 H13 k3) H13 k3 fun v23 H14 k4 =>
 pkK v21 v23 (.b false) fun v24 =>
 gdK v24 false (fun R5 => faK 5 v12 fun v25 =>
 R5 v25 H14 k4) H14 k4 fun v25 H15 k5 =>
 gdK v24 false (fun R6 => faK 3 v25 fun v26 =>
 R6 v26 H15 k5) H15 k5 fun v26 H16 k6 =>
 gdK v24 false (fun R7 => ldK false 1 v26 H16 fun v27 =>
 R7 v27 H16 k6) H16 k6 fun v27 H17 k7 =>
 gdK v24 false (fun R8 => R8 v17 H17 k7) H17 k7 fun v28 H18 k8 =>
 gdK v24 false (fun R9 => ixK .none v27 v28 fun v29 =>
 R9 v29 H18 k8) H18 k8 fun v29 H19 k9 =>
 gdK v24 false (fun R10 => binK .neq .no v29 (.i .u8 32) fun v30 =>
 R10 v30 H19 k9) H19 k9 fun v30 H20 k10 =>
 pkK v24 (.b true) v30 fun v31 =>
 condK v31 (faK 1 v1 fun v32 =>
 faK 0 v32 fun v33 =>
 ldK false 1 v33 H20 fun v34 =>
 caK rec 174 [(.i .i64 5), v34] H20 fun v35 H21 =>
 K1 .norm (Env.put s48 v31 (Env.put s8 v17 (Env.put s7 v12 (Env.put s21 v9 (Env.put s5 v1 (Env.put s6 v4 (Env.put s4 v0 e))))))) H21 k10)
 (K1 .norm (Env.put s48 v31 (Env.put s8 v17 (Env.put s7 v12 (Env.put s21 v9 (Env.put s5 v1 (Env.put s6 v4 (Env.put s4 v0 e))))))) H20 k10)) (fun k11 e0 H22 =>
 faK 5 (Env.get s7 e0) fun v18 =>
 faK 3 v18 fun v19 =>
 ldK false 1 v19 H22 fun v20 =>
 slK .none v20 .none (.some (Env.get s8 e0)) .none fun v21 =>
 binK .add .no v21 (.s [111]) fun v22 =>
 faK 5 (Env.get s7 e0) fun v23 =>
 faK 3 v23 fun v24 =>
 stK 1 v22 v24 H22 fun H15 =>
 faK 1 (Env.get s5 e0) fun v32 =>
 faK 0 v32 fun v33 =>
 ldK false 1 v33 H15 fun v34 =>
 genK roundT rec (.nilCheck (.s s0)) k11 e0 [v34, v33, v32] H15 fun v35 H21 k12 =>
 faK 1 v35 fun v36 =>
 ldK false 1 v36 H21 fun v37 =>
 genK roundT rec (.nilCheck (.s s0)) k12 e0 [v37, v36, v35, v34, v33, v32] H21 fun v38 H23 k13 =>
 faK 2 v38 fun v39 =>
 ldK false 1 v39 H23 fun v40 =>
 binK .sub .no v40 (.i .i64 1) fun v41 =>
 iaK .none 3 v37 v41 fun v42 =>
 faK 1 v42 fun v43 =>
 faK 1 v43 fun v44 =>
 ldK false 1 v44 H23 fun v45 =>
 bdK [(.i .i64 0), (.i .i64 0)] [(0, 1, v34), (1, 1, v45)] fun v46 =>
 faK 10 (Env.get s7 e0) fun v47 =>
 stK 2 v46 v47 H23 fun H24 =>
 ldK true 13 (Env.get s7 e0) H24 fun v48 =>
 stK 13 v48 (Env.get s4 e0) H24 fun H25 =>
 K0 .ret e0 H25 k13) K0)
 (K0 .norm (Env.put s21 v9 (Env.put s5 v1 (Env.put s6 v4 (Env.put s4 v0 e)))) H6 k2)) (fun k14 e1 H26 =>
 seqK (fun K2 =>
 gdK (Env.get s1 e1) true (fun R11 => faK 0 (Env.get s5 e1) fun v49 =>
 R11 v49 H26 k14) H26 k14 fun v49 H27 k15 =>
 gdK (Env.get s1 e1) true (fun R12 => ldK false 1 v49 H27 fun v50 =>
 R12 v50 H27 k15) H27 k15 fun v50 H28 k16 =>
 gdK (Env.get s1 e1) true (fun R13 => binK .eql .no v50 (.i .i64 1) fun v51 =>
 R13 v51 H28 k16) H28 k16 fun v51 H29 k17 =>
 pkK (Env.get s1 e1) v51 (.b false) fun v52 =>
 gdK v52 true (fun R14 => R14 (Env.get s6 e1) H29 k17) H29 k17 fun v53 H30 k18 =>
 gdK v52 true (fun R15 => binK .eql .no v53 (.s [118, 111, 105, 100]) fun v54 =>
 R15 v54 H30 k18) H30 k18 fun v54 H31 k19 =>
 pkK v52 v54 (.b false) fun v55 =>
 condK v55 (caK rec 231 [(Env.get s0 e1)] H31 fun v56 H32 =>
 bdK [(.i .i64 0), (.s []), (.i .i64 0), (.s [])] [(0, 1, (.i .i64 6)), (3, 1, (.s [32]))] fun v57 =>
 faK 1 (Env.get s5 e1) fun v58 =>
 ldK true 2 v58 H32 fun v59 =>
 genK roundT rec (.buildSlice 3 1 1 [(.i .i64 0)] [(0, (.s s9))]) k19 (Env.put s9 v56 (Env.put s89 v55 e1)) [v59, v58, v57] H32 fun v60 H33 k20 =>
 bdK [(.i .i64 0), (.i .i64 0), (.i .i64 0), .sl0, (.s []), (.i .i64 0), (.s []), (.i .i64 0), (.s []), (.i .i64 0), (.i .i64 0), (.i .i64 0), .sl0] [(5, 4, v57), (10, 2, v59), (12, 1, v60)] fun v61 =>
 stK 13 v61 (Env.get s4 e1) H33 fun H34 =>
 K2 .ret (Env.put s9 v56 (Env.put s89 v55 e1)) H34 k20)
 (K2 .norm (Env.put s89 v55 e1) H31 k19)) (fun k21 e2 H35 =>
 caK rec 260 [(Env.get s0 e2)] H35 fun v49 H27 =>
 stK 13 v49 (Env.get s4 e2) H27 fun H28 =>
 (endK recD [.cell true 13 s4]) .ret e2 H28 k21) (endK recD [.cell true 13 s4])) (endK recD [.cell true 13 s4])
theorem Tryz.cOk235 : (compFn Tryz.prog Tryz.f235).map (bodyK 235) = some Tryz.c235 := by kernel_rfl
def Tryz.c238 : FnK := fun rec recD args H => startK 3 args fun e =>
 newK 25 [(.i .i64 0), (.i .i64 0)] H fun v0 H0 =>
 genK roundT rec (.nilCheck (.s s0)) (Ctl.mk [] .none) (Env.put s6 v0 e) [] H0 fun v1 H1 k0 =>
 faK 0 v1 fun v2 =>
 faK 0 v2 fun v3 =>
 ldK false 1 v3 H1 fun v4 =>
 iaK .none 13 v4 (Env.get s1 e) fun v5 =>
 ldK true 13 v5 H1 fun v6 =>
 newK 76 [(.i .i64 0), (.i .i64 0), (.i .i64 0), .sl0, (.s []), (.i .i64 0), (.s []), (.i .i64 0), (.s []), (.i .i64 0), (.i .i64 0), (.i .i64 0), .sl0] H1 fun v7 H2 =>
 stK 13 v6 v7 H2 fun H3 =>
 seqK (fun K0 =>
 genK roundT rec (.nilCheck (.s s0)) k0 (Env.put s7 v7 (Env.put s6 v0 e)) [] H3 fun v8 H4 k1 =>
 faK 2 v8 fun v9 =>
 ldK false 1 v9 H4 fun v10 =>
 lnK .sl H4 v10 fun v11 =>
 blockK 0 (fun K1 =>
 loopK (fun k2 e0 H5 K2 =>
 binK .lss .no (Env.get s23 e0) (Env.get s22 e0) fun v12 =>
 seqK (fun K3 =>
 condK v12 (K3 .norm (Env.put s24 v12 e0) H5 k2)
 (K3 (.exit 0) (Env.put s24 v12 e0) H5 k2)) (fun k3 e1 H6 =>
 seqK (fun K4 =>
 blockK 1 (fun K5 =>
 iaK .none 7 (Env.get s21 e1) (Env.get s23 e1) fun v13 =>
 ldK true 7 v13 H6 fun v14 =>
 newK 82 [(.s []), (.i .i64 0), (.s []), (.i .i64 0), (.s []), (.i .i64 0), (.b false)] H6 fun v15 H7 =>
 stK 7 v14 v15 H7 fun H8 =>
 faK 0 v15 fun v16 =>
 ldK false 1 v16 H8 fun v17 =>
 faK 4 (Env.get s7 e1) fun v18 =>
 ldK false 1 v18 H8 fun v19 =>
 binK .eql .no v17 v19 fun v20 =>
 condK v20 (caK rec 262 [(Env.get s0 e1), (.i .i64 4), (Env.get s1 e1)] H8 fun v21 H9 =>
 stK 2 v21 (Env.get s6 e1) H9 fun H10 =>
 K5 .ret (Env.put s31 v20 (Env.put s9 v15 e1)) H10 k3)
 (K5 .norm (Env.put s31 v20 (Env.put s9 v15 e1)) H8 k3)) K4) (fun k4 e2 H11 =>
 binK .add .no (Env.get s23 e2) (.i .i64 1) fun v22 =>
 K2 .norm (Env.put s23 v22 e2) H11 k4) K2) K2) rounds K1 k1 (Env.put s21 v10 (Env.put s22 v11 (Env.put s23 (.i .i64 0) (Env.put s7 v7 (Env.put s6 v0 e))))) H4) K0) (fun k5 e3 H12 =>
 seqK (fun K6 =>
 genK roundT rec (.nilCheck (.s s0)) k5 e3 [] H12 fun v23 H13 k6 =>
 faK 2 v23 fun v24 =>
 ldK false 1 v24 H13 fun v25 =>
 lnK .sl H13 v25 fun v26 =>
 binK .eql .no v26 (.i .i64 64) fun v27 =>
 condK v27 (caK rec 262 [(Env.get s0 e3), (.i .i64 2), (Env.get s1 e3)] H13 fun v12 H14 =>
 stK 2 v12 (Env.get s6 e3) H14 fun H15 =>
 K6 .ret (Env.put s41 v27 e3) H15 k6)
 (K6 .norm (Env.put s41 v27 e3) H13 k6)) (fun k7 e4 H16 =>
 genK roundT rec (.nilCheck (.s s0)) k7 e4 [] H16 fun v23 H13 k6 =>
 faK 4 v23 fun v24 =>
 ldK false 1 v24 H13 fun v25 =>
 genK roundT rec (.nilCheck (.s s0)) k6 e4 [v25, v24, v23] H13 fun v26 H17 k8 =>
 faK 2 v26 fun v27 =>
 ldK false 1 v27 H17 fun v28 =>
 lnK .sl H17 v28 fun v29 =>
 genK roundT rec (.buildSlice 3 1 1 [(.i .i64 0)] [(0, (.l 0))]) k8 e4 [v29, v28, v27, v26, v25, v24, v23] H17 fun v30 H18 k9 =>
 apK 3 1 [(.i .i64 0)] H18 v25 v30 fun v31 H19 =>
 genK roundT rec (.nilCheck (.s s0)) k9 e4 [v31, v30, v29, v28, v27, v26, v25, v24, v23] H19 fun v32 H20 k10 =>
 faK 4 v32 fun v33 =>
 stK 1 v31 v33 H20 fun H21 =>
 genK roundT rec (.nilCheck (.s s0)) k10 e4 [] H21 fun v34 H22 k11 =>
 faK 3 v34 fun v35 =>
 ldK false 1 v35 H22 fun v36 =>
 genK roundT rec (.nilCheck (.s s0)) k11 e4 [v36, v35, v34] H22 fun v37 H23 k12 =>
 faK 2 v37 fun v38 =>
 ldK false 1 v38 H23 fun v39 =>
 lnK .sl H23 v39 fun v40 =>
 genK roundT rec (.mapUpd .i (.l 4) (.s s1) (.l 0)) k12 e4 [v40, v39, v38, v37, v36, v35, v34] H23 fun v41 H24 k13 =>
 genK roundT rec (.nilCheck (.s s0)) k13 e4 [] H24 fun v42 H25 k14 =>
 faK 2 v42 fun v43 =>
 ldK false 1 v43 H25 fun v44 =>
 faK 4 (Env.get s7 e4) fun v45 =>
 ldK false 1 v45 H25 fun v46 =>
 faK 5 (Env.get s7 e4) fun v47 =>
 ldK true 4 v47 H25 fun v48 =>
 bdK [(.s []), (.i .i64 0), (.s []), (.i .i64 0), (.s []), (.i .i64 0), (.b false)] [(0, 1, v46), (1, 4, v48), (5, 1, (Env.get s1 e4)), (6, 1, (Env.get s2 e4))] fun v49 =>
 genK roundT rec (.buildSlice 82 1 7 [(.s []), (.i .i64 0), (.s []), (.i .i64 0), (.s []), (.i .i64 0), (.b false)] [(0, (.l 0))]) k14 e4 [v49, v48, v47, v46, v45, v44, v43, v42] H25 fun v50 H26 k15 =>
 apK 82 7 [(.s []), (.i .i64 0), (.s []), (.i .i64 0), (.s []), (.i .i64 0), (.b false)] H26 v44 v50 fun v51 H27 =>
 genK roundT rec (.nilCheck (.s s0)) k15 e4 [v51, v50, v49, v48, v47, v46, v45, v44, v43, v42] H27 fun v52 H28 k16 =>
 faK 2 v52 fun v53 =>
 stK 1 v51 v53 H28 fun H29 =>
 bdK [(.i .i64 0), (.i .i64 0)] [] fun v22 =>
 stK 2 v22 (Env.get s6 e4) H29 fun H30 =>
 (endK recD [.cell true 2 s6]) .ret e4 H30 k16) (endK recD [.cell true 2 s6])) (endK recD [.cell true 2 s6])
theorem Tryz.cOk238 : (compFn Tryz.prog Tryz.f238).map (bodyK 238) = some Tryz.c238 := by kernel_rfl
def Tryz.c239 : FnK := fun rec recD args H => startK 2 args fun e =>
 newK 25 [(.i .i64 0), (.i .i64 0)] H fun v0 H0 =>
 seqK (fun K0 =>
 genK roundT rec (.nilCheck (.s s0)) (Ctl.mk [] .none) (Env.put s4 v0 e) [] H0 fun v1 H1 k0 =>
 faK 4 v1 fun v2 =>
 ldK false 1 v2 H1 fun v3 =>
 lnK .sl H1 v3 fun v4 =>
 blockK 0 (fun K1 =>
 loopK (fun k1 e0 H2 K2 =>
 binK .lss .no (Env.get s12 e0) (Env.get s11 e0) fun v5 =>
 seqK (fun K3 =>
 condK v5 (K3 .norm (Env.put s13 v5 e0) H2 k1)
 (K3 (.exit 0) (Env.put s13 v5 e0) H2 k1)) (fun k2 e1 H3 =>
 seqK (fun K4 =>
 blockK 1 (fun K5 =>
 iaK .none 1 (Env.get s10 e1) (Env.get s12 e1) fun v6 =>
 ldK false 1 v6 H3 fun v7 =>
 genK roundT rec (.nilCheck (.s s0)) k2 (Env.put s6 v7 e1) [] H3 fun v8 H4 k3 =>
 faK 2 v8 fun v9 =>
 ldK false 1 v9 H4 fun v10 =>
 iaK .none 7 v10 v7 fun v11 =>
 faK 0 v11 fun v12 =>
 ldK false 1 v12 H4 fun v13 =>
 genK roundT rec (.nilCheck (.s s0)) k3 (Env.put s6 v7 e1) [v13, v12, v11, v10, v9, v8] H4 fun v14 H5 k4 =>
 faK 0 v14 fun v15 =>
 faK 0 v15 fun v16 =>
 ldK false 1 v16 H5 fun v17 =>
 iaK .none 13 v17 (Env.get s1 e1) fun v18 =>
 faK 4 v18 fun v19 =>
 ldK false 1 v19 H5 fun v20 =>
 binK .eql .no v13 v20 fun v21 =>
 condK v21 (genK roundT rec (.nilCheck (.s s0)) k4 (Env.put s33 v21 (Env.put s6 v7 e1)) [] H5 fun v22 H6 k5 =>
 faK 3 v22 fun v23 =>
 ldK false 1 v23 H6 fun v24 =>
 genK roundT rec (.mapUpd .i (.l 0) (.s s1) (.s s6)) k5 (Env.put s33 v21 (Env.put s6 v7 e1)) [v24, v23, v22] H6 fun v25 H7 k6 =>
 bdK [(.i .i64 0), (.i .i64 0)] [] fun v26 =>
 stK 2 v26 (Env.get s4 e1) H7 fun H8 =>
 K5 .ret (Env.put s33 v21 (Env.put s6 v7 e1)) H8 k6)
 (K5 .norm (Env.put s33 v21 (Env.put s6 v7 e1)) H5 k4)) K4) (fun k7 e2 H9 =>
 binK .add .no (Env.get s12 e2) (.i .i64 1) fun v27 =>
 K2 .norm (Env.put s12 v27 e2) H9 k7) K2) K2) rounds K1 k0 (Env.put s10 v3 (Env.put s11 v4 (Env.put s12 (.i .i64 0) (Env.put s4 v0 e)))) H1) K0) (fun k8 e3 H10 =>
 caK rec 262 [(Env.get s0 e3), (.i .i64 3), (Env.get s1 e3)] H10 fun v1 H1 =>
 stK 2 v1 (Env.get s4 e3) H1 fun H11 =>
 (endK recD [.cell true 2 s4]) .ret e3 H11 k8) (endK recD [.cell true 2 s4])
theorem Tryz.cOk239 : (compFn Tryz.prog Tryz.f239).map (bodyK 239) = some Tryz.c239 := by kernel_rfl
def Tryz.c241 : FnK := fun rec recD args H => startK 3 args fun e =>
 bxK 76 (Env.get s2 e) H fun v0 H0 =>
 newK 74 [(.i .i64 0), (.s []), (.i .i64 0), (.s [])] H0 fun v1 H1 =>
 seqK (fun K0 =>
 faK 0 v0 fun v2 =>
 ldK false 1 v2 H1 fun v3 =>
 blockK 0 (fun K1 =>
 seqK (fun K2 =>
 binK .eql .no v3 (.i .i64 19) fun v4 =>
 condK v4 (K2 .norm (Env.put s10 v4 (Env.put s9 v3 (Env.put s5 v0 (Env.put s6 v1 e)))) H1 (Ctl.mk [] .none))
 (binK .eql .no v3 (.i .i64 38) fun v5 =>
 K2 .norm (Env.put s10 v5 (Env.put s10 v4 (Env.put s9 v3 (Env.put s5 v0 (Env.put s6 v1 e))))) H1 (Ctl.mk [] .none))) (fun k0 e0 H2 =>
 condK (Env.get s10 e0) (caK rec 264 [(.i .i64 1)] H2 fun v6 H3 =>
 stK 4 v6 (Env.get s6 e0) H3 fun H4 =>
 K1 .ret e0 H4 k0)
 (binK .eql .no (Env.get s9 e0) (.i .i64 20) fun v6 =>
 condK v6 (caK rec 264 [(.i .i64 3)] H2 fun v7 H5 =>
 stK 4 v7 (Env.get s6 e0) H5 fun H6 =>
 K1 .ret (Env.put s14 v6 e0) H6 k0)
 (binK .eql .no (Env.get s9 e0) (.i .i64 21) fun v7 =>
 condK v7 (caK rec 264 [(.i .i64 2)] H2 fun v8 H7 =>
 stK 4 v8 (Env.get s6 e0) H7 fun H8 =>
 K1 .ret (Env.put s17 v7 (Env.put s14 v6 e0)) H8 k0)
 (binK .eql .no (Env.get s9 e0) (.i .i64 22) fun v8 =>
 condK v8 (caK rec 264 [(.i .i64 4)] H2 fun v9 H9 =>
 stK 4 v9 (Env.get s6 e0) H9 fun H10 =>
 K1 .ret (Env.put s20 v8 (Env.put s17 v7 (Env.put s14 v6 e0))) H10 k0)
 (binK .eql .no (Env.get s9 e0) (.i .i64 23) fun v9 =>
 condK v9 (caK rec 100 [] H2 fun v10 H11 =>
 stK 4 v10 (Env.get s6 e0) H11 fun H12 =>
 K1 .ret (Env.put s23 v9 (Env.put s20 v8 (Env.put s17 v7 (Env.put s14 v6 e0)))) H12 k0)
 (binK .eql .no (Env.get s9 e0) (.i .i64 42) fun v10 =>
 condK v10 (caK rec 101 [] H2 fun v11 H13 =>
 stK 4 v11 (Env.get s6 e0) H13 fun H14 =>
 K1 .ret (Env.put s26 v10 (Env.put s23 v9 (Env.put s20 v8 (Env.put s17 v7 (Env.put s14 v6 e0))))) H14 k0)
 (binK .eql .no (Env.get s9 e0) (.i .i64 24) fun v11 =>
 condK v11 (genK roundT rec (.nilCheck (.s s0)) k0 (Env.put s29 v11 (Env.put s26 v10 (Env.put s23 v9 (Env.put s20 v8 (Env.put s17 v7 (Env.put s14 v6 e0)))))) [] H2 fun v12 H15 k1 =>
 faK 0 v12 fun v13 =>
 ldK false 1 v13 H15 fun v14 =>
 genK roundT rec (.nilCheck (.l 0)) k1 (Env.put s29 v11 (Env.put s26 v10 (Env.put s23 v9 (Env.put s20 v8 (Env.put s17 v7 (Env.put s14 v6 e0)))))) [v14, v13, v12] H15 fun v15 H16 k2 =>
 faK 6 v15 fun v16 =>
 ldK false 1 v16 H16 fun v17 =>
 genK roundT rec (.nilCheck (.s s0)) k2 (Env.put s29 v11 (Env.put s26 v10 (Env.put s23 v9 (Env.put s20 v8 (Env.put s17 v7 (Env.put s14 v6 e0)))))) [v17, v16, v15, v14, v13, v12] H16 fun v18 H17 k3 =>
 faK 1 v18 fun v19 =>
 ldK false 1 v19 H17 fun v20 =>
 iaK .none 8 v17 v20 fun v21 =>
 faK 0 v21 fun v22 =>
 ldK false 1 v22 H17 fun v23 =>
 bdK [(.i .i64 0), (.s []), (.i .i64 0), (.s [])] [(0, 1, (.i .i64 5)), (1, 1, v23), (3, 1, (.s [32]))] fun v24 =>
 stK 4 v24 (Env.get s6 e0) H17 fun H18 =>
 K1 .ret (Env.put s29 v11 (Env.put s26 v10 (Env.put s23 v9 (Env.put s20 v8 (Env.put s17 v7 (Env.put s14 v6 e0)))))) H18 k3)
 (binK .eql .no (Env.get s9 e0) (.i .i64 25) fun v12 =>
 condK v12 (genK roundT rec (.nilCheck (.s s0)) k0 (Env.put s46 v12 (Env.put s29 v11 (Env.put s26 v10 (Env.put s23 v9 (Env.put s20 v8 (Env.put s17 v7 (Env.put s14 v6 e0))))))) [] H2 fun v25 H19 k4 =>
 faK 0 v25 fun v26 =>
 ldK false 1 v26 H19 fun v27 =>
 genK roundT rec (.nilCheck (.l 0)) k4 (Env.put s46 v12 (Env.put s29 v11 (Env.put s26 v10 (Env.put s23 v9 (Env.put s20 v8 (Env.put s17 v7 (Env.put s14 v6 e0))))))) [v27, v26, v25] H19 fun v28 H20 k5 =>
 faK 6 v28 fun v29 =>
 ldK false 1 v29 H20 fun v30 =>
 genK roundT rec (.nilCheck (.s s0)) k5 (Env.put s46 v12 (Env.put s29 v11 (Env.put s26 v10 (Env.put s23 v9 (Env.put s20 v8 (Env.put s17 v7 (Env.put s14 v6 e0))))))) [v30, v29, v28, v27, v26, v25] H20 fun v31 H21 k6 =>
 faK 1 v31 fun v32 =>
 ldK false 1 v32 H21 fun v33 =>
 iaK .none 8 v30 v33 fun v34 =>
 faK 7 v34 fun v35 =>
 ldK false 1 v35 H21 fun v36 =>
 genK roundT rec (.nilCheck (.s s0)) k6 (Env.put s46 v12 (Env.put s29 v11 (Env.put s26 v10 (Env.put s23 v9 (Env.put s20 v8 (Env.put s17 v7 (Env.put s14 v6 e0))))))) [v36, v35, v34, v33, v32, v31, v30, v29, v28, v27, v26, v25] H21 fun v37 H22 k7 =>
 faK 0 v37 fun v38 =>
 ldK false 1 v38 H22 fun v39 =>
 genK roundT rec (.nilCheck (.l 0)) k7 (Env.put s46 v12 (Env.put s29 v11 (Env.put s26 v10 (Env.put s23 v9 (Env.put s20 v8 (Env.put s17 v7 (Env.put s14 v6 e0))))))) [v39, v38, v37, v36, v35, v34, v33, v32, v31, v30, v29, v28, v27, v26, v25] H22 fun v40 H23 k8 =>
 faK 3 v40 fun v41 =>
 ldK false 1 v41 H23 fun v42 =>
 iaK .none 1 v42 (Env.get s1 e0) fun v43 =>
 ldK false 1 v43 H23 fun v44 =>
 caK rec 28 [v36] H23 fun v45 H24 =>
 boolK (and (again ⟨.load false 1 (.l 0), .none, []⟩ v44 (Env.put s46 v12 (Env.put s29 v11 (Env.put s26 v10 (Env.put s23 v9 (Env.put s20 v8 (Env.put s17 v7 (Env.put s14 v6 e0))))))) [v43, v42, v41, v40, v39, v38, v37, v36, v35, v34, v33, v32, v31, v30, v29, v28, v27, v26, v25] H24) (and (again ⟨.load false 1 (.l 0), .none, []⟩ v42 (Env.put s46 v12 (Env.put s29 v11 (Env.put s26 v10 (Env.put s23 v9 (Env.put s20 v8 (Env.put s17 v7 (Env.put s14 v6 e0))))))) [v41, v40, v39, v38, v37, v36, v35, v34, v33, v32, v31, v30, v29, v28, v27, v26, v25] H24) (and (again ⟨.load false 1 (.l 0), .none, []⟩ v39 (Env.put s46 v12 (Env.put s29 v11 (Env.put s26 v10 (Env.put s23 v9 (Env.put s20 v8 (Env.put s17 v7 (Env.put s14 v6 e0))))))) [v38, v37, v36, v35, v34, v33, v32, v31, v30, v29, v28, v27, v26, v25] H24) true))) (iaK .none 7 v45 v44 fun v46 =>
 faK 1 v46 fun v47 =>
 ldK true 4 v47 H24 fun v48 =>
 stK 4 v48 (Env.get s6 e0) H24 fun H25 =>
 K1 .ret (Env.put s46 v12 (Env.put s29 v11 (Env.put s26 v10 (Env.put s23 v9 (Env.put s20 v8 (Env.put s17 v7 (Env.put s14 v6 e0))))))) H25 k8))
 (binK .eql .no (Env.get s9 e0) (.i .i64 36) fun v25 =>
 condK v25 (faK 3 (Env.get s5 e0) fun v49 =>
 ldK false 1 v49 H2 fun v50 =>
 iaK .none 1 v50 (.i .i64 0) fun v51 =>
 ldK false 1 v51 H2 fun v52 =>
 caK rec 194 [(Env.get s0 e0), v52, (.i .i64 3)] H2 fun v53 H26 =>
 caK rec 264 [(.i .i64 1)] H26 fun v54 H27 =>
 stK 4 v54 (Env.get s6 e0) H27 fun H28 =>
 K1 .ret (Env.put s76 v25 (Env.put s46 v12 (Env.put s29 v11 (Env.put s26 v10 (Env.put s23 v9 (Env.put s20 v8 (Env.put s17 v7 (Env.put s14 v6 e0)))))))) H28 k0)
 (binK .eql .no (Env.get s9 e0) (.i .i64 37) fun v49 =>
 condK v49 (faK 3 (Env.get s5 e0) fun v55 =>
 ldK false 1 v55 H2 fun v56 =>
 iaK .none 1 v56 (.i .i64 0) fun v57 =>
 ldK false 1 v57 H2 fun v58 =>
 caK rec 194 [(Env.get s0 e0), v58, (.i .i64 1)] H2 fun v59 H29 =>
 caK rec 264 [(.i .i64 3)] H29 fun v60 H30 =>
 stK 4 v60 (Env.get s6 e0) H30 fun H31 =>
 K1 .ret (Env.put s85 v49 (Env.put s76 v25 (Env.put s46 v12 (Env.put s29 v11 (Env.put s26 v10 (Env.put s23 v9 (Env.put s20 v8 (Env.put s17 v7 (Env.put s14 v6 e0))))))))) H31 k0)
 (binK .eql .no (Env.get s9 e0) (.i .i64 33) fun v55 =>
 condK v55 (faK 3 (Env.get s5 e0) fun v61 =>
 ldK false 1 v61 H2 fun v62 =>
 iaK .none 1 v62 (.i .i64 0) fun v63 =>
 ldK false 1 v63 H2 fun v64 =>
 caK rec 194 [(Env.get s0 e0), v64, (.i .i64 2)] H2 fun v65 H32 =>
 caK rec 264 [(.i .i64 2)] H32 fun v66 H33 =>
 stK 4 v66 (Env.get s6 e0) H33 fun H34 =>
 K1 .ret (Env.put s94 v55 (Env.put s85 v49 (Env.put s76 v25 (Env.put s46 v12 (Env.put s29 v11 (Env.put s26 v10 (Env.put s23 v9 (Env.put s20 v8 (Env.put s17 v7 (Env.put s14 v6 e0)))))))))) H34 k0)
 (binK .eql .no (Env.get s9 e0) (.i .i64 32) fun v61 =>
 condK v61 (faK 3 (Env.get s5 e0) fun v67 =>
 ldK false 1 v67 H2 fun v68 =>
 iaK .none 1 v68 (.i .i64 0) fun v69 =>
 ldK false 1 v69 H2 fun v70 =>
 newK 74 [(.i .i64 0), (.s []), (.i .i64 0), (.s [])] H2 fun v71 H35 =>
 caK rec 193 [(Env.get s0 e0), v70] H35 fun v72 H36 =>
 stK 4 v72 v71 H36 fun H37 =>
 seqK (fun K3 =>
 ldK true 4 v71 H37 fun v73 =>
 caK rec 265 [v73] H37 fun v74 H38 =>
 unK .not v74 fun v75 =>
 condK v75 (genK roundT rec (.nilCheck (.s s0)) k0 (Env.put s113 v75 (Env.put s7 v71 (Env.put s103 v61 (Env.put s94 v55 (Env.put s85 v49 (Env.put s76 v25 (Env.put s46 v12 (Env.put s29 v11 (Env.put s26 v10 (Env.put s23 v9 (Env.put s20 v8 (Env.put s17 v7 (Env.put s14 v6 e0))))))))))))) [] H38 fun v76 H39 k9 =>
 faK 0 v76 fun v77 =>
 ldK false 1 v77 H39 fun v78 =>
 faK 3 (Env.get s5 e0) fun v79 =>
 ldK false 1 v79 H39 fun v80 =>
 iaK .none 1 v80 (.i .i64 0) fun v81 =>
 ldK false 1 v81 H39 fun v82 =>
 caK rec 190 [v78, (.i .i64 130), v82] H39 fun v83 H40 =>
 K3 .norm (Env.put s113 v75 (Env.put s7 v71 (Env.put s103 v61 (Env.put s94 v55 (Env.put s85 v49 (Env.put s76 v25 (Env.put s46 v12 (Env.put s29 v11 (Env.put s26 v10 (Env.put s23 v9 (Env.put s20 v8 (Env.put s17 v7 (Env.put s14 v6 e0))))))))))))) H40 k9)
 (K3 .norm (Env.put s113 v75 (Env.put s7 v71 (Env.put s103 v61 (Env.put s94 v55 (Env.put s85 v49 (Env.put s76 v25 (Env.put s46 v12 (Env.put s29 v11 (Env.put s26 v10 (Env.put s23 v9 (Env.put s20 v8 (Env.put s17 v7 (Env.put s14 v6 e0))))))))))))) H38 k0)) (fun k10 e1 H41 =>
 ldK true 4 (Env.get s7 e1) H41 fun v73 =>
 stK 4 v73 (Env.get s6 e1) H41 fun H38 =>
 K1 .ret e1 H38 k10) K1)
 (binK .eql .no (Env.get s9 e0) (.i .i64 34) fun v67 =>
 condK v67 (ldK true 13 (Env.get s5 e0) H2 fun v73 =>
 caK rec 266 [(Env.get s0 e0), v73] H2 fun v74 H38 =>
 stK 4 v74 (Env.get s6 e0) H38 fun H42 =>
 K1 .ret (Env.put s124 v67 (Env.put s103 v61 (Env.put s94 v55 (Env.put s85 v49 (Env.put s76 v25 (Env.put s46 v12 (Env.put s29 v11 (Env.put s26 v10 (Env.put s23 v9 (Env.put s20 v8 (Env.put s17 v7 (Env.put s14 v6 e0)))))))))))) H42 k0)
 (seqK (fun K4 =>
 binK .eql .no (Env.get s9 e0) (.i .i64 26) fun v84 =>
 condK v84 (K4 .norm (Env.put s129 v84 (Env.put s124 v67 (Env.put s103 v61 (Env.put s94 v55 (Env.put s85 v49 (Env.put s76 v25 (Env.put s46 v12 (Env.put s29 v11 (Env.put s26 v10 (Env.put s23 v9 (Env.put s20 v8 (Env.put s17 v7 (Env.put s14 v6 e0))))))))))))) H2 k0)
 (binK .eql .no (Env.get s9 e0) (.i .i64 27) fun v85 =>
 condK v85 (K4 .norm (Env.put s129 v85 (Env.put s129 v84 (Env.put s124 v67 (Env.put s103 v61 (Env.put s94 v55 (Env.put s85 v49 (Env.put s76 v25 (Env.put s46 v12 (Env.put s29 v11 (Env.put s26 v10 (Env.put s23 v9 (Env.put s20 v8 (Env.put s17 v7 (Env.put s14 v6 e0)))))))))))))) H2 k0)
 (binK .eql .no (Env.get s9 e0) (.i .i64 28) fun v86 =>
 condK v86 (K4 .norm (Env.put s129 v86 (Env.put s129 v85 (Env.put s129 v84 (Env.put s124 v67 (Env.put s103 v61 (Env.put s94 v55 (Env.put s85 v49 (Env.put s76 v25 (Env.put s46 v12 (Env.put s29 v11 (Env.put s26 v10 (Env.put s23 v9 (Env.put s20 v8 (Env.put s17 v7 (Env.put s14 v6 e0))))))))))))))) H2 k0)
 (binK .eql .no (Env.get s9 e0) (.i .i64 29) fun v87 =>
 K4 .norm (Env.put s129 v87 (Env.put s129 v86 (Env.put s129 v85 (Env.put s129 v84 (Env.put s124 v67 (Env.put s103 v61 (Env.put s94 v55 (Env.put s85 v49 (Env.put s76 v25 (Env.put s46 v12 (Env.put s29 v11 (Env.put s26 v10 (Env.put s23 v9 (Env.put s20 v8 (Env.put s17 v7 (Env.put s14 v6 e0)))))))))))))))) H2 k0)))) (fun k11 e2 H43 =>
 condK (Env.get s129 e2) (ldK true 13 (Env.get s5 e2) H43 fun v76 =>
 caK rec 267 [(Env.get s0 e2), (Env.get s1 e2), v76] H43 fun v77 H44 =>
 stK 4 v77 (Env.get s6 e2) H44 fun H45 =>
 K1 .ret e2 H45 k11)
 (seqK (fun K5 =>
 binK .eql .no (Env.get s9 e2) (.i .i64 30) fun v88 =>
 condK v88 (K5 .norm (Env.put s138 v88 e2) H43 k11)
 (binK .eql .no (Env.get s9 e2) (.i .i64 31) fun v89 =>
 condK v89 (K5 .norm (Env.put s138 v89 (Env.put s138 v88 e2)) H43 k11)
 (binK .eql .no (Env.get s9 e2) (.i .i64 35) fun v90 =>
 K5 .norm (Env.put s138 v90 (Env.put s138 v89 (Env.put s138 v88 e2))) H43 k11))) (fun k12 e3 H46 =>
 condK (Env.get s138 e3) (ldK true 13 (Env.get s5 e3) H46 fun v85 =>
 caK rec 268 [(Env.get s0 e3), (Env.get s1 e3), v85] H46 fun v91 H47 =>
 stK 4 v91 (Env.get s6 e3) H47 fun H48 =>
 K1 .ret e3 H48 k12)
 (K1 .norm e3 H46 k12)) K1)) K1)))))))))))))) K1) K0) (fun k13 e4 H49 =>
 ldK true 13 (Env.get s5 e4) H49 fun v2 =>
 caK rec 269 [(Env.get s0 e4), (Env.get s1 e4), v2] H49 fun v3 H50 =>
 stK 4 v3 (Env.get s6 e4) H50 fun H51 =>
 (endK recD [.cell true 4 s6]) .ret e4 H51 k13) (endK recD [.cell true 4 s6])
theorem Tryz.cOk241 : (compFn Tryz.prog Tryz.f241).map (bodyK 241) = some Tryz.c241 := by kernel_rfl
def Tryz.c250 : FnK := fun rec recD args H => startK 2 args fun e =>
 ldK false 1 (Env.get s1 e) H fun v0 =>
 lnK .sl H v0 fun v1 =>
 binK .sub .no v1 (.i .i64 1) fun v2 =>
 blockK 0 (fun K0 =>
 loopK (fun k0 e0 H0 K1 =>
 seqK (fun K2 =>
 binK .geq .no (Env.get s3 e0) (.i .i64 0) fun v3 =>
 condK v3 (K2 .norm (Env.put s8 v3 e0) H0 k0)
 (K2 (.exit 0) (Env.put s8 v3 e0) H0 k0)) (fun k1 e1 H1 =>
 seqK (fun K3 =>
 blockK 1 (fun K4 =>
 ldK false 1 (Env.get s1 e1) H1 fun v4 =>
 iaK .none 1 v4 (Env.get s3 e1) fun v5 =>
 ldK false 1 v5 H1 fun v6 =>
 genK roundT rec (.callV (.s s0) [(.s s3), (.l 0)]) k1 e1 [v6, v5, v4] H1 fun v7 H2 k2 =>
 unK .not v7 fun v8 =>
 condK v8 (K4 .ret (Env.put s18 v8 e1) H2 k2)
 (K4 .norm (Env.put s18 v8 e1) H2 k2)) K3) (fun k3 e2 H3 =>
 binK .sub .no (Env.get s3 e2) (.i .i64 1) fun v3 =>
 K1 .norm (Env.put s3 v3 e2) H3 k3) K1) K1) rounds K0 (Ctl.mk [] .none) (Env.put s3 v2 e) H) (endK recD [])
theorem Tryz.cOk250 : (compFn Tryz.prog Tryz.f250).map (bodyK 250) = some Tryz.c250 := by kernel_rfl
def Tryz.c254 : FnK := fun rec recD args H => startK 2 args fun e =>
 caK rec 272 [(Env.get s0 e), (Env.get s1 e)] H fun v0 H0 =>
 binK .geq .no v0 (.i .i64 0) fun v1 =>
 (endK recD [.slot s4]) .ret (Env.put s4 v1 (Env.put s4 (.b false) e)) H0 (Ctl.mk [] .none)
theorem Tryz.cOk254 : (compFn Tryz.prog Tryz.f254).map (bodyK 254) = some Tryz.c254 := by kernel_rfl
def Tryz.c255 : FnK := fun rec recD args H => startK 2 args fun e =>
 newK 76 [(.i .i64 0), (.i .i64 0), (.i .i64 0), .sl0, (.s []), (.i .i64 0), (.s []), (.i .i64 0), (.s []), (.i .i64 0), (.i .i64 0), (.i .i64 0), .sl0] H fun v0 H0 =>
 caK rec 23 [(Env.get s0 e), (Env.get s1 e)] H0 fun v1 H1 =>
 stK 13 v1 v0 H1 fun H2 =>
 seqK (fun K0 =>
 faK 0 v0 fun v2 =>
 ldK false 1 v2 H2 fun v3 =>
 blockK 0 (fun K1 =>
 binK .eql .no v3 (.i .i64 25) fun v4 =>
 condK v4 (caK rec 29 [(Env.get s0 e), (Env.get s1 e)] H2 fun v5 H3 =>
 K1 .ret (Env.put s4 (.i .i64 3) (Env.put s5 v5 (Env.put s12 v4 (Env.put s11 v3 (Env.put s6 v0 (Env.put s4 (.i .i64 0) (Env.put s5 (.i .i64 0) e))))))) H3 (Ctl.mk [] .none))
 (binK .eql .no v3 (.i .i64 41) fun v5 =>
 condK v5 (K1 .ret (Env.put s4 (.i .i64 1) (Env.put s5 (.i .i64 (-1)) (Env.put s17 v5 (Env.put s12 v4 (Env.put s11 v3 (Env.put s6 v0 (Env.put s4 (.i .i64 0) (Env.put s5 (.i .i64 0) e)))))))) H2 (Ctl.mk [] .none))
 (K1 .norm (Env.put s17 v5 (Env.put s12 v4 (Env.put s11 v3 (Env.put s6 v0 (Env.put s4 (.i .i64 0) (Env.put s5 (.i .i64 0) e)))))) H2 (Ctl.mk [] .none)))) K0) (fun k0 e0 H4 =>
 seqK (fun K2 =>
 caK rec 156 [(Env.get s0 e0), (Env.get s1 e0)] H4 fun v6 H5 =>
 caK rec 31 [v6] H5 fun v7 H6 =>
 binK .eql .no v7 (.i .u8 32) fun v8 =>
 condK v8 (K2 .ret (Env.put s4 (.i .i64 1) (Env.put s5 (.i .i64 (-1)) (Env.put s23 v8 e0))) H6 k0)
 (K2 .norm (Env.put s23 v8 e0) H6 k0)) (fun k1 e1 H7 =>
 (endK recD [.slot s4, .slot s5]) .ret (Env.put s4 (.i .i64 2) (Env.put s5 (.i .i64 (-1)) e1)) H7 k1) (endK recD [.slot s4, .slot s5])) (endK recD [.slot s4, .slot s5])
theorem Tryz.cOk255 : (compFn Tryz.prog Tryz.f255).map (bodyK 255) = some Tryz.c255 := by kernel_rfl
def Tryz.c259 : FnK := fun rec recD args H => startK 1 args fun e =>
 newK 234 [(.i .i64 0), (.i .i64 0), (.i .i64 0)] H fun v0 H0 =>
 caK rec 111 [(Env.get s0 e)] H0 fun v1 H1 =>
 exK 0 v1 fun v2 =>
 exK 1 v1 fun v3 =>
 stK 3 v2 v0 H1 fun H2 =>
 seqK (fun K0 =>
 faK 0 v0 fun v4 =>
 ldK false 1 v4 H2 fun v5 =>
 binK .eql .no v5 (.i .i64 5) fun v6 =>
 gdK v6 true (fun R0 => R0 v3 H2 (Ctl.mk [] .none)) H2 (Ctl.mk [] .none) fun v7 H3 k0 =>
 gdK v6 true (fun R1 => binK .eql .no v7 (.s [123]) fun v8 =>
 R1 v8 H3 k0) H3 k0 fun v8 H4 k1 =>
 pkK v6 v8 (.b false) fun v9 =>
 condK v9 (caK rec 234 [(Env.get s0 e)] H4 fun v10 H5 =>
 K0 .ret (Env.put s2 v10 (Env.put s19 v9 (Env.put s3 v0 (Env.put s4 v3 (Env.put s2 (.i .i64 0) e))))) H5 k1)
 (K0 .norm (Env.put s19 v9 (Env.put s3 v0 (Env.put s4 v3 (Env.put s2 (.i .i64 0) e)))) H4 k1)) (fun k2 e0 H6 =>
 seqK (fun K1 =>
 caK rec 273 [(Env.get s0 e0)] H6 fun v11 H7 =>
 condK v11 (newK 76 [(.i .i64 0), (.i .i64 0), (.i .i64 0), .sl0, (.s []), (.i .i64 0), (.s []), (.i .i64 0), (.s []), (.i .i64 0), (.i .i64 0), (.i .i64 0), .sl0] H7 fun v12 H8 =>
 caK rec 235 [(Env.get s0 e0), (.b false)] H8 fun v13 H9 =>
 stK 13 v13 v12 H9 fun H10 =>
 faK 0 v12 fun v14 =>
 caK rec 176 [(Env.get s0 e0)] H10 fun v15 H11 =>
 stK 1 (.i .i64 9) v14 H11 fun H12 =>
 faK 4 v12 fun v16 =>
 stK 1 v15 v16 H12 fun H13 =>
 seqK (fun K2 =>
 caK rec 177 [(Env.get s0 e0), (.s [61])] H13 fun v17 H14 =>
 condK v17 (caK rec 274 [(Env.get s0 e0)] H14 fun v18 H15 =>
 genK roundT rec (.buildSlice 3 1 1 [(.i .i64 0)] [(0, (.l 0))]) k2 (Env.put s31 v17 (Env.put s5 v12 (Env.put s23 v11 e0))) [v18] H15 fun v19 H16 k3 =>
 faK 3 v12 fun v20 =>
 stK 1 v19 v20 H16 fun H17 =>
 K2 .norm (Env.put s31 v17 (Env.put s5 v12 (Env.put s23 v11 e0))) H17 k3)
 (K2 .norm (Env.put s31 v17 (Env.put s5 v12 (Env.put s23 v11 e0))) H14 k2)) (fun k4 e1 H18 =>
 caK rec 175 [(Env.get s0 e1), (.s [59])] H18 fun v17 H14 =>
 ldK true 13 (Env.get s5 e1) H14 fun v18 =>
 faK 1 (Env.get s3 e1) fun v19 =>
 faK 0 v19 fun v20 =>
 ldK false 1 v20 H14 fun v21 =>
 caK rec 114 [(Env.get s0 e1), v18, v21] H14 fun v22 H19 =>
 K1 .ret (Env.put s2 v22 e1) H19 k4) K1)
 (K1 .norm (Env.put s23 v11 e0) H7 k2)) (fun k5 e2 H20 =>
 seqK (fun K3 =>
 faK 0 (Env.get s3 e2) fun v23 =>
 ldK false 1 v23 H20 fun v24 =>
 binK .eql .no v24 (.i .i64 1) fun v25 =>
 condK v25 (newK 76 [(.i .i64 0), (.i .i64 0), (.i .i64 0), .sl0, (.s []), (.i .i64 0), (.s []), (.i .i64 0), (.s []), (.i .i64 0), (.i .i64 0), (.i .i64 0), .sl0] H20 fun v26 H21 =>
 caK rec 275 [(Env.get s0 e2), (Env.get s4 e2)] H21 fun v27 H22 =>
 exK 0 v27 fun v28 =>
 exK 1 v27 fun v29 =>
 stK 13 v28 v26 H22 fun H23 =>
 condK v29 (ldK true 13 v26 H23 fun v30 =>
 faK 1 (Env.get s3 e2) fun v31 =>
 faK 0 v31 fun v32 =>
 ldK false 1 v32 H23 fun v33 =>
 caK rec 114 [(Env.get s0 e2), v30, v33] H23 fun v34 H24 =>
 K3 .ret (Env.put s2 v34 (Env.put s53 v29 (Env.put s6 v26 (Env.put s7 v29 (Env.put s46 v25 e2))))) H24 k5)
 (K3 .norm (Env.put s53 v29 (Env.put s6 v26 (Env.put s7 v29 (Env.put s46 v25 e2)))) H23 k5))
 (K3 .norm (Env.put s46 v25 e2) H20 k5)) (fun k6 e3 H25 =>
 faK 1 (Env.get s3 e3) fun v23 =>
 faK 0 v23 fun v24 =>
 ldK false 1 v24 H25 fun v25 =>
 caK rec 276 [(Env.get s0 e3), v25] H25 fun v35 H26 =>
 (endK recD [.slot s2]) .ret (Env.put s2 v35 e3) H26 k6) (endK recD [.slot s2])) (endK recD [.slot s2])) (endK recD [.slot s2])
theorem Tryz.cOk259 : (compFn Tryz.prog Tryz.f259).map (bodyK 259) = some Tryz.c259 := by kernel_rfl
def Tryz.c264 : FnK := fun rec recD args H => startK 1 args fun e =>
 newK 74 [(.i .i64 0), (.s []), (.i .i64 0), (.s [])] H fun v0 H0 =>
 bdK [(.i .i64 0), (.s []), (.i .i64 0), (.s [])] [(0, 1, (Env.get s0 e)), (3, 1, (.s [32]))] fun v1 =>
 stK 4 v1 v0 H0 fun H1 =>
 (endK recD [.cell true 4 s2]) .ret (Env.put s2 v0 e) H1 (Ctl.mk [] .none)
theorem Tryz.cOk264 : (compFn Tryz.prog Tryz.f264).map (bodyK 264) = some Tryz.c264 := by kernel_rfl
def Tryz.c273 : FnK := fun rec recD args H => startK 1 args fun e =>
 caK rec 284 [(Env.get s0 e), (.i .i64 0)] H fun v0 H0 =>
 exK 0 v0 fun v1 =>
 exK 1 v0 fun v2 =>
 seqK (fun K0 =>
 binK .neq .no v1 (.i .i64 1) fun v3 =>
 condK v3 (K0 .ret (Env.put s2 (.b false) (Env.put s13 v3 (Env.put s3 v1 (Env.put s4 v2 (Env.put s2 (.b false) e))))) H0 (Ctl.mk [] .none))
 (K0 .norm (Env.put s13 v3 (Env.put s3 v1 (Env.put s4 v2 (Env.put s2 (.b false) e)))) H0 (Ctl.mk [] .none))) (fun k0 e0 H1 =>
 seqK (fun K1 =>
 caK rec 232 [(Env.get s4 e0)] H1 fun v4 H2 =>
 unK .not v4 fun v5 =>
 condK v5 (binK .add .no (.s [32]) (Env.get s4 e0) fun v6 =>
 binK .add .no v6 (.s [32]) fun v7 =>
 caK rec 9 [(.s [32, 105, 110, 116, 32, 98, 111, 111, 108, 32, 100, 111, 117, 98, 108, 101, 32, 115, 116, 114, 32, 79, 112, 116, 105, 111, 110, 32]), v7] H2 fun v8 H3 =>
 K1 .ret (Env.put s2 v8 (Env.put s16 v5 e0)) H3 k0)
 (K1 .norm (Env.put s16 v5 e0) H2 k0)) (fun k1 e1 H4 =>
 caK rec 284 [(Env.get s0 e1), (.i .i64 1)] H4 fun v4 H2 =>
 exK 0 v4 fun v5 =>
 exK 1 v4 fun v9 =>
 caK rec 284 [(Env.get s0 e1), (.i .i64 2)] H2 fun v10 H5 =>
 exK 0 v10 fun v11 =>
 exK 1 v10 fun v12 =>
 binK .eql .no v5 (.i .i64 1) fun v13 =>
 gdK v13 true (fun R0 => R0 v9 H5 k1) H5 k1 fun v14 H6 k2 =>
 gdK v13 true (fun R1 => caK rec 232 [v14] H6 fun v15 H7 =>
 R1 v15 H7 k2) H6 k2 fun v15 H7 k3 =>
 pkK v13 v15 (.b false) fun v16 =>
 gdK v16 false (fun R2 => R2 v5 H7 k3) H7 k3 fun v17 H8 k4 =>
 gdK v16 false (fun R3 => binK .eql .no v17 (.i .i64 5) fun v18 =>
 R3 v18 H8 k4) H8 k4 fun v18 H9 k5 =>
 gdK v16 false (fun R4 => R4 v18 H9 k5) H9 k5 fun v19 H10 k6 =>
 gdK v19 true (fun R5 => R5 v9 H10 k6) H10 k6 fun v20 H11 k7 =>
 gdK v19 true (fun R6 => binK .eql .no v20 (.s [63]) fun v21 =>
 R6 v21 H11 k7) H11 k7 fun v21 H12 k8 =>
 gdK v19 true (fun R7 => R7 v21 H12 k8) H12 k8 fun v22 H13 k9 =>
 gdK v22 false (fun R8 => R8 v9 H13 k9) H13 k9 fun v23 H14 k10 =>
 gdK v22 false (fun R9 => binK .eql .no v23 (.s [91]) fun v24 =>
 R9 v24 H14 k10) H14 k10 fun v24 H15 k11 =>
 gdK v22 false (fun R10 => R10 v24 H15 k11) H15 k11 fun v25 H16 k12 =>
 gdK v25 true (fun R11 => R11 v12 H16 k12) H16 k12 fun v26 H17 k13 =>
 gdK v25 true (fun R12 => binK .eql .no v26 (.s [93]) fun v27 =>
 R12 v27 H17 k13) H17 k13 fun v27 H18 k14 =>
 gdK v22 false (fun R13 => pkK v25 v27 (.b false) fun v28 =>
 R13 v28 H18 k14) H18 k14 fun v28 H19 k15 =>
 gdK v19 true (fun R14 => pkK v22 (.b true) v28 fun v29 =>
 R14 v29 H19 k15) H19 k15 fun v29 H20 k16 =>
 gdK v16 false (fun R15 => pkK v19 v29 (.b false) fun v30 =>
 R15 v30 H20 k16) H20 k16 fun v30 H21 k17 =>
 pkK v16 (.b true) v30 fun v31 =>
 (endK recD [.slot s2]) .ret (Env.put s2 v31 (Env.put s6 v12 (Env.put s3 v5 (Env.put s4 v9 e1)))) H21 k17) (endK recD [.slot s2])) (endK recD [.slot s2])
theorem Tryz.cOk273 : (compFn Tryz.prog Tryz.f273).map (bodyK 273) = some Tryz.c273 := by kernel_rfl
def Tryz.c274 : FnK := fun rec recD args H => startK 1 args fun e =>
 caK rec 258 [(Env.get s0 e)] H fun v0 H0 =>
 caK rec 285 [(Env.get s0 e), (.i .i64 0)] H0 fun v1 H1 =>
 genK roundT rec (.nilCheck (.s s0)) (Ctl.mk [] .none) (Env.put s3 v1 (Env.put s2 (.i .i64 0) e)) [] H1 fun v2 H2 k0 =>
 faK 3 v2 fun v3 =>
 ldK false 1 v3 H2 fun v4 =>
 binK .sub .no v4 (.i .i64 1) fun v5 =>
 genK roundT rec (.nilCheck (.s s0)) k0 (Env.put s3 v1 (Env.put s2 (.i .i64 0) e)) [v5, v4, v3, v2] H2 fun v6 H3 k1 =>
 faK 3 v6 fun v7 =>
 stK 1 v5 v7 H3 fun H4 =>
 (endK recD [.slot s2]) .ret (Env.put s2 v1 (Env.put s3 v1 (Env.put s2 (.i .i64 0) e))) H4 k1
theorem Tryz.cOk274 : (compFn Tryz.prog Tryz.f274).map (bodyK 274) = some Tryz.c274 := by kernel_rfl
def Tryz.c275 : FnK := fun rec recD args H => startK 2 args fun e =>
 newK 76 [(.i .i64 0), (.i .i64 0), (.i .i64 0), .sl0, (.s []), (.i .i64 0), (.s []), (.i .i64 0), (.s []), (.i .i64 0), (.i .i64 0), (.i .i64 0), .sl0] H fun v0 H0 =>
 bdK [(.i .i64 0), (.i .i64 0), (.i .i64 0), .sl0, (.s []), (.i .i64 0), (.s []), (.i .i64 0), (.s []), (.i .i64 0), (.i .i64 0), (.i .i64 0), .sl0] [] fun v1 =>
 newK 76 [(.i .i64 0), (.i .i64 0), (.i .i64 0), .sl0, (.s []), (.i .i64 0), (.s []), (.i .i64 0), (.s []), (.i .i64 0), (.i .i64 0), (.i .i64 0), .sl0] H0 fun v2 H1 =>
 stK 13 v1 v2 H1 fun H2 =>
 seqK (fun K0 =>
 blockK 0 (fun K1 =>
 binK .eql .no (Env.get s1 e) (.s [105, 102]) fun v3 =>
 condK v3 (caK rec 231 [(Env.get s0 e)] H2 fun v4 H3 =>
 caK rec 286 [(Env.get s0 e)] H3 fun v5 H4 =>
 caK rec 234 [(Env.get s0 e)] H4 fun v6 H5 =>
 genK roundT rec (.buildSlice 3 2 1 [(.i .i64 0)] [(0, (.l 1)), (1, (.l 0))]) (Ctl.mk [] .none) (Env.put s10 v3 (Env.put s8 (Env.get s1 e) (Env.put s6 v2 (Env.put s4 v0 (Env.put s5 (.b false) e))))) [v6, v5] H5 fun v7 H6 k0 =>
 bdK [(.i .i64 0), (.i .i64 0), (.i .i64 0), .sl0, (.s []), (.i .i64 0), (.s []), (.i .i64 0), (.s []), (.i .i64 0), (.i .i64 0), (.i .i64 0), .sl0] [(0, 1, (.i .i64 11)), (3, 1, v7)] fun v8 =>
 stK 13 v8 v2 H6 fun H7 =>
 seqK (fun K2 =>
 caK rec 177 [(Env.get s0 e), (.s [101, 108, 115, 101])] H7 fun v9 H8 =>
 condK v9 (faK 3 v2 fun v10 =>
 ldK false 1 v10 H8 fun v11 =>
 caK rec 234 [(Env.get s0 e)] H8 fun v12 H9 =>
 boolK (and (again ⟨.load false 1 (.l 0), .none, []⟩ v11 (Env.put s21 v9 (Env.put s10 v3 (Env.put s8 (Env.get s1 e) (Env.put s6 v2 (Env.put s4 v0 (Env.put s5 (.b false) e)))))) [v10] H9) true) (genK roundT rec (.buildSlice 3 1 1 [(.i .i64 0)] [(0, (.l 0))]) k0 (Env.put s21 v9 (Env.put s10 v3 (Env.put s8 (Env.get s1 e) (Env.put s6 v2 (Env.put s4 v0 (Env.put s5 (.b false) e)))))) [v12, v11, v10] H9 fun v13 H10 k1 =>
 apK 3 1 [(.i .i64 0)] H10 v11 v13 fun v14 H11 =>
 faK 3 v2 fun v15 =>
 stK 1 v14 v15 H11 fun H12 =>
 K2 .norm (Env.put s21 v9 (Env.put s10 v3 (Env.put s8 (Env.get s1 e) (Env.put s6 v2 (Env.put s4 v0 (Env.put s5 (.b false) e)))))) H12 k1))
 (K2 .norm (Env.put s21 v9 (Env.put s10 v3 (Env.put s8 (Env.get s1 e) (Env.put s6 v2 (Env.put s4 v0 (Env.put s5 (.b false) e)))))) H8 k0)) (fun k2 e0 H13 =>
 ldK true 13 (Env.get s6 e0) H13 fun v9 =>
 stK 13 v9 (Env.get s4 e0) H13 fun H14 =>
 K1 .ret (Env.put s5 (.b true) e0) H14 k2) K1)
 (binK .eql .no (Env.get s1 e) (.s [119, 104, 105, 108, 101]) fun v4 =>
 condK v4 (caK rec 231 [(Env.get s0 e)] H2 fun v16 H15 =>
 caK rec 286 [(Env.get s0 e)] H15 fun v9 H8 =>
 caK rec 234 [(Env.get s0 e)] H8 fun v17 H14 =>
 genK roundT rec (.buildSlice 3 2 1 [(.i .i64 0)] [(0, (.l 1)), (1, (.l 0))]) (Ctl.mk [] .none) (Env.put s30 v4 (Env.put s10 v3 (Env.put s8 (Env.get s1 e) (Env.put s6 v2 (Env.put s4 v0 (Env.put s5 (.b false) e)))))) [v17, v9] H14 fun v18 H16 k3 =>
 bdK [(.i .i64 0), (.i .i64 0), (.i .i64 0), .sl0, (.s []), (.i .i64 0), (.s []), (.i .i64 0), (.s []), (.i .i64 0), (.i .i64 0), (.i .i64 0), .sl0] [(0, 1, (.i .i64 12)), (3, 1, v18)] fun v19 =>
 stK 13 v19 v0 H16 fun H17 =>
 K1 .ret (Env.put s5 (.b true) (Env.put s30 v4 (Env.put s10 v3 (Env.put s8 (Env.get s1 e) (Env.put s6 v2 (Env.put s4 v0 (Env.put s5 (.b false) e))))))) H17 k3)
 (binK .eql .no (Env.get s1 e) (.s [98, 114, 101, 97, 107]) fun v16 =>
 condK v16 (faK 0 v2 fun v20 =>
 stK 1 (.i .i64 13) v20 H2 fun H18 =>
 caK rec 231 [(Env.get s0 e)] H18 fun v10 H19 =>
 K1 .norm (Env.put s40 v16 (Env.put s30 v4 (Env.put s10 v3 (Env.put s8 (Env.get s1 e) (Env.put s6 v2 (Env.put s4 v0 (Env.put s5 (.b false) e))))))) H19 (Ctl.mk [] .none))
 (binK .eql .no (Env.get s1 e) (.s [99, 111, 110, 116, 105, 110, 117, 101]) fun v20 =>
 condK v20 (faK 0 v2 fun v21 =>
 stK 1 (.i .i64 14) v21 H2 fun H20 =>
 caK rec 231 [(Env.get s0 e)] H20 fun v22 H21 =>
 K1 .norm (Env.put s45 v20 (Env.put s40 v16 (Env.put s30 v4 (Env.put s10 v3 (Env.put s8 (Env.get s1 e) (Env.put s6 v2 (Env.put s4 v0 (Env.put s5 (.b false) e)))))))) H21 (Ctl.mk [] .none))
 (binK .eql .no (Env.get s1 e) (.s [114, 101, 116, 117, 114, 110]) fun v21 =>
 condK v21 (faK 0 v2 fun v23 =>
 stK 1 (.i .i64 15) v23 H2 fun H22 =>
 caK rec 231 [(Env.get s0 e)] H22 fun v24 H23 =>
 caK rec 178 [(Env.get s0 e), (.s [59])] H23 fun v25 H24 =>
 unK .not v25 fun v26 =>
 condK v26 (caK rec 274 [(Env.get s0 e)] H24 fun v27 H25 =>
 genK roundT rec (.buildSlice 3 1 1 [(.i .i64 0)] [(0, (.l 0))]) (Ctl.mk [] .none) (Env.put s57 v26 (Env.put s50 v21 (Env.put s45 v20 (Env.put s40 v16 (Env.put s30 v4 (Env.put s10 v3 (Env.put s8 (Env.get s1 e) (Env.put s6 v2 (Env.put s4 v0 (Env.put s5 (.b false) e)))))))))) [v27] H25 fun v28 H26 k4 =>
 faK 3 v2 fun v29 =>
 stK 1 v28 v29 H26 fun H27 =>
 K1 .norm (Env.put s57 v26 (Env.put s50 v21 (Env.put s45 v20 (Env.put s40 v16 (Env.put s30 v4 (Env.put s10 v3 (Env.put s8 (Env.get s1 e) (Env.put s6 v2 (Env.put s4 v0 (Env.put s5 (.b false) e)))))))))) H27 k4)
 (K1 .norm (Env.put s57 v26 (Env.put s50 v21 (Env.put s45 v20 (Env.put s40 v16 (Env.put s30 v4 (Env.put s10 v3 (Env.put s8 (Env.get s1 e) (Env.put s6 v2 (Env.put s4 v0 (Env.put s5 (.b false) e)))))))))) H24 (Ctl.mk [] .none)))
 (binK .eql .no (Env.get s1 e) (.s [112, 114, 105, 110, 116]) fun v23 =>
 condK v23 (caK rec 231 [(Env.get s0 e)] H2 fun v30 H28 =>
 caK rec 286 [(Env.get s0 e)] H28 fun v25 H24 =>
 genK roundT rec (.buildSlice 3 1 1 [(.i .i64 0)] [(0, (.l 0))]) (Ctl.mk [] .none) (Env.put s62 v23 (Env.put s50 v21 (Env.put s45 v20 (Env.put s40 v16 (Env.put s30 v4 (Env.put s10 v3 (Env.put s8 (Env.get s1 e) (Env.put s6 v2 (Env.put s4 v0 (Env.put s5 (.b false) e)))))))))) [v25] H24 fun v26 H29 k5 =>
 bdK [(.i .i64 0), (.i .i64 0), (.i .i64 0), .sl0, (.s []), (.i .i64 0), (.s []), (.i .i64 0), (.s []), (.i .i64 0), (.i .i64 0), (.i .i64 0), .sl0] [(0, 1, (.i .i64 16)), (3, 1, v26)] fun v31 =>
 stK 13 v31 v2 H29 fun H30 =>
 K1 .norm (Env.put s62 v23 (Env.put s50 v21 (Env.put s45 v20 (Env.put s40 v16 (Env.put s30 v4 (Env.put s10 v3 (Env.put s8 (Env.get s1 e) (Env.put s6 v2 (Env.put s4 v0 (Env.put s5 (.b false) e)))))))))) H30 k5)
 (binK .eql .no (Env.get s1 e) (.s [115, 117, 112, 101, 114]) fun v30 =>
 condK v30 (caK rec 231 [(Env.get s0 e)] H2 fun v27 H25 =>
 caK rec 287 [(Env.get s0 e)] H25 fun v32 H31 =>
 bdK [(.i .i64 0), (.i .i64 0), (.i .i64 0), .sl0, (.s []), (.i .i64 0), (.s []), (.i .i64 0), (.s []), (.i .i64 0), (.i .i64 0), (.i .i64 0), .sl0] [(0, 1, (.i .i64 17)), (3, 1, v32)] fun v33 =>
 stK 13 v33 v2 H31 fun H32 =>
 K1 .norm (Env.put s70 v30 (Env.put s62 v23 (Env.put s50 v21 (Env.put s45 v20 (Env.put s40 v16 (Env.put s30 v4 (Env.put s10 v3 (Env.put s8 (Env.get s1 e) (Env.put s6 v2 (Env.put s4 v0 (Env.put s5 (.b false) e))))))))))) H32 (Ctl.mk [] .none))
 (ldK true 13 v2 H2 fun v27 =>
 stK 13 v27 v0 H2 fun H26 =>
 K1 .ret (Env.put s5 (.b false) (Env.put s70 v30 (Env.put s62 v23 (Env.put s50 v21 (Env.put s45 v20 (Env.put s40 v16 (Env.put s30 v4 (Env.put s10 v3 (Env.put s8 (Env.get s1 e) (Env.put s6 v2 (Env.put s4 v0 (Env.put s5 (.b false) e)))))))))))) H26 (Ctl.mk [] .none))))))))) K0) (fun k6 e1 H33 =>
 caK rec 175 [(Env.get s0 e1), (.s [59])] H33 fun v34 H34 =>
 ldK true 13 (Env.get s6 e1) H34 fun v35 =>
 stK 13 v35 (Env.get s4 e1) H34 fun H35 =>
 (endK recD [.cell true 13 s4, .slot s5]) .ret (Env.put s5 (.b true) e1) H35 k6) (endK recD [.cell true 13 s4, .slot s5])
theorem Tryz.cOk275 : (compFn Tryz.prog Tryz.f275).map (bodyK 275) = some Tryz.c275 := by kernel_rfl
def Tryz.c277 : FnK := fun rec recD args H => startK 1 args fun e =>
 newK 76 [(.i .i64 0), (.i .i64 0), (.i .i64 0), .sl0, (.s []), (.i .i64 0), (.s []), (.i .i64 0), (.s []), (.i .i64 0), (.i .i64 0), (.i .i64 0), .sl0] H fun v0 H0 =>
 newK 234 [(.i .i64 0), (.i .i64 0), (.i .i64 0)] H0 fun v1 H1 =>
 caK rec 111 [(Env.get s0 e)] H1 fun v2 H2 =>
 exK 0 v2 fun v3 =>
 exK 1 v2 fun v4 =>
 stK 3 v3 v1 H2 fun H3 =>
 bdK [(.i .i64 0), (.s []), (.i .i64 0), (.s [])] [(3, 1, (.s [32]))] fun v5 =>
 faK 1 v1 fun v6 =>
 ldK true 2 v6 H3 fun v7 =>
 bdK [(.i .i64 0), (.i .i64 0), (.i .i64 0), .sl0, (.s []), (.i .i64 0), (.s []), (.i .i64 0), (.s []), (.i .i64 0), (.i .i64 0), (.i .i64 0), .sl0] [(5, 4, v5), (10, 2, v7)] fun v8 =>
 newK 76 [(.i .i64 0), (.i .i64 0), (.i .i64 0), .sl0, (.s []), (.i .i64 0), (.s []), (.i .i64 0), (.s []), (.i .i64 0), (.i .i64 0), (.i .i64 0), .sl0] H3 fun v9 H4 =>
 stK 13 v8 v9 H4 fun H5 =>
 seqK (fun K0 =>
 blockK 0 (fun K1 =>
 faK 0 v1 fun v10 =>
 ldK false 1 v10 H5 fun v11 =>
 binK .neq .no v11 (.i .i64 1) fun v12 =>
 condK v12 (faK 1 v1 fun v13 =>
 faK 0 v13 fun v14 =>
 ldK false 1 v14 H5 fun v15 =>
 caK rec 174 [(.i .i64 80), v15] H5 fun v16 H6 =>
 K1 .norm (Env.put s27 v12 (Env.put s5 v9 (Env.put s3 v1 (Env.put s4 v4 (Env.put s2 v0 e))))) H6 (Ctl.mk [] .none))
 (binK .eql .no v4 (.s [105, 110, 116]) fun v17 =>
 condK v17 (faK 5 v9 fun v18 =>
 faK 0 v18 fun v19 =>
 stK 1 (.i .i64 1) v19 H5 fun H7 =>
 K1 .norm (Env.put s35 v17 (Env.put s27 v12 (Env.put s5 v9 (Env.put s3 v1 (Env.put s4 v4 (Env.put s2 v0 e)))))) H7 (Ctl.mk [] .none))
 (binK .eql .no v4 (.s [98, 111, 111, 108]) fun v20 =>
 condK v20 (faK 5 v9 fun v21 =>
 faK 0 v21 fun v22 =>
 stK 1 (.i .i64 2) v22 H5 fun H8 =>
 K1 .norm (Env.put s40 v20 (Env.put s35 v17 (Env.put s27 v12 (Env.put s5 v9 (Env.put s3 v1 (Env.put s4 v4 (Env.put s2 v0 e))))))) H8 (Ctl.mk [] .none))
 (binK .eql .no v4 (.s [100, 111, 117, 98, 108, 101]) fun v23 =>
 condK v23 (faK 5 v9 fun v24 =>
 faK 0 v24 fun v25 =>
 stK 1 (.i .i64 3) v25 H5 fun H9 =>
 K1 .norm (Env.put s45 v23 (Env.put s40 v20 (Env.put s35 v17 (Env.put s27 v12 (Env.put s5 v9 (Env.put s3 v1 (Env.put s4 v4 (Env.put s2 v0 e)))))))) H9 (Ctl.mk [] .none))
 (binK .eql .no v4 (.s [115, 116, 114]) fun v26 =>
 condK v26 (faK 5 v9 fun v27 =>
 faK 0 v27 fun v28 =>
 stK 1 (.i .i64 4) v28 H5 fun H10 =>
 K1 .norm (Env.put s50 v26 (Env.put s45 v23 (Env.put s40 v20 (Env.put s35 v17 (Env.put s27 v12 (Env.put s5 v9 (Env.put s3 v1 (Env.put s4 v4 (Env.put s2 v0 e))))))))) H10 (Ctl.mk [] .none))
 (seqK (fun K2 =>
 caK rec 232 [v4] H5 fun v29 H11 =>
 unK .not v29 fun v30 =>
 condK v30 (faK 1 v1 fun v31 =>
 faK 0 v31 fun v32 =>
 ldK false 1 v32 H11 fun v33 =>
 caK rec 174 [(.i .i64 80), v33] H11 fun v34 H12 =>
 K2 .norm (Env.put s17 v30 (Env.put s50 v26 (Env.put s45 v23 (Env.put s40 v20 (Env.put s35 v17 (Env.put s27 v12 (Env.put s5 v9 (Env.put s3 v1 (Env.put s4 v4 (Env.put s2 v0 e)))))))))) H12 (Ctl.mk [] .none))
 (K2 .norm (Env.put s17 v30 (Env.put s50 v26 (Env.put s45 v23 (Env.put s40 v20 (Env.put s35 v17 (Env.put s27 v12 (Env.put s5 v9 (Env.put s3 v1 (Env.put s4 v4 (Env.put s2 v0 e)))))))))) H11 (Ctl.mk [] .none))) (fun k0 e0 H13 =>
 faK 5 (Env.get s5 e0) fun v35 =>
 faK 0 v35 fun v36 =>
 stK 1 (.i .i64 5) v36 H13 fun H14 =>
 faK 5 (Env.get s5 e0) fun v37 =>
 faK 1 v37 fun v38 =>
 stK 1 (Env.get s4 e0) v38 H14 fun H15 =>
 K1 .norm e0 H15 k0) K1)))))) K0) (fun k1 e1 H16 =>
 caK rec 231 [(Env.get s0 e1)] H16 fun v39 H17 =>
 genK roundT rec (.buildSlice 3 1 1 [(.i .i64 0)] [(0, (.l 0))]) k1 e1 [v39] H17 fun v40 H18 k2 =>
 faK 12 (Env.get s5 e1) fun v41 =>
 stK 1 v40 v41 H18 fun H19 =>
 ldK true 13 (Env.get s5 e1) H19 fun v42 =>
 stK 13 v42 (Env.get s2 e1) H19 fun H20 =>
 (endK recD [.cell true 13 s2]) .ret e1 H20 k2) (endK recD [.cell true 13 s2])
theorem Tryz.cOk277 : (compFn Tryz.prog Tryz.f277).map (bodyK 277) = some Tryz.c277 := by kernel_rfl
def Tryz.c284 : FnK := fun rec recD args H => startK 2 args fun e =>
 seqK (fun K0 =>
 genK roundT rec (.nilCheck (.s s0)) (Ctl.mk [] .none) (Env.put s4 (.i .i64 0) (Env.put s5 (.s []) e)) [] H fun v0 H0 k0 =>
 faK 2 v0 fun v1 =>
 ldK false 1 v1 H0 fun v2 =>
 binK .add .no v2 (Env.get s1 e) fun v3 =>
 genK roundT rec (.nilCheck (.s s0)) k0 (Env.put s4 (.i .i64 0) (Env.put s5 (.s []) e)) [v3, v2, v1, v0] H0 fun v4 H1 k1 =>
 faK 1 v4 fun v5 =>
 ldK false 1 v5 H1 fun v6 =>
 lnK .sl H1 v6 fun v7 =>
 binK .geq .no v3 v7 fun v8 =>
 condK v8 (K0 .ret (Env.put s4 (.i .i64 0) (Env.put s5 (.s []) (Env.put s18 v8 (Env.put s4 (.i .i64 0) (Env.put s5 (.s []) e))))) H1 k1)
 (K0 .norm (Env.put s18 v8 (Env.put s4 (.i .i64 0) (Env.put s5 (.s []) e))) H1 k1)) (fun k2 e0 H2 =>
 genK roundT rec (.nilCheck (.s s0)) k2 e0 [] H2 fun v0 H0 k0 =>
 faK 1 v0 fun v1 =>
 ldK false 1 v1 H0 fun v2 =>
 genK roundT rec (.nilCheck (.s s0)) k0 e0 [v2, v1, v0] H0 fun v3 H3 k3 =>
 faK 2 v3 fun v4 =>
 ldK false 1 v4 H3 fun v5 =>
 binK .add .no v5 (Env.get s1 e0) fun v6 =>
 iaK .none 3 v2 v6 fun v7 =>
 ldK true 3 v7 H3 fun v8 =>
 newK 234 [(.i .i64 0), (.i .i64 0), (.i .i64 0)] H3 fun v9 H4 =>
 stK 3 v8 v9 H4 fun H5 =>
 faK 0 v9 fun v10 =>
 ldK false 1 v10 H5 fun v11 =>
 genK roundT rec (.nilCheck (.s s0)) k3 (Env.put s6 v9 e0) [v11, v10] H5 fun v12 H6 k4 =>
 faK 0 v12 fun v13 =>
 ldK false 1 v13 H6 fun v14 =>
 faK 1 v9 fun v15 =>
 faK 0 v15 fun v16 =>
 ldK false 1 v16 H6 fun v17 =>
 faK 1 v9 fun v18 =>
 faK 1 v18 fun v19 =>
 ldK false 1 v19 H6 fun v20 =>
 slK .none v14 (.some v17) (.some v20) .none fun v21 =>
 (endK recD [.slot s4, .slot s5]) .ret (Env.put s4 v11 (Env.put s5 v21 (Env.put s6 v9 e0))) H6 k4) (endK recD [.slot s4, .slot s5])
theorem Tryz.cOk284 : (compFn Tryz.prog Tryz.f284).map (bodyK 284) = some Tryz.c284 := by kernel_rfl
def Tryz.c286 : FnK := fun rec recD args H => startK 1 args fun e =>
 caK rec 175 [(Env.get s0 e), (.s [40])] H fun v0 H0 =>
 caK rec 274 [(Env.get s0 e)] H0 fun v1 H1 =>
 caK rec 175 [(Env.get s0 e), (.s [41])] H1 fun v2 H2 =>
 (endK recD [.slot s2]) .ret (Env.put s2 v1 (Env.put s3 v1 (Env.put s2 (.i .i64 0) e))) H2 (Ctl.mk [] .none)
theorem Tryz.cOk286 : (compFn Tryz.prog Tryz.f286).map (bodyK 286) = some Tryz.c286 := by kernel_rfl
end
end Go.Proofs
